import PyProof.Rows.All
import Wide.All
import OpenK.AllK
import Wide.FinOn
import HandS.ForMost
import HandS.ForExc
import HandS.Wide
import HandS.Flow
import HandS.IsInst
import HandS.ExcInit
import HandS.ExcSuper
import KE.KExcSuper
import HandS.ExcIs
import HandS.HotCalls
import HandS.Defaults
import HandS.Head0
import HandS.Head1
import HandS.Head2
import HandS.HeadEnd
import HandS.HeadHook1
import HandS.HeadHook2
import PySem.Challenge.RW_mendsontime_k80_deals_and_shares
set_option Elab.async false
set_option linter.all false
set_option maxRecDepth 100000
/-! MINI PYTHON, part A: values, heap, syntax, interpreter. -/
namespace Py
open PySem

/-- a value; a ref is a place of the mini heap -/
inductive U where
  | non | bl (b : Bool) | int (i : Int) | str (s : Str) | ref (a : Nat)
  deriving DecidableEq
/-- an object: a list, a tuple, a list that is only read, a tuple of the module's, an instance -/
inductive MO where
  | lst (xs : List U) | tup (xs : List U) | fls (xs : List U) | stp (xs : List U) | ins (c : Str) (fs : List (Str × U))
  deriving DecidableEq
abbrev M := List MO
/-- an exception of the program's own: its class, its field -/
structure Ex where
  c : Str
  f : Option (Str × U)
inductive R (A : Type) where
  | ok (a : A) (m : M) | ex (e : Ex) (m : M) | stuck
def R.bind {A B : Type} (r : R A) (g : A → M → R B) : R B := match r with
  | .ok a m => g a m
  | .ex e m => .ex e m
  | .stuck => .stuck
abbrev Env := List (Option U)

/-- the longest text or list -/
def SL : Nat := 16777216
inductive Op where
  | add | sub | mul | fdiv | mod | pow
  deriving DecidableEq
inductive Cp where
  | eq | ne | lt | le | gt | ge | is | isn | isin | nin
  deriving DecidableEq
inductive Bl where
  | len | int | str | list | tuple | sum | max | min | abs | any | all
  deriving DecidableEq
/-- methods of built-in types -/
inductive Bm where
  | append | pop | split | join
  deriving DecidableEq
/-- targets: a name, a tuple of names -/
inductive Tg where
  | nm (i : Nat) | tp (is : List Nat)
  deriving DecidableEq

mutual
inductive ME where
  | var (i : Nat) | cst (u : U) | glo (x : Str)
  | bin (o : Op) (a b : ME) | neg (a : ME) | not (a : ME)
  | cmp (o : Cp) (a b : ME) | chn (o o' : Cp) (a b c : ME)
  | and (a b : ME) | or (a b : ME) | ifx (c a b : ME)
  | lst (es : MEs) | tup (es : MEs) | idx (a b : ME) | slc (a lo hi : ME) (bl bh : Bool)
  | call (f : Str) (es : MEs) | callk (f : Str) (ks : List Str) (es : MEs) | blt (f : Bl) (es : MEs) | isi (a : ME) (ts : List String)
  | bm (f : Bm) (a : ME) (es : MEs)
  | lc (elt : ME) (tg : Tg) (it : MI) (c : ME) (own : List Nat)
  | lc2 (elt : ME) (tg : Tg) (it : MI) (c : ME) (tg1 : Tg) (it1 : MI) (c1 : ME) (own own1 : List Nat)
inductive MEs where
  | nil | cons (e : ME) (es : MEs)
inductive MI where
  | seq (e : ME) | rng (e : ME) | rng2 (a b : ME) | enu (e : ME) | zip (a b : ME)
end
mutual
inductive MS where
  | expr (e : ME) | asg (i : Nat) (e : ME) | asgT (is : List Nat) (e : ME) | par (i j : Nat) (a b : ME)
  | sub (o i v : ME) | aug (i : Nat) (o : Op) (e : ME)
  | ifs (c : ME) (a b : MSs) | fors (tg : Tg) (it : MI) (b : MSs) | whl (c : ME) (b : MSs)
  | ret (e : ME) | retN | raise (c : Str) (es : MEs) | brk | cnt | pass
  | tryK (b : MSs) (i : Nat) (h f : Str)
inductive MSs where
  | nil | cons (s : MS) (ss : MSs)
end
inductive Fl where
  | nx | br | ct | rt (u : U)

/-! ### objects -/
def seqOf (m : M) (a : Nat) : Option (List U) := match m[a]? with
  | some (.lst xs) => some xs
  | some (.tup xs) => some xs
  | some (.fls xs) => some xs
  | some (.stp xs) => some xs
  | _ => none
/-- a list -/
def lsOf (m : M) (a : Nat) : Option (List U) := match m[a]? with
  | some (.lst xs) => some xs
  | some (.fls xs) => some xs
  | _ => none
/-- a tuple -/
def tpOf (m : M) (a : Nat) : Option (List U) := match m[a]? with
  | some (.tup xs) => some xs
  | some (.stp xs) => some xs
  | _ => none
def alloc (o : MO) (m : M) : R U := .ok (.ref m.length) (m ++ [o])
/-- a value's truth -/
def tru : U → M → Option Bool
  | .non, _ => some false
  | .bl b, _ => some b
  | .int i, _ => some (i != 0)
  | .str s, _ => if s.length ≤ SL then some ((s.length : Int) != 0) else none
  | .ref a, m => (seqOf m a).map fun xs => !xs.isEmpty

/-! ### operations on values -/
def mulOk (i j : Int) : Bool := decide ((-(2 ^ 64) < i ∧ i < 2 ^ 64) ∨ (-(2 ^ 64) < j ∧ j < 2 ^ 64))
def opI : Op → Int → Int → Option Int
  | .add, i, j => some (i + j)
  | .sub, i, j => some (i - j)
  | .mul, i, j => if mulOk i j then some (i * j) else none
  | .fdiv, i, j => if 0 < j ∧ j < 2 ^ 64 then some (i / j) else none
  | .mod, i, j => if 0 < j then some (i % j) else none
  | .pow, i, j => if 0 ≤ j ∧ j ≤ 1000 ∧ i.natAbs < 2 ^ 64 then some (i ^ j.toNat) else none
def bin2 (o : Op) (x y : U) (m : M) : R U := match x, y with
  | .int i, .int j => match opI o i j with
    | some k => .ok (.int k) m
    | none => .stuck
  | .str s, .str t => match o with
    | .add => if s.length + t.length ≤ SL then .ok (.str (s ++ t)) m else .stuck
    | _ => .stuck
  | .ref a, .ref b => match o with
    | .add => match m[a]?, m[b]? with
      | some (.lst xs), some (.lst ys) => if xs.length + ys.length ≤ SL then alloc (.lst (xs ++ ys)) m else .stuck
      | _, _ => .stuck
    | _ => .stuck
  | _, _ => .stuck
/-- scalars that == compares -/
def scalU : U → U → Bool
  | .non, .non => true | .non, .int _ => true | .int _, .non => true | .non, .bl _ => true | .bl _, .non => true | .non, .str _ => true | .str _, .non => true
  | .int _, .int _ => true | .bl _, .bl _ => true | .str _, .str _ => true
  | .int _, .str _ => true | .str _, .int _ => true | .bl _, .str _ => true | .str _, .bl _ => true
  | _, _ => false
/-- a list of ints -/
def intsU : List U → Option (List Int)
  | [] => some []
  | .int i :: r => (intsU r).map (i :: ·)
  | _ => none
def blsU : List U → Option (List Bool)
  | [] => some []
  | .bl i :: r => (blsU r).map (i :: ·)
  | _ => none
/-- the data that a value holds -/
def datU (m : M) : Nat → U → Option PyData
  | _, .non => some .none
  | _, .bl b => some (.bool b)
  | _, .int i => some (.int i)
  | _, .str s => some (.str s)
  | 0, .ref _ => none
  | n + 1, .ref a => match m[a]? with
    | some (.lst xs) => (xs.mapM (datU m n)).map .list
    | some (.fls xs) => (xs.mapM (datU m n)).map .list
    | some (.tup xs) => (xs.mapM (datU m n)).map .tuple
    | some (.stp xs) => (xs.mapM (datU m n)).map .tuple
    | _ => none
/-- ==: scalars; data at any depth -/
def eqU (x y : U) (m : M) : Option Bool := if scalU x y then some (decide (x = y)) else
  match datU m 30 x, datU m 30 y with
  | some d, some e => if SeqAt.shaped d && SeqAt.shaped e then some (PyData.eqv d e) else none
  | _, _ => none
def cmp2 (o : Cp) (x y : U) (m : M) : Option Bool := match o with
  | .eq => eqU x y m
  | .ne => (eqU x y m).map (!·)
  | .lt => match x, y with
    | .int i, .int j => some (decide (i < j))
    | _, _ => none
  | .le => match x, y with
    | .int i, .int j => some (decide (i ≤ j))
    | _, _ => none
  | .gt => match x, y with
    | .int i, .int j => some (decide (j < i))
    | _, _ => none
  | .ge => match x, y with
    | .int i, .int j => some (decide (j ≤ i))
    | _, _ => none
  | .is => match y with
    | .non => some (decide (x = .non))
    | _ => none
  | .isn => match y with
    | .non => some (!decide (x = .non))
    | _ => none
  | .isin => none
  | .nin => none
def idx2 (x y : U) (m : M) : R U := match x, y with
  | .ref a, .int i => match seqOf m a with
    | some xs => match L2.atI xs i with
      | some v => .ok v m
      | none => .stuck
    | none => .stuck
  | .str z, .int i => if z.length ≤ SL then (match L2.atI z.cps.toList i with
      | some c => .ok (.str ⟨#[c]⟩) m
      | none => .stuck) else .stuck
  | _, _ => .stuck
def partI (x : U) (m : M) : R (Option Int) := match x with
  | .int i => .ok (some i) m
  | _ => .stuck
def cutU (xs : List U) (lo hi : Option Int) : List U := (xs.drop (HT.sIx xs.length 0 lo)).take (HT.sIx xs.length xs.length hi - HT.sIx xs.length 0 lo)
def slc2 (x : U) (l h : Option Int) (m : M) : R U := match x with
  | .ref a => match lsOf m a with
    | some xs => alloc (.lst (cutU xs l h)) m
    | none => .stuck
  | _ => .stuck
def maxL : List Int → Int
  | [] => 0
  | [x] => x
  | x :: r => max x (maxL r)
def minL : List Int → Int
  | [] => 0
  | [x] => x
  | x :: r => min x (minL r)
def blt2 (f : Bl) (us : List U) (m : M) : R U := match f, us with
  | .len, [.str s] => if s.length ≤ SL then .ok (.int s.length) m else .stuck
  | .len, [.ref a] => match seqOf m a with
    | some xs => .ok (.int xs.length) m
    | none => .stuck
  | .int, [.int i] => .ok (.int i) m
  | .int, [.bl b] => .ok (.int (if b then 1 else 0)) m
  | .str, [.int i] => if i.natAbs.log2 < 1920 then .ok (.str (toString i)) m else .stuck
  | .list, [.ref a] => match seqOf m a with
    | some xs => alloc (.lst xs) m
    | none => .stuck
  | .tuple, [.ref a] => match m[a]? with
    | some (.lst xs) => alloc (.tup xs) m
    | some (.fls xs) => alloc (.tup xs) m
    | some (.tup _) => .ok (.ref a) m
    | some (.stp _) => .ok (.ref a) m
    | _ => .stuck
  | .sum, [.ref a] => match lsOf m a with
    | some xs => match intsU xs with
      | some ns => .ok (.int ns.sum) m
      | none => .stuck
    | none => .stuck
  | .max, [.int i, .int j] => .ok (.int (if j > i then j else i)) m
  | .min, [.int i, .int j] => .ok (.int (if j < i then j else i)) m
  | .abs, [.int i] => .ok (.int (if i < 0 then -i else i)) m
  | .any, [.ref a] => match lsOf m a with
    | some xs => match blsU xs with
      | some ns => .ok (.bl (ns.any id)) m
      | none => .stuck
    | none => .stuck
  | .all, [.ref a] => match lsOf m a with
    | some xs => match blsU xs with
      | some ns => .ok (.bl (ns.all id)) m
      | none => .stuck
    | none => .stuck
  | _, _ => .stuck
/-- the built-in type of a value -/
def tyOf (x : U) (m : M) : Option String := match x with
  | .non => some "NoneType"
  | .bl _ => some "bool"
  | .int _ => some "int"
  | .str _ => some "str"
  | .ref a => match m[a]? with
    | some (.lst _) => some "list"
    | some (.fls _) => some "list"
    | some (.tup _) => some "tuple"
    | some (.stp _) => some "tuple"
    | _ => none
def isaT (t c : String) : Bool := t == c || (t == "bool" && c == "int")
/-- the receiver of a built-in method -/
def bmOk (f : Bm) (x : U) (m : M) : Bool := match f, x with
  | .append, .ref a => match m[a]? with
    | some (.lst _) => true
    | _ => false
  | _, _ => false
def bm2 (f : Bm) (x : U) (us : List U) (m : M) : R U := match f, x, us with
  | .append, .ref a, [y] => match m[a]? with
    | some (.lst xs) => if xs.length < SL then .ok .non (m.set a (.lst (xs ++ [y]))) else .stuck
    | _ => .stuck
  | _, _, _ => .stuck
def set3 (o i v : U) (m : M) : R Unit := match o, i with
  | .ref a, .int k => match m[a]? with
    | some (.lst xs) => match L2.ixN xs.length k with
      | some j => .ok () (m.set a (.lst (xs.set j v)))
      | none => .stuck
    | _ => .stuck
  | _, _ => .stuck

/-! ### what a loop walks -/
inductive IT where
  | rng (lo : Int) (n : Nat) | sq (l : Bool) (a : Nat) (xs : List U) | en (a : Nat) (xs : List U) | zp (a b : Nat) (xs ys : List U)
def IT.ok : IT → M → Bool
  | .rng _ _, _ => true
  | .sq l a xs, m => if l then decide (lsOf m a = some xs) else decide (tpOf m a = some xs)
  | .en a xs, m => decide (lsOf m a = some xs)
  | .zp a b xs ys, m => decide (lsOf m a = some xs) && decide (lsOf m b = some ys)
def enuF (k : Nat) : List U → List (List U)
  | [] => []
  | x :: r => [.int k, x] :: enuF (k + 1) r
def zipF : List U → List U → List (List U)
  | x :: r, y :: s => [x, y] :: zipF r s
  | _, _ => []
def rngF (lo : Int) : Nat → List (List U)
  | 0 => []
  | n + 1 => [.int lo] :: rngF (lo + 1) n
def IT.items : IT → List (List U)
  | .rng lo n => rngF lo n
  | .sq _ _ xs => xs.map fun x => [x]
  | .en _ xs => enuF 0 xs
  | .zp _ _ xs ys => zipF xs ys
def setS : Env → List Nat → List U → Option Env
  | r, [], [] => some r
  | r, i :: is, u :: us => setS (r.set i (some u)) is us
  | _, _, _ => none
/-- a target takes an item -/
def asgT (tg : Tg) (x : List U) (r : Env) (m : M) : R Env := match tg, x with
  | .nm i, [u] => .ok (r.set i (some u)) m
  | .tp is, [.ref a] => match tpOf m a with
    | some xs => match setS r is xs with
      | some r' => .ok r' m
      | none => .stuck
    | none => .stuck
  | .tp is, [u, v] => match setS r is [u, v] with
    | some r' => .ok r' m
    | none => .stuck
  | _, _ => .stuck
def forL (it : IT) (tg : Tg) (body : Env → M → R (Fl × Env)) : List (List U) → Env → M → R (Fl × Env)
  | [], r, m => if it.ok m then .ok (.nx, r) m else .stuck
  | x :: xs, r, m => if it.ok m then
      (asgT tg x r m).bind fun r1 m1 => (body r1 m1).bind fun p m2 => match p.1 with
        | .nx => forL it tg body xs p.2 m2
        | .ct => forL it tg body xs p.2 m2
        | .br => .ok (.nx, p.2) m2
        | .rt u => .ok (.rt u, p.2) m2
    else .stuck
def whlL (c : Env → M → R Bool) (body : Env → M → R (Fl × Env)) : Nat → Env → M → R (Fl × Env)
  | 0, _, _ => .stuck
  | n + 1, r, m => (c r m).bind fun b m1 => if b then (body r m1).bind fun p m2 => match p.1 with
      | .nx => whlL c body n p.2 m2
      | .ct => whlL c body n p.2 m2
      | .br => .ok (.nx, p.2) m2
      | .rt u => .ok (.rt u, p.2) m2
    else .ok (.nx, r) m1
def WF : Nat := 1000000
def noEx {A : Type} : R A → R A
  | .ex _ _ => .stuck
  | r => r
def wipeU (r : Env) : List Nat → Env
  | [] => r
  | v :: vs => (wipeU r vs).set v none
/-- the list at D grows by one -/
def pushTo (D : Nat) (u : U) (m : M) : R Unit := match m[D]? with
  | some (.lst acc) => if acc.length < SL then .ok () (m.set D (.lst (acc ++ [u]))) else .stuck
  | _ => .stuck
/-- a comprehension's clause: each turn begins at r -/
def lcL (it : IT) (tg : Tg) (r : Env) (turn : Env → M → R Unit) : List (List U) → M → R Unit
  | [], m => if it.ok m then .ok () m else .stuck
  | x :: xs, m => if it.ok m then
      (asgT tg x r m).bind fun r1 m1 => (turn r1 m1).bind fun _ m2 => lcL it tg r turn xs m2
    else .stuck
def truR (x : U) (m : M) : R Bool := match tru x m with
  | some b => .ok b m
  | none => .stuck
def evCmp (o : Cp) (x y : U) (m : M) : R U := match cmp2 o x y m with
  | some b => .ok (.bl b) m
  | none => .stuck

/-! ### the program -/
structure Pg where
  glo : List (Str × U)
  exc : List (Str × Option Str)
  base : Str
  kinds : List Str
abbrev Cl := Str → List U → M → R U
/-- what _law_kind makes of an exception -/
def kindOf (e : Ex) (m : M) : R U :=
  .ok (.ref (m.length + 1)) (m ++ [.lst [.ref (m.length + 1)], .tup [.str e.c, match e.f with
    | some p => p.2
    | none => .non]])
def mkEx (g : Pg) (c : Str) (us : List U) : Option Ex := match g.exc.lookup c, us with
  | some none, [] => some ⟨c, none⟩
  | some (some f), [u] => some ⟨c, some (f, u)⟩
  | _, _ => none
def tyOk (t : String) (ts : List String) : Bool := ts.any (isaT t)

mutual
def ev (g : Pg) (cl : Cl) : ME → Env → M → R U
  | .var i, r, m => match r[i]? with
    | some (some u) => .ok u m
    | _ => .stuck
  | .cst u, _, m => .ok u m
  | .glo x, _, m => match g.glo.lookup x with
    | some u => .ok u m
    | none => .stuck
  | .bin o a b, r, m => (ev g cl a r m).bind fun x m1 => (ev g cl b r m1).bind fun y m2 => bin2 o x y m2
  | .neg a, r, m => (ev g cl a r m).bind fun x m1 => match x with
    | .int i => .ok (.int (-i)) m1
    | _ => .stuck
  | .not a, r, m => (ev g cl a r m).bind fun x m1 => (truR x m1).bind fun b m2 => .ok (.bl (!b)) m2
  | .cmp o a b, r, m => (ev g cl a r m).bind fun x m1 => (ev g cl b r m1).bind fun y m2 => evCmp o x y m2
  | .chn o o' a b c, r, m => (ev g cl a r m).bind fun x m1 => (ev g cl b r m1).bind fun y m2 => (evCmp o x y m2).bind fun z m3 =>
      if z = .bl true then (ev g cl c r m3).bind fun w m4 => evCmp o' y w m4 else .ok (.bl false) m3
  | .and a b, r, m => (ev g cl a r m).bind fun x m1 => (truR x m1).bind fun k m2 => if k then ev g cl b r m2 else .ok x m2
  | .or a b, r, m => (ev g cl a r m).bind fun x m1 => (truR x m1).bind fun k m2 => if k then .ok x m2 else ev g cl b r m2
  | .ifx c a b, r, m => (ev g cl c r m).bind fun x m1 => (truR x m1).bind fun k m2 => if k then ev g cl a r m2 else ev g cl b r m2
  | .lst es, r, m => (evs g cl es r m).bind fun us m1 => if us.length ≤ SL then alloc (.lst us) m1 else .stuck
  | .tup es, r, m => (evs g cl es r m).bind fun us m1 => if us.length ≤ SL then alloc (.tup us) m1 else .stuck
  | .idx a b, r, m => (ev g cl a r m).bind fun x m1 => (ev g cl b r m1).bind fun y m2 => idx2 x y m2
  | .slc a lo hi bl bh, r, m => (ev g cl a r m).bind fun x m1 => (if bl then (ev g cl lo r m1).bind partI else .ok none m1).bind fun l m2 =>
      (if bh then (ev g cl hi r m2).bind partI else .ok none m2).bind fun h m3 => slc2 x l h m3
  | .call f es, r, m => (evs g cl es r m).bind fun us m1 => cl f us m1
  | .callk f ks es, r, m => (evs g cl es r m).bind fun us m1 => cl f us m1
  | .blt f es, r, m => (evs g cl es r m).bind fun us m1 => blt2 f us m1
  | .isi a ts, r, m => (ev g cl a r m).bind fun x m1 => match tyOf x m1 with
    | some t => .ok (.bl (tyOk t ts)) m1
    | none => .stuck
  | .bm f a es, r, m => (ev g cl a r m).bind fun x m1 => if bmOk f x m1 then (evs g cl es r m1).bind fun us m2 => bm2 f x us m2 else .stuck
  | .lc elt tg it c own, r, m => (evi g cl it r m).bind fun t m1 => noEx ((lcL t tg (wipeU r own) (fun r1 m2 =>
      (ev g cl c r1 m2).bind fun x m3 => (truR x m3).bind fun k m4 => if k then (ev g cl elt r1 m4).bind fun u m5 => pushTo m1.length u m5 else .ok () m4)
      t.items (m1 ++ [.lst []])).bind fun _ m6 => .ok (.ref m1.length) m6)
  | .lc2 elt tg it c tg1 it1 c1 own own1, r, m => (evi g cl it r m).bind fun t m1 => noEx ((lcL t tg (wipeU r own) (fun r1 m2 =>
      (ev g cl c r1 m2).bind fun x m3 => (truR x m3).bind fun k m4 => if k then (evi g cl it1 r1 m4).bind fun t1 m5 =>
        lcL t1 tg1 (wipeU r1 own1) (fun r2 m6 => (ev g cl c1 r2 m6).bind fun x1 m7 => (truR x1 m7).bind fun k1 m8 =>
          if k1 then (ev g cl elt r2 m8).bind fun u m9 => pushTo m1.length u m9 else .ok () m8) t1.items m5
        else .ok () m4)
      t.items (m1 ++ [.lst []])).bind fun _ m6 => .ok (.ref m1.length) m6)
def evs (g : Pg) (cl : Cl) : MEs → Env → M → R (List U)
  | .nil, _, m => .ok [] m
  | .cons e es, r, m => (ev g cl e r m).bind fun u m1 => (evs g cl es r m1).bind fun us m2 => .ok (u :: us) m2
def evi (g : Pg) (cl : Cl) : MI → Env → M → R IT
  | .seq e, r, m => (ev g cl e r m).bind fun x m1 => match x with
    | .ref a => match lsOf m1 a with
      | some xs => .ok (.sq true a xs) m1
      | none => match tpOf m1 a with
        | some xs => .ok (.sq false a xs) m1
        | none => .stuck
    | _ => .stuck
  | .rng e, r, m => (ev g cl e r m).bind fun x m1 => match x with
    | .int j => if -(2 ^ 62) ≤ j ∧ j < 2 ^ 62 then .ok (.rng 0 j.toNat) m1 else .stuck
    | _ => .stuck
  | .rng2 a b, r, m => (ev g cl a r m).bind fun x m1 => (ev g cl b r m1).bind fun y m2 => match x, y with
    | .int i, .int j => if (-(2 ^ 62) ≤ i ∧ i < 2 ^ 62) ∧ (-(2 ^ 62) ≤ j ∧ j < 2 ^ 62) then .ok (.rng i (j - i).toNat) m2 else .stuck
    | _, _ => .stuck
  | .enu e, r, m => (ev g cl e r m).bind fun x m1 => match x with
    | .ref a => match lsOf m1 a with
      | some xs => .ok (.en a xs) m1
      | none => .stuck
    | _ => .stuck
  | .zip a b, r, m => (ev g cl a r m).bind fun x m1 => (ev g cl b r m1).bind fun y m2 => match x, y with
    | .ref p, .ref q => match lsOf m2 p, lsOf m2 q with
      | some xs, some ys => .ok (.zp p q xs ys) m2
      | _, _ => .stuck
    | _, _ => .stuck
end
/-- a test -/
def evT (g : Pg) (cl : Cl) (e : ME) (r : Env) (m : M) : R Bool := (ev g cl e r m).bind fun x m1 => truR x m1
mutual
def exs (g : Pg) (cl : Cl) : MSs → Env → M → R (Fl × Env)
  | .nil, r, m => .ok (.nx, r) m
  | .cons s ss, r, m => (exe g cl s r m).bind fun p m1 => match p.1 with
    | .nx => exs g cl ss p.2 m1
    | _ => .ok p m1
def exe (g : Pg) (cl : Cl) : MS → Env → M → R (Fl × Env)
  | .expr e, r, m => (ev g cl e r m).bind fun _ m1 => .ok (.nx, r) m1
  | .asg i e, r, m => (ev g cl e r m).bind fun u m1 => .ok (.nx, r.set i (some u)) m1
  | .asgT is e, r, m => (ev g cl e r m).bind fun u m1 => (asgT (.tp is) [u] r m1).bind fun r1 m2 => .ok (.nx, r1) m2
  | .par i j a b, r, m => (ev g cl a r m).bind fun x m1 => (ev g cl b r m1).bind fun y m2 => .ok (.nx, (r.set i (some x)).set j (some y)) m2
  | .sub o i v, r, m => (ev g cl v r m).bind fun x m1 => (ev g cl o r m1).bind fun p m2 => (ev g cl i r m2).bind fun k m3 => (set3 p k x m3).bind fun _ m4 => .ok (.nx, r) m4
  | .aug i o e, r, m => match r[i]? with
    | some (some x) => (ev g cl e r m).bind fun y m1 => (match x, y with
      | .int _, .int _ => (match o with
        | .add => bin2 o x y m1
        | .sub => bin2 o x y m1
        | _ => .stuck)
      | _, _ => .stuck).bind fun z m2 => .ok (.nx, r.set i (some z)) m2
    | _ => .stuck
  | .ifs c a b, r, m => (evT g cl c r m).bind fun k m1 => if k then exs g cl a r m1 else exs g cl b r m1
  | .fors tg it b, r, m => (evi g cl it r m).bind fun t m1 => forL t tg (fun r1 m2 => exs g cl b r1 m2) t.items r m1
  | .whl c b, r, m => whlL (fun r1 m1 => evT g cl c r1 m1) (fun r1 m1 => exs g cl b r1 m1) WF r m
  | .ret e, r, m => (ev g cl e r m).bind fun u m1 => .ok (.rt u, r) m1
  | .retN, r, m => .ok (.rt .non, r) m
  | .raise c es, r, m => (evs g cl es r m).bind fun us m1 => match mkEx g c us with
    | some e => .ex e m1
    | none => .stuck
  | .brk, r, m => .ok (.br, r) m
  | .cnt, r, m => .ok (.ct, r) m
  | .pass, r, m => .ok (.nx, r) m
  | .tryK b _ _ _, r, m => match exs g cl b r m with
    | .ok p m1 => .ok p m1
    | .ex e m1 => (kindOf e m1).bind fun u m2 => .ok (.rt u, r) m2
    | .stuck => .stuck
end
/-! ### the equations of the run -/
section
theorem ev_var {g : Pg} {cl : Cl} {i} {r : Env} {m : M} : ev g cl (ME.var i) r m = (match r[i]? with
    | some (some u) => .ok u m
    | _ => .stuck) := rfl
theorem ev_cst {g : Pg} {cl : Cl} {u} {r : Env} {m : M} : ev g cl (ME.cst u) r m = (.ok u m) := rfl
theorem ev_glo {g : Pg} {cl : Cl} {x} {r : Env} {m : M} : ev g cl (ME.glo x) r m = (match g.glo.lookup x with
    | some u => .ok u m
    | none => .stuck) := rfl
theorem ev_bin {g : Pg} {cl : Cl} {o a b} {r : Env} {m : M} : ev g cl (ME.bin o a b) r m = ((ev g cl a r m).bind fun x m1 => (ev g cl b r m1).bind fun y m2 => bin2 o x y m2) := rfl
theorem ev_neg {g : Pg} {cl : Cl} {a} {r : Env} {m : M} : ev g cl (ME.neg a) r m = ((ev g cl a r m).bind fun x m1 => match x with
    | .int i => .ok (.int (-i)) m1
    | _ => .stuck) := rfl
theorem ev_not {g : Pg} {cl : Cl} {a} {r : Env} {m : M} : ev g cl (ME.not a) r m = ((ev g cl a r m).bind fun x m1 => (truR x m1).bind fun b m2 => .ok (.bl (!b)) m2) := rfl
theorem ev_cmp {g : Pg} {cl : Cl} {o a b} {r : Env} {m : M} : ev g cl (ME.cmp o a b) r m = ((ev g cl a r m).bind fun x m1 => (ev g cl b r m1).bind fun y m2 => evCmp o x y m2) := rfl
theorem ev_chn {g : Pg} {cl : Cl} {o o' a b c} {r : Env} {m : M} : ev g cl (ME.chn o o' a b c) r m = ((ev g cl a r m).bind fun x m1 => (ev g cl b r m1).bind fun y m2 => (evCmp o x y m2).bind fun z m3 =>
      if z = .bl true then (ev g cl c r m3).bind fun w m4 => evCmp o' y w m4 else .ok (.bl false) m3) := rfl
theorem ev_and {g : Pg} {cl : Cl} {a b} {r : Env} {m : M} : ev g cl (ME.and a b) r m = ((ev g cl a r m).bind fun x m1 => (truR x m1).bind fun k m2 => if k then ev g cl b r m2 else .ok x m2) := rfl
theorem ev_or {g : Pg} {cl : Cl} {a b} {r : Env} {m : M} : ev g cl (ME.or a b) r m = ((ev g cl a r m).bind fun x m1 => (truR x m1).bind fun k m2 => if k then .ok x m2 else ev g cl b r m2) := rfl
theorem ev_ifx {g : Pg} {cl : Cl} {c a b} {r : Env} {m : M} : ev g cl (ME.ifx c a b) r m = ((ev g cl c r m).bind fun x m1 => (truR x m1).bind fun k m2 => if k then ev g cl a r m2 else ev g cl b r m2) := rfl
theorem ev_lst {g : Pg} {cl : Cl} {es} {r : Env} {m : M} : ev g cl (ME.lst es) r m = ((evs g cl es r m).bind fun us m1 => if us.length ≤ SL then alloc (.lst us) m1 else .stuck) := rfl
theorem ev_tup {g : Pg} {cl : Cl} {es} {r : Env} {m : M} : ev g cl (ME.tup es) r m = ((evs g cl es r m).bind fun us m1 => if us.length ≤ SL then alloc (.tup us) m1 else .stuck) := rfl
theorem ev_idx {g : Pg} {cl : Cl} {a b} {r : Env} {m : M} : ev g cl (ME.idx a b) r m = ((ev g cl a r m).bind fun x m1 => (ev g cl b r m1).bind fun y m2 => idx2 x y m2) := rfl
theorem ev_slc {g : Pg} {cl : Cl} {a lo hi bl bh} {r : Env} {m : M} : ev g cl (ME.slc a lo hi bl bh) r m = ((ev g cl a r m).bind fun x m1 => (if bl then (ev g cl lo r m1).bind partI else .ok none m1).bind fun l m2 =>
      (if bh then (ev g cl hi r m2).bind partI else .ok none m2).bind fun h m3 => slc2 x l h m3) := rfl
theorem ev_call {g : Pg} {cl : Cl} {f es} {r : Env} {m : M} : ev g cl (ME.call f es) r m = ((evs g cl es r m).bind fun us m1 => cl f us m1) := rfl
theorem ev_callk {g : Pg} {cl : Cl} {f ks es} {r : Env} {m : M} : ev g cl (ME.callk f ks es) r m = ((evs g cl es r m).bind fun us m1 => cl f us m1) := rfl
theorem ev_blt {g : Pg} {cl : Cl} {f es} {r : Env} {m : M} : ev g cl (ME.blt f es) r m = ((evs g cl es r m).bind fun us m1 => blt2 f us m1) := rfl
theorem ev_isi {g : Pg} {cl : Cl} {a ts} {r : Env} {m : M} : ev g cl (ME.isi a ts) r m = ((ev g cl a r m).bind fun x m1 => match tyOf x m1 with
    | some t => .ok (.bl (tyOk t ts)) m1
    | none => .stuck) := rfl
theorem ev_bm {g : Pg} {cl : Cl} {f a es} {r : Env} {m : M} : ev g cl (ME.bm f a es) r m = ((ev g cl a r m).bind fun x m1 => if bmOk f x m1 then (evs g cl es r m1).bind fun us m2 => bm2 f x us m2 else .stuck) := rfl
theorem ev_lc {g : Pg} {cl : Cl} {elt tg it c own} {r : Env} {m : M} : ev g cl (ME.lc elt tg it c own) r m = ((evi g cl it r m).bind fun t m1 => noEx ((lcL t tg (wipeU r own) (fun r1 m2 =>
      (ev g cl c r1 m2).bind fun x m3 => (truR x m3).bind fun k m4 => if k then (ev g cl elt r1 m4).bind fun u m5 => pushTo m1.length u m5 else .ok () m4)
      t.items (m1 ++ [.lst []])).bind fun _ m6 => .ok (.ref m1.length) m6)) := rfl
theorem ev_lc2 {g : Pg} {cl : Cl} {elt tg it c tg1 it1 c1 own own1} {r : Env} {m : M} : ev g cl (ME.lc2 elt tg it c tg1 it1 c1 own own1) r m = ((evi g cl it r m).bind fun t m1 => noEx ((lcL t tg (wipeU r own) (fun r1 m2 =>
      (ev g cl c r1 m2).bind fun x m3 => (truR x m3).bind fun k m4 => if k then (evi g cl it1 r1 m4).bind fun t1 m5 =>
        lcL t1 tg1 (wipeU r1 own1) (fun r2 m6 => (ev g cl c1 r2 m6).bind fun x1 m7 => (truR x1 m7).bind fun k1 m8 =>
          if k1 then (ev g cl elt r2 m8).bind fun u m9 => pushTo m1.length u m9 else .ok () m8) t1.items m5
        else .ok () m4)
      t.items (m1 ++ [.lst []])).bind fun _ m6 => .ok (.ref m1.length) m6)) := rfl
theorem evs_nil {g : Pg} {cl : Cl} {r : Env} {m : M} : evs g cl (MEs.nil) r m = (.ok [] m) := rfl
theorem evs_cons {g : Pg} {cl : Cl} {e es} {r : Env} {m : M} : evs g cl (MEs.cons e es) r m = ((ev g cl e r m).bind fun u m1 => (evs g cl es r m1).bind fun us m2 => .ok (u :: us) m2) := rfl
theorem evi_seq {g : Pg} {cl : Cl} {e} {r : Env} {m : M} : evi g cl (MI.seq e) r m = ((ev g cl e r m).bind fun x m1 => match x with
    | .ref a => match lsOf m1 a with
      | some xs => .ok (.sq true a xs) m1
      | none => match tpOf m1 a with
        | some xs => .ok (.sq false a xs) m1
        | none => .stuck
    | _ => .stuck) := rfl
theorem evi_rng {g : Pg} {cl : Cl} {e} {r : Env} {m : M} : evi g cl (MI.rng e) r m = ((ev g cl e r m).bind fun x m1 => match x with
    | .int j => if -(2 ^ 62) ≤ j ∧ j < 2 ^ 62 then .ok (.rng 0 j.toNat) m1 else .stuck
    | _ => .stuck) := rfl
theorem evi_rng2 {g : Pg} {cl : Cl} {a b} {r : Env} {m : M} : evi g cl (MI.rng2 a b) r m = ((ev g cl a r m).bind fun x m1 => (ev g cl b r m1).bind fun y m2 => match x, y with
    | .int i, .int j => if (-(2 ^ 62) ≤ i ∧ i < 2 ^ 62) ∧ (-(2 ^ 62) ≤ j ∧ j < 2 ^ 62) then .ok (.rng i (j - i).toNat) m2 else .stuck
    | _, _ => .stuck) := rfl
theorem evi_enu {g : Pg} {cl : Cl} {e} {r : Env} {m : M} : evi g cl (MI.enu e) r m = ((ev g cl e r m).bind fun x m1 => match x with
    | .ref a => match lsOf m1 a with
      | some xs => .ok (.en a xs) m1
      | none => .stuck
    | _ => .stuck) := rfl
theorem evi_zip {g : Pg} {cl : Cl} {a b} {r : Env} {m : M} : evi g cl (MI.zip a b) r m = ((ev g cl a r m).bind fun x m1 => (ev g cl b r m1).bind fun y m2 => match x, y with
    | .ref p, .ref q => match lsOf m2 p, lsOf m2 q with
      | some xs, some ys => .ok (.zp p q xs ys) m2
      | _, _ => .stuck
    | _, _ => .stuck) := rfl
theorem exs_nil {g : Pg} {cl : Cl} {r : Env} {m : M} : exs g cl (MSs.nil) r m = (.ok (.nx, r) m) := rfl
theorem exs_cons {g : Pg} {cl : Cl} {s ss} {r : Env} {m : M} : exs g cl (MSs.cons s ss) r m = ((exe g cl s r m).bind fun p m1 => match p.1 with
    | .nx => exs g cl ss p.2 m1
    | _ => .ok p m1) := rfl
theorem exe_expr {g : Pg} {cl : Cl} {e} {r : Env} {m : M} : exe g cl (MS.expr e) r m = ((ev g cl e r m).bind fun _ m1 => .ok (.nx, r) m1) := rfl
theorem exe_asg {g : Pg} {cl : Cl} {i e} {r : Env} {m : M} : exe g cl (MS.asg i e) r m = ((ev g cl e r m).bind fun u m1 => .ok (.nx, r.set i (some u)) m1) := rfl
theorem exe_asgT {g : Pg} {cl : Cl} {is e} {r : Env} {m : M} : exe g cl (MS.asgT is e) r m = ((ev g cl e r m).bind fun u m1 => (asgT (.tp is) [u] r m1).bind fun r1 m2 => .ok (.nx, r1) m2) := rfl
theorem exe_par {g : Pg} {cl : Cl} {i j a b} {r : Env} {m : M} : exe g cl (MS.par i j a b) r m = ((ev g cl a r m).bind fun x m1 => (ev g cl b r m1).bind fun y m2 => .ok (.nx, (r.set i (some x)).set j (some y)) m2) := rfl
theorem exe_sub {g : Pg} {cl : Cl} {o i v} {r : Env} {m : M} : exe g cl (MS.sub o i v) r m = ((ev g cl v r m).bind fun x m1 => (ev g cl o r m1).bind fun p m2 => (ev g cl i r m2).bind fun k m3 => (set3 p k x m3).bind fun _ m4 => .ok (.nx, r) m4) := rfl
theorem exe_aug {g : Pg} {cl : Cl} {i o e} {r : Env} {m : M} : exe g cl (MS.aug i o e) r m = (match r[i]? with
    | some (some x) => (ev g cl e r m).bind fun y m1 => (match x, y with
      | .int _, .int _ => (match o with
        | .add => bin2 o x y m1
        | .sub => bin2 o x y m1
        | _ => .stuck)
      | _, _ => .stuck).bind fun z m2 => .ok (.nx, r.set i (some z)) m2
    | _ => .stuck) := rfl
theorem exe_ifs {g : Pg} {cl : Cl} {c a b} {r : Env} {m : M} : exe g cl (MS.ifs c a b) r m = ((evT g cl c r m).bind fun k m1 => if k then exs g cl a r m1 else exs g cl b r m1) := rfl
theorem exe_fors {g : Pg} {cl : Cl} {tg it b} {r : Env} {m : M} : exe g cl (MS.fors tg it b) r m = ((evi g cl it r m).bind fun t m1 => forL t tg (fun r1 m2 => exs g cl b r1 m2) t.items r m1) := rfl
theorem exe_whl {g : Pg} {cl : Cl} {c b} {r : Env} {m : M} : exe g cl (MS.whl c b) r m = (whlL (fun r1 m1 => evT g cl c r1 m1) (fun r1 m1 => exs g cl b r1 m1) WF r m) := rfl
theorem exe_ret {g : Pg} {cl : Cl} {e} {r : Env} {m : M} : exe g cl (MS.ret e) r m = ((ev g cl e r m).bind fun u m1 => .ok (.rt u, r) m1) := rfl
theorem exe_retN {g : Pg} {cl : Cl} {r : Env} {m : M} : exe g cl (MS.retN) r m = (.ok (.rt .non, r) m) := rfl
theorem exe_raise {g : Pg} {cl : Cl} {c es} {r : Env} {m : M} : exe g cl (MS.raise c es) r m = ((evs g cl es r m).bind fun us m1 => match mkEx g c us with
    | some e => .ex e m1
    | none => .stuck) := rfl
theorem exe_brk {g : Pg} {cl : Cl} {r : Env} {m : M} : exe g cl (MS.brk) r m = (.ok (.br, r) m) := rfl
theorem exe_cnt {g : Pg} {cl : Cl} {r : Env} {m : M} : exe g cl (MS.cnt) r m = (.ok (.ct, r) m) := rfl
theorem exe_pass {g : Pg} {cl : Cl} {r : Env} {m : M} : exe g cl (MS.pass) r m = (.ok (.nx, r) m) := rfl
theorem exe_tryK {g : Pg} {cl : Cl} {b v1 v2 v3} {r : Env} {m : M} : exe g cl (MS.tryK b v1 v2 v3) r m = (match exs g cl b r m with
    | .ok p m1 => .ok p m1
    | .ex e m1 => (kindOf e m1).bind fun u m2 => .ok (.rt u, r) m2
    | .stuck => .stuck) := rfl
end
structure Fn where
  ps : Nat
  ns : Nat
  body : MSs
def callN (g : Pg) (fs : Str → Option Fn) : Nat → Cl
  | 0, _, _, _ => .stuck
  | k + 1, f, us, m => match fs f with
    | some d => if us.length = d.ps then
        (exs g (callN g fs k) d.body (us.map some ++ List.replicate (d.ns - d.ps) none) m).bind fun p m1 => match p.1 with
          | .rt u => .ok u m1
          | .nx => .ok .non m1
          | _ => .stuck
      else .stuck
    | none => .stuck
end Py
/-! MINI PYTHON, part B: the mini state against the abstract heap. -/
namespace Py
open PySem L2

/-- the ground of a law: the text's facts -/
structure Gd where
  P : Program
  w : World
  K : PySem.W.Frag
  mg : Str → Option Value
  base : Heap
  pg : Pg
  fs : Str → Option Fn
  xa : Str → Addr
  /-- parameters of a def that is called by keywords -/
  kw : Str → List Str

/-- a mini value stands for a value -/
def Em (io : List Addr) : U → V → Prop
  | .non, v => v = .non
  | .bl b, v => v = .bl b
  | .int i, v => v = .int i
  | .str s, v => v = .str s
  | .ref i, v => ∃ a, io[i]? = some a ∧ v = .ref a
abbrev Ems (io : List Addr) : List U → List V → Prop := Paired (Em io)
theorem pre_get {A : Type} {l l' : List A} (p : l <+: l') {i : Nat} {a : A} (h : l[i]? = some a) : l'[i]? = some a := by
  obtain ⟨t, rfl⟩ := p
  rw [List.getElem?_append_left (List.getElem?_eq_some_iff.mp h).1]
  exact h
theorem Em.mono {io io' : List Addr} (p : io <+: io') : ∀ {u : U} {v : V}, Em io u v → Em io' u v
  | .non, _, h => h
  | .bl _, _, h => h
  | .int _, _, h => h
  | .str _, _, h => h
  | .ref _, _, ⟨a, h, e⟩ => ⟨a, pre_get p h, e⟩
theorem Ems.mono {io io' : List Addr} (p : io <+: io') {us : List U} {vs : List V} (h : Ems io us vs) : Ems io' us vs := Paired.mapP h fun _ _ q => Em.mono p q
theorem Paired.len {A B : Type} {F : A → B → Prop} : ∀ {xs : List A} {ys : List B}, Paired F xs ys → xs.length = ys.length
  | _, _, .nil => rfl
  | _, _, .cons _ t => congrArg Nat.succ (Paired.len t)
theorem Paired.at' {A B : Type} {F : A → B → Prop} : ∀ {xs : List A} {ys : List B} {i : Nat} {x : A}, Paired F xs ys → xs[i]? = some x → ∃ y, ys[i]? = some y ∧ F x y
  | _, _, _, _, .nil, h => by simp at h
  | _, _, 0, _, .cons r _, h => by simp at h; subst h; exact ⟨_, rfl, r⟩
  | _, _, i + 1, _, .cons _ t, h => by
    obtain ⟨y, h1, h2⟩ := Paired.at' (i := i) t (by simpa using h)
    exact ⟨y, by simpa using h1, h2⟩
theorem Paired.app {A B : Type} {F : A → B → Prop} : ∀ {xs xs' : List A} {ys ys' : List B}, Paired F xs ys → Paired F xs' ys' → Paired F (xs ++ xs') (ys ++ ys')
  | _, _, _, _, .nil, s => s
  | _, _, _, _, .cons r t, s => .cons r (Paired.app t s)
theorem Paired.setAt {A B : Type} {F : A → B → Prop} {x : A} {y : B} (r : F x y) : ∀ {xs : List A} {ys : List B} (i : Nat), Paired F xs ys → Paired F (xs.set i x) (ys.set i y)
  | _, _, _, .nil => .nil
  | _, _, 0, .cons _ t => .cons r t
  | _, _, i + 1, .cons q t => .cons q (Paired.setAt r i t)
theorem Paired.takeN {A B : Type} {F : A → B → Prop} : ∀ {xs : List A} {ys : List B} (n : Nat), Paired F xs ys → Paired F (xs.take n) (ys.take n)
  | _, _, 0, _ => .nil
  | _, _, _ + 1, .nil => .nil
  | _, _, n + 1, .cons r t => .cons r (Paired.takeN n t)
theorem Paired.dropN {A B : Type} {F : A → B → Prop} : ∀ {xs : List A} {ys : List B} (n : Nat), Paired F xs ys → Paired F (xs.drop n) (ys.drop n)
  | _, _, 0, r => r
  | _, _, _ + 1, .nil => .nil
  | _, _, n + 1, .cons _ t => Paired.dropN n t

/-- a tuple of the written part -/
def StT (K : PySem.W.Frag) (a : Addr) (xs : List V) : Prop :=
  ∃ (o : Obj) (its : Array Value) (n : Nat), K.lookup a = some o ∧ o.cls = .type "tuple" ∧ o.data = .seq its n ∧ its.size ≤ sizeLine ∧ Vals xs its.toList
/-- a list of the written part -/
def StL (K : PySem.W.Frag) (a : Addr) (xs : List V) : Prop :=
  ∃ (o : Obj) (its : Array Value) (n : Nat), K.lookup a = some o ∧ o.cls = .type "list" ∧ o.dict = none ∧ o.data = .seq its n ∧ its.size ≤ sizeLine ∧ Vals xs its.toList
/-- a list that nobody changes -/
def SqF (K : PySem.W.Frag) (H : Hp) (a : Addr) (xs : List V) : Prop := (∃ o, H a = some (.frz o (.lst xs))) ∨ StL K a xs
theorem SqF.sq {K : PySem.W.Frag} {H : Hp} {a : Addr} {xs : List V} (h : SqF K H a xs) : SqL K H a xs := by
  rcases h with ⟨o, h⟩ | h
  · exact .inl (.inr ⟨o, h⟩)
  · exact .inr h
theorem SqF.mono {K : PySem.W.Frag} {H H' : Hp} {a : Addr} {xs : List V} (h : SqF K H a xs) (k : ∀ o, H a = some o → H' a = some o) : SqF K H' a xs := by
  rcases h with ⟨o, h⟩ | h
  · exact .inl ⟨o, k _ h⟩
  · exact .inr h
/-- an object stands for an object -/
def RO (K : PySem.W.Frag) (io : List Addr) (H : Hp) (a : Addr) : MO → Prop
  | .lst xs => ∃ vs, Ems io xs vs ∧ H a = some (.lst vs)
  | .tup xs => ∃ vs, Ems io xs vs ∧ H a = some (.tup vs)
  | .fls xs => ∃ vs, Ems io xs vs ∧ SqF K H a vs
  | .stp xs => ∃ vs, Ems io xs vs ∧ StT K a vs
  | .ins _ _ => False
def MO.dyn : MO → Bool
  | .stp _ => false
  | .fls _ => false
  | _ => true
theorem RO.some_of {K : PySem.W.Frag} {io : List Addr} {H : Hp} {a : Addr} : ∀ {o : MO}, RO K io H a o → o.dyn = true → H a ≠ none
  | .lst _, ⟨_, _, h⟩, _ => by rw [h]; simp
  | .tup _, ⟨_, _, h⟩, _ => by rw [h]; simp
  | .fls _, _, h => by cases h
  | .stp _, _, h => by cases h
  | .ins _ _, h, _ => h.elim
structure RelH (G : Gd) (io : List Addr) (m : M) (H : Hp) : Prop where
  len : io.length = m.length
  obj : ∀ (i : Nat) (o : MO) (a : Addr), m[i]? = some o → io[i]? = some a → RO G.K io H a o
  inj : ∀ (i j : Nat) (a : Addr) (o o' : MO), io[i]? = some a → io[j]? = some a → m[i]? = some o → m[j]? = some o' → o.dyn = true → o'.dyn = true → i = j
  glo : ∀ x u, G.pg.glo.lookup x = some u → ∃ v val, G.mg x = some val ∧ RelV v val ∧ Em io u v
/-- the slots -/
structure Sl (L : Nat) (io : List Addr) (r : Env) (s : St) : Prop where
  len : r.length = L
  len' : s.length = L
  val : ∀ (i : Nat) (u : U), r[i]? = some (some u) → ∃ v, s[i]? = some (some v) ∧ Em io u v
theorem Sl.mono {L : Nat} {io io' : List Addr} {r : Env} {s : St} (p : io <+: io') (h : Sl L io r s) : Sl L io' r s :=
  ⟨h.len, h.len', fun i u e => let ⟨v, h1, h2⟩ := h.val i u e; ⟨v, h1, h2.mono p⟩⟩
theorem Sl.set {L : Nat} {io : List Addr} {r : Env} {s : St} {u : U} {v : V} (h : Sl L io r s) (i : Nat) (q : Em io u v) : Sl L io (r.set i (some u)) (s.set i (some v)) := by
  refine ⟨by simp [h.len], by simp [h.len'], fun j w e => ?_⟩
  by_cases hj : i = j
  · subst hj
    by_cases hi : i < r.length
    · rw [List.getElem?_set_self hi] at e
      cases e
      exact ⟨v, by rw [List.getElem?_set_self (by rw [h.len', ← h.len]; exact hi)], q⟩
    · rw [List.getElem?_eq_none (by simpa using hi)] at e
      cases e
  · rw [List.getElem?_set_ne hj] at e
    rw [List.getElem?_set_ne hj]
    exact h.val j w e
theorem Sl.unset {L : Nat} {io : List Addr} {r : Env} {s : St} (h : Sl L io r s) (i : Nat) : Sl L io (r.set i none) (s.set i none) := by
  refine ⟨by simp [h.len], by simp [h.len'], fun j w e => ?_⟩
  by_cases hj : i = j
  · subst hj
    by_cases hi : i < r.length
    · rw [List.getElem?_set_self hi] at e
      cases e
    · rw [List.getElem?_eq_none (by simpa using hi)] at e
      cases e
  · rw [List.getElem?_set_ne hj] at e
    rw [List.getElem?_set_ne hj]
    exact h.val j w e
theorem Sl.wipe {L : Nat} {io : List Addr} {r : Env} {s : St} (h : Sl L io r s) : ∀ vs : List Nat, Sl L io (wipeU r vs) (L2.wipe s vs)
  | [] => h
  | v :: vs => (Sl.wipe h vs).unset v

/-- what is wanted of an exception -/
def ExR (G : Gd) (io : List Addr) (e : Ex) (cls : Value) (d : Option Addr) (H : Hp) : Prop :=
  (e.c, e.f.map (·.1)) ∈ G.pg.exc ∧ cls = .ref (G.xa e.c) ∧ match e.f with
    | none => d = none
    | some p => ∃ a v, d = some a ∧ H a = some (.xd [(p.1, v)]) ∧ Em io p.2 v
/-- behind a mini run -/
def Post {A B : Type} (G : Gd) (W : WX) (L : Nat) (T : List Addr → A → B → Prop) (Q : B → Hp → Prop) (io : List Addr) (r : R A) : Prop := match r with
  | .ok a m => ∀ io' H' b, io <+: io' → RelH G io' m H' → T io' a b → Q b H'
  | .ex e m => ∀ io' H' s cls d, io <+: io' → RelH G io' m H' → s.length = L → ExR G io' e cls d H' → W cls d s H'
  | .stuck => False
section
variable {A B C D : Type} {G : Gd} {W : WX} {L : Nat} {T : List Addr → A → B → Prop} {T2 : List Addr → C → D → Prop} {Q Q' : B → Hp → Prop} {Q2 : D → Hp → Prop} {io io' : List Addr} {r : R A}
theorem Post.up (h : Post G W L T Q io r) (p : io <+: io') : Post G W L T Q io' r := by
  cases r with
  | ok a m => exact fun i H b q => h i H b (p.trans q)
  | ex e m => exact fun i H s c d q => h i H s c d (p.trans q)
  | stuck => exact h
theorem Post.imp (h : Post G W L T Q io r) (f : ∀ b H, Q b H → Q' b H) : Post G W L T Q' io r := by
  cases r with
  | ok a m => exact fun i H b q x y => f _ _ (h i H b q x y)
  | ex e m => exact h
  | stuck => exact h
/-- behind the first part, the second is to run -/
def Nxt (G : Gd) (W : WX) (L : Nat) (T : List Addr → A → B → Prop) (T2 : List Addr → C → D → Prop) (Q2 : D → Hp → Prop) (io : List Addr) (g : A → M → R C) : B → Hp → Prop :=
  fun b H => ∃ io' a m, io <+: io' ∧ RelH G io' m H ∧ T io' a b ∧ Post G W L T2 Q2 io' (g a m)
theorem Post.bind {g : A → M → R C} (h : Post G W L T2 Q2 io (r.bind g)) : Post G W L T (Nxt G W L T T2 Q2 io g) io r := by
  cases r with
  | ok a m => exact fun i H b p x y => ⟨i, a, m, p, x, y, Post.up (r := g a m) h p⟩
  | ex e m => exact h
  | stuck => exact h
end

/-- an expression's reading by a mini run -/
def liftE (G : Gd) (W : WX) (L : Nat) (f : Env → M → R U) : TE := fun s H Q => ∃ io r m, RelH G io m H ∧ Sl L io r s ∧ Post G W L Em Q io (f r m)
def liftT (G : Gd) (W : WX) (L : Nat) (f : Env → M → R Bool) : TT := fun s H Q => ∃ io r m, RelH G io m H ∧ Sl L io r s ∧ Post G W L (fun _ a b => a = b) Q io (f r m)
def liftA (G : Gd) (W : WX) (L : Nat) (f : Env → M → R (List U)) : TA := fun s H Q => ∃ io r m, RelH G io m H ∧ Sl L io r s ∧ Post G W L Ems Q io (f r m)
/-- what a statement leaves -/
def EndS (L : Nat) (io : List Addr) (p : Fl × Env) (x : Ends → Hp → Prop) : Prop := True
def PostS (G : Gd) (W : WX) (L : Nat) (D : Ends) (io : List Addr) (r : R (Fl × Env)) : Prop := match r with
  | .ok p m => ∀ io' H' s, io <+: io' → RelH G io' m H' → Sl L io' p.2 s → (match p.1 with
    | .nx => D.nx s H'
    | .br => D.bk s H'
    | .ct => D.ct s H'
    | .rt u => ∀ v, Em io' u v → D.rt v H')
  | .ex e m => ∀ io' H' s cls d, io <+: io' → RelH G io' m H' → s.length = L → ExR G io' e cls d H' → W cls d s H'
  | .stuck => False
def liftS (G : Gd) (W : WX) (L : Nat) (f : Env → M → R (Fl × Env)) : TS := fun D s H => ∃ io r m, RelH G io m H ∧ Sl L io r s ∧ PostS G W L D io (f r m)
section
variable {A B : Type} {G : Gd} {W : WX} {L : Nat} {T : List Addr → A → B → Prop} {D D' : Ends} {io io' : List Addr} {r : R (Fl × Env)}
theorem PostS.up (h : PostS G W L D io r) (p : io <+: io') : PostS G W L D io' r := by
  cases r with
  | ok a m => exact fun i H b q => h i H b (p.trans q)
  | ex e m => exact fun i H s c d q => h i H s c d (p.trans q)
  | stuck => exact h
theorem PostS.bind {r : R A} {g : A → M → R (Fl × Env)} (h : PostS G W L D io (r.bind g)) :
    Post G W L T (fun b H => ∃ io' a m, io <+: io' ∧ RelH G io' m H ∧ T io' a b ∧ PostS G W L D io' (g a m)) io r := by
  cases r with
  | ok a m => exact fun i H b p x y => ⟨i, a, m, p, x, y, PostS.up (r := g a m) h p⟩
  | ex e m => exact h
  | stuck => exact h
theorem PostS.bindS {g : Fl × Env → M → R (Fl × Env)} (h : PostS G W L D io (r.bind g))
    (hg : ∀ (p : Fl × Env) (m : M) (io' : List Addr) (H' : Hp) (s : St), r = .ok p m → io <+: io' → RelH G io' m H' → Sl L io' p.2 s → PostS G W L D io' (g p m) → (match p.1 with
      | .nx => D'.nx s H'
      | .br => D'.bk s H'
      | .ct => D'.ct s H'
      | .rt u => ∀ v, Em io' u v → D'.rt v H')) : PostS G W L D' io r := by
  cases r with
  | ok p m => exact fun i H s q x y => hg p m i H s rfl q x y (PostS.up (r := g p m) h q)
  | ex e m => exact h
  | stuck => exact h
end

/-! ### laying, writing -/
section
variable {G : Gd} {K : PySem.W.Frag} {io : List Addr} {m : M} {H : Hp}
theorem getA {io : List Addr} {p : Addr} {i : Nat} {a : Addr} (h : (io ++ [p])[i]? = some a) : (io[i]? = some a ∧ i < io.length) ∨ (i = io.length ∧ a = p) := by
  by_cases hi : i < io.length
  · rw [List.getElem?_append_left hi] at h
    exact .inl ⟨h, hi⟩
  · by_cases he : i = io.length
    · subst he
      rw [List.getElem?_append_right (Nat.le_refl _)] at h
      simp at h
      exact .inr ⟨rfl, h.symm⟩
    · rw [List.getElem?_eq_none (by rw [List.length_append, List.length_singleton]; omega)] at h
      cases h
theorem getM {m : M} {o' : MO} {i : Nat} {o : MO} (h : (m ++ [o'])[i]? = some o) : (m[i]? = some o ∧ i < m.length) ∨ (i = m.length ∧ o = o') := by
  by_cases hi : i < m.length
  · rw [List.getElem?_append_left hi] at h
    exact .inl ⟨h, hi⟩
  · by_cases he : i = m.length
    · subst he
      rw [List.getElem?_append_right (Nat.le_refl _)] at h
      simp at h
      exact .inr ⟨rfl, h.symm⟩
    · rw [List.getElem?_eq_none (by rw [List.length_append, List.length_singleton]; omega)] at h
      cases h
theorem RO.mono {io' : List Addr} {a : Addr} (p : io <+: io') {H' : Hp} (hk : ∀ o, H a = some o → H' a = some o) : ∀ {o : MO}, RO K io H a o → RO K io' H' a o
  | .lst _, ⟨vs, h1, h2⟩ => ⟨vs, h1.mono p, hk _ h2⟩
  | .tup _, ⟨vs, h1, h2⟩ => ⟨vs, h1.mono p, hk _ h2⟩
  | .fls _, ⟨vs, h1, h2⟩ => ⟨vs, h1.mono p, h2.mono hk⟩
  | .stp _, ⟨vs, h1, h2⟩ => ⟨vs, h1.mono p, h2⟩
  | .ins _ _, h => h.elim
theorem pre1 {io : List Addr} {p : Addr} : io <+: io ++ [p] := ⟨[p], rfl⟩
/-- a new object -/
theorem RelH.lay (h : RelH G io m H) {p : Addr} (hp : H p = none) {o : MO} {u : HO} (ho : RO G.K (io ++ [p]) (upd H p u) p o) : RelH G (io ++ [p]) (m ++ [o]) (upd H p u) := by
  refine ⟨by simp [h.len], fun i o' a e1 e2 => ?_, fun i j a o1 o2 e1 e2 f1 f2 d1 d2 => ?_, fun x u e => let ⟨v, val, h1, h2, h3⟩ := h.glo x u e; ⟨v, val, h1, h2, h3.mono pre1⟩⟩
  · rcases getM e1 with ⟨e1, hi⟩ | ⟨rfl, rfl⟩
    · rcases getA e2 with ⟨e2, _⟩ | ⟨he, _⟩
      · refine (h.obj i o' a e1 e2).mono pre1 fun x hx => ?_
        rw [upd_ne (ne_of_none hx hp)]
        exact hx
      · rw [h.len] at he
        omega
    · rcases getA e2 with ⟨_, hi⟩ | ⟨_, rfl⟩
      · rw [h.len] at hi
        omega
      · exact ho
  · rcases getM f1 with ⟨f1, h1⟩ | ⟨h1, _⟩
    · rcases getA e1 with ⟨e1, _⟩ | ⟨he, _⟩
      · have na := (h.obj i o1 a f1 e1).some_of d1
        rcases getM f2 with ⟨f2, h2⟩ | ⟨h2, _⟩
        · rcases getA e2 with ⟨e2, _⟩ | ⟨he, _⟩
          · exact h.inj i j a o1 o2 e1 e2 f1 f2 d1 d2
          · rw [h.len] at he
            omega
        · rcases getA e2 with ⟨_, hj⟩ | ⟨_, rfl⟩
          · rw [h.len] at hj
            omega
          · exact absurd hp na
      · rw [h.len] at he
        omega
    · rcases getM f2 with ⟨f2, h2⟩ | ⟨h2, _⟩
      · rcases getA e2 with ⟨e2, _⟩ | ⟨he, _⟩
        · have na := (h.obj j o2 a f2 e2).some_of d2
          rcases getA e1 with ⟨_, hj⟩ | ⟨_, rfl⟩
          · rw [h.len] at hj
            omega
          · exact absurd hp na
        · rw [h.len] at he
          omega
      · exact h1.trans h2.symm
/-- a list is written -/
theorem RelH.put (h : RelH G io m H) {i : Nat} {a : Addr} {xs ys : List U} {vs : List V} (ha : io[i]? = some a) (hm : m[i]? = some (.lst xs)) (hv : Ems io ys vs) :
    RelH G io (m.set i (.lst ys)) (upd H a (.lst vs)) := by
  refine ⟨by simp [h.len], fun j o b e1 e2 => ?_, fun j k b o1 o2 e1 e2 f1 f2 d1 d2 => ?_, h.glo⟩
  · by_cases hj : i = j
    · subst hj
      rw [List.getElem?_set_self (List.getElem?_eq_some_iff.mp hm).1] at e1
      cases e1
      rw [ha] at e2
      cases e2
      exact ⟨vs, hv, upd_same⟩
    · rw [List.getElem?_set_ne hj] at e1
      have q := h.obj j o b e1 e2
      by_cases hd : o.dyn = true
      · have hb : b ≠ a := fun e => hj (h.inj i j a _ o ha (e ▸ e2) hm e1 rfl hd)
        refine q.mono (List.prefix_refl _) fun x hx => ?_
        rw [upd_ne hb]
        exact hx
      · cases o with
        | stp xs => exact q
        | fls xs =>
          obtain ⟨ws, q1, q2⟩ := q
          obtain ⟨w0, _, q3⟩ := h.obj i _ a hm ha
          rcases q2 with ⟨ob, q2⟩ | q2
          · have hb : b ≠ a := fun e => by rw [e, q3] at q2; cases q2
            exact ⟨ws, q1, .inl ⟨ob, by rw [upd_ne hb]; exact q2⟩⟩
          · exact ⟨ws, q1, .inr q2⟩
        | _ => exact absurd rfl hd
  · have dn : ∀ {k : Nat} {o : MO}, (m.set i (.lst ys))[k]? = some o → o.dyn = true → ∃ o', m[k]? = some o' ∧ o'.dyn = true := fun {k o} e d => by
      by_cases hk : i = k
      · subst hk
        exact ⟨_, hm, rfl⟩
      · rw [List.getElem?_set_ne hk] at e
        exact ⟨_, e, d⟩
    obtain ⟨o1', g1, q1⟩ := dn f1 d1
    obtain ⟨o2', g2, q2⟩ := dn f2 d2
    exact h.inj j k b o1' o2' e1 e2 g1 g2 q1 q2

/-! ### reading -/
theorem RelH.at' (h : RelH G io m H) {i : Nat} {o : MO} (e : m[i]? = some o) : ∃ a, io[i]? = some a ∧ RO G.K io H a o := by
  have hi : i < io.length := by
    rw [h.len]
    exact (List.getElem?_eq_some_iff.mp e).1
  exact ⟨io[i], by simp [hi], h.obj i o _ e (by simp [hi])⟩
theorem StT.sq {a : Addr} {vs : List V} (h : StT K a vs) (H : Hp) : SqT K H a vs := by
  obtain ⟨o, its, n, h1, h2, h3, h4, h5⟩ := h
  exact .inr ⟨o, its, n, h1, h2, h3, h4, h5⟩
/-- a list or a tuple to be read -/
theorem RelH.seq (h : RelH G io m H) {i : Nat} {a : Addr} {xs : List U} (e : seqOf m i = some xs) (ha : io[i]? = some a) : ∃ vs, Ems io xs vs ∧ (SqL G.K H a vs ∨ SqT G.K H a vs) := by
  unfold seqOf at e
  cases q : m[i]? with
  | none => rw [q] at e; cases e
  | some o =>
    rw [q] at e
    have r := h.obj i o a q ha
    cases o with
    | lst ys => cases e; obtain ⟨vs, h1, h2⟩ := r; exact ⟨vs, h1, .inl (SqL.of h2)⟩
    | tup ys => cases e; obtain ⟨vs, h1, h2⟩ := r; exact ⟨vs, h1, .inr (SqT.of h2)⟩
    | fls ys => cases e; obtain ⟨vs, h1, h2⟩ := r; exact ⟨vs, h1, .inl h2.sq⟩
    | stp ys => cases e; obtain ⟨vs, h1, h2⟩ := r; exact ⟨vs, h1, .inr (h2.sq H)⟩
    | ins c fs => cases e
theorem RelH.ls (h : RelH G io m H) {i : Nat} {a : Addr} {xs : List U} (e : lsOf m i = some xs) (ha : io[i]? = some a) : ∃ vs, Ems io xs vs ∧ SqL G.K H a vs := by
  unfold lsOf at e
  cases q : m[i]? with
  | none => rw [q] at e; cases e
  | some o =>
    rw [q] at e
    have r := h.obj i o a q ha
    cases o with
    | lst ys => cases e; obtain ⟨vs, h1, h2⟩ := r; exact ⟨vs, h1, SqL.of h2⟩
    | fls ys => cases e; obtain ⟨vs, h1, h2⟩ := r; exact ⟨vs, h1, h2.sq⟩
    | _ => cases e
theorem RelH.tp (h : RelH G io m H) {i : Nat} {a : Addr} {xs : List U} (e : tpOf m i = some xs) (ha : io[i]? = some a) : ∃ vs, Ems io xs vs ∧ SqT G.K H a vs := by
  unfold tpOf at e
  cases q : m[i]? with
  | none => rw [q] at e; cases e
  | some o =>
    rw [q] at e
    have r := h.obj i o a q ha
    cases o with
    | tup ys => cases e; obtain ⟨vs, h1, h2⟩ := r; exact ⟨vs, h1, SqT.of h2⟩
    | stp ys => cases e; obtain ⟨vs, h1, h2⟩ := r; exact ⟨vs, h1, h2.sq H⟩
    | _ => cases e
theorem RelH.lst (h : RelH G io m H) {i : Nat} {a : Addr} {xs : List U} (e : m[i]? = some (.lst xs)) (ha : io[i]? = some a) : ∃ vs, Ems io xs vs ∧ H a = some (.lst vs) := h.obj i _ a e ha
/-- ints -/
theorem ints_of {io : List Addr} : ∀ {xs : List U} {vs : List V} {ns : List Int}, Ems io xs vs → intsU xs = some ns → vs = ns.map V.int
  | [], _, _, .nil, h => by cases h; rfl
  | .int i :: r, _, ns, .cons q t, h => by
    unfold intsU at h
    cases e : intsU r with
    | none => rw [e] at h; cases h
    | some ks =>
      rw [e] at h
      cases h
      cases q
      rw [ints_of t e]
      rfl
  | .non :: _, _, _, _, h => by cases h
  | .bl _ :: _, _, _, _, h => by cases h
  | .str _ :: _, _, _, _, h => by cases h
  | .ref _ :: _, _, _, _, h => by cases h
theorem bls_of {io : List Addr} : ∀ {xs : List U} {vs : List V} {ns : List Bool}, Ems io xs vs → blsU xs = some ns → vs = ns.map V.bl
  | [], _, _, .nil, h => by cases h; rfl
  | .bl i :: r, _, ns, .cons q t, h => by
    unfold blsU at h
    cases e : blsU r with
    | none => rw [e] at h; cases h
    | some ks =>
      rw [e] at h
      cases h
      cases q
      rw [bls_of t e]
      rfl
  | .non :: _, _, _, _, h => by cases h
  | .int _ :: _, _, _, _, h => by cases h
  | .str _ :: _, _, _, _, h => by cases h
  | .ref _ :: _, _, _, _, h => by cases h
theorem atI_em {io : List Addr} {xs : List U} {vs : List V} {i : Int} {u : U} (h : Ems io xs vs) (e : atI xs i = some u) : ∃ v, atI vs i = some v ∧ Em io u v := by
  unfold atI at e ⊢
  rw [← Paired.len h]
  cases q : ixN xs.length i with
  | none => rw [q] at e; cases e
  | some j =>
    rw [q] at e
    exact Paired.at' h e
theorem cut_em {io : List Addr} {xs : List U} {vs : List V} (h : Ems io xs vs) (lo hi : Option Int) : Ems io (cutU xs lo hi) (cutV vs lo hi) := by
  unfold cutU cutV
  rw [← Paired.len h]
  exact Paired.takeN _ (Paired.dropN _ h)
end
theorem SL_eq : SL = sizeLine := by rw [sizeLine_eq]; rfl
end Py
set_option maxHeartbeats 1000000
/-! MINI PYTHON, part C1: operations on values. -/
namespace Py
open PySem PySem.Spec PyProof.Rows L2

def opO : Op → Operator
  | .add => .Add | .sub => .Sub | .mul => .Mult | .fdiv => .FloorDiv | .mod => .Mod | .pow => .Pow
def cpO : Cp → CmpOp
  | .eq => .Eq | .ne => .NotEq | .lt => .Lt | .le => .LtE | .gt => .Gt | .ge => .GtE | .is => .Is | .isn => .IsNot | .isin => .In | .nin => .NotIn
/-- an operation of two values, as the mini run does it -/
def r2 (G : Gd) (W : WX) (L : Nat) (g : U → U → M → R U) : R2 := fun x y H Q => ∃ io u w m, RelH G io m H ∧ Em io u x ∧ Em io w y ∧ Post G W L Em Q io (g u w m)
section
variable {G : Gd} {W : WX} {L : Nat} {X : Cx}

/-- a value that is handed back as it is -/
theorem Post.now {Q : VK} {io : List Addr} {u : U} {m : M} {H : Hp} {v : V} (h : Post G W L Em Q io (.ok u m)) (hr : RelH G io m H) (e : Em io u v) : Q v H :=
  h io H v (List.prefix_refl _) hr e
/-- a new list, a new tuple -/
theorem Post.lst {Q : VK} {io : List Addr} {xs : List U} {vs : List V} {m : M} {H : Hp} {p : Addr} (h : Post G W L Em Q io (alloc (.lst xs) m)) (hr : RelH G io m H) (e : Ems io xs vs) (hp : H p = none) : Q (.ref p) (upd H p (.lst vs)) := by
  refine h (io ++ [p]) _ (.ref p) pre1 (hr.lay hp ⟨vs, e.mono pre1, upd_same⟩) ⟨p, ?_, rfl⟩
  rw [← hr.len]
  simp
theorem Post.tup {Q : VK} {io : List Addr} {xs : List U} {vs : List V} {m : M} {H : Hp} {p : Addr} (h : Post G W L Em Q io (alloc (.tup xs) m)) (hr : RelH G io m H) (e : Ems io xs vs) (hp : H p = none) : Q (.ref p) (upd H p (.tup vs)) := by
  refine h (io ++ [p]) _ (.ref p) pre1 (hr.lay hp ⟨vs, e.mono pre1, upd_same⟩) ⟨p, ?_, rfl⟩
  rw [← hr.len]
  simp
theorem ok_bin (o : Op) (hK : X.K = G.K) : OpR X (binaryOp (opO o)) (r2 G W L (bin2 o)) := by
  intro pins s σ H x y v u Q I rx ry h
  obtain ⟨io, a, b, m, hR, ea, eb, hp⟩ := h
  match a, b, ea, eb, hp with
  | .int i, .int j, ea, eb, hp =>
    cases o with
    | add => exact op_add pins s σ H x y v u Q I rx ry ⟨i, j, ea, eb, Post.now hp hR rfl⟩
    | sub => exact op_sub pins s σ H x y v u Q I rx ry ⟨i, j, ea, eb, Post.now hp hR rfl⟩
    | mul =>
      simp only [bin2, opI] at hp
      by_cases hc : mulOk i j = true
      · rw [if_pos hc] at hp
        exact op_mul pins s σ H x y v u Q I rx ry ⟨i, j, ea, eb, (show CMul i j from of_decide_eq_true (p := (-(2 ^ 64) < i ∧ i < 2 ^ 64) ∨ (-(2 ^ 64) < j ∧ j < 2 ^ 64)) hc), Post.now hp hR rfl⟩
      · rw [if_neg hc] at hp
        exact hp.elim
    | fdiv =>
      simp only [bin2, opI] at hp
      by_cases hc : 0 < j ∧ j < 2 ^ 64
      · rw [if_pos hc] at hp
        exact op_fdivW pins s σ H x y v u Q I rx ry ⟨i, j, ea, eb, wide_div hc.1 (b := 64) (by omega) (by decide) (by decide), Post.now hp hR rfl⟩
      · rw [if_neg hc] at hp
        exact hp.elim
    | mod =>
      simp only [bin2, opI] at hp
      by_cases hc : 0 < j
      · rw [if_pos hc] at hp
        exact op_mod pins s σ H x y v u Q I rx ry ⟨i, j, ea, eb, hc, Post.now hp hR rfl⟩
      · rw [if_neg hc] at hp
        exact hp.elim
    | pow =>
      simp only [bin2, opI] at hp
      by_cases hc : 0 ≤ j ∧ j ≤ 1000 ∧ i.natAbs < 2 ^ 64
      · rw [if_pos hc] at hp
        exact op_pow pins s σ H x y v u Q I rx ry ⟨i, j, ea, eb, ⟨hc.1, by omega, hc.2.2⟩, Post.now hp hR rfl⟩
      · rw [if_neg hc] at hp
        exact hp.elim
  | .str i, .str j, ea, eb, hp =>
    cases o with
    | add =>
      simp only [bin2] at hp
      by_cases hc : i.length + j.length ≤ SL
      · rw [if_pos hc] at hp
        exact op_add_str pins s σ H x y v u Q I rx ry ⟨i, j, ea, eb, by rw [← SL_eq]; exact hc, Post.now hp hR rfl⟩
      · rw [if_neg hc] at hp
        exact hp.elim
    | _ => exact hp.elim
  | .ref i, .ref j, ea, eb, hp =>
    cases o with
    | add =>
      obtain ⟨p, e1, rfl⟩ := ea
      obtain ⟨q, e2, rfl⟩ := eb
      simp only [bin2] at hp
      cases m1 : m[i]? with
      | none => rw [m1] at hp; exact hp.elim
      | some o1 =>
        cases m2 : m[j]? with
        | none => rw [m1, m2] at hp; cases o1 <;> exact hp.elim
        | some o2 =>
          rw [m1, m2] at hp
          match o1, o2, m1, m2, hp with
          | .lst xs, .lst ys, m1, m2, hp =>
            simp only at hp
            by_cases hc : xs.length + ys.length ≤ SL
            · rw [if_pos hc] at hp
              obtain ⟨vs, h1, h2⟩ := hR.lst m1 e1
              obtain ⟨ws, h3, h4⟩ := hR.lst m2 e2
              exact op_cat pins s σ H _ _ v u Q I rx ry ⟨p, q, vs, ws, rfl, rfl, h2, h4, by rw [← SL_eq, ← Paired.len h1, ← Paired.len h3]; exact hc, fun a ha => Post.lst hp hR (Paired.app h1 h3) ha⟩
            · rw [if_neg hc] at hp
              exact hp.elim
    | _ => exact hp.elim
end

theorem scal_em {io : List Addr} : ∀ {u w : U} {x y : V}, Em io u x → Em io w y → scalU u w = true → scal x y = true ∧ decide (x = y) = decide (u = w) := by
  intro u w x y h1 h2 hs
  cases u <;> cases w <;> first
    | (simp [scalU] at hs; done)
    | (cases h1; cases h2; refine ⟨rfl, ?_⟩; simp)
theorem dat_em {G : Gd} {io : List Addr} {m : M} {H : Hp} (hR : RelH G io m H) : ∀ (n : Nat) {u : U} {v : V} {d : PyData}, datU m n u = some d → Em io u v → Dp G.K H v d
  | _, .non, _, _, h, e => by cases e; unfold datU at h; cases h; exact .non
  | _, .bl b, _, _, h, e => by cases e; unfold datU at h; cases h; exact .bl b
  | _, .int i, _, _, h, e => by cases e; unfold datU at h; cases h; exact .int i
  | _, .str s, _, _, h, e => by cases e; unfold datU at h; cases h; exact .str s
  | 0, .ref _, _, _, h, _ => by unfold datU at h; cases h
  | n + 1, .ref a, _, d, h, ⟨p, e, rfl⟩ => by
    have all : ∀ {xs : List U} {vs : List V} {ds : List PyData}, xs.mapM (datU m n) = some ds → Ems io xs vs → DpAll G.K H vs ds := by
      intro xs
      induction xs with
      | nil => intro vs ds h1 h2; cases h2; simp at h1; subst h1; exact .nil
      | cons x r ih =>
        intro vs ds h1 h2
        cases h2 with
        | cons q t =>
          rw [List.mapM_cons] at h1
          cases e1 : datU m n x with
          | none => rw [e1] at h1; simp at h1
          | some d1 =>
            cases e2 : r.mapM (datU m n) with
            | none => rw [e1, e2] at h1; simp at h1
            | some ds1 =>
              rw [e1, e2] at h1
              simp at h1
              subst h1
              exact .cons (dat_em hR n e1 q) (ih e2 t)
    unfold datU at h
    cases q : m[a]? with
    | none => rw [q] at h; cases h
    | some o =>
      rw [q] at h
      have r := hR.obj a o p q e
      cases o with
      | lst xs =>
        obtain ⟨vs, h1, h2⟩ := r
        simp only [Option.map_eq_some_iff] at h
        obtain ⟨ds, h3, rfl⟩ := h
        exact .lst (SqL.of h2) (all h3 h1)
      | fls xs =>
        obtain ⟨vs, h1, h2⟩ := r
        simp only [Option.map_eq_some_iff] at h
        obtain ⟨ds, h3, rfl⟩ := h
        exact .lst h2.sq (all h3 h1)
      | tup xs =>
        obtain ⟨vs, h1, h2⟩ := r
        simp only [Option.map_eq_some_iff] at h
        obtain ⟨ds, h3, rfl⟩ := h
        exact .tup (SqT.of h2) (all h3 h1)
      | stp xs =>
        obtain ⟨vs, h1, h2⟩ := r
        simp only [Option.map_eq_some_iff] at h
        obtain ⟨ds, h3, rfl⟩ := h
        exact .tup (h2.sq H) (all h3 h1)
      | ins c fs => cases h
section
variable {G : Gd} {W : WX} {L : Nat} {X : Cx}
/-- a comparison, as the mini run does it -/
theorem cmp_now {Q : VK} {io : List Addr} {o : Cp} {u w : U} {m : M} {H : Hp} {b : Bool} (h : Post G W L Em Q io (evCmp o u w m)) (hr : RelH G io m H) (e : cmp2 o u w m = some b) : Q (.bl b) H := by
  unfold evCmp at h
  rw [e] at h
  exact Post.now h hr rfl
theorem cmp_none {Q : VK} {io : List Addr} {o : Cp} {u w : U} {m : M} (h : Post G W L Em Q io (evCmp o u w m)) (e : cmp2 o u w m = none) : False := by
  unfold evCmp at h
  rw [e] at h
  exact h
theorem ok_eq {pins : List (Addr × Obj)} {s : Shared} {σ : L2.St} {H : Hp} {x y : V} {v u : Value} {Q : VK} {io : List Addr} {a b : U} {m : M} {k : Bool} (hK : X.K = G.K) (hu : X.A.units + 64 < cLine) (I : Inv X pins σ H s) (rx : RelV x v) (ry : RelV y u)
    (hR : RelH G io m H) (ea : Em io a x) (eb : Em io b y) (e : eqU a b m = some k) (q : Q (.bl k) H) : wpAny (model X.prog X.w) X.A (compareOp .Eq v u) (EP X pins σ Q) X.xe s := by
  unfold eqU at e
  by_cases hs : scalU a b = true
  · rw [if_pos hs] at e
    obtain ⟨h1, h2⟩ := scal_em ea eb hs
    cases e
    exact op_eq pins s σ H x y v u Q I rx ry ⟨h1, by rw [h2]; exact q⟩
  · rw [if_neg hs] at e
    cases e1 : datU m 30 a with
    | none => rw [e1] at e; cases e
    | some d =>
      cases e2 : datU m 30 b with
      | none => rw [e1, e2] at e; cases e
      | some d' =>
        rw [e1, e2] at e
        simp only at e
        by_cases hc : (SeqAt.shaped d && SeqAt.shaped d') = true
        · rw [if_pos hc] at e
          cases e
          rw [Bool.and_eq_true] at hc
          exact op_eqD hu pins s σ H x y v u Q I rx ry ⟨d, d', hK ▸ dat_em hR 30 e1 ea, hK ▸ dat_em hR 30 e2 eb, hc.1, hc.2, q⟩
        · rw [if_neg hc] at e
          cases e
theorem ok_ne {pins : List (Addr × Obj)} {s : Shared} {σ : L2.St} {H : Hp} {x y : V} {v u : Value} {Q : VK} {io : List Addr} {a b : U} {m : M} {k : Bool} (hK : X.K = G.K) (hu : X.A.units + 64 < cLine) (I : Inv X pins σ H s) (rx : RelV x v) (ry : RelV y u)
    (hR : RelH G io m H) (ea : Em io a x) (eb : Em io b y) (e : eqU a b m = some k) (q : Q (.bl (!k)) H) : wpAny (model X.prog X.w) X.A (compareOp .NotEq v u) (EP X pins σ Q) X.xe s := by
  unfold eqU at e
  by_cases hs : scalU a b = true
  · rw [if_pos hs] at e
    obtain ⟨h1, h2⟩ := scal_em ea eb hs
    cases e
    exact op_ne pins s σ H x y v u Q I rx ry ⟨h1, by rw [h2]; exact q⟩
  · rw [if_neg hs] at e
    cases e1 : datU m 30 a with
    | none => rw [e1] at e; cases e
    | some d =>
      cases e2 : datU m 30 b with
      | none => rw [e1, e2] at e; cases e
      | some d' =>
        rw [e1, e2] at e
        simp only at e
        by_cases hc : (SeqAt.shaped d && SeqAt.shaped d') = true
        · rw [if_pos hc] at e
          cases e
          rw [Bool.and_eq_true] at hc
          exact op_neD hu pins s σ H x y v u Q I rx ry ⟨d, d', hK ▸ dat_em hR 30 e1 ea, hK ▸ dat_em hR 30 e2 eb, hc.1, hc.2, q⟩
        · rw [if_neg hc] at e
          cases e
theorem ok_cmp (o : Cp) (hK : X.K = G.K) (hu : X.A.units + 64 < cLine) : OpR X (compareOp (cpO o)) (r2 G W L (evCmp o)) := by
  intro pins s σ H x y v u Q I rx ry h
  obtain ⟨io, a, b, m, hR, ea, eb, hp⟩ := h
  cases hc : cmp2 o a b m with
  | none => exact (cmp_none hp hc).elim
  | some k =>
    have q := cmp_now hp hR hc
    cases o with
    | eq => exact ok_eq hK hu I rx ry hR ea eb hc q
    | ne =>
      simp only [cmp2, Option.map_eq_some_iff] at hc
      obtain ⟨k', hk, rfl⟩ := hc
      exact ok_ne hK hu I rx ry hR ea eb hk q
    | lt =>
      match a, b, hc, ea, eb with
      | .int i, .int j, hc, ea, eb => cases hc; exact op_lt pins s σ H x y v u Q I rx ry ⟨i, j, ea, eb, q⟩
    | le =>
      match a, b, hc, ea, eb with
      | .int i, .int j, hc, ea, eb => cases hc; exact op_le pins s σ H x y v u Q I rx ry ⟨i, j, ea, eb, q⟩
    | gt =>
      match a, b, hc, ea, eb with
      | .int i, .int j, hc, ea, eb => cases hc; exact op_gt pins s σ H x y v u Q I rx ry ⟨i, j, ea, eb, q⟩
    | ge =>
      match a, b, hc, ea, eb with
      | .int i, .int j, hc, ea, eb => cases hc; exact op_ge pins s σ H x y v u Q I rx ry ⟨i, j, ea, eb, q⟩
    | is =>
      match b, hc, eb with
      | .non, hc, eb =>
        cases hc
        refine op_isN pins s σ H x y v u Q I rx ry ⟨eb, ?_⟩
        have e : decide (x = V.non) = decide (a = U.non) := by
          cases a <;> first
            | (cases ea; simp; done)
            | (obtain ⟨p, _, rfl⟩ := ea; simp; done)
        rw [e]
        exact q
    | isn =>
      match b, hc, eb with
      | .non, hc, eb =>
        cases hc
        refine op_notN pins s σ H x y v u Q I rx ry ⟨eb, ?_⟩
        have e : decide (x = V.non) = decide (a = U.non) := by
          cases a <;> first
            | (cases ea; simp; done)
            | (obtain ⟨p, _, rfl⟩ := ea; simp; done)
        rw [e]
        exact q
    | isin => cases hc
    | nin => cases hc

/-- truth -/
theorem tru_em {io : List Addr} {m : M} {H : Hp} (hR : RelH G io m H) {u : U} {v : V} {k : Bool} (e : Em io u v) (h : tru u m = some k) : TruV G.K v H k := by
  cases u with
  | non => cases e; cases h; rfl
  | bl b => cases e; cases h; rfl
  | int i => cases e; cases h; rfl
  | str z =>
    cases e
    simp only [tru] at h
    by_cases hc : z.length ≤ SL
    · rw [if_pos hc] at h
      cases h
      exact ⟨by rw [← SL_eq]; exact hc, rfl⟩
    · rw [if_neg hc] at h
      cases h
  | ref a =>
    obtain ⟨p, e1, rfl⟩ := e
    simp only [tru, Option.map_eq_some_iff] at h
    obtain ⟨xs, hx, rfl⟩ := h
    obtain ⟨vs, h1, h2⟩ := hR.seq hx e1
    have ev : (!xs.isEmpty) = !vs.isEmpty := by cases h1 <;> rfl
    rw [ev]
    rcases h2 with h2 | h2
    · exact .inl ⟨vs, h2, rfl⟩
    · exact .inr (.inl ⟨vs, h2, rfl⟩)

/-- an item -/
theorem ok_idx (hK : X.K = G.K) : IxR X (r2 G W L idx2) := by
  intro e1' e2' pins s σ H x y v u Q I rx ry h hs
  obtain ⟨io, a, b, m, hR, ea, eb, hp⟩ := h
  match a, b, ea, eb, hp with
  | .ref a, .int i, ea, eb, hp =>
    obtain ⟨p, e1, rfl⟩ := ea
    simp only [idx2] at hp
    cases hx : seqOf m a with
    | none => rw [hx] at hp; exact hp.elim
    | some xs =>
      rw [hx] at hp
      simp only at hp
      cases hi : atI xs i with
      | none => rw [hi] at hp; exact hp.elim
      | some w =>
        rw [hi] at hp
        obtain ⟨vs, h1, h2⟩ := hR.seq hx e1
        obtain ⟨z, h3, h4⟩ := atI_em h1 hi
        have q := Post.now hp hR h4
        rw [← hK] at h2
        rcases h2 with h2 | h2
        · exact ix_seq e1' e2' pins s σ H _ y v u Q I rx ry (.inl ⟨p, vs, i, z, rfl, eb, h2, h3, q⟩) hs
        · exact ix_seq e1' e2' pins s σ H _ y v u Q I rx ry (.inr (.inl ⟨p, vs, i, z, rfl, eb, h2, h3, q⟩)) hs
  | .str z, .int i, ea, eb, hp =>
    simp only [idx2] at hp
    by_cases hc : z.length ≤ SL
    · rw [if_pos hc] at hp
      cases hi : atI z.cps.toList i with
      | none => rw [hi] at hp; exact hp.elim
      | some c =>
        rw [hi] at hp
        exact ix_seq e1' e2' pins s σ H x y v u Q I rx ry (.inr (.inr ⟨z, i, c, ea, eb, by rw [← SL_eq]; exact hc, hi, Post.now hp hR rfl⟩)) hs
    · rw [if_neg hc] at hp
      exact hp.elim

/-- calls of built-ins: the reading -/
def rB (G : Gd) (W : WX) (L : Nat) (g : List U → M → R U) : List V → Hp → VK → Prop := fun vs H Q => ∃ io us m, RelH G io m H ∧ Ems io us vs ∧ Post G W L Em Q io (g us m)
theorem ems1 {io : List Addr} {u : U} {vs : List V} (h : Ems io [u] vs) : ∃ v, vs = [v] ∧ Em io u v := by
  cases h with
  | cons q t => cases t; exact ⟨_, rfl, q⟩
theorem ems2 {io : List Addr} {u w : U} {vs : List V} (h : Ems io [u, w] vs) : ∃ v z, vs = [v, z] ∧ Em io u v ∧ Em io w z := by
  cases h with
  | cons q t =>
    cases t with
    | cons q2 t2 => cases t2; exact ⟨_, _, rfl, q, q2⟩
theorem ok_len (hK : X.K = G.K) : CallR X (.builtin "len") (rB G W L (blt2 .len)) := by
  intro pins s σ H xs us Q I r h
  obtain ⟨io, as, m, hR, ea, hp⟩ := h
  match as, ea, hp with
  | [.str z], ea, hp =>
    obtain ⟨v, rfl, e⟩ := ems1 ea
    simp only [blt2] at hp
    by_cases hc : z.length ≤ SL
    · rw [if_pos hc] at hp
      cases e
      exact call_len pins s σ H _ us Q I r ⟨_, z.length, rfl, ⟨by rw [← SL_eq]; exact hc, rfl⟩, Post.now hp hR rfl⟩
    · rw [if_neg hc] at hp
      exact hp.elim
  | [.ref a], ea, hp =>
    obtain ⟨v, rfl, p, e1, rfl⟩ := ems1 ea
    simp only [blt2] at hp
    cases hx : seqOf m a with
    | none => rw [hx] at hp; exact hp.elim
    | some ys =>
      rw [hx] at hp
      obtain ⟨vs, h1, h2⟩ := hR.seq hx e1
      have q := Post.now hp hR (v := .int vs.length) (by show _ = _; rw [Paired.len h1])
      rw [← hK] at h2
      exact call_len pins s σ H _ us Q I r ⟨_, vs.length, rfl, by
        rcases h2 with h2 | h2
        · exact .inl ⟨vs, h2, rfl⟩
        · exact .inr ⟨vs, h2, rfl⟩, q⟩
theorem ok_int : CallR X (.type "int") (rB G W L (blt2 .int)) := by
  intro pins s σ H xs us Q I r h
  obtain ⟨io, as, m, hR, ea, hp⟩ := h
  match as, ea, hp with
  | [.int i], ea, hp =>
    obtain ⟨v, rfl, e⟩ := ems1 ea
    cases e
    exact call_int1 pins s σ H _ us Q I r (.inl ⟨i, rfl, Post.now hp hR rfl⟩)
  | [.bl b], ea, hp =>
    obtain ⟨v, rfl, e⟩ := ems1 ea
    cases e
    exact call_int1 pins s σ H _ us Q I r (.inr ⟨b, rfl, Post.now hp hR rfl⟩)
theorem ok_str : CallR X (.type "str") (rB G W L (blt2 .str)) := by
  intro pins s σ H xs us Q I r h
  obtain ⟨io, as, m, hR, ea, hp⟩ := h
  match as, ea, hp with
  | [.int i], ea, hp =>
    obtain ⟨v, rfl, e⟩ := ems1 ea
    cases e
    simp only [blt2] at hp
    by_cases hc : i.natAbs.log2 < 1920
    · rw [if_pos hc] at hp
      exact call_str_int pins s σ H _ us Q I r ⟨i, rfl, hc, Post.now hp hR rfl⟩
    · rw [if_neg hc] at hp
      exact hp.elim
theorem ok_list (hK : X.K = G.K) : CallR X (.type "list") (rB G W L (blt2 .list)) := by
  intro pins s σ H xs us Q I r h
  obtain ⟨io, as, m, hR, ea, hp⟩ := h
  match as, ea, hp with
  | [.ref a], ea, hp =>
    obtain ⟨v, rfl, p, e1, rfl⟩ := ems1 ea
    simp only [blt2] at hp
    cases hx : seqOf m a with
    | none => rw [hx] at hp; exact hp.elim
    | some ys =>
      rw [hx] at hp
      obtain ⟨vs, h1, h2⟩ := hR.seq hx e1
      rw [← hK] at h2
      exact call_list_of pins s σ H _ us Q I r ⟨p, vs, rfl, h2, fun l hl => Post.lst hp hR h1 hl⟩
theorem ok_tuple (hK : X.K = G.K) : CallR X (.type "tuple") (rB G W L (blt2 .tuple)) := by
  intro pins s σ H xs us Q I r h
  obtain ⟨io, as, m, hR, ea, hp⟩ := h
  match as, ea, hp with
  | [.ref a], ea, hp =>
    obtain ⟨v, rfl, p, e1, rfl⟩ := ems1 ea
    simp only [blt2] at hp
    cases hx : m[a]? with
    | none => rw [hx] at hp; exact hp.elim
    | some o =>
      rw [hx] at hp
      have ro := hR.obj a o p hx e1
      cases o with
      | lst ys =>
        obtain ⟨vs, h1, h2⟩ := ro
        exact call_tuple_of pins s σ H _ us Q I r ⟨p, vs, rfl, .inl ⟨SqL.of h2, fun l hl => Post.tup hp hR h1 hl⟩⟩
      | fls ys =>
        obtain ⟨vs, h1, h2⟩ := ro
        exact call_tuple_of pins s σ H _ us Q I r ⟨p, vs, rfl, .inl ⟨hK ▸ h2.sq, fun l hl => Post.tup hp hR h1 hl⟩⟩
      | tup ys =>
        obtain ⟨vs, h1, h2⟩ := ro
        exact call_tuple_of pins s σ H _ us Q I r ⟨p, vs, rfl, .inr ⟨SqT.of h2, Post.now hp hR ⟨p, e1, rfl⟩⟩⟩
      | stp ys =>
        obtain ⟨vs, h1, h2⟩ := ro
        exact call_tuple_of pins s σ H _ us Q I r ⟨p, vs, rfl, .inr ⟨hK ▸ h2.sq H, Post.now hp hR ⟨p, e1, rfl⟩⟩⟩
      | ins c fs => exact hp.elim
theorem ok_abs : CallR X (.builtin "abs") (rB G W L (blt2 .abs)) := by
  intro pins s σ H xs us Q I r h
  obtain ⟨io, as, m, hR, ea, hp⟩ := h
  match as, ea, hp with
  | [.int i], ea, hp =>
    obtain ⟨v, rfl, e⟩ := ems1 ea
    cases e
    exact call_abs pins s σ H _ us Q I r ⟨i, rfl, Post.now hp hR rfl⟩
theorem ok_sum (hK : X.K = G.K) (hc : X.calm = true) : CallR X (.builtin "sum") (rB G W L (blt2 .sum)) := by
  intro pins s σ H xs us Q I r h
  obtain ⟨io, as, m, hR, ea, hp⟩ := h
  match as, ea, hp with
  | [.ref a], ea, hp =>
    obtain ⟨v, rfl, p, e1, rfl⟩ := ems1 ea
    simp only [blt2] at hp
    cases hx : lsOf m a with
    | none => rw [hx] at hp; exact hp.elim
    | some ys =>
      rw [hx] at hp
      simp only at hp
      cases hy : intsU ys with
      | none => rw [hy] at hp; exact hp.elim
      | some ns =>
        rw [hy] at hp
        obtain ⟨vs, h1, h2⟩ := hR.ls hx e1
        have hz := ints_of h1 hy
        subst hz
        rw [← hK] at h2
        exact cr_sum hc pins s σ H _ us Q I r ⟨p, ns, rfl, h2, Post.now hp hR rfl⟩
theorem ok_max (hc : X.calm = true) : CallR X (.builtin "max") (rB G W L (blt2 .max)) := by
  intro pins s σ H xs us Q I r h
  obtain ⟨io, as, m, hR, ea, hp⟩ := h
  match as, ea, hp with
  | [.int i, .int j], ea, hp =>
    obtain ⟨v, z, rfl, e1, e2⟩ := ems2 ea
    cases e1
    cases e2
    exact call_max2 hc pins s σ H _ us Q I r ⟨i, j, rfl, Post.now hp hR rfl⟩
theorem ok_min (hc : X.calm = true) : CallR X (.builtin "min") (rB G W L (blt2 .min)) := by
  intro pins s σ H xs us Q I r h
  obtain ⟨io, as, m, hR, ea, hp⟩ := h
  match as, ea, hp with
  | [.int i, .int j], ea, hp =>
    obtain ⟨v, z, rfl, e1, e2⟩ := ems2 ea
    cases e1
    cases e2
    exact call_min2 hc pins s σ H _ us Q I r ⟨i, j, rfl, Post.now hp hR rfl⟩
theorem ok_any (hK : X.K = G.K) (hc : X.calm = true) : CallR X (.builtin "any") (rB G W L (blt2 .any)) := by
  intro pins s σ H xs us Q I r h
  obtain ⟨io, as, m, hR, ea, hp⟩ := h
  match as, ea, hp with
  | [.ref a], ea, hp =>
    obtain ⟨v, rfl, p, e1, rfl⟩ := ems1 ea
    simp only [blt2] at hp
    cases hx : lsOf m a with
    | none => rw [hx] at hp; exact hp.elim
    | some ys =>
      rw [hx] at hp
      simp only at hp
      cases hy : blsU ys with
      | none => rw [hy] at hp; exact hp.elim
      | some ns =>
        rw [hy] at hp
        obtain ⟨vs, h1, h2⟩ := hR.ls hx e1
        have hz := bls_of h1 hy
        subst hz
        rw [← hK] at h2
        exact cr_any hc pins s σ H _ us Q I r ⟨p, ns, rfl, h2, Post.now hp hR rfl⟩
theorem ok_all (hK : X.K = G.K) (hc : X.calm = true) : CallR X (.builtin "all") (rB G W L (blt2 .all)) := by
  intro pins s σ H xs us Q I r h
  obtain ⟨io, as, m, hR, ea, hp⟩ := h
  match as, ea, hp with
  | [.ref a], ea, hp =>
    obtain ⟨v, rfl, p, e1, rfl⟩ := ems1 ea
    simp only [blt2] at hp
    cases hx : lsOf m a with
    | none => rw [hx] at hp; exact hp.elim
    | some ys =>
      rw [hx] at hp
      simp only at hp
      cases hy : blsU ys with
      | none => rw [hy] at hp; exact hp.elim
      | some ns =>
        rw [hy] at hp
        obtain ⟨vs, h1, h2⟩ := hR.ls hx e1
        have hz := bls_of h1 hy
        subst hz
        rw [← hK] at h2
        exact cr_all hc pins s σ H _ us Q I r ⟨p, ns, rfl, h2, Post.now hp hR rfl⟩

/-! ### isinstance of the five built-in types -/
theorem ty_em {io : List Addr} {m : M} {H : Hp} (hR : RelH G io m H) {u : U} {v : V} {t : String} (e : Em io u v) (h : tyOf u m = some t) : TyX G.K H v (.type t) := by
  cases u with
  | non => cases e; cases h; exact .base .non
  | bl b => cases e; cases h; exact .base (.bl b)
  | int i => cases e; cases h; exact .base (.int i)
  | str z => cases e; cases h; exact .base (.str z)
  | ref a =>
    obtain ⟨p, e1, rfl⟩ := e
    simp only [tyOf] at h
    cases hx : m[a]? with
    | none => rw [hx] at h; cases h
    | some o =>
      rw [hx] at h
      have ro := hR.obj a o p hx e1
      cases o with
      | lst ys => cases h; obtain ⟨vs, _, h2⟩ := ro; exact .base (.lst h2)
      | fls ys => cases h; obtain ⟨vs, _, (⟨ob, h2⟩ | ⟨o, its, n, h1, h2, _⟩)⟩ := ro <;> first | exact .base (.frz h2) | exact .kList h1 h2
      | tup ys => cases h; obtain ⟨vs, _, h2⟩ := ro; exact .base (.tup h2)
      | stp ys => cases h; obtain ⟨vs, _, o, its, n, h1, h2, _⟩ := ro; exact .kTuple h1 h2
      | ins c fs => cases h
def tyL : List String := ["NoneType", "bool", "int", "str", "list", "tuple"]
def tcL : List String := ["bool", "int", "str", "list", "tuple"]
theorem ty_mem {u : U} {m : M} {t : String} (h : tyOf u m = some t) : t ∈ tyL := by
  cases u with
  | ref a =>
    simp only [tyOf] at h
    cases hx : m[a]? with
    | none => rw [hx] at h; cases h
    | some o => rw [hx] at h; cases o <;> first | (cases h; decide) | cases h
  | _ => cases h; decide
theorem isa_kit {K : PySem.W.Frag} : ∀ {t c : String}, t ∈ tyL → c ∈ tcL → PySem.W.kitOne K (.type t) (.type c) = some (isaT t c) := by
  have all : tyL.all (fun t => tcL.all fun c => decide (kitB t c = some (isaT t c))) = true := by decide +kernel
  intro t c ht hc
  exact kit_ty (of_decide_eq_true (List.all_eq_true.mp (List.all_eq_true.mp all t ht) c hc))
theorem isa_any {K : PySem.W.Frag} {t : String} (ht : t ∈ tyL) : ∀ {ts : List String}, (∀ c ∈ ts, c ∈ tcL) → PySem.W.kitAny K (.type t) (ts.map Value.type) = some (tyOk t ts)
  | [], _ => kitAny_nil
  | c :: r, h => by
    have ih := isa_any (K := K) ht (ts := r) fun x hx => h x (List.mem_cons_of_mem _ hx)
    have e : tyOk t (c :: r) = (isaT t c || tyOk t r) := rfl
    rw [e]
    refine kitAny_cons (isa_kit ht (h c List.mem_cons_self)) (fun hb => ?_) fun hb => ?_
    · rw [hb, ih]; rfl
    · rw [hb]; rfl
end
end Py
set_option maxHeartbeats 1000000
/-! MINI PYTHON, part C2: a mini term matches a tree; expressions. -/
namespace Py
open PySem PySem.Spec PyProof.Rows L2

/-! ### trees without marks -/
def okX : Expr → Bool
  | .Starred _ _ => false
  | .Set _ _ _ => false
  | .Slice _ _ _ _ => false
  | _ => true
theorem star_of {e : Expr} {es : List Expr} {env : PySem.Env} (h : okX e = true) : starEach (e :: es) env = (false, eval e env) :: starEach es env := by
  cases e <;> first | rfl | cases h
theorem nostar_of {env : PySem.Env} {pos : Pos} : ∀ {es : List Expr}, es.all okX = true → (backTo pos (starEach es env)).any (·.1) = false
  | [], _ => rfl
  | e :: r, h => by
    rw [List.all_cons, Bool.and_eq_true] at h
    rw [star_of h.1]
    show (false || (backTo pos (starEach r env)).any (·.1)) = false
    rw [nostar_of h.2]
    rfl
theorem folded_of {e : Expr} {env : PySem.Env} (h : okX e = true) : ∀ x, foldedSetIterable e env x = pure x := by
  intro x
  cases e <;> first | rfl | cases h
theorem plain_of {e : Expr} (h : okX e = true) : PlainIx e := by
  intro o i
  cases e <;> first | rfl | cases h
theorem marks_of {op : CmpOp} {e : Expr} (h : okX e = true) : behindInMarks op e = false := by
  cases e <;> first | rfl | cases h
/-- a base of an attribute that is no super() -/
def okB : Expr → Bool
  | .Call (.Name _ _) [] [] _ => false
  | _ => true
theorem base_of {e : Expr} {f : Str} {env : PySem.Env} (h : okB e = true) : attributeBase e f env (eval e env) = eval e env := by
  cases e with
  | Call fn as ks p =>
    cases fn with
    | Name x q =>
      cases as with
      | nil =>
        cases ks with
        | nil => cases h
        | cons _ _ => rfl
      | cons _ _ => rfl
    | _ => rfl
  | _ => rfl

/-- the keywords of a call -/
inductive Kws : List Str → List Keyword → Prop where
  | nil : Kws [] []
  | cons {k : Str} {e : Expr} {p : Pos} {ks : List Str} {ws : List Keyword} (h : Kws ks ws) : Kws (k :: ks) (⟨some k, e, p⟩ :: ws)
/-! ### where a term stands -/
structure Ctx where
  N : List Str
  sc : Scope
  fn : Str → Bool
  fns : List Str
  pg : Pg
  kws : List (Str × List Str)
def visB (sc : Scope) (x : Str) : Bool := match sc.names.lookup x with
  | some .local => true
  | some .cell => true
  | some .free => true
  | _ => false
def locB (cx : Ctx) (x : Str) : Bool := match cx.sc.names.lookup x with
  | some .local => true
  | some .cell => cx.fn x
  | _ => false
def gloB (sc : Scope) (x : Str) : Bool := match sc.names.lookup x with
  | some .globalImplicit => true
  | _ => false
def slotB (cx : Ctx) (i : Nat) (x : Str) : Bool := decide (cx.N[i]? = some x) && (visB cx.sc x && ((x == ("__debug__" : Str)) == false && (x == ("__classdict__" : Str)) == false))
def storB (cx : Ctx) (i : Nat) (x : Str) : Bool := decide (cx.N[i]? = some x) && locB cx x
def nameB (cx : Ctx) (x : Str) : Bool := gloB cx.sc x && (x == ("__debug__" : Str)) == false
def cstB : U → Const → Bool
  | .non, .none => true
  | .bl a, .bool b => a == b
  | .int a, .int b => decide (a = b)
  | .str a, .str b => decide (a = b)
  | _, _ => false
def blName : Bl → Str
  | .len => "len" | .int => "int" | .str => "str" | .list => "list" | .tuple => "tuple" | .sum => "sum" | .max => "max" | .min => "min" | .abs => "abs" | .any => "any" | .all => "all"
def bnames : List Str := ["len", "int", "str", "list", "tuple", "sum", "max", "min", "abs", "any", "all", "isinstance", "range", "enumerate", "zip", "bool", "super"]
def tyName (cx : Ctx) (t : String) : Expr → Bool
  | .Name x _ => nameB cx x && (decide (x = PySem.Str.ofString t) && tcL.contains t)
  | _ => false
def tyNames (cx : Ctx) : List String → List Expr → Bool
  | [], [] => true
  | t :: ts, e :: es => tyName cx t e && tyNames cx ts es
  | _, _ => false
def matTs (cx : Ctx) : List Nat → List Expr → Bool
  | [], [] => true
  | i :: is, .Name x _ :: es => storB cx i x && matTs cx is es
  | _, _ => false
def matTg (cx : Ctx) : Tg → Expr → Bool
  | .nm i, .Name x _ => storB cx i x
  | .tp is, .Tuple es _ _ => matTs cx is es
  | _, _ => false
def tgSlots : Tg → List Nat
  | .nm i => [i]
  | .tp is => is
/-- the context of a comprehension's block -/
def Ctx.blk (cx : Ctx) (scope : Scope) : Ctx := { N := cx.N, sc := relS scope cx.sc, fn := fun x => scope.names.lookup x == some .cell, fns := cx.fns, pg := cx.pg, kws := cx.kws }
def isTrueC : ME → Bool
  | .cst (.bl true) => true
  | _ => false

mutual
def matE (cx : Ctx) : ME → Expr → Bool
  | .var i, e => match e with
    | .Name x _ => slotB cx i x
    | _ => false
  | .cst u, e => match e with
    | .Constant c _ _ => cstB u c
    | _ => false
  | .glo y, e => match e with
    | .Name x _ => decide (x = y) && nameB cx x
    | _ => false
  | .bin o a b, e => match e with
    | .BinOp x op y _ => decide (op = opO o) && (matE cx a x && matE cx b y)
    | _ => false
  | .neg a, e => match e with
    | .UnaryOp .USub x _ => matE cx a x
    | _ => false
  | .not a, e => match e with
    | .UnaryOp .Not x _ => matE cx a x
    | _ => false
  | .cmp o a b, e => match e with
    | .Compare x [op] [y] _ => decide (op = cpO o) && (okX y && (matE cx a x && matE cx b y))
    | _ => false
  | .chn o o' a b c, e => match e with
    | .Compare x [op, op'] [y, z] _ => decide (op = cpO o) && (decide (op' = cpO o') && (okX z && (matE cx a x && (matE cx b y && matE cx c z))))
    | _ => false
  | .and a b, e => match e with
    | .BoolOp .And (x :: y :: r) p => matE cx a x && (match r with
      | [] => matE cx b y
      | _ => matE cx b (.BoolOp .And (y :: r) p))
    | _ => false
  | .or a b, e => match e with
    | .BoolOp .Or (x :: y :: r) p => matE cx a x && (match r with
      | [] => matE cx b y
      | _ => matE cx b (.BoolOp .Or (y :: r) p))
    | _ => false
  | .ifx c a b, e => match e with
    | .IfExp t x y _ => matE cx c t && (matE cx a x && matE cx b y)
    | _ => false
  | .lst es, e => match e with
    | .List xs _ => matEs cx es xs
    | _ => false
  | .tup es, e => match e with
    | .Tuple xs _ _ => matEs cx es xs
    | _ => false
  | .idx a b, e => match e with
    | .Subscript x y _ => okX y && (matE cx a x && matE cx b y)
    | _ => false
  | .slc a lo hi bl bh, e => match e with
    | .Subscript x (.Slice l h none _) _ => matE cx a x && ((match l with
        | some y => bl && matE cx lo y
        | none => !bl) && (match h with
        | some y => bh && matE cx hi y
        | none => !bh))
    | _ => false
  | .call f es, e => match e with
    | .Call (.Name x _) xs [] _ => decide (x = f) && (nameB cx x && (decide (x ∈ cx.fns) && matEs cx es xs))
    | _ => false
  | .callk f ks es, e => match e with
    | .Call (.Name x _) [] ws _ => decide (x = f) && (nameB cx x && (decide ((x, ks) ∈ cx.kws) && matKs cx es ks ws))
    | _ => false
  | .blt f es, e => match e with
    | .Call (.Name x _) (y :: ys) [] _ => decide (x = blName f) && (nameB cx x && matEs cx es (y :: ys))
    | _ => false
  | .isi a ts, e => match e with
    | .Call (.Name x _) [y, c] [] _ => decide (x = ("isinstance" : Str)) && (nameB cx x && (okX y && (matE cx a y && (match c with
      | .Tuple es _ _ => decide (ts.length ≤ 100) && tyNames cx ts es
      | c => match ts with
        | [t] => tyName cx t c
        | _ => false))))
    | _ => false
  | .bm f a es, e => match f with
    | .append => match e with
      | .Call (.Attribute o nm ap) [y] [] cp => decide (nm = ("append" : Str)) && (okB o && ((ap.endLine == cp.line) && (matE cx a o && matEs cx es [y])))
      | _ => false
    | _ => false
  | .lc elt tg it c own, e => match e with
    | .ListComp x [g] scope _ => (g.is_async == 0) && (okX g.iter && (matI cx tg it g.iter && (blkC cx.N cx.sc scope (own.map fun i => (cx.N.getD i "", i)) && (matTg (cx.blk scope) tg g.target && ((tgSlots tg).all (fun i => own.contains i) &&
        ((match g.ifs with
          | [] => isTrueC c
          | [t] => matE (cx.blk scope) c t
          | _ => false) && matE (cx.blk scope) elt x))))))
    | _ => false
  | .lc2 elt tg it c tg1 it1 c1 own own1, e => match e with
    | .ListComp x [g, g1] scope _ => (g.is_async == 0) && ((g1.is_async == 0) && (okX g.iter && (okX g1.iter && (matI cx tg it g.iter && (blkC cx.N cx.sc scope (own.map fun i => (cx.N.getD i "", i)) && (matTg (cx.blk scope) tg g.target &&
        (matI (cx.blk scope) tg1 it1 g1.iter && (matTg (cx.blk scope) tg1 g1.target && ((tgSlots tg).all (fun i => own.contains i) && ((tgSlots tg1).all (fun i => own1.contains i) && (own1.all (fun i => own.contains i) &&
        ((match g.ifs with
          | [] => isTrueC c
          | [t] => matE (cx.blk scope) c t
          | _ => false) && ((match g1.ifs with
          | [] => isTrueC c1
          | [t] => matE (cx.blk scope) c1 t
          | _ => false) && matE (cx.blk scope) elt x)))))))))))))
    | _ => false
def matEs (cx : Ctx) : MEs → List Expr → Bool
  | .nil, es => match es with
    | [] => true
    | _ => false
  | .cons e es, xs => match xs with
    | x :: r => okX x && (matE cx e x && matEs cx es r)
    | [] => false
def matKs (cx : Ctx) : MEs → List Str → List Keyword → Bool
  | .nil, ks, ws => match ks, ws with
    | [], [] => true
    | _, _ => false
  | .cons e es, ks, ws => match ks, ws with
    | k :: ks, ⟨nm, x, _⟩ :: ws => decide (nm = some k) && (okX x && (matE cx e x && matKs cx es ks ws))
    | _, _ => false
def matI (cx : Ctx) (tg : Tg) : MI → Expr → Bool
  | .seq a, e => matE cx a e
  | .rng a, e => match e with
    | .Call (.Name x _) [y] [] _ => decide (x = ("range" : Str)) && (nameB cx x && (okX y && matE cx a y))
    | _ => false
  | .rng2 a b, e => match e with
    | .Call (.Name x _) [y, z] [] _ => decide (x = ("range" : Str)) && (nameB cx x && (okX y && (okX z && (matE cx a y && matE cx b z))))
    | _ => false
  | .enu a, e => match tg with
    | .tp _ => match e with
      | .Call (.Name x _) [y] [] _ => decide (x = ("enumerate" : Str)) && (nameB cx x && (okX y && matE cx a y))
      | _ => false
    | _ => false
  | .zip a b, e => match tg with
    | .tp _ => match e with
      | .Call (.Name x _) [y, z] [] _ => decide (x = ("zip" : Str)) && (nameB cx x && (okX y && (okX z && (matE cx a y && matE cx b z))))
      | _ => false
    | _ => false
end
theorem matKs_nil {cx : Ctx} {ks : List Str} {ws : List Keyword} : matKs cx MEs.nil ks ws = (match ks, ws with
    | [], [] => true
    | _, _ => false) := rfl
theorem matKs_cons {cx : Ctx} {e es} {ks : List Str} {ws : List Keyword} : matKs cx (MEs.cons e es) ks ws = (match ks, ws with
    | k :: ks, ⟨nm, x, _⟩ :: ws => decide (nm = some k) && (okX x && (matE cx e x && matKs cx es ks ws))
    | _, _ => false) := rfl
/-! ### the equations of the matchers -/
theorem matE_var {cx : Ctx} {i} {e : Expr} : matE cx (ME.var i) e = (match e with
    | .Name x _ => slotB cx i x
    | _ => false) := rfl
theorem matE_cst {cx : Ctx} {u} {e : Expr} : matE cx (ME.cst u) e = (match e with
    | .Constant c _ _ => cstB u c
    | _ => false) := rfl
theorem matE_glo {cx : Ctx} {y} {e : Expr} : matE cx (ME.glo y) e = (match e with
    | .Name x _ => decide (x = y) && nameB cx x
    | _ => false) := rfl
theorem matE_bin {cx : Ctx} {o a b} {e : Expr} : matE cx (ME.bin o a b) e = (match e with
    | .BinOp x op y _ => decide (op = opO o) && (matE cx a x && matE cx b y)
    | _ => false) := rfl
theorem matE_neg {cx : Ctx} {a} {e : Expr} : matE cx (ME.neg a) e = (match e with
    | .UnaryOp .USub x _ => matE cx a x
    | _ => false) := rfl
theorem matE_not {cx : Ctx} {a} {e : Expr} : matE cx (ME.not a) e = (match e with
    | .UnaryOp .Not x _ => matE cx a x
    | _ => false) := rfl
theorem matE_cmp {cx : Ctx} {o a b} {e : Expr} : matE cx (ME.cmp o a b) e = (match e with
    | .Compare x [op] [y] _ => decide (op = cpO o) && (okX y && (matE cx a x && matE cx b y))
    | _ => false) := rfl
theorem matE_chn {cx : Ctx} {o o' a b c} {e : Expr} : matE cx (ME.chn o o' a b c) e = (match e with
    | .Compare x [op, op'] [y, z] _ => decide (op = cpO o) && (decide (op' = cpO o') && (okX z && (matE cx a x && (matE cx b y && matE cx c z))))
    | _ => false) := rfl
theorem matE_and {cx : Ctx} {a b} {e : Expr} : matE cx (ME.and a b) e = (match e with
    | .BoolOp .And (x :: y :: r) p => matE cx a x && (match r with
      | [] => matE cx b y
      | _ => matE cx b (.BoolOp .And (y :: r) p))
    | _ => false) := rfl
theorem matE_or {cx : Ctx} {a b} {e : Expr} : matE cx (ME.or a b) e = (match e with
    | .BoolOp .Or (x :: y :: r) p => matE cx a x && (match r with
      | [] => matE cx b y
      | _ => matE cx b (.BoolOp .Or (y :: r) p))
    | _ => false) := rfl
theorem matE_ifx {cx : Ctx} {c a b} {e : Expr} : matE cx (ME.ifx c a b) e = (match e with
    | .IfExp t x y _ => matE cx c t && (matE cx a x && matE cx b y)
    | _ => false) := rfl
theorem matE_lst {cx : Ctx} {es} {e : Expr} : matE cx (ME.lst es) e = (match e with
    | .List xs _ => matEs cx es xs
    | _ => false) := rfl
theorem matE_tup {cx : Ctx} {es} {e : Expr} : matE cx (ME.tup es) e = (match e with
    | .Tuple xs _ _ => matEs cx es xs
    | _ => false) := rfl
theorem matE_idx {cx : Ctx} {a b} {e : Expr} : matE cx (ME.idx a b) e = (match e with
    | .Subscript x y _ => okX y && (matE cx a x && matE cx b y)
    | _ => false) := rfl
theorem matE_slc {cx : Ctx} {a lo hi bl bh} {e : Expr} : matE cx (ME.slc a lo hi bl bh) e = (match e with
    | .Subscript x (.Slice l h none _) _ => matE cx a x && ((match l with
        | some y => bl && matE cx lo y
        | none => !bl) && (match h with
        | some y => bh && matE cx hi y
        | none => !bh))
    | _ => false) := rfl
theorem matE_call {cx : Ctx} {f es} {e : Expr} : matE cx (ME.call f es) e = (match e with
    | .Call (.Name x _) xs [] _ => decide (x = f) && (nameB cx x && (decide (x ∈ cx.fns) && matEs cx es xs))
    | _ => false) := rfl
theorem matE_callk {cx : Ctx} {f ks es} {e : Expr} : matE cx (ME.callk f ks es) e = (match e with
    | .Call (.Name x _) [] ws _ => decide (x = f) && (nameB cx x && (decide ((x, ks) ∈ cx.kws) && matKs cx es ks ws))
    | _ => false) := rfl
theorem matE_blt {cx : Ctx} {f es} {e : Expr} : matE cx (ME.blt f es) e = (match e with
    | .Call (.Name x _) (y :: ys) [] _ => decide (x = blName f) && (nameB cx x && matEs cx es (y :: ys))
    | _ => false) := rfl
theorem matE_isi {cx : Ctx} {a ts} {e : Expr} : matE cx (ME.isi a ts) e = (match e with
    | .Call (.Name x _) [y, c] [] _ => decide (x = ("isinstance" : Str)) && (nameB cx x && (okX y && (matE cx a y && (match c with
      | .Tuple es _ _ => decide (ts.length ≤ 100) && tyNames cx ts es
      | c => match ts with
        | [t] => tyName cx t c
        | _ => false))))
    | _ => false) := rfl
theorem matE_bm {cx : Ctx} {f a es} {e : Expr} : matE cx (ME.bm f a es) e = (match f with
    | .append => match e with
      | .Call (.Attribute o nm ap) [y] [] cp => decide (nm = ("append" : Str)) && (okB o && ((ap.endLine == cp.line) && (matE cx a o && matEs cx es [y])))
      | _ => false
    | _ => false) := rfl
theorem matE_lc {cx : Ctx} {elt tg it c own} {e : Expr} : matE cx (ME.lc elt tg it c own) e = (match e with
    | .ListComp x [g] scope _ => (g.is_async == 0) && (okX g.iter && (matI cx tg it g.iter && (blkC cx.N cx.sc scope (own.map fun i => (cx.N.getD i "", i)) && (matTg (cx.blk scope) tg g.target && ((tgSlots tg).all (fun i => own.contains i) &&
        ((match g.ifs with
          | [] => isTrueC c
          | [t] => matE (cx.blk scope) c t
          | _ => false) && matE (cx.blk scope) elt x))))))
    | _ => false) := rfl
theorem matE_lc2 {cx : Ctx} {elt tg it c tg1 it1 c1 own own1} {e : Expr} : matE cx (ME.lc2 elt tg it c tg1 it1 c1 own own1) e = (match e with
    | .ListComp x [g, g1] scope _ => (g.is_async == 0) && ((g1.is_async == 0) && (okX g.iter && (okX g1.iter && (matI cx tg it g.iter && (blkC cx.N cx.sc scope (own.map fun i => (cx.N.getD i "", i)) && (matTg (cx.blk scope) tg g.target &&
        (matI (cx.blk scope) tg1 it1 g1.iter && (matTg (cx.blk scope) tg1 g1.target && ((tgSlots tg).all (fun i => own.contains i) && ((tgSlots tg1).all (fun i => own1.contains i) && (own1.all (fun i => own.contains i) &&
        ((match g.ifs with
          | [] => isTrueC c
          | [t] => matE (cx.blk scope) c t
          | _ => false) && ((match g1.ifs with
          | [] => isTrueC c1
          | [t] => matE (cx.blk scope) c1 t
          | _ => false) && matE (cx.blk scope) elt x)))))))))))))
    | _ => false) := rfl
theorem matEs_nil {cx : Ctx} {es : List Expr} : matEs cx (MEs.nil) es = (match es with
    | [] => true
    | _ => false) := rfl
theorem matEs_cons {cx : Ctx} {e es} {xs : List Expr} : matEs cx (MEs.cons e es) xs = (match xs with
    | x :: r => okX x && (matE cx e x && matEs cx es r)
    | [] => false) := rfl
theorem matI_seq {cx : Ctx} {tg : Tg} {a} {e : Expr} : matI cx tg (MI.seq a) e = (matE cx a e) := rfl
theorem matI_rng {cx : Ctx} {tg : Tg} {a} {e : Expr} : matI cx tg (MI.rng a) e = (match e with
    | .Call (.Name x _) [y] [] _ => decide (x = ("range" : Str)) && (nameB cx x && (okX y && matE cx a y))
    | _ => false) := rfl
theorem matI_rng2 {cx : Ctx} {tg : Tg} {a b} {e : Expr} : matI cx tg (MI.rng2 a b) e = (match e with
    | .Call (.Name x _) [y, z] [] _ => decide (x = ("range" : Str)) && (nameB cx x && (okX y && (okX z && (matE cx a y && matE cx b z))))
    | _ => false) := rfl
theorem matI_enu {cx : Ctx} {tg : Tg} {a} {e : Expr} : matI cx tg (MI.enu a) e = (match tg with
    | .tp _ => match e with
      | .Call (.Name x _) [y] [] _ => decide (x = ("enumerate" : Str)) && (nameB cx x && (okX y && matE cx a y))
      | _ => false
    | _ => false) := rfl
theorem matI_zip {cx : Ctx} {tg : Tg} {a b} {e : Expr} : matI cx tg (MI.zip a b) e = (match tg with
    | .tp _ => match e with
      | .Call (.Name x _) [y, z] [] _ => decide (x = ("zip" : Str)) && (nameB cx x && (okX y && (okX z && (matE cx a y && matE cx b z))))
      | _ => false
    | _ => false) := rfl
/-! ### (end of the equations) -/
end Py
set_option maxHeartbeats 2000000
/-! MINI PYTHON, part C3: expressions keep to the mini run. -/
namespace Py
open PySem PySem.Spec PyProof.Rows L2

/-- keywords alone, in the parameters' order -/
def gK {A : Type} : List A → List A → List A
  | [], ws => ws
  | _ :: _, _ => []
theorem gK_rel {vs : List V} {us : List Value} {zs : List V} {ws : List Value} (h : Vals vs us) (k : Vals zs ws) : Vals (gK vs zs) (gK us ws) := by
  cases h with
  | nil => exact k
  | cons _ _ => exact .nil
/-- a def's promise: the mini run of it -/
def spM (G : Gd) (cl : Cl) (f : Str) (n : Nat) : Sp := fun vs H Q E => ∃ io us m, RelH G io m H ∧ Ems io us vs ∧ us.length = n ∧ Post G (fun c d _ H' => E c d H') 0 Em Q io (cl f us m)
structure FsOk (G : Gd) (cl : Cl) (k : Nat) : Prop where
  fn : ∀ (f : Str) (d : Fn), G.fs f = some d → ∃ (fa : Addr) (fd : FuncData) (ps : List Str), G.mg f = some (.ref fa) ∧ PySem.W.keepIn G.K (.ref fa) = true ∧ Binds G.K fd ps [] ∧ ps.length = d.ps ∧
    FnOk G.P G.w G.K G.mg G.base (L2.CX G.P G.w) k fa fd ps (spM G cl f d.ps) ∧ (G.kw f ≠ [] → ps = G.kw f ∧ KBinds G.K fd ps ps gK gK)
  len : ∀ (f : Str) (d : Fn) (us : List U) (m : M), G.fs f = some d → us.length ≠ d.ps → cl f us m = .stuck
structure GOk (G : Gd) : Prop where
  free : ∀ x ∈ bnames, G.mg x = none
/-- a context of ours -/
structure XOk (G : Gd) (k : Nat) (cx : Ctx) (X : Cx) : Prop where
  hP : X.prog = G.P
  hw : X.w = G.w
  hK : X.K = G.K
  hm : X.mg = G.mg
  hb : X.base = G.base
  calm : X.calm = true
  hN : X.N = cx.N
  nd : X.N.Nodup
  hs : X.env.scope = cx.sc
  hf : ∀ x, cx.fn x = true → X.fn x = true
  room : Room k X.A
  fns : ∀ f ∈ cx.fns, ∃ d, G.fs f = some d
  hpg : cx.pg = G.pg
  kws : ∀ p ∈ cx.kws, (∃ d, G.fs p.1 = some d) ∧ G.kw p.1 = p.2 ∧ p.2 ≠ []

section
variable {X : Cx} {e : Expr}
theorem peOf {t t' : TE} (h : PE X e t) (i : ∀ s H Q, t' s H Q → t s H Q) : PE X e t' := ⟨fun pins s σ H Q I q => h.run pins s σ H Q I (i _ _ _ q)⟩
theorem ptOf {t t' : TT} (h : PT X e t) (i : ∀ s H Q, t' s H Q → t s H Q) : PT X e t' := ⟨fun pins s σ H Q I q => h.run pins s σ H Q I (i _ _ _ q)⟩
theorem pkOf {ks : List Keyword} {t t' : TA} (h : PK X ks t) (i : ∀ s H Q, t' s H Q → t s H Q) : PK X ks t' := ⟨fun pos pins s σ H Q I q => h.run pos pins s σ H Q I (i _ _ _ q)⟩
theorem paOf {es : List Expr} {t t' : TA} (h : PA X es t) (i : ∀ s H Q, t' s H Q → t s H Q) : PA X es t' := ⟨fun pos pins s σ H Q I q => h.run pos pins s σ H Q I (i _ _ _ q)⟩
theorem pwOf {op : BoolOp} {vs : List Expr} {p : Pos} {t : TT} (h : PT X (.BoolOp op vs p) t) : PW X (.BoolOp op vs p) t := ⟨fun _ pins s σ H Q I q => h.run pins s σ H Q I q⟩
end

/-- one value behind another -/
def r1 (G : Gd) (W : WX) (L : Nat) (g : U → M → R U) : V → Hp → VK → Prop := fun x H Q => ∃ io u m, RelH G io m H ∧ Em io u x ∧ Post G W L Em Q io (g u m)
section
variable {G : Gd} {W : WX} {L : Nat} {s : L2.St} {H : Hp} {Q : VK} {fa fb : Env → M → R U}
theorem lift_one {g : U → M → R U} (h : liftE G W L (fun r m => (fa r m).bind g) s H Q) : liftE G W L fa s H fun x H1 => r1 G W L g x H1 Q := by
  obtain ⟨io, r, m, hR, hS, hp⟩ := h
  refine ⟨io, r, m, hR, hS, (Post.bind hp).imp ?_⟩
  rintro x H1 ⟨io1, u, m1, p1, hR1, e1, hp1⟩
  exact ⟨io1, u, m1, hR1, e1, hp1⟩
theorem lift_two {g : U → U → M → R U} (h : liftE G W L (fun r m => (fa r m).bind fun x m1 => (fb r m1).bind fun y m2 => g x y m2) s H Q) :
    liftE G W L fa s H fun x H1 => liftE G W L fb s H1 fun y H2 => r2 G W L g x y H2 Q := by
  obtain ⟨io, r, m, hR, hS, hp⟩ := h
  refine ⟨io, r, m, hR, hS, (Post.bind hp).imp ?_⟩
  rintro x H1 ⟨io1, u, m1, p1, hR1, e1, hp1⟩
  refine ⟨io1, r, m1, hR1, hS.mono p1, (Post.bind hp1).imp ?_⟩
  rintro y H2 ⟨io2, w, m2, p2, hR2, e2, hp2⟩
  exact ⟨io2, u, w, m2, hR2, e1.mono p2, e2, hp2⟩
theorem lift_args {fs : Env → M → R (List U)} {g : List U → M → R U} (h : liftE G W L (fun r m => (fs r m).bind g) s H Q) : liftA G W L fs s H fun vs H1 => rB G W L g vs H1 Q := by
  obtain ⟨io, r, m, hR, hS, hp⟩ := h
  refine ⟨io, r, m, hR, hS, (Post.bind hp).imp ?_⟩
  rintro x H1 ⟨io1, u, m1, p1, hR1, e1, hp1⟩
  exact ⟨io1, u, m1, hR1, e1, hp1⟩
/-- a truth -/
theorem tru_run {u : U} {v : V} {m : M} {io : List Addr} {A B : Type} {T : List Addr → A → B → Prop} {Q : B → Hp → Prop} {g : Bool → M → R A} (hR : RelH G io m H) (e : Em io u v) (h : Post G W L T Q io ((truR u m).bind g)) :
    ∃ k, TruV G.K v H k ∧ Post G W L T Q io (g k m) := by
  unfold truR at h
  cases q : tru u m with
  | none => rw [q] at h; exact h.elim
  | some k => rw [q] at h; exact ⟨k, tru_em hR e q, h⟩
end

/-! ### tests as runs -/
theorem bind_ok {A B : Type} (a : A) (m : M) (g : A → M → R B) : (R.ok a m).bind g = g a m := rfl
theorem bind_assoc {A B C : Type} (r : R A) (g : A → M → R B) (h : B → M → R C) : (r.bind g).bind h = r.bind fun a m => (g a m).bind h := by cases r <;> rfl
theorem truR_cases (x : U) (m : M) : (∃ k, tru x m = some k ∧ truR x m = .ok k m) ∨ (tru x m = none ∧ truR x m = .stuck) := by
  unfold truR
  cases tru x m with
  | none => exact .inr ⟨rfl, rfl⟩
  | some k => exact .inl ⟨k, rfl, rfl⟩
section
variable {g : Pg} {cl : Cl} {r : Env} {m : M}
theorem evT_not (a : ME) : evT g cl (.not a) r m = (evT g cl a r m).bind fun k m1 => .ok (!k) m1 := by
  unfold evT
  rw [ev_not]
  cases ev g cl a r m with
  | ok x m1 =>
    simp only [R.bind]
    rcases truR_cases x m1 with ⟨k, _, e⟩ | ⟨_, e⟩ <;> rw [e] <;> rfl
  | ex e m1 => rfl
  | stuck => rfl
theorem evT_and (a b : ME) : evT g cl (.and a b) r m = (evT g cl a r m).bind fun k m1 => if k = true then evT g cl b r m1 else .ok false m1 := by
  unfold evT
  rw [ev_and]
  cases ev g cl a r m with
  | ok x m1 =>
    simp only [R.bind]
    rcases truR_cases x m1 with ⟨k, e0, e⟩ | ⟨_, e⟩
    · rw [e]
      cases k with
      | true => rfl
      | false =>
        show truR x m1 = _
        rw [e]
        rfl
    · rw [e]
  | ex e m1 => rfl
  | stuck => rfl
theorem evT_or (a b : ME) : evT g cl (.or a b) r m = (evT g cl a r m).bind fun k m1 => if k = true then .ok true m1 else evT g cl b r m1 := by
  unfold evT
  rw [ev_or]
  cases ev g cl a r m with
  | ok x m1 =>
    simp only [R.bind]
    rcases truR_cases x m1 with ⟨k, e0, e⟩ | ⟨_, e⟩
    · rw [e]
      cases k with
      | false => rfl
      | true =>
        show truR x m1 = _
        rw [e]
        rfl
    · rw [e]
  | ex e m1 => rfl
  | stuck => rfl
theorem evT_ifx (c a b : ME) : evT g cl (.ifx c a b) r m = (evT g cl c r m).bind fun k m1 => if k = true then evT g cl a r m1 else evT g cl b r m1 := by
  unfold evT
  rw [ev_ifx]
  cases ev g cl c r m with
  | ok x m1 =>
    simp only [R.bind]
    rcases truR_cases x m1 with ⟨k, e0, e⟩ | ⟨_, e⟩
    · rw [e]
      cases k <;> rfl
    · rw [e]
  | ex e m1 => rfl
  | stuck => rfl
theorem evCmp_tru {A : Type} (o : Cp) (x y : U) (m : M) (k : Bool → M → R A) : ((evCmp o x y m).bind fun z m1 => (truR z m1).bind k) = (match cmp2 o x y m with
    | some b => k b m
    | none => .stuck) := by
  unfold evCmp
  cases cmp2 o x y m <;> rfl
end

/-! ### facts of a context -/
section
variable {G : Gd} {k : Nat} {cx : Ctx} {X : Cx} (hX : XOk G k cx X)
include hX
theorem XOk.slot {i : Nat} {x : Str} (h : slotB cx i x = true) : X.N[i]? = some x ∧ Vis X.env.scope x ∧ (x == ("__debug__" : Str)) = false ∧ (x == ("__classdict__" : Str)) = false := by
  unfold slotB at h
  simp only [Bool.and_eq_true, decide_eq_true_eq, beq_iff_eq] at h
  obtain ⟨h1, h2, h3, h4⟩ := h
  refine ⟨hX.hN ▸ h1, ?_, h3, h4⟩
  unfold Vis
  rw [hX.hs]
  unfold visB at h2
  split at h2
  · exact .inl (by assumption)
  · exact .inr (.inl (by assumption))
  · exact .inr (.inr (by assumption))
  · cases h2
theorem XOk.stor {i : Nat} {x : Str} (h : storB cx i x = true) : X.N[i]? = some x ∧ L2.Loc X.env.scope x ∧ (X.fn x = true ∨ X.env.scope.names.lookup x = some .local) := by
  unfold storB at h
  simp only [Bool.and_eq_true, decide_eq_true_eq] at h
  obtain ⟨h1, h2⟩ := h
  refine ⟨hX.hN ▸ h1, ?_⟩
  unfold L2.Loc
  rw [hX.hs]
  unfold locB at h2
  split at h2
  · rename_i q
    exact ⟨.inl q, .inr q⟩
  · rename_i q
    exact ⟨.inr q, .inl (hX.hf x h2)⟩
  · cases h2
theorem XOk.name {x : Str} (h : nameB cx x = true) : Gl X x ∧ (x == ("__debug__" : Str)) = false := by
  unfold nameB at h
  simp only [Bool.and_eq_true, beq_iff_eq] at h
  obtain ⟨h1, h2⟩ := h
  refine ⟨?_, h2⟩
  unfold Gl
  show X.env.scope.names.lookup x = _
  rw [hX.hs]
  unfold gloB at h1
  split at h1
  · assumption
  · cases h1
theorem XOk.free (hG : GOk G) {x : Str} (h : x ∈ bnames) : X.mg x = none := by
  rw [hX.hm]
  exact hG.free x h
theorem XOk.hu : X.A.units + 64 < cLine := hX.room.units
end

/-! ### constants -/
theorem cst_ok {G : Gd} {W : WX} {L : Nat} {X : Cx} {u : U} {c : Const} {j : Nat} {p : Pos} (h : cstB u c = true) : PE X (.Constant c j p) (liftE G W L fun _ m => .ok u m) := by
  have go : ∀ {v : V}, PE X (.Constant c j p) (tC v) → (∀ io, Em io u v) → PE X (.Constant c j p) (liftE G W L fun _ m => .ok u m) := fun {v} h1 h2 => peOf h1 fun s H Q ⟨io, r, m, hR, hS, hp⟩ => Post.now hp hR (h2 io)
  cases u with
  | non => cases c <;> first | exact go pe_non fun _ => rfl | cases h
  | bl b =>
    cases c with
    | bool b' =>
      have e : b = b' := by simpa [cstB] using h
      subst e
      exact go pe_bl fun _ => rfl
    | _ => cases h
  | int b =>
    cases c with
    | int b' =>
      have e : b = b' := by simpa [cstB] using h
      subst e
      exact go pe_int fun _ => rfl
    | _ => cases h
  | str b =>
    cases c with
    | str b' =>
      have e : b = b' := by simpa [cstB] using h
      subst e
      exact go pe_str fun _ => rfl
    | _ => cases h
  | ref a => cases c <;> cases h

/-! ### built-ins by name -/
theorem blt_ok {G : Gd} {W : WX} {L : Nat} {X : Cx} {k : Nat} {cx : Ctx} (hX : XOk G k cx X) (hG : GOk G) {f : Bl} {e : Expr} {es : List Expr} {t : TA} {p pos : Pos} (hn : nameB cx (blName f) = true) (hes : (e :: es).all okX = true) (ha : PA X (e :: es) t) :
    PE X (.Call (.Name (blName f) p) (e :: es) [] pos) (tCB (rB G W L (blt2 f)) t) := by
  obtain ⟨hg, hd⟩ := hX.name hn
  rw [List.all_cons, Bool.and_eq_true] at hes
  have h1 := star_of (env := X.env) (es := es) hes.1
  have h2 := nostar_of (env := X.env) (pos := pos) hes.2
  cases f with
  | len => exact pe_callB (ok_len hX.hK) hg (hX.free hG (by decide)) (by decide +kernel) ha (by decide) hd h1 h2
  | int => exact pe_callTy ok_int hg (hX.free hG (by decide)) (by decide +kernel) ha (by decide) hd h1 h2
  | str => exact pe_callTy ok_str hg (hX.free hG (by decide)) (by decide +kernel) ha (by decide) hd h1 h2
  | list => exact pe_callTy (ok_list hX.hK) hg (hX.free hG (by decide)) (by decide +kernel) ha (by decide) hd h1 h2
  | tuple => exact pe_callTy (ok_tuple hX.hK) hg (hX.free hG (by decide)) (by decide +kernel) ha (by decide) hd h1 h2
  | sum => exact pe_callB (ok_sum hX.hK hX.calm) hg (hX.free hG (by decide)) (by decide +kernel) ha (by decide) hd h1 h2
  | max => exact pe_callB (ok_max hX.calm) hg (hX.free hG (by decide)) (by decide +kernel) ha (by decide) hd h1 h2
  | min => exact pe_callB (ok_min hX.calm) hg (hX.free hG (by decide)) (by decide +kernel) ha (by decide) hd h1 h2
  | abs => exact pe_callB ok_abs hg (hX.free hG (by decide)) (by decide +kernel) ha (by decide) hd h1 h2
  | any => exact pe_callB (ok_any hX.hK hX.calm) hg (hX.free hG (by decide)) (by decide +kernel) ha (by decide) hd h1 h2
  | all => exact pe_callB (ok_all hX.hK hX.calm) hg (hX.free hG (by decide)) (by decide +kernel) ha (by decide) hd h1 h2

/-! ### isinstance -/
theorem tyName_ok {G : Gd} {X : Cx} {k : Nat} {cx : Ctx} (hX : XOk G k cx X) (hG : GOk G) {t : String} {e : Expr} (h : tyName cx t e = true) : t ∈ tcL ∧ PE X e (tC (.ty t)) ∧ okX e = true := by
  cases e with
  | Name x p =>
    unfold tyName at h
    simp only [Bool.and_eq_true, decide_eq_true_eq] at h
    obtain ⟨h1, rfl, h2⟩ := h
    have ht : t ∈ tcL := by simpa using h2
    obtain ⟨hg, hd⟩ := hX.name h1
    refine ⟨ht, ?_, rfl⟩
    have hv : bootBuiltins (PySem.Str.ofString t) = some (.type t) ∧ PySem.Str.ofString t ∈ bnames ∧ PySem.Str.ofString t ≠ "__name__" := by
      simp only [tcL, List.mem_cons, List.mem_nil_iff, or_false] at ht
      rcases ht with rfl | rfl | rfl | rfl | rfl <;> exact ⟨by decide +kernel, by decide, by decide⟩
    exact pe_bltn hg (hX.free hG hv.2.1) hv.1 rfl hv.2.2 hd
  | _ => cases h
theorem tyNames_ok {G : Gd} {X : Cx} {k : Nat} {cx : Ctx} (hX : XOk G k cx X) (hG : GOk G) : ∀ {ts : List String} {es : List Expr}, tyNames cx ts es = true → (∀ t ∈ ts, t ∈ tcL) ∧ PA X es (fun s H Q => Q (ts.map V.ty) H) ∧ es.all okX = true
  | [], [], _ => ⟨(fun _ h => nomatch h), pa_nil, rfl⟩
  | t :: ts, e :: es, h => by
    unfold tyNames at h
    rw [Bool.and_eq_true] at h
    obtain ⟨a1, a2, a3⟩ := tyName_ok hX hG h.1
    obtain ⟨b1, b2, b3⟩ := tyNames_ok hX hG h.2
    refine ⟨fun x hx => ?_, ?_, ?_⟩
    · rcases List.mem_cons.mp hx with rfl | hx
      · exact a1
      · exact b1 x hx
    · exact paOf (pa_cons a2 b2 (star_of a3)) fun s H Q q => q
    · rw [List.all_cons, a3, b3]
      rfl
theorem tys_paired : ∀ ts : List String, Paired ClsV (ts.map V.ty) (ts.map Value.type)
  | [] => .nil
  | t :: r => .cons (.ty t) (tys_paired r)
end Py
set_option maxHeartbeats 4000000
/-! MINI PYTHON, part C4: every matched expression keeps to its run. -/
namespace Py
open PySem PySem.Spec PyProof.Rows L2

theorem and2 {a b : Bool} (h : (a && b) = true) : a = true ∧ b = true := Bool.and_eq_true_iff.mp h
theorem okes_of {cx : Ctx} : ∀ {as : MEs} {es : List Expr}, matEs cx as es = true → es.all okX = true
  | .nil, [], _ => rfl
  | .cons a as, e :: es, h => by
    have h' : (okX e && (matE cx a e && matEs cx as es)) = true := h
    obtain ⟨h1, h2⟩ := and2 h'
    obtain ⟨_, h3⟩ := and2 h2
    rw [List.all_cons, h1, okes_of h3]
    rfl
  | .nil, _ :: _, h => by cases h
  | .cons _ _, [], h => by cases h

section
variable {G : Gd} {W : WX} {L : Nat} {X : Cx} {cl : Cl} {k : Nat} {cx : Ctx}
/-- what is asked of an exception of a callee -/
def WE (W : WX) (L : Nat) : XK := fun c d H => ∀ s : L2.St, s.length = L → W c d s H
theorem passW (tk : Takes X W) (hL : X.N.length = L) : Passes (L2.CX X.prog X.w) X (WE W L) := fun pins σ H s e s' I c => tk e s' (XE.of_call I (fun cls d H' h => h σ (I.len.trans hL)) c)
theorem post_call {Q : VK} {io : List Addr} {r : R U} (h : Post G W L Em Q io r) : Post G (fun c d _ H' => WE W L c d H') 0 Em Q io r := by
  cases r with
  | ok u m => exact h
  | ex e m => exact fun i H s c d p hR _ hx s' hs => h i H s' c d p hR hs hx
  | stuck => exact h
theorem liftA_imp {fs : Env → M → R (List U)} {s : L2.St} {H : Hp} {Q Q' : List V → Hp → Prop} (h : liftA G W L fs s H Q) (f : ∀ vs H, Q vs H → Q' vs H) : liftA G W L fs s H Q' := by
  obtain ⟨io, r, m, hR, hS, hp⟩ := h
  exact ⟨io, r, m, hR, hS, hp.imp f⟩
theorem liftE_imp {fs : Env → M → R U} {s : L2.St} {H : Hp} {Q Q' : VK} (h : liftE G W L fs s H Q) (f : ∀ vs H, Q vs H → Q' vs H) : liftE G W L fs s H Q' := by
  obtain ⟨io, r, m, hR, hS, hp⟩ := h
  exact ⟨io, r, m, hR, hS, hp.imp f⟩
/-- a call of a def -/
theorem call_run (hX : XOk G k cx X) (hF : FsOk G cl k) (tk : Takes X W) {f : Str} {as : MEs} {es : List Expr} {p pos : Pos} (hn : nameB cx f = true) (hm : f ∈ cx.fns) (hes : matEs cx as es = true) (ha : PA X es (liftA G W cx.N.length (evs G.pg cl as))) :
    PE X (.Call (.Name f p) es [] pos) (liftE G W cx.N.length (ev G.pg cl (.call f as))) := by
  obtain ⟨hg, hd⟩ := hX.name hn
  obtain ⟨d, hfd⟩ := hX.fns f hm
  obtain ⟨fa, fd, ps, h1, h2, h3, h4, h5, _⟩ := hF.fn f d hfd
  have hL : X.N.length = cx.N.length := by rw [hX.hN]
  rw [← hX.hP, ← hX.hw, ← hX.hK, ← hX.hm, ← hX.hb] at h5
  rw [← hX.hm] at h1
  rw [← hX.hK] at h2 h3
  have imp : ∀ {vs : List V} {H : Hp} {Q : VK}, rB G W cx.N.length (cl f) vs H Q → spM G cl f d.ps (vs ++ []) H Q (WE W cx.N.length) := fun {vs H Q} ⟨io, us, m, hR, e, hp⟩ => by
    rw [List.append_nil]
    by_cases hl : us.length = d.ps
    · exact ⟨io, us, m, hR, e, hl, post_call hp⟩
    · rw [hF.len f d us m hfd hl] at hp
      exact hp.elim
  match as, es, hes with
  | .nil, [], hes =>
    refine peOf (pe_call0 h5 hX.room hg h1 h2 h3 .nil (passW tk hL) hd) fun s H Q h => ?_
    obtain ⟨io, r, m, hR, hS, hp⟩ := h
    exact imp (vs := []) ⟨io, [], m, hR, .nil, hp⟩
  | .cons a as, e :: es, hes =>
    have hk := okes_of hes
    rw [List.all_cons, Bool.and_eq_true] at hk
    refine peOf (pe_call h5 hX.room hg h1 h2 h3 .nil (passW tk hL) ha hd (star_of hk.1) (nostar_of hk.2)) fun s H Q h => ?_
    exact liftA_imp (lift_args h) fun vs H q => imp q
end

/-! ### keywords -/
theorem kwA_of {ks : List Str} {ws : List Keyword} {env : PySem.Env} {pos : Pos} (h : Kws ks ws) : (backToKw pos (keywordEach ws env)).all (·.1.isSome) = true := by
  induction h with
  | nil => rfl
  | cons _ ih =>
    show (true && (backToKw pos (keywordEach _ env)).all (·.1.isSome)) = true
    rw [ih]
    rfl
theorem kwF_of {ks : List Str} {ws : List Keyword} {env : PySem.Env} {pos : Pos} (h : Kws ks ws) : (backToKw pos (keywordEach ws env)).filterMap (·.1) = ks := by
  induction h with
  | nil => rfl
  | cons _ ih =>
    show _ :: (backToKw pos (keywordEach _ env)).filterMap (·.1) = _
    rw [ih]
theorem kwN_of {ks : List Str} {ws : List Keyword} {env : PySem.Env} {pos : Pos} (h : Kws ks ws) : ((backTo pos (starEach [] env)).any (·.1) || (backToKw pos (keywordEach ws env)).any (·.1.isNone)) = false := by
  induction h with
  | nil => rfl
  | cons _ ih =>
    show (false || (backToKw pos (keywordEach _ env)).any (·.1.isNone)) = false
    exact ih
section
variable {X : Cx} {CX : CXT} {k : Nat} {f : Addr} {fd : FuncData} {ps ks : List Str} {sp : Sp} {E : XK} {x : Str} {p pos : Pos} {kws : List Keyword} {tk : TA} {g : List Value → List Value → List Value} {gV : List V → List V → List V}
theorem pe_callK0 (F : FnOk X.prog X.w X.K X.mg X.base CX k f fd ps sp) (hr : Room k X.A) (hg : Gl X x) (hm : X.mg x = some (.ref f)) (hk : PySem.W.keepIn X.K (.ref f) = true) (hb : KBinds X.K fd ps ks g gV) (hx : Passes CX X E)
    (hkw : PK X kws tk) (hw : Kws ks kws) (hdb : (x == ("__debug__" : Str)) = false) :
    PE X (.Call (.Name x p) [] kws pos) (fun σ H Q => tk σ H fun zs H2 => sp (gV [] zs) H2 Q E) := by
  refine ⟨fun pins s σ H Q I h => ?_⟩
  refine wpAny_Call_Name_kw (ld_glob I hg hm ?_ hdb)
  refine PySem.W.callWith_KW0 (h₀ := X.base) I.ok.mod.kin hk (kwA_of hw) (thn (hkw.run pos pins s σ H _ I h) fun ws s2 ⟨zs, H2, I2, rz, q2⟩ => ⟨I2.kIn, ?_⟩) (kwN_of hw)
  rw [kwF_of hw]
  exact run_fnk F hr hb hx I2 .nil rz q2
end
section
variable {G : Gd} {W : WX} {L : Nat} {X : Cx} {cl : Cl} {k : Nat} {cx : Ctx}
theorem callk_run (hX : XOk G k cx X) (hF : FsOk G cl k) (tk : Takes X W) {f : Str} {ks : List Str} {as : MEs} {ws : List Keyword} {p pos : Pos} (hn : nameB cx f = true) (hm : (f, ks) ∈ cx.kws) (hw : Kws ks ws) (ha : PK X ws (liftA G W cx.N.length (evs G.pg cl as))) :
    PE X (.Call (.Name f p) [] ws pos) (liftE G W cx.N.length (ev G.pg cl (.callk f ks as))) := by
  obtain ⟨hg, hd⟩ := hX.name hn
  obtain ⟨⟨d, hfd⟩, kw1, kw2⟩ := hX.kws _ hm
  obtain ⟨fa, fd, ps, h1, h2, h3, h4, h5, h6⟩ := hF.fn f d hfd
  dsimp only at kw1 kw2
  obtain ⟨e6, h6⟩ := h6 (kw1 ▸ kw2)
  have hL : X.N.length = cx.N.length := by rw [hX.hN]
  rw [← hX.hP, ← hX.hw, ← hX.hK, ← hX.hm, ← hX.hb] at h5
  rw [← hX.hm] at h1
  rw [← hX.hK] at h2 h6
  have e7 : ps = ks := e6.trans kw1
  subst e7
  refine peOf (pe_callK0 h5 hX.room hg h1 h2 h6 (passW tk hL) ha hw hd) fun s H Q h => ?_
  refine liftA_imp (lift_args h) fun vs H q => ?_
  obtain ⟨io, us, m, hR, e, hp⟩ := q
  dsimp only at hp
  show spM G cl f d.ps vs H Q (WE W cx.N.length)
  by_cases hl : us.length = d.ps
  · exact ⟨io, us, m, hR, e, hl, post_call hp⟩
  · rw [hF.len f d us m hfd hl] at hp
    exact hp.elim
end

/-! ### what a loop walks -/
/-- the abstract iterator of a mini one -/
inductive ITR (G : Gd) (io : List Addr) : IT → It → Prop where
  | rng (lo : Int) (n : Nat) : ITR G io (.rng lo n) (Itr lo n)
  | sqL {a : Nat} {p : Addr} {xs : List U} (e : io[a]? = some p) : ITR G io (.sq true a xs) (Itl G.K p)
  | sqT {a : Nat} {p : Addr} {xs : List U} (e : io[a]? = some p) : ITR G io (.sq false a xs) (Itt G.K p)
  | en {a : Nat} {p : Addr} {xs : List U} (e : io[a]? = some p) : ITR G io (.en a xs) (Ite G.K p)
  | zp {a b : Nat} {p q : Addr} {xs ys : List U} (e : io[a]? = some p) (e2 : io[b]? = some q) : ITR G io (.zp a b xs ys) (Itz G.K p q)
theorem ITR.mono {G : Gd} {io io' : List Addr} (p : io <+: io') {t : IT} {J : It} (h : ITR G io t J) : ITR G io' t J := by
  cases h with
  | rng lo n => exact .rng lo n
  | sqL e => exact .sqL (pre_get p e)
  | sqT e => exact .sqT (pre_get p e)
  | en e => exact .en (pre_get p e)
  | zp e e2 => exact .zp (pre_get p e) (pre_get p e2)
def liftI (G : Gd) (W : WX) (L : Nat) (f : Env → M → R IT) : TI := fun s H R => ∃ io r m, RelH G io m H ∧ Sl L io r s ∧ Post G W L (ITR G) R io (f r m)
/-- a mini item at a turn -/
def IR (G : Gd) (io : List Addr) (H : Hp) : List U → V → Prop
  | [u], v => Em io u v
  | [u, w], v => ∃ a x y, v = .ref a ∧ H a = some (.tup [x, y]) ∧ Em io u x ∧ Em io w y
  | _, _ => False
theorem enu_get : ∀ {xs : List U} {i k : Nat} {x : List U}, (enuF k xs)[i]? = some x → ∃ u, xs[i]? = some u ∧ x = [.int ((k + i : Nat) : Int), u]
  | [], _, _, _, h => by simp [enuF] at h
  | u :: r, 0, k, x, h => by simp [enuF] at h; exact ⟨u, rfl, by rw [← h]; rfl⟩
  | u :: r, i + 1, k, x, h => by
    simp only [enuF, List.getElem?_cons_succ] at h
    obtain ⟨w, h1, h2⟩ := enu_get h
    exact ⟨w, by simpa using h1, by rw [h2, show k + 1 + i = k + (i + 1) by omega]⟩
theorem enu_len : ∀ {xs : List U} {k : Nat}, (enuF k xs).length = xs.length
  | [], _ => rfl
  | _ :: r, k => congrArg Nat.succ (enu_len (xs := r) (k := k + 1))
theorem zip_get : ∀ {xs ys : List U} {i : Nat} {x : List U}, (zipF xs ys)[i]? = some x → ∃ u w, xs[i]? = some u ∧ ys[i]? = some w ∧ x = [u, w]
  | [], _, _, _, h => by simp [zipF] at h
  | _ :: _, [], _, _, h => by simp [zipF] at h
  | u :: r, w :: s, 0, x, h => by simp [zipF] at h; exact ⟨u, w, rfl, rfl, h.symm⟩
  | u :: r, w :: s, i + 1, x, h => by
    simp only [zipF, List.getElem?_cons_succ] at h
    obtain ⟨a, b, h1, h2, h3⟩ := zip_get h
    exact ⟨a, b, by simpa using h1, by simpa using h2, h3⟩
theorem zip_len : ∀ {xs ys : List U}, (zipF xs ys).length = min xs.length ys.length
  | [], _ => by simp [zipF]
  | _ :: _, [] => by simp [zipF]
  | _ :: r, _ :: s => by
    simp only [zipF, List.length_cons]
    rw [zip_len (xs := r) (ys := s)]
    omega
theorem rng_get : ∀ {n i : Nat} {lo : Int} {x : List U}, (rngF lo n)[i]? = some x → i < n ∧ x = [.int (lo + i)]
  | 0, _, _, _, h => by simp [rngF] at h
  | n + 1, 0, lo, x, h => by simp [rngF] at h; exact ⟨by omega, by rw [← h]; simp⟩
  | n + 1, i + 1, lo, x, h => by
    simp only [rngF, List.getElem?_cons_succ] at h
    obtain ⟨h1, h2⟩ := rng_get h
    exact ⟨by omega, by rw [h2]; congr 2; omega⟩
theorem rng_len : ∀ {n : Nat} {lo : Int}, (rngF lo n).length = n
  | 0, _ => rfl
  | n + 1, lo => congrArg Nat.succ (rng_len (n := n))
/-- a further tracked object beside the mini heap -/
theorem RelH.side {G : Gd} {io : List Addr} {m : M} {H : Hp} (h : RelH G io m H) {p : Addr} {u : HO} (hp : H p = none) : RelH G io m (upd H p u) :=
  ⟨h.len, fun i o a e1 e2 => (h.obj i o a e1 e2).mono (List.prefix_refl _) fun x hx => by rw [upd_ne (ne_of_none hx hp)]; exact hx, h.inj, h.glo⟩
section
variable {G : Gd} {io : List Addr} {m : M} {H : Hp} {t : IT} {J : It}
theorem it_go (hR : RelH G io m H) (h : ITR G io t J) (ok : t.ok m = true) {i : Nat} {x : List U} (hx : t.items[i]? = some x) :
    J.go i H ∧ ∀ v H', J.yld i H v H' → RelH G io m H' ∧ IR G io H' x v := by
  cases h with
  | rng lo n =>
    obtain ⟨h1, rfl⟩ := rng_get hx
    refine ⟨h1, fun v H' y => ?_⟩
    obtain ⟨rfl, rfl⟩ := y
    exact ⟨hR, rfl⟩
  | @sqL a p xs e =>
    have ok' : lsOf m a = some xs := of_decide_eq_true ok
    obtain ⟨vs, h1, h2⟩ := hR.ls ok' e
    simp only [IT.items, List.getElem?_map, Option.map_eq_some_iff] at hx
    obtain ⟨u, hu, rfl⟩ := hx
    obtain ⟨v, hv, ev⟩ := Paired.at' h1 hu
    refine ⟨⟨vs, v, h2, hv⟩, fun z H' y => ?_⟩
    obtain ⟨rfl, y⟩ := y
    have := y vs h2
    rw [hv] at this
    cases this
    exact ⟨hR, ev⟩
  | @sqT a p xs e =>
    have ok' : tpOf m a = some xs := of_decide_eq_true ok
    obtain ⟨vs, h1, h2⟩ := hR.tp ok' e
    simp only [IT.items, List.getElem?_map, Option.map_eq_some_iff] at hx
    obtain ⟨u, hu, rfl⟩ := hx
    obtain ⟨v, hv, ev⟩ := Paired.at' h1 hu
    refine ⟨⟨vs, v, h2, hv⟩, fun z H' y => ?_⟩
    obtain ⟨rfl, y⟩ := y
    have := y vs h2
    rw [hv] at this
    cases this
    exact ⟨hR, ev⟩
  | @en a p xs e =>
    have ok' : lsOf m a = some xs := of_decide_eq_true ok
    obtain ⟨vs, h1, h2⟩ := hR.ls ok' e
    obtain ⟨u, hu, rfl⟩ := enu_get hx
    obtain ⟨v, hv, ev⟩ := Paired.at' h1 hu
    refine ⟨⟨vs, v, h2, hv⟩, fun z H' y => ?_⟩
    obtain ⟨T, w, rfl, hT, rfl, y⟩ := y
    have := y vs h2
    rw [hv] at this
    cases this
    exact ⟨hR.side hT, T, _, _, rfl, upd_same, by rw [Nat.zero_add]; rfl, ev⟩
  | @zp a b p q xs ys e e2 =>
    obtain ⟨o1, o2⟩ := and2 ok
    obtain ⟨vs, h1, h2⟩ := hR.ls (of_decide_eq_true o1) e
    obtain ⟨ws, h3, h4⟩ := hR.ls (of_decide_eq_true o2) e2
    obtain ⟨u, w, hu, hw, rfl⟩ := zip_get hx
    obtain ⟨v, hv, ev⟩ := Paired.at' h1 hu
    obtain ⟨v2, hv2, ev2⟩ := Paired.at' h3 hw
    refine ⟨⟨vs, ws, v, v2, h2, h4, hv, hv2⟩, fun z H' y => ?_⟩
    obtain ⟨T, c, d, rfl, hT, rfl, y1, y2⟩ := y
    have z1 := y1 vs h2
    have z2 := y2 ws h4
    rw [hv] at z1
    rw [hv2] at z2
    cases z1
    cases z2
    exact ⟨hR.side hT, T, _, _, rfl, upd_same, ev, ev2⟩
theorem it_stop (hR : RelH G io m H) (h : ITR G io t J) (ok : t.ok m = true) {i : Nat} (hi : t.items.length ≤ i) : J.stop i H := by
  cases h with
  | rng lo n =>
    simp only [IT.items, rng_len] at hi
    exact hi
  | @sqL a p xs e =>
    have ok' : lsOf m a = some xs := of_decide_eq_true ok
    obtain ⟨vs, h1, h2⟩ := hR.ls ok' e
    simp only [IT.items, List.length_map] at hi
    exact ⟨vs, h2, by rw [← Paired.len h1]; exact hi⟩
  | @sqT a p xs e =>
    have ok' : tpOf m a = some xs := of_decide_eq_true ok
    obtain ⟨vs, h1, h2⟩ := hR.tp ok' e
    simp only [IT.items, List.length_map] at hi
    exact ⟨vs, h2, by rw [← Paired.len h1]; exact hi⟩
  | @en a p xs e =>
    have ok' : lsOf m a = some xs := of_decide_eq_true ok
    obtain ⟨vs, h1, h2⟩ := hR.ls ok' e
    simp only [IT.items, enu_len] at hi
    exact ⟨vs, h2, by rw [← Paired.len h1]; exact hi⟩
  | @zp a b p q xs ys e e2 =>
    obtain ⟨o1, o2⟩ := and2 ok
    obtain ⟨vs, h1, h2⟩ := hR.ls (of_decide_eq_true o1) e
    obtain ⟨ws, h3, h4⟩ := hR.ls (of_decide_eq_true o2) e2
    simp only [IT.items, zip_len] at hi
    refine ⟨vs, ws, h2, h4, ?_⟩
    rw [← Paired.len h1, ← Paired.len h3]
    omega
end

/-! ### targets -/
def gNs : List Nat → TGs
  | [] => gNil
  | i :: is => gCons (gName i) (gNs is)
def gT (K : PySem.W.Frag) : Tg → TG
  | .nm i => gName i
  | .tp is => gTup K is.length (gNs is)
section
variable {G : Gd} {k : Nat} {cx : Ctx} {X : Cx} (hX : XOk G k cx X)
include hX
theorem tgs_ok : ∀ {is : List Nat} {es : List Expr}, matTs cx is es = true → PGs X es (gNs is) ∧ (assignEach es X.env).length = is.length ∧ (assignEach es X.env).findIdx? (·.1) = none
  | [], [], _ => ⟨pgs_nil, rfl, rfl⟩
  | i :: is, .Name x p :: es, h => by
    have h' : (storB cx i x && matTs cx is es) = true := h
    obtain ⟨h1, h2⟩ := and2 h'
    obtain ⟨a, b, c⟩ := hX.stor h1
    obtain ⟨g1, g2, g3⟩ := tgs_ok h2
    refine ⟨pgs_cons (pg_name hX.nd a b c) g1 rfl, ?_, ?_⟩
    · show (assignEach es X.env).length + 1 = is.length + 1
      rw [g2]
    · show List.findIdx? (·.1) ((false, assign (.Name x p) X.env) :: assignEach es X.env) = none
      rw [List.findIdx?_cons, g3]
      rfl
theorem tg_ok {tg : Tg} {e : Expr} (h : matTg cx tg e = true) : PG X e (gT X.K tg) := by
  match tg, e, h with
  | .nm i, .Name x p, h =>
    obtain ⟨a, b, c⟩ := hX.stor h
    exact pg_name hX.nd a b c
  | .tp is, .Tuple es kk p, h =>
    obtain ⟨g1, g2, g3⟩ := tgs_ok hX h
    exact pg_tup hX.calm g1 g2 g3
end
theorem setS_len : ∀ {is : List Nat} {us : List U} {r r' : Env}, setS r is us = some r' → us.length = is.length
  | [], [], _, _, _ => rfl
  | i :: is, u :: us, r, r', h => congrArg Nat.succ (setS_len (is := is) (us := us) (r := r.set i (some u)) h)
  | [], _ :: _, _, _, h => by cases h
  | _ :: _, [], _, _, h => by cases h
/-- nothing changes but at these places -/
def Off (is : List Nat) (s s' : L2.St) : Prop := ∀ j, j ∉ is → s'[j]? = s[j]?
theorem setS_run {L : Nat} {io : List Addr} {H : Hp} {Q : L2.St → Hp → Prop} : ∀ {is : List Nat} {us : List U} {vs : List V} {r r' : Env} {s : L2.St}, setS r is us = some r' → Ems io us vs → Sl L io r s → (∀ s', Sl L io r' s' → Off is s s' → Q s' H) → gNs is vs s H Q
  | [], [], _, r, r', s, h, .nil, hs, q => by cases h; exact ⟨rfl, q s hs fun _ _ => rfl⟩
  | i :: is, u :: us, _, r, r', s, h, .cons e t, hs, q => ⟨_, _, rfl, setS_run (is := is) (us := us) h t (hs.set i e) fun s' h1 h2 => q s' h1 fun j hj => by
      rw [h2 j fun z => hj (List.mem_cons_of_mem _ z)]
      exact List.getElem?_set_ne fun z => hj (by rw [z]; exact List.mem_cons_self)⟩
  | [], _ :: _, _, _, _, _, h, _, _, _ => by cases h
  | _ :: _, [], _, _, _, _, h, _, _, _ => by cases h
/-- a target takes an item -/
theorem asg_run {G : Gd} {L : Nat} {io : List Addr} {m m' : M} {H : Hp} {s : L2.St} {r r' : Env} {tg : Tg} {x : List U} {v : V} {Q : L2.St → Hp → Prop} (hR : RelH G io m H) (hS : Sl L io r s) (hx : IR G io H x v) (h : asgT tg x r m = .ok r' m')
    (q : ∀ s', Sl L io r' s' → Off (tgSlots tg) s s' → Q s' H) : m' = m ∧ gT G.K tg v s H Q := by
  match tg, x, hx, h with
  | .nm i, [u], hx, h => cases h; exact ⟨rfl, q _ (hS.set i hx) fun j hj => List.getElem?_set_ne fun z => hj (by rw [z]; exact List.mem_singleton.mpr rfl)⟩
  | .tp is, [.ref a], hx, h =>
    obtain ⟨p, e, rfl⟩ := hx
    simp only [asgT] at h
    cases hq : tpOf m a with
    | none => rw [hq] at h; cases h
    | some xs =>
      rw [hq] at h
      simp only at h
      cases hs : setS r is xs with
      | none => rw [hs] at h; cases h
      | some r1 =>
        rw [hs] at h
        cases h
        obtain ⟨vs, h1, h2⟩ := hR.tp hq e
        exact ⟨rfl, p, vs, rfl, h2, by rw [← Paired.len h1]; exact setS_len hs, setS_run hs h1 hS q⟩
  | .tp is, [u, w], hx, h =>
    obtain ⟨p, a, b, rfl, hp, e1, e2⟩ := hx
    simp only [asgT] at h
    cases hs : setS r is [u, w] with
    | none => rw [hs] at h; cases h
    | some r1 =>
      rw [hs] at h
      cases h
      exact ⟨rfl, p, _, rfl, SqT.of hp, by rw [← setS_len hs]; rfl, setS_run hs (.cons e1 (.cons e2 .nil)) hS q⟩

/-! ### wiped slots -/
theorem wipe_get (s : L2.St) (j : Nat) : ∀ vs : List Nat, (L2.wipe s vs)[j]? = if j ∈ vs ∧ j < s.length then some none else s[j]?
  | [] => by simp [L2.wipe]
  | v :: vs => by
    unfold L2.wipe
    by_cases hv : v = j
    · subst hv
      by_cases hl : v < s.length
      · rw [List.getElem?_set_self (by rw [wipe_length]; exact hl), if_pos ⟨List.mem_cons_self, hl⟩]
      · rw [List.getElem?_eq_none (by rw [List.length_set, wipe_length]; omega), if_neg (by omega), List.getElem?_eq_none (by omega)]
    · rw [List.getElem?_set_ne hv, wipe_get s j vs]
      by_cases hm : j ∈ vs ∧ j < s.length
      · rw [if_pos hm, if_pos ⟨List.mem_cons_of_mem _ hm.1, hm.2⟩]
      · rw [if_neg hm, if_neg fun z => hm ⟨(List.mem_cons.mp z.1).resolve_left (fun e => hv e.symm), z.2⟩]
theorem wipe_eq {s s' : L2.St} {is vs : List Nat} (hl : s'.length = s.length) (h : Off is s s') (hi : ∀ i ∈ is, i ∈ vs) : L2.wipe s' vs = L2.wipe s vs := by
  apply List.ext_getElem?
  intro j
  rw [wipe_get, wipe_get, hl]
  by_cases hj : j ∈ vs ∧ j < s.length
  · rw [if_pos hj, if_pos hj]
  · rw [if_neg hj, if_neg hj]
    by_cases hm : j ∈ vs
    · have hn : ¬ j < s.length := fun z => hj ⟨hm, z⟩
      rw [List.getElem?_eq_none (by omega), List.getElem?_eq_none (by omega)]
    · exact h j fun z => hm (hi j z)
theorem wipe_wipe (s : L2.St) (vs : List Nat) : L2.wipe (L2.wipe s vs) vs = L2.wipe s vs := by
  apply List.ext_getElem?
  intro j
  rw [wipe_get, wipe_get, wipe_length]
  by_cases hj : j ∈ vs ∧ j < s.length
  · rw [if_pos hj, if_pos hj]
  · rw [if_neg hj, if_neg hj]

/-! ### comprehensions -/
abbrev W0 : WX := fun _ _ _ _ => False
theorem post_noex {G : Gd} {W : WX} {L : Nat} {A B : Type} {T : List Addr → A → B → Prop} {Q : B → Hp → Prop} {io : List Addr} {r : R A} (h : Post G W L T Q io (noEx r)) : Post G W0 L T Q io r := by
  cases r with
  | ok a m => exact h
  | ex e m => exact h.elim
  | stuck => exact h.elim
theorem xok_blk {G : Gd} {k : Nat} {cx : Ctx} {X : Cx} (hX : XOk G k cx X) (scope : Scope) (s : Shared) (H : Hp) (C : Addr) (cl : List (Str × Addr)) (fp : List Addr) : XOk G k (cx.blk scope) (X.blk s H scope (compEnvC scope cl C X.env) fp) where
  hP := hX.hP
  hw := hX.hw
  hK := hX.hK
  hm := hX.hm
  hb := hX.hb
  calm := hX.calm
  hN := hX.hN
  nd := hX.nd
  hs := by
    show relS scope X.env.scope = relS scope cx.sc
    rw [hX.hs]
  hf := fun x h => h
  room := hX.room
  fns := hX.fns
  hpg := hX.hpg
  kws := hX.kws
section
variable {G : Gd} {W : WX} {L : Nat} {cl : Cl}
def lcTurn (g : Pg) (cl : Cl) (elt c : ME) (D : Nat) (r1 : Env) (m2 : M) : R Unit := (evT g cl c r1 m2).bind fun k m4 => if k = true then (ev g cl elt r1 m4).bind fun u m5 => pushTo D u m5 else .ok () m4
theorem ev_lc' {elt : ME} {tg : Tg} {it : MI} {c : ME} {own : List Nat} {r : Env} {m : M} : ev G.pg cl (.lc elt tg it c own) r m = (evi G.pg cl it r m).bind fun t m1 =>
    noEx ((lcL t tg (wipeU r own) (lcTurn G.pg cl elt c m1.length) t.items (m1 ++ [.lst []])).bind fun _ m6 => .ok (.ref m1.length) m6) := by
  rw [ev_lc]
  congr
  funext t m1
  congr
  funext r1 m2
  unfold lcTurn evT
  rw [bind_assoc]
theorem pushTo_run {io : List Addr} {m : M} {H : Hp} {D : Nat} {p : Addr} {u : U} {v : V} {A B : Type} {T : List Addr → A → B → Prop} {Q : B → Hp → Prop} {g : Unit → M → R A} (hR : RelH G io m H) (hD : io[D]? = some p) (e : Em io u v) (h : Post G W L T Q io ((pushTo D u m).bind g)) :
    ∃ acc m', H p = some (.lst acc) ∧ acc.length < sizeLine ∧ RelH G io m' (upd H p (.lst (acc ++ [v]))) ∧ Post G W L T Q io (g () m') := by
  unfold pushTo at h
  cases hm : m[D]? with
  | none => rw [hm] at h; exact h.elim
  | some o =>
    rw [hm] at h
    cases o with
    | lst acc =>
      simp only at h
      by_cases hc : acc.length < SL
      · rw [if_pos hc] at h
        obtain ⟨vs, h1, h2⟩ := hR.lst hm hD
        exact ⟨vs, _, h2, by rw [← Paired.len h1, ← SL_eq]; exact hc, hR.put hD hm (Paired.app h1 (.cons e .nil)), h⟩
      · rw [if_neg hc] at h
        exact h.elim
    | _ => exact h.elim
theorem drop_get {A : Type} {l : List A} {i : Nat} (h : i < l.length) : l.drop i = l[i] :: l.drop (i + 1) := List.drop_eq_getElem_cons h
theorem lc_read {elt : ME} {tg : Tg} {it : MI} {c : ME} {own : List Nat} {s : L2.St} {H : Hp} {Q : VK} (htg : ∀ i ∈ tgSlots tg, i ∈ own) (h : liftE G W L (ev G.pg cl (.lc elt tg it c own)) s H Q) :
    tLc (liftI G W L (evi G.pg cl it)) (gT G.K tg) (liftT G W0 L (evT G.pg cl c)) (liftE G W0 L (ev G.pg cl elt)) own s H Q := by
  obtain ⟨io, r, m, hR, hS, hp⟩ := h
  rw [ev_lc'] at hp
  refine ⟨io, r, m, hR, hS, (Post.bind hp).imp ?_⟩
  rintro J H1 ⟨io1, t, m1, p1, hR1, hJ, hp1⟩ D hD
  have hp2 := post_noex hp1
  have hl := hR1.len
  have hDio : (io1 ++ [D])[m1.length]? = some D := by rw [← hl]; simp
  refine ⟨fun i n H' => n = t.items.length - i ∧ i ≤ t.items.length ∧ ∃ io' m', (io1 ++ [D]) <+: io' ∧ RelH G io' m' H' ∧
    Post G W0 L Em Q io' ((lcL t tg (wipeU r own) (lcTurn G.pg cl elt c m1.length) (t.items.drop i) m').bind fun _ m6 => .ok (.ref m1.length) m6),
    ⟨_, rfl, Nat.zero_le _, io1 ++ [D], _, List.prefix_refl _, hR1.lay hD (o := .lst []) ⟨[], .nil, upd_same⟩, Post.up hp2 pre1⟩, ?_⟩
  rintro i n H' ⟨rfl, hi, io', m', pre, hR', hp'⟩
  have hJ' : ITR G io' t J := (hJ.mono pre1).mono pre
  have hD' : io'[m1.length]? = some D := pre_get pre hDio
  by_cases hlt : i < t.items.length
  · refine .inr ?_
    rw [drop_get hlt] at hp'
    unfold lcL at hp'
    by_cases ok : t.ok m' = true
    · rw [if_pos ok] at hp'
      have hx : t.items[i]? = some t.items[i] := by simp [hlt]
      obtain ⟨go, yl⟩ := it_go hR' hJ' ok hx
      refine ⟨go, fun H'' => t.items.length - (i + 1) = t.items.length - (i + 1) ∧ i + 1 ≤ t.items.length ∧ ∃ io' m', (io1 ++ [D]) <+: io' ∧ RelH G io' m' H'' ∧
        Post G W0 L Em Q io' ((lcL t tg (wipeU r own) (lcTurn G.pg cl elt c m1.length) (t.items.drop (i + 1)) m').bind fun _ m6 => .ok (.ref m1.length) m6), fun H'' q => ⟨_, by omega, q⟩, fun v H'' y => ?_⟩
      obtain ⟨hR2, hIR⟩ := yl v H'' y
      have hS' : Sl L io' (wipeU r own) (L2.wipe s own) := (hS.mono (p1.trans (pre1.trans pre))).wipe own
      cases ha : asgT tg t.items[i] (wipeU r own) m' with
      | stuck => rw [ha] at hp'; exact hp'.elim
      | ex e me => 
        exfalso
        revert ha
        unfold asgT
        split
        · intro z; cases z
        · split <;> (try split) <;> intro z <;> cases z
        · split <;> intro z <;> cases z
        · intro z; cases z
      | ok r1 m2 =>
        obtain rfl : m2 = m' := (asg_run (Q := fun _ _ => True) hR2 hS' hIR ha fun _ _ _ => trivial).1
        refine (asg_run hR2 hS' hIR ha fun s2 hS2 off => ?_).2
        · refine ⟨?_, ?_⟩
          · rw [wipe_eq (s := L2.wipe s own) (hS2.len'.trans hS'.len'.symm) off htg, wipe_wipe]
          · rw [ha] at hp'
            have hp3 : Post G W0 L Em Q io' ((evT G.pg cl c r1 m2).bind fun kk m4 => (if kk = true then (ev G.pg cl elt r1 m4).bind fun u m5 => pushTo m1.length u m5 else .ok () m4).bind fun _ m3 =>
                (lcL t tg (wipeU r own) (lcTurn G.pg cl elt c m1.length) (t.items.drop (i + 1)) m3).bind fun _ m6 => .ok (.ref m1.length) m6) := by
              have e := hp'
              simp only [bind_ok, bind_assoc, lcTurn] at e ⊢
              exact e
            refine ⟨io', r1, m2, hR2, hS2, (Post.bind hp3).imp ?_⟩
            rintro b H3 ⟨io3, kk, m4, p3, hR3, rfl, hp4⟩
            dsimp only at hp4
            cases kk with
            | false =>
              rw [if_neg Bool.false_ne_true] at hp4
              exact iteF ⟨rfl, hlt, io3, m4, pre.trans p3, hR3, hp4⟩
            | true =>
              rw [if_pos rfl, bind_assoc] at hp4
              refine iteT ⟨io3, r1, m4, hR3, hS2.mono p3, (Post.bind hp4).imp ?_⟩
              rintro y H4 ⟨io4, u, m5, p4, hR4, e4, hp5⟩
              obtain ⟨acc, m6, a1, a2, a3, a4⟩ := pushTo_run hR4 (pre_get (p3.trans p4) hD') e4 hp5
              exact ⟨acc, a1, a2, rfl, hlt, io4, m6, (pre.trans p3).trans p4, a3, a4⟩
    · rw [if_neg ok] at hp'
      exact hp'.elim
  · refine .inl ?_
    have he : t.items.drop i = [] := List.drop_eq_nil_of_le (by omega)
    rw [he] at hp'
    unfold lcL at hp'
    by_cases ok : t.ok m' = true
    · rw [if_pos ok] at hp'
      exact ⟨it_stop hR' hJ' ok (by omega), Post.now hp' hR' ⟨D, hD', rfl⟩⟩
    · rw [if_neg ok] at hp'
      exact hp'.elim
/-- the clause of a comprehension, for any turn: B what a turn's reading asks, Nx what it is to reach -/
theorem lcl_read {A : Type} {t : IT} {J : It} {tg : Tg} {own : List Nat} {r0 : Env} {s0 : L2.St} {turn : Env → M → R Unit} {fin : Unit → M → R A} {T : List Addr → A → V → Prop} {Q : VK} {io : List Addr} {m : M} {H : Hp} {B : (Hp → Prop) → L2.St → Hp → Prop}
    (htg : ∀ i ∈ tgSlots tg, i ∈ own) (hR : RelH G io m H) (hJ : ITR G io t J) (hS : Sl L io r0 s0) (hp : Post G W0 L T Q io ((lcL t tg r0 turn t.items m).bind fin))
    (hB : ∀ (io' : List Addr) (r1 : Env) (m' : M) (s2 : L2.St) (H2 : Hp) (Nx : Hp → Prop) (K : M → R A), io <+: io' → RelH G io' m' H2 → Sl L io' r1 s2 → Post G W0 L T Q io' ((turn r1 m').bind fun _ m3 => K m3) →
      (∀ (H' : Hp) (io'' : List Addr) (m3 : M), io' <+: io'' → RelH G io'' m3 H' → Post G W0 L T Q io'' (K m3) → Nx H') → B Nx s2 H2) :
    ∃ Wd : Nat → Nat → Hp → Prop, (∃ n, Wd 0 n H) ∧ ∀ i n H, Wd i n H →
      (J.stop i H ∧ ∃ io' m', io <+: io' ∧ RelH G io' m' H ∧ Post G W0 L T Q io' (fin () m')) ∨
      (J.go i H ∧ ∃ Nx : Hp → Prop, (∀ H', Nx H' → ∃ n', n' < n ∧ Wd (i + 1) n' H') ∧ ∀ x H', J.yld i H x H' → gT G.K tg x s0 H' fun s2 H2 => L2.wipe s2 own = L2.wipe s0 own ∧ B Nx s2 H2) := by
  refine ⟨fun i n H' => n = t.items.length - i ∧ i ≤ t.items.length ∧ ∃ io' m', io <+: io' ∧ RelH G io' m' H' ∧ Post G W0 L T Q io' ((lcL t tg r0 turn (t.items.drop i) m').bind fin), ⟨_, rfl, Nat.zero_le _, io, m, List.prefix_refl _, hR, hp⟩, ?_⟩
  rintro i n H' ⟨rfl, hi, io', m', pre, hR', hp'⟩
  have hJ' : ITR G io' t J := hJ.mono pre
  by_cases hlt : i < t.items.length
  · refine .inr ?_
    rw [drop_get hlt] at hp'
    unfold lcL at hp'
    by_cases ok : t.ok m' = true
    · rw [if_pos ok] at hp'
      have hx : t.items[i]? = some t.items[i] := by simp [hlt]
      obtain ⟨go, yl⟩ := it_go hR' hJ' ok hx
      refine ⟨go, fun H'' => t.items.length - (i + 1) = t.items.length - (i + 1) ∧ i + 1 ≤ t.items.length ∧ ∃ io' m', io <+: io' ∧ RelH G io' m' H'' ∧ Post G W0 L T Q io' ((lcL t tg r0 turn (t.items.drop (i + 1)) m').bind fin),
        fun H'' q => ⟨_, by omega, q⟩, fun v H'' y => ?_⟩
      obtain ⟨hR2, hIR⟩ := yl v H'' y
      have hS' : Sl L io' r0 s0 := hS.mono pre
      cases ha : asgT tg t.items[i] r0 m' with
      | stuck => rw [ha] at hp'; exact hp'.elim
      | ex e me =>
        exfalso
        revert ha
        unfold asgT
        split
        · intro z; cases z
        · split <;> (try split) <;> intro z <;> cases z
        · split <;> intro z <;> cases z
        · intro z; cases z
      | ok r1 m2 =>
        obtain rfl : m2 = m' := (asg_run (Q := fun _ _ => True) hR2 hS' hIR ha fun _ _ _ => trivial).1
        refine (asg_run hR2 hS' hIR ha fun s2 hS2 off => ⟨wipe_eq (hS2.len'.trans hS'.len'.symm) off htg, ?_⟩).2
        rw [ha] at hp'
        simp only [bind_ok, bind_assoc] at hp'
        exact hB io' r1 m2 s2 H'' _ _ pre hR2 hS2 hp' fun H3 io3 m3 p3 hR3 hp3 => ⟨rfl, hlt, io3, m3, pre.trans p3, hR3, hp3⟩
    · rw [if_neg ok] at hp'
      exact hp'.elim
  · refine .inl ?_
    have he : t.items.drop i = [] := List.drop_eq_nil_of_le (by omega)
    rw [he] at hp'
    unfold lcL at hp'
    by_cases ok : t.ok m' = true
    · rw [if_pos ok] at hp'
      exact ⟨it_stop hR' hJ' ok (by omega), io', m', pre, hR', hp'⟩
    · rw [if_neg ok] at hp'
      exact hp'.elim
/-- one turn that pushes -/
theorem turn_read {A : Type} {elt c : ME} {Dn : Nat} {p : Addr} {T : List Addr → A → V → Prop} {Q : VK} {io : List Addr} {r1 : Env} {m : M} {s2 : L2.St} {H2 : Hp} {Nx : Hp → Prop} {K : M → R A} (hD : io[Dn]? = some p) (hR : RelH G io m H2) (hS : Sl L io r1 s2)
    (hp : Post G W0 L T Q io ((lcTurn G.pg cl elt c Dn r1 m).bind fun _ m3 => K m3)) (hN : ∀ (H' : Hp) (io'' : List Addr) (m3 : M), io <+: io'' → RelH G io'' m3 H' → Post G W0 L T Q io'' (K m3) → Nx H') :
    liftT G W0 L (evT G.pg cl c) s2 H2 fun b H3 => if b = true then liftE G W0 L (ev G.pg cl elt) s2 H3 fun y H4 => ∃ acc, H4 p = some (.lst acc) ∧ acc.length < sizeLine ∧ Nx (upd H4 p (.lst (acc ++ [y]))) else Nx H3 := by
  unfold lcTurn at hp
  rw [bind_assoc] at hp
  refine ⟨io, r1, m, hR, hS, (Post.bind hp).imp ?_⟩
  rintro b H3 ⟨io3, kk, m4, p3, hR3, rfl, hp4⟩
  dsimp only at hp4
  cases kk with
  | false =>
    rw [if_neg Bool.false_ne_true] at hp4
    exact iteF (hN H3 io3 m4 p3 hR3 hp4)
  | true =>
    rw [if_pos rfl, bind_assoc] at hp4
    refine iteT ⟨io3, r1, m4, hR3, hS.mono p3, (Post.bind hp4).imp ?_⟩
    rintro y H4 ⟨io4, u, m5, p4, hR4, e4, hp5⟩
    obtain ⟨acc, m6, a1, a2, a3, a4⟩ := pushTo_run hR4 (pre_get (p3.trans p4) hD) e4 hp5
    exact ⟨acc, a1, a2, hN _ io4 m6 (p3.trans p4) a3 a4⟩
def lcTurn2 (g : Pg) (cl : Cl) (elt : ME) (tg1 : Tg) (it1 : MI) (c c1 : ME) (own1 : List Nat) (D : Nat) (r1 : Env) (m2 : M) : R Unit :=
  (evT g cl c r1 m2).bind fun k m4 => if k = true then (evi g cl it1 r1 m4).bind fun t1 m5 => lcL t1 tg1 (wipeU r1 own1) (lcTurn g cl elt c1 D) t1.items m5 else .ok () m4
theorem ev_lc2' {elt : ME} {tg : Tg} {it : MI} {c : ME} {tg1 : Tg} {it1 : MI} {c1 : ME} {own own1 : List Nat} {r : Env} {m : M} : ev G.pg cl (.lc2 elt tg it c tg1 it1 c1 own own1) r m = (evi G.pg cl it r m).bind fun t m1 =>
    noEx ((lcL t tg (wipeU r own) (lcTurn2 G.pg cl elt tg1 it1 c c1 own1 m1.length) t.items (m1 ++ [.lst []])).bind fun _ m6 => .ok (.ref m1.length) m6) := by
  rw [ev_lc2]
  congr
  funext t m1
  congr
  funext r1 m2
  unfold lcTurn2 evT
  rw [bind_assoc]
  congr
  funext x m3
  congr
  funext kk m4
  congr
  funext t1 m5
  congr
  funext r2 m6
  unfold lcTurn evT
  rw [bind_assoc]
theorem lc2_read {elt : ME} {tg : Tg} {it : MI} {c : ME} {tg1 : Tg} {it1 : MI} {c1 : ME} {own own1 : List Nat} {s : L2.St} {H : Hp} {Q : VK} (htg : ∀ i ∈ tgSlots tg, i ∈ own) (htg1 : ∀ i ∈ tgSlots tg1, i ∈ own1) (h : liftE G W L (ev G.pg cl (.lc2 elt tg it c tg1 it1 c1 own own1)) s H Q) :
    tLc2 (liftI G W L (evi G.pg cl it)) (gT G.K tg) (liftT G W0 L (evT G.pg cl c)) (liftI G W0 L (evi G.pg cl it1)) (gT G.K tg1) (liftT G W0 L (evT G.pg cl c1)) (liftE G W0 L (ev G.pg cl elt)) own own1 s H Q := by
  obtain ⟨io, r, m, hR, hS, hp⟩ := h
  rw [ev_lc2'] at hp
  refine ⟨io, r, m, hR, hS, (Post.bind hp).imp ?_⟩
  rintro J H1 ⟨io1, t, m1, p1, hR1, hJ, hp1⟩ D hD
  have hp2 := post_noex hp1
  have hl := hR1.len
  have hDio : (io1 ++ [D])[m1.length]? = some D := by rw [← hl]; simp
  have hB : ∀ (io' : List Addr) (r1 : Env) (m' : M) (s2 : L2.St) (H2 : Hp) (Nx : Hp → Prop) (K : M → R U), (io1 ++ [D]) <+: io' → RelH G io' m' H2 → Sl L io' r1 s2 → Post G W0 L Em Q io' ((lcTurn2 G.pg cl elt tg1 it1 c c1 own1 m1.length r1 m').bind fun _ m3 => K m3) →
      (∀ (H' : Hp) (io'' : List Addr) (m3 : M), io' <+: io'' → RelH G io'' m3 H' → Post G W0 L Em Q io'' (K m3) → Nx H') → (fun Nx σ2 H2 => liftT G W0 L (evT G.pg cl c) σ2 H2 fun b H3 =>
    if b = true then liftI G W0 L (evi G.pg cl it1) σ2 H3 fun J1 H4 => ∃ W1 : Nat → Nat → Hp → Prop, (∃ m, W1 0 m H4) ∧ ∀ j k H, W1 j k H →
      (J1.stop j H ∧ Nx H) ∨ (J1.go j H ∧ ∃ Nx1 : Hp → Prop, (∀ H', Nx1 H' → ∃ k', k' < k ∧ W1 (j + 1) k' H') ∧ ∀ x H', J1.yld j H x H' → gT G.K tg1 x (L2.wipe σ2 own1) H' fun σ3 H5 => L2.wipe σ3 own1 = L2.wipe σ2 own1 ∧ liftT G W0 L (evT G.pg cl c1) σ3 H5 fun b H6 =>
        if b = true then liftE G W0 L (ev G.pg cl elt) σ3 H6 fun y H7 => ∃ acc, H7 D = some (.lst acc) ∧ acc.length < sizeLine ∧ Nx1 (upd H7 D (.lst (acc ++ [y]))) else Nx1 H6)
    else Nx H3) Nx s2 H2 := by
    intro io' r1 m' s2 H2 Nx K pre hR' hS' hp' hN
    unfold lcTurn2 at hp'
    rw [bind_assoc] at hp'
    refine ⟨io', r1, m', hR', hS', (Post.bind hp').imp ?_⟩
    rintro b H3 ⟨io3, kk, m4, p3, hR3, rfl, hp4⟩
    dsimp only at hp4
    cases kk with
    | false =>
      rw [if_neg Bool.false_ne_true] at hp4
      exact iteF (hN H3 io3 m4 p3 hR3 hp4)
    | true =>
      rw [if_pos rfl, bind_assoc] at hp4
      refine iteT ⟨io3, r1, m4, hR3, hS'.mono p3, (Post.bind hp4).imp ?_⟩
      rintro J1 H4 ⟨io4, t1, m5, p4, hR4, hJ1, hp5⟩
      have hD4 := pre_get ((pre.trans p3).trans p4) hDio
      obtain ⟨W1, g0, gW⟩ := lcl_read (own := own1) (B := fun Nx1 σ3 H5 => liftT G W0 L (evT G.pg cl c1) σ3 H5 fun b H6 =>
        if b = true then liftE G W0 L (ev G.pg cl elt) σ3 H6 fun y H7 => ∃ acc, H7 D = some (.lst acc) ∧ acc.length < sizeLine ∧ Nx1 (upd H7 D (.lst (acc ++ [y]))) else Nx1 H6)
        htg1 hR4 hJ1 ((hS'.mono (p3.trans p4)).wipe own1) hp5 fun io5 r2 m6 s3 H5 Nx1 K1 p5 hR5 hS5 hp6 hN1 => turn_read (pre_get p5 hD4) hR5 hS5 hp6 hN1
      refine ⟨W1, g0, fun j n H5 w => ?_⟩
      rcases gW j n H5 w with ⟨st, io5, m6, p5, hR5, hp6⟩ | ⟨go, Nx1, hn, hy⟩
      · exact .inl ⟨st, hN H5 io5 m6 ((p3.trans p4).trans p5) hR5 hp6⟩
      · refine .inr ⟨go, Nx1, hn, fun x H'' y => ?_⟩
        have z := hy x H'' y
        rw [wipe_wipe] at z
        exact z
  obtain ⟨Wd, h0, hW⟩ := lcl_read (own := own) htg (hR1.lay hD (o := .lst []) ⟨[], .nil, upd_same⟩) (hJ.mono pre1) ((hS.mono (p1.trans pre1)).wipe own) (Post.up hp2 pre1) hB
  refine ⟨Wd, h0, fun i n H' w => ?_⟩
  rcases hW i n H' w with ⟨st, io', m', pre, hR', hp'⟩ | ⟨go, Nx, hn, hy⟩
  · exact .inl ⟨st, Post.now hp' hR' ⟨D, pre_get pre hDio, rfl⟩⟩
  · refine .inr ⟨go, Nx, hn, fun x H'' y => ?_⟩
    have z := hy x H'' y
    rw [wipe_wipe] at z
    exact z
end
end Py
set_option maxHeartbeats 4000000
/-! MINI PYTHON, part C5: the theorem for expressions. -/
namespace Py
open PySem PySem.Spec PyProof.Rows L2

/-- no comprehension -/
def okC : Expr → Bool
  | .ListComp _ _ _ _ => false
  | .SetComp _ _ _ _ => false
  | .DictComp _ _ _ _ _ => false
  | _ => true
def plainT : Expr → Bool
  | .UnaryOp .Not _ _ => false
  | .BoolOp _ _ _ => false
  | .IfExp _ _ _ _ => false
  | .Compare _ _ _ _ => false
  | _ => true
theorem plainT_of {e : Expr} {env : PySem.Env} (h : plainT e = true) : ∀ whole, isTrue e env whole = (do let v ← whole; standAt e.pos; holding [v] (truthy v)) := by
  intro whole
  cases e with
  | UnaryOp op x p => cases op <;> first | rfl | cases h
  | BoolOp _ _ _ => cases h
  | IfExp _ _ _ _ => cases h
  | Compare _ _ _ _ => cases h
  | _ => rfl
section
variable {G : Gd} {W : WX} {L : Nat} {cl : Cl} {k : Nat} {cx : Ctx} {X : Cx} {e : Expr} {pos : Pos}
/-- a value as a test -/
theorem test_of (hK : X.K = G.K) {a : ME} (h : PE X e (liftE G W L (ev G.pg cl a))) (hp : plainT e = true) : PT X e (liftT G W L (evT G.pg cl a)) := by
  refine ptOf (pt_truth h (plainT_of hp)) fun s H Q q => ?_
  obtain ⟨io, r, m, hR, hS, hp⟩ := q
  refine ⟨io, r, m, hR, hS, (Post.bind hp).imp ?_⟩
  rintro x H1 ⟨io1, u, m1, p1, hR1, e1, hp1⟩
  have hp2 : Post G W L (fun _ a b => a = b) Q io1 ((truR u m1).bind fun b m => .ok b m) := by
    have e : ((truR u m1).bind fun b m => R.ok b m) = truR u m1 := by cases truR u m1 <;> rfl
    rw [e]
    exact hp1
  obtain ⟨k, h1, h2⟩ := tru_run hR1 e1 hp2
  exact ⟨k, by rw [hK]; exact h1, h2 io1 H1 k (List.prefix_refl _) hR1 rfl⟩
/-- the answer of a comparison as a test -/
theorem pt_ifExp {c a b : Expr} {tc ta tb : TT} (hc : PT X c tc) (ha : PT X a ta) (hb : PT X b tb) : PT X (.IfExp c a b pos) (fun s H Q => tc s H fun k H1 => if k = true then ta s H1 Q else tb s H1 Q) := by
  refine ⟨fun pins s σ H Q I h => ?_⟩
  show wpAny _ _ (do if ← isTrue c X.env (eval c X.env) then isTrue a X.env (eval a X.env) else isTrue b X.env (eval b X.env)) _ _ _
  refine wpAny_bind (thn (hc.run pins s σ H _ I h) fun d s1 ⟨H1, I1, q1⟩ => ?_)
  cases d with
  | true => exact ha.run pins s1 σ H1 Q I1 q1
  | false => exact hb.run pins s1 σ H1 Q I1 q1
theorem liftT_imp {fs : Env → M → R Bool} {s : L2.St} {H : Hp} {Q Q' : Bool → Hp → Prop} (h : liftT G W L fs s H Q) (f : ∀ vs H, Q vs H → Q' vs H) : liftT G W L fs s H Q' := by
  obtain ⟨io, r, m, hR, hS, hp⟩ := h
  exact ⟨io, r, m, hR, hS, hp.imp f⟩
/-- a test, then one of two runs -/
theorem lift_test {fc : Env → M → R Bool} {A B : Type} {T : List Addr → A → B → Prop} {Q : B → Hp → Prop} {g : Bool → Env → M → R A} {s : L2.St} {H : Hp} {P : Bool → Hp → Prop}
    (h : ∃ io r m, RelH G io m H ∧ Sl L io r s ∧ Post G W L T Q io ((fc r m).bind fun k m1 => g k r m1))
    (f : ∀ k H1, (∃ io r m, RelH G io m H1 ∧ Sl L io r s ∧ Post G W L T Q io (g k r m)) → P k H1) : liftT G W L fc s H P := by
  obtain ⟨io, r, m, hR, hS, hp⟩ := h
  refine ⟨io, r, m, hR, hS, (Post.bind hp).imp ?_⟩
  rintro k H1 ⟨io1, k', m1, p1, hR1, rfl, hp1⟩
  exact f _ H1 ⟨io1, r, m1, hR1, hS.mono p1, hp1⟩
end
theorem bm_app {b : Nat} {m : M} (h : bmOk .append (.ref b) m = true) : ∃ ys, m[b]? = some (.lst ys) := by
  simp only [bmOk] at h
  cases q : m[b]? with
  | none => rw [q] at h; cases h
  | some o =>
    rw [q] at h
    cases o with
    | lst ys => exact ⟨ys, rfl⟩
    | _ => cases h
theorem bind_inv {A B : Type} {r : R A} {g : A → M → R B} {b : B} {m : M} (h : r.bind g = .ok b m) : ∃ a m1, r = .ok a m1 ∧ g a m1 = .ok b m := by
  cases r with
  | ok a m1 => exact ⟨a, m1, rfl, h⟩
  | ex e m1 => cases h
  | stuck => cases h
theorem evCmp_bl {o : Cp} {x y u : U} {m m' : M} (h : evCmp o x y m = .ok u m') : ∃ k, u = .bl k := by
  unfold evCmp at h
  cases q : cmp2 o x y m with
  | none => rw [q] at h; cases h
  | some k => rw [q] at h; cases h; exact ⟨k, rfl⟩
/-- a value that is a bool, as a test -/
theorem test_bl {G : Gd} {W : WX} {L : Nat} {cl : Cl} {a : ME} {s : L2.St} {H : Hp} {Q : Bool → Hp → Prop} (hb : ∀ r m u m', ev G.pg cl a r m = .ok u m' → ∃ k, u = .bl k) (h : liftT G W L (evT G.pg cl a) s H Q) :
    liftE G W L (ev G.pg cl a) s H fun x H' => ∃ k, x = .bl k ∧ Q k H' := by
  obtain ⟨io, r, m, hR, hS, hp⟩ := h
  refine ⟨io, r, m, hR, hS, ?_⟩
  unfold evT at hp
  cases q : ev G.pg cl a r m with
  | stuck => rw [q] at hp; exact hp.elim
  | ex e me => rw [q] at hp; exact hp
  | ok u m1 =>
    rw [q] at hp
    obtain ⟨kk, rfl⟩ := hb r m u m1 q
    exact fun i H' v p hR' ev' => ⟨kk, ev', hp i H' kk p hR' rfl⟩
/-- a slice's part -/
def liftO (G : Gd) (W : WX) (L : Nat) (f : Env → M → R (Option Int)) : TO := fun s H Q => ∃ io r m, RelH G io m H ∧ Sl L io r s ∧ Post G W L (fun _ a b => a = b) Q io (f r m)
section
variable {G : Gd} {W : WX} {L : Nat} {cl : Cl} {k : Nat} {cx : Ctx} {X : Cx}
theorem po_no : PO X none (liftO G W L fun _ m => .ok none m) := by
  refine ⟨fun pins s σ H Q I h => po_none.run pins s σ H Q I ?_⟩
  obtain ⟨io, r, m, hR, hS, hp⟩ := h
  exact hp io H none (List.prefix_refl _) hR rfl
theorem po_at {e : Expr} {fa : Env → M → R U} (h : PE X e (liftE G W L fa)) : PO X (some e) (liftO G W L fun r m => (fa r m).bind partI) := by
  refine ⟨fun pins s σ H Q I q => (po_some h).run pins s σ H Q I ?_⟩
  obtain ⟨io, r, m, hR, hS, hp⟩ := q
  refine ⟨io, r, m, hR, hS, (Post.bind hp).imp ?_⟩
  rintro x H1 ⟨io1, u, m1, p1, hR1, e1, hp1⟩
  match u, e1, hp1 with
  | .int i, e1, hp1 => exact ⟨i, e1, hp1 io1 H1 (some i) (List.prefix_refl _) hR1 rfl⟩
end

section
variable {G : Gd} {cl : Cl} {k : Nat} (hF : FsOk G cl k) (hG : GOk G)
include hF hG
mutual
theorem soundE : ∀ (a : ME) {e : Expr} {cx : Ctx} {X : Cx} {W : WX}, matE cx a e = true → XOk G k cx X → Takes X W →
    PE X e (liftE G W cx.N.length (ev G.pg cl a)) ∧ PT X e (liftT G W cx.N.length (evT G.pg cl a))
  | .var i, e, cx, X, W, h, hX, tk => by
    rw [matE_var] at h
    match e, h with
    | .Name x p, h =>
      obtain ⟨h1, h2, h3, h4⟩ := hX.slot h
      have hE : PE X (.Name x p) (liftE G W cx.N.length (ev G.pg cl (.var i))) := peOf (pe_var h1 h2 h3 h4) fun s H Q ⟨io, r, m, hR, hS, hp⟩ => by
        rw [ev_var] at hp
        cases q : r[i]? with
        | none => rw [q] at hp; exact hp.elim
        | some o =>
          rw [q] at hp
          cases o with
          | none => exact hp.elim
          | some u =>
            obtain ⟨v, e1, e2⟩ := hS.val i u q
            exact ⟨v, e1, Post.now hp hR e2⟩
      exact ⟨hE, test_of hX.hK hE rfl⟩
  | .cst u, e, cx, X, W, h, hX, tk => by
    rw [matE_cst] at h
    match e, h with
    | .Constant c j p, h =>
      have hE : PE X (.Constant c j p) (liftE G W cx.N.length (ev G.pg cl (.cst u))) := cst_ok h
      exact ⟨hE, test_of hX.hK hE rfl⟩
  | .glo y, e, cx, X, W, h, hX, tk => by
    rw [matE_glo] at h
    match e, h with
    | .Name x p, h =>
      obtain ⟨h1, h2⟩ := and2 h
      have hxy : x = y := of_decide_eq_true h1
      subst hxy
      obtain ⟨hg, hd⟩ := hX.name h2
      have hE : PE X (.Name x p) (liftE G W cx.N.length (ev G.pg cl (.glo x))) := ⟨fun pins s σ H Q I ⟨io, r, m, hR, hS, hp⟩ => by
        rw [ev_glo] at hp
        cases q : G.pg.glo.lookup x with
        | none => rw [q] at hp; exact hp.elim
        | some u =>
          rw [q] at hp
          obtain ⟨v, val, a1, a2, a3⟩ := hR.glo x u q
          rw [← hX.hm] at a1
          exact (pe_glob hg a1 a2 hd).run pins s σ H Q I (Post.now hp hR a3)⟩
      exact ⟨hE, test_of hX.hK hE rfl⟩
  | .bin o a b, e, cx, X, W, h, hX, tk => by
    rw [matE_bin] at h
    match e, h with
    | .BinOp x op y p, h =>
      obtain ⟨h1, h2⟩ := and2 h
      obtain ⟨h2, h3⟩ := and2 h2
      have ho : op = opO o := of_decide_eq_true h1
      subst ho
      have hE : PE X (.BinOp x (opO o) y p) (liftE G W cx.N.length (ev G.pg cl (.bin o a b))) :=
        peOf (pe_op (ok_bin o hX.hK) (soundE a h2 hX tk).1 (soundE b h3 hX tk).1) fun s H Q q => lift_two q
      exact ⟨hE, test_of hX.hK hE rfl⟩
  | .neg a, e, cx, X, W, h, hX, tk => by
    rw [matE_neg] at h
    match e, h with
    | .UnaryOp .USub x p, h =>
      have hE : PE X (.UnaryOp .USub x p) (liftE G W cx.N.length (ev G.pg cl (.neg a))) :=
        peOf (pe_un un_neg (soundE a h hX tk).1) fun s H Q q => by
          refine liftE_imp (lift_one q) fun v H1 ⟨io, u, m, hR, e1, hp⟩ => ?_
          match u, e1, hp with
          | .int i, e1, hp => exact ⟨i, e1, Post.now hp hR rfl⟩
      exact ⟨hE, test_of hX.hK hE rfl⟩
  | .not a, e, cx, X, W, h, hX, tk => by
    rw [matE_not] at h
    match e, h with
    | .UnaryOp .Not x p, h =>
      obtain ⟨i1, i2⟩ := soundE a h hX tk
      refine ⟨peOf (pe_notT i1) fun s H Q q => ?_, ptOf (pt_not i2) fun s H Q q => ?_⟩
      · refine liftE_imp (lift_one q) fun v H1 ⟨io, u, m, hR, e1, hp⟩ => ?_
        obtain ⟨kk, h1, h2⟩ := tru_run hR e1 hp
        exact ⟨kk, by rw [hX.hK]; exact h1, Post.now h2 hR rfl⟩
      · obtain ⟨io, r, m, hR, hS, hp⟩ := q
        rw [evT_not] at hp
        refine lift_test (g := fun kk _ m => .ok (!kk) m) ⟨io, r, m, hR, hS, hp⟩ fun kk H1 ⟨io1, r1, m1, hR1, hS1, hp1⟩ => ?_
        exact hp1 io1 H1 (!kk) (List.prefix_refl _) hR1 rfl
  | .cmp o a b, e, cx, X, W, h, hX, tk => by
    rw [matE_cmp] at h
    match e, h with
    | .Compare x [op] [y] p, h =>
      obtain ⟨h1, h2⟩ := and2 h
      obtain ⟨h2, h3⟩ := and2 h2
      obtain ⟨h3, h4⟩ := and2 h3
      have ho : op = cpO o := of_decide_eq_true h1
      subst ho
      have i1 := (soundE a h3 hX tk).1
      have i2 := (soundE b h4 hX tk).1
      have hc := ok_cmp (W := W) (L := cx.N.length) o hX.hK hX.hu
      refine ⟨peOf (pe_cmpR hc i1 i2 (marks_of h2)) fun s H Q q => lift_two q, ptOf (pt_cmpR hc i1 i2 (marks_of h2)) fun s H Q q => lift_two (test_bl (fun r m u m' z => ?_) q)⟩
      rw [ev_cmp] at z
      obtain ⟨_, _, _, z⟩ := bind_inv z
      obtain ⟨_, _, _, z⟩ := bind_inv z
      exact evCmp_bl z
  | .chn o o' a b c, e, cx, X, W, h, hX, tk => by
    rw [matE_chn] at h
    match e, h with
    | .Compare x [op, op'] [y, z] p, h =>
      obtain ⟨h1, h2⟩ := and2 h
      obtain ⟨h2, h3⟩ := and2 h2
      obtain ⟨h3, h4⟩ := and2 h3
      obtain ⟨h4, h5⟩ := and2 h4
      obtain ⟨h5, h6⟩ := and2 h5
      have ho : op = cpO o := of_decide_eq_true h1
      have ho' : op' = cpO o' := of_decide_eq_true h2
      subst ho ho'
      have i1 := (soundE a h4 hX tk).1
      have i2 := (soundE b h5 hX tk).1
      have i3 := (soundE c h6 hX tk).1
      have read : ∀ {s : L2.St} {H : Hp} {Q : VK}, liftE G W cx.N.length (ev G.pg cl (.chn o o' a b c)) s H Q → tChain (r2 G W cx.N.length (evCmp o)) (r2 G W cx.N.length (evCmp o')) (liftE G W cx.N.length (ev G.pg cl a)) (liftE G W cx.N.length (ev G.pg cl b)) (liftE G W cx.N.length (ev G.pg cl c)) s H Q := by
        intro s H Q ⟨io, r, m, hR, hS, hp⟩
        rw [ev_chn] at hp
        refine ⟨io, r, m, hR, hS, (Post.bind hp).imp ?_⟩
        rintro v1 H1 ⟨io1, u1, m1, p1, hR1, e1, hp1⟩
        refine ⟨io1, r, m1, hR1, hS.mono p1, (Post.bind hp1).imp ?_⟩
        rintro v2 H2 ⟨io2, u2, m2, p2, hR2, e2, hp2⟩
        refine ⟨io2, u1, u2, m2, hR2, e1.mono p2, e2, ?_⟩
        dsimp only at hp2
        cases hc : cmp2 o u1 u2 m2 with
        | none =>
          rw [show evCmp o u1 u2 m2 = .stuck by unfold evCmp; rw [hc]] at hp2
          exact hp2.elim
        | some kk =>
          have hk : evCmp o u1 u2 m2 = .ok (.bl kk) m2 := by unfold evCmp; rw [hc]
          rw [hk] at hp2 ⊢
          intro i3 H3 v3 p3 hR3 e3
          refine ⟨kk, e3, ?_⟩
          have hp3 := Post.up hp2 p3
          simp only [bind_ok] at hp3
          cases kk with
          | false =>
            rw [if_neg (by simp)] at hp3
            exact iteF (Post.now hp3 hR3 rfl)
          | true =>
            rw [if_pos rfl] at hp3
            refine iteT ⟨i3, r, m2, hR3, hS.mono ((p1.trans p2).trans p3), (Post.bind hp3).imp ?_⟩
            rintro v4 H4 ⟨io4, u4, m4, p4, hR4, e4, hp4⟩
            exact ⟨io4, u2, u4, m4, hR4, e2.mono (p3.trans p4), e4, hp4⟩
      have hm : lastMarks [cpO o, cpO o'] [y, z] = false := marks_of (op := cpO o') h3
      have hc := ok_cmp (W := W) (L := cx.N.length) o hX.hK hX.hu
      have hc' := ok_cmp (W := W) (L := cx.N.length) o' hX.hK hX.hu
      refine ⟨peOf (pe_chain hc hc' i1 i2 i3 hm) fun s H Q q => read q, ptOf (pt_chain hc hc' i1 i2 i3 hm) fun s H Q q => read (test_bl (fun r m u m' z => ?_) q)⟩
      rw [ev_chn] at z
      obtain ⟨_, _, _, z⟩ := bind_inv z
      obtain ⟨_, _, _, z⟩ := bind_inv z
      obtain ⟨u3, _, _, z⟩ := bind_inv z
      by_cases hz : u3 = .bl true
      · rw [if_pos hz] at z
        obtain ⟨_, _, _, z⟩ := bind_inv z
        exact evCmp_bl z
      · rw [if_neg hz] at z
        cases z
        exact ⟨false, rfl⟩
  | .and a b, e, cx, X, W, h, hX, tk => by
    rw [matE_and] at h
    match e, h with
    | .BoolOp .And (x :: y :: r) p, h =>
      obtain ⟨h1, h2⟩ := and2 h
      obtain ⟨a1, a2⟩ := soundE a h1 hX tk
      have rest : PE X (.BoolOp .And (y :: r) p) (liftE G W cx.N.length (ev G.pg cl b)) ∧ PW X (.BoolOp .And (y :: r) p) (liftT G W cx.N.length (evT G.pg cl b)) := by
        cases r with
        | nil =>
          obtain ⟨b1, b2⟩ := soundE b h2 hX tk
          exact ⟨pe_one b1, pw_and1 b2⟩
        | cons z r =>
          obtain ⟨b1, b2⟩ := soundE b h2 hX tk
          exact ⟨b1, pwOf b2⟩
      refine ⟨peOf (pe_andT a1 rest.1) fun s H Q q => ?_, ptOf (PW.pt (pw_and a2 rest.2)) fun s H Q q => ?_⟩
      · obtain ⟨io, r, m, hR, hS, hp⟩ := q
        rw [ev_and] at hp
        refine ⟨io, r, m, hR, hS, (Post.bind hp).imp ?_⟩
        rintro v H1 ⟨io1, u, m1, p1, hR1, e1, hp1⟩
        obtain ⟨kk, t1, t2⟩ := tru_run hR1 e1 hp1
        refine ⟨kk, by rw [hX.hK]; exact t1, ?_⟩
        cases kk with
        | true => exact iteT ⟨io1, r, m1, hR1, hS.mono p1, t2⟩
        | false => exact iteF (Post.now t2 hR1 e1)
      · obtain ⟨io, r, m, hR, hS, hp⟩ := q
        rw [evT_and] at hp
        refine lift_test (g := fun kk r m => if kk = true then evT G.pg cl b r m else .ok false m) ⟨io, r, m, hR, hS, hp⟩ fun kk H1 ⟨io1, r1, m1, hR1, hS1, hp1⟩ => ?_
        cases kk with
        | true => exact iteT ⟨io1, r1, m1, hR1, hS1, hp1⟩
        | false => exact iteF (hp1 io1 H1 false (List.prefix_refl _) hR1 rfl)
  | .or a b, e, cx, X, W, h, hX, tk => by
    rw [matE_or] at h
    match e, h with
    | .BoolOp .Or (x :: y :: r) p, h =>
      obtain ⟨h1, h2⟩ := and2 h
      obtain ⟨a1, a2⟩ := soundE a h1 hX tk
      have rest : PE X (.BoolOp .Or (y :: r) p) (liftE G W cx.N.length (ev G.pg cl b)) ∧ PW X (.BoolOp .Or (y :: r) p) (liftT G W cx.N.length (evT G.pg cl b)) := by
        cases r with
        | nil =>
          obtain ⟨b1, b2⟩ := soundE b h2 hX tk
          exact ⟨pe_one b1, pw_or1 b2⟩
        | cons z r =>
          obtain ⟨b1, b2⟩ := soundE b h2 hX tk
          exact ⟨b1, pwOf b2⟩
      refine ⟨peOf (pe_orT a1 rest.1) fun s H Q q => ?_, ptOf (PW.pt (pw_or a2 rest.2)) fun s H Q q => ?_⟩
      · obtain ⟨io, r, m, hR, hS, hp⟩ := q
        rw [ev_or] at hp
        refine ⟨io, r, m, hR, hS, (Post.bind hp).imp ?_⟩
        rintro v H1 ⟨io1, u, m1, p1, hR1, e1, hp1⟩
        obtain ⟨kk, t1, t2⟩ := tru_run hR1 e1 hp1
        refine ⟨kk, by rw [hX.hK]; exact t1, ?_⟩
        cases kk with
        | true => exact iteT (Post.now t2 hR1 e1)
        | false => exact iteF ⟨io1, r, m1, hR1, hS.mono p1, t2⟩
      · obtain ⟨io, r, m, hR, hS, hp⟩ := q
        rw [evT_or] at hp
        refine lift_test (g := fun kk r m => if kk = true then .ok true m else evT G.pg cl b r m) ⟨io, r, m, hR, hS, hp⟩ fun kk H1 ⟨io1, r1, m1, hR1, hS1, hp1⟩ => ?_
        cases kk with
        | true => exact iteT (hp1 io1 H1 true (List.prefix_refl _) hR1 rfl)
        | false => exact iteF ⟨io1, r1, m1, hR1, hS1, hp1⟩
  | .ifx c a b, e, cx, X, W, h, hX, tk => by
    rw [matE_ifx] at h
    match e, h with
    | .IfExp t x y p, h =>
      obtain ⟨h1, h2⟩ := and2 h
      obtain ⟨h2, h3⟩ := and2 h2
      obtain ⟨c1, c2⟩ := soundE c h1 hX tk
      obtain ⟨a1, a2⟩ := soundE a h2 hX tk
      obtain ⟨b1, b2⟩ := soundE b h3 hX tk
      refine ⟨peOf (pe_ifExp c2 a1 b1) fun s H Q q => ?_, ptOf (pt_ifExp c2 a2 b2) fun s H Q q => ?_⟩
      · obtain ⟨io, r, m, hR, hS, hp⟩ := q
        rw [ev_ifx, ← bind_assoc] at hp
        refine lift_test (g := fun kk r m => if kk = true then ev G.pg cl a r m else ev G.pg cl b r m) ⟨io, r, m, hR, hS, hp⟩ fun kk H1 ⟨io1, r1, m1, hR1, hS1, hp1⟩ => ?_
        cases kk with
        | true => exact iteT ⟨io1, r1, m1, hR1, hS1, hp1⟩
        | false => exact iteF ⟨io1, r1, m1, hR1, hS1, hp1⟩
      · obtain ⟨io, r, m, hR, hS, hp⟩ := q
        rw [evT_ifx] at hp
        refine lift_test (g := fun kk r m => if kk = true then evT G.pg cl a r m else evT G.pg cl b r m) ⟨io, r, m, hR, hS, hp⟩ fun kk H1 ⟨io1, r1, m1, hR1, hS1, hp1⟩ => ?_
        cases kk with
        | true => exact iteT ⟨io1, r1, m1, hR1, hS1, hp1⟩
        | false => exact iteF ⟨io1, r1, m1, hR1, hS1, hp1⟩
  | .lst es, e, cx, X, W, h, hX, tk => by
    rw [matE_lst] at h
    match e, h with
    | .List xs p, h =>
      have hE : PE X (.List xs p) (liftE G W cx.N.length (ev G.pg cl (.lst es))) := peOf (pe_lst (soundEs es h hX tk)) fun s H Q q => by
        obtain ⟨io, r, m, hR, hS, hp⟩ := q
        rw [ev_lst] at hp
        refine liftA_imp (lift_args (g := fun us m1 => if us.length ≤ SL then alloc (.lst us) m1 else .stuck) ⟨io, r, m, hR, hS, hp⟩) fun vs H1 ⟨io1, us, m1, hR1, e1, hp1⟩ => ?_
        dsimp only at hp1
        by_cases hc : us.length ≤ SL
        · rw [if_pos hc] at hp1
          exact ⟨by rw [← Paired.len e1, ← SL_eq]; exact hc, fun q hq => Post.lst hp1 hR1 e1 hq⟩
        · rw [if_neg hc] at hp1
          exact hp1.elim
      exact ⟨hE, test_of hX.hK hE rfl⟩
  | .tup es, e, cx, X, W, h, hX, tk => by
    rw [matE_tup] at h
    match e, h with
    | .Tuple xs j p, h =>
      have hE : PE X (.Tuple xs j p) (liftE G W cx.N.length (ev G.pg cl (.tup es))) := peOf (pe_tup (soundEs es h hX tk)) fun s H Q q => by
        obtain ⟨io, r, m, hR, hS, hp⟩ := q
        rw [ev_tup] at hp
        refine liftA_imp (lift_args (g := fun us m1 => if us.length ≤ SL then alloc (.tup us) m1 else .stuck) ⟨io, r, m, hR, hS, hp⟩) fun vs H1 ⟨io1, us, m1, hR1, e1, hp1⟩ => ?_
        dsimp only at hp1
        by_cases hc : us.length ≤ SL
        · rw [if_pos hc] at hp1
          exact ⟨by rw [← Paired.len e1, ← SL_eq]; exact hc, fun q hq => Post.tup hp1 hR1 e1 hq⟩
        · rw [if_neg hc] at hp1
          exact hp1.elim
      exact ⟨hE, test_of hX.hK hE rfl⟩
  | .idx a b, e, cx, X, W, h, hX, tk => by
    rw [matE_idx] at h
    match e, h with
    | .Subscript x y p, h =>
      have h' : (okX y && (matE cx a x && matE cx b y)) = true := h
      obtain ⟨h1, h2⟩ := and2 h'
      obtain ⟨h2, h3⟩ := and2 h2
      have hE : PE X (.Subscript x y p) (liftE G W cx.N.length (ev G.pg cl (.idx a b))) := peOf (pe_ix (ok_idx hX.hK) (soundE a h2 hX tk).1 (soundE b h3 hX tk).1 (plain_of h1)) fun s H Q q => lift_two q
      exact ⟨hE, test_of hX.hK hE rfl⟩
  | .slc a lo hi bl bh, e, cx, X, W, h, hX, tk => by
    rw [matE_slc] at h
    match e, h with
    | .Subscript x (.Slice l hh none p2) p, h =>
      obtain ⟨h1, h2⟩ := and2 h
      obtain ⟨h2, h3⟩ := and2 h2
      have part : ∀ {b : Bool} {o : ME} {z : Option Expr}, (∀ y, z = some y → b = true ∧ PE X y (liftE G W cx.N.length (ev G.pg cl o))) → (z = none → b = false) →
          PO X z (liftO G W cx.N.length fun r m => if b = true then (ev G.pg cl o r m).bind partI else .ok none m) := by
        intro b o z hz hn
        cases z with
        | none =>
          obtain rfl := hn rfl
          exact po_no
        | some y =>
          obtain ⟨rfl, hy⟩ := hz y rfl
          exact po_at hy
      have pl := part (b := bl) (o := lo) (z := l) (fun y hy => by
        subst hy
        obtain ⟨q1, q2⟩ := and2 h2
        exact ⟨q1, (soundE lo q2 hX tk).1⟩) (fun hn => by
        subst hn
        simpa using h2)
      have ph := part (b := bh) (o := hi) (z := hh) (fun y hy => by
        subst hy
        obtain ⟨q1, q2⟩ := and2 h3
        exact ⟨q1, (soundE hi q2 hX tk).1⟩) (fun hn => by
        subst hn
        simpa using h3)
      have hE : PE X (.Subscript x (.Slice l hh none p2) p) (liftE G W cx.N.length (ev G.pg cl (.slc a lo hi bl bh))) := peOf (pe_slice sl_list (soundE a h1 hX tk).1 pl ph) fun s H Q q => by
        obtain ⟨io, r, m, hR, hS, hp⟩ := q
        rw [ev_slc] at hp
        refine ⟨io, r, m, hR, hS, (Post.bind hp).imp ?_⟩
        rintro v H1 ⟨io1, u, m1, p1, hR1, e1, hp1⟩
        refine ⟨io1, r, m1, hR1, hS.mono p1, (Post.bind hp1).imp ?_⟩
        rintro o1 H2 ⟨io2, l', m2, p2, hR2, rfl, hp2⟩
        refine ⟨io2, r, m2, hR2, hS.mono (p1.trans p2), (Post.bind hp2).imp ?_⟩
        rintro o2 H3 ⟨io3, h', m3, p3, hR3, rfl, hp3⟩
        match u, e1, hp3 with
        | .ref c, e1, hp3 =>
          obtain ⟨q, e2, rfl⟩ := e1
          simp only [slc2] at hp3
          cases hx : lsOf m3 c with
          | none => rw [hx] at hp3; exact hp3.elim
          | some xs =>
            rw [hx] at hp3
            obtain ⟨vs, b1, b2⟩ := hR3.ls hx (pre_get (p2.trans p3) e2)
            exact ⟨q, vs, rfl, by rw [hX.hK]; exact b2, fun w hw => Post.lst hp3 hR3 (cut_em b1 _ _) hw⟩
      exact ⟨hE, test_of hX.hK hE rfl⟩
  | .call f es, e, cx, X, W, h, hX, tk => by
    rw [matE_call] at h
    match e, h with
    | .Call (.Name x q) xs [] p, h =>
      have h' : (decide (x = f) && (nameB cx x && (decide (x ∈ cx.fns) && matEs cx es xs))) = true := h
      obtain ⟨h1, h2⟩ := and2 h'
      obtain ⟨h2, h3⟩ := and2 h2
      obtain ⟨h3, h4⟩ := and2 h3
      have hx : x = f := of_decide_eq_true h1
      subst hx
      have hE := call_run (p := q) (pos := p) hX hF tk h2 (of_decide_eq_true h3) h4 (soundEs es h4 hX tk)
      exact ⟨hE, test_of hX.hK hE rfl⟩
  | .callk f ks es, e, cx, X, W, h, hX, tk => by
    rw [matE_callk] at h
    match e, h with
    | .Call (.Name x q) [] ws p, h =>
      have h' : (decide (x = f) && (nameB cx x && (decide ((x, ks) ∈ cx.kws) && matKs cx es ks ws))) = true := h
      obtain ⟨h1, h2⟩ := and2 h'
      obtain ⟨h2, h3⟩ := and2 h2
      obtain ⟨h3, h4⟩ := and2 h3
      have hx : x = f := of_decide_eq_true h1
      subst hx
      obtain ⟨i1, i2⟩ := soundKs es h4 hX tk
      have hE := callk_run (p := q) (pos := p) hX hF tk h2 (of_decide_eq_true h3) i1 i2
      exact ⟨hE, test_of hX.hK hE rfl⟩
  | .blt f es, e, cx, X, W, h, hX, tk => by
    rw [matE_blt] at h
    match e, h with
    | .Call (.Name x q) (y :: ys) [] p, h =>
      obtain ⟨h1, h2⟩ := and2 h
      obtain ⟨h2, h3⟩ := and2 h2
      have hx : x = blName f := of_decide_eq_true h1
      subst hx
      have hE : PE X (.Call (.Name (blName f) q) (y :: ys) [] p) (liftE G W cx.N.length (ev G.pg cl (.blt f es))) := peOf (blt_ok hX hG h2 (okes_of h3) (soundEs es h3 hX tk)) fun s H Q q => lift_args q
      exact ⟨hE, test_of hX.hK hE rfl⟩
  | .isi a ts, e, cx, X, W, h, hX, tk => by
    rw [matE_isi] at h
    match e, h with
    | .Call (.Name x q) [y, c] [] p, h =>
      obtain ⟨k1, g2⟩ := and2 h
      obtain ⟨k2, g3⟩ := and2 g2
      obtain ⟨k3, g4⟩ := and2 g3
      obtain ⟨k4, k5⟩ := and2 g4
      clear g2 g3 g4
      have hx : x = ("isinstance" : Str) := of_decide_eq_true k1
      subst hx
      obtain ⟨hg, hd⟩ := hX.name k2
      have i1 := (soundE a k4 hX tk).1
      have hE : PE X (.Call (.Name "isinstance" q) [y, c] [] p) (liftE G W cx.N.length (ev G.pg cl (.isi a ts))) := by
        have one : ∀ {t : String}, ts = [t] → tyName cx t c = true → PE X (.Call (.Name "isinstance" q) [y, c] [] p) (liftE G W cx.N.length (ev G.pg cl (.isi a ts))) := by
          intro t ht hc
          subst ht
          obtain ⟨t1, t2, t3⟩ := tyName_ok hX hG hc
          refine peOf (pe_callB call_isi hg (hX.free hG (by decide)) (by decide +kernel) (pa_cons i1 (pa_cons t2 pa_nil (star_of t3)) (star_of k3)) (by decide) hd (star_of k3) (nostar_of (by rw [List.all_cons, t3]; rfl))) fun s H Q z => ?_
          obtain ⟨io, r, m, hR, hS, hp⟩ := z
          rw [ev_isi] at hp
          refine ⟨io, r, m, hR, hS, (Post.bind hp).imp ?_⟩
          rintro v H1 ⟨io1, u, m1, p1, hR1, e1, hp1⟩
          dsimp only at hp1
          cases hy : tyOf u m1 with
          | none => rw [hy] at hp1; exact hp1.elim
          | some ty =>
            rw [hy] at hp1
            dsimp only at hp1
            have e : tyOk ty [t] = isaT ty t := by unfold tyOk; simp
            rw [e] at hp1
            exact ⟨v, .ty t, .type ty, .type t, isaT ty t, rfl, .ty t, by rw [hX.hK]; exact ty_em hR1 e1 hy, isa_kit (ty_mem hy) t1, Post.now hp1 hR1 rfl⟩
        have many : ∀ {es : List Expr} {j : Nat} {pt : Pos}, c = .Tuple es j pt → (decide (ts.length ≤ 100) && tyNames cx ts es) = true → PE X (.Call (.Name "isinstance" q) [y, c] [] p) (liftE G W cx.N.length (ev G.pg cl (.isi a ts))) := by
          intro es j pt hc ht
          subst hc
          obtain ⟨hl0, ht⟩ := and2 ht
          have hl1 : ts.length ≤ 100 := of_decide_eq_true hl0
          obtain ⟨t1, t2, t3⟩ := tyNames_ok hX hG ht
          refine peOf (pe_callB call_isiT hg (hX.free hG (by decide)) (by decide +kernel) (pa_cons i1 (pa_cons (pe_tup t2) pa_nil rfl) (star_of k3)) (by decide) hd (star_of k3) (nostar_of rfl)) fun s H Q z => ?_
          obtain ⟨io, r, m, hR, hS, hp⟩ := z
          rw [ev_isi] at hp
          refine ⟨io, r, m, hR, hS, (Post.bind hp).imp ?_⟩
          rintro v H1 ⟨io1, u, m1, p1, hR1, e1, hp1⟩
          dsimp only at hp1
          cases hy : tyOf u m1 with
          | none => rw [hy] at hp1; exact hp1.elim
          | some ty =>
            rw [hy] at hp1
            have hlen : (ts.map V.ty).length ≤ sizeLine := by
              rw [List.length_map, sizeLine_eq]
              omega
            refine ⟨hlen, fun tp htp => ?_⟩
            have hR2 := hR1.side (u := .tup (ts.map V.ty)) htp
            exact ⟨v, tp, ts.map V.ty, .type ty, ts.map Value.type, tyOk ty ts, rfl, upd_same, tys_paired ts, by rw [hX.hK]; exact ty_em hR2 e1 hy, isa_any (ty_mem hy) t1, Post.now hp1 hR2 rfl⟩
        cases c with
        | Tuple es j pt => exact many rfl k5
        | _ =>
          match ts, k5 with
          | [t], k5 => exact one rfl k5
      exact ⟨hE, test_of hX.hK hE rfl⟩
  | .bm f a es, e, cx, X, W, h, hX, tk => by
    rw [matE_bm] at h
    match f, e, h with
    | .append, .Call (.Attribute o nm ap) [y] [] cp, h =>
      obtain ⟨h1, h2⟩ := and2 h
      obtain ⟨h2, h3⟩ := and2 h2
      obtain ⟨h3, h4⟩ := and2 h3
      obtain ⟨h4, h5⟩ := and2 h4
      have hn : nm = ("append" : Str) := of_decide_eq_true h1
      subst hn
      have hk := okes_of h5
      have hk1 : okX y = true := by simpa using hk
      have hE : PE X (.Call (.Attribute o "append" ap) [y] [] cp) (liftE G W cx.N.length (ev G.pg cl (.bm .append a es))) := by
        refine peOf (pe_bm PySem.F.plainAttrs_list PySem.F.slot_list_append PySem.F.type_list_append mt_append (soundE a h4 hX tk).1 (soundEs es h5 hX tk) (base_of h2) ?_ h3 (star_of hk1) (nostar_of rfl)) fun s H Q z => ?_
        · rw [star_of hk1]
          rfl
        · obtain ⟨io, r, m, hR, hS, hp⟩ := z
          rw [ev_bm] at hp
          refine ⟨io, r, m, hR, hS, (Post.bind hp).imp ?_⟩
          rintro v H1 ⟨io1, u, m1, p1, hR1, e1, hp1⟩
          dsimp only at hp1
          match u, e1, hp1 with
          | .ref b, e1, hp1 =>
            obtain ⟨q, e2, rfl⟩ := e1
            by_cases hb : bmOk .append (.ref b) m1 = true
            · rw [if_pos hb] at hp1
              obtain ⟨ys, hm⟩ : ∃ ys, m1[b]? = some (.lst ys) := bm_app hb
              obtain ⟨ws, _, c2⟩ := hR1.lst hm e2
              refine ⟨.inl ⟨rfl, ws, SqL.of c2⟩, io1, r, m1, hR1, hS.mono p1, (Post.bind hp1).imp ?_⟩
              rintro vs H2 ⟨io2, us, m2, p2, hR2, e3, hp2⟩
              match us, e3, hp2 with
              | [w], e3, hp2 =>
                obtain ⟨z, rfl, ez⟩ := ems1 e3
                simp only [bm2] at hp2
                cases hm2 : m2[b]? with
                | none => rw [hm2] at hp2; exact hp2.elim
                | some ob2 =>
                  rw [hm2] at hp2
                  cases ob2 with
                  | lst xs =>
                    simp only at hp2
                    by_cases hc : xs.length < SL
                    · rw [if_pos hc] at hp2
                      have e4 := pre_get p2 e2
                      obtain ⟨vs, d1, d2⟩ := hR2.lst hm2 e4
                      exact ⟨q, vs, z, rfl, rfl, d2, by rw [← Paired.len d1, ← SL_eq]; exact hc, Post.now hp2 (hR2.put e4 hm2 (Paired.app d1 (.cons ez .nil))) rfl⟩
                    · rw [if_neg hc] at hp2
                      exact hp2.elim
                  | _ => exact hp2.elim
            · rw [if_neg hb] at hp1
              exact hp1.elim
      exact ⟨hE, test_of hX.hK hE rfl⟩
  | .lc elt tg it c own, e, cx, X, W, h, hX, tk => by
    rw [matE_lc] at h
    match e, h with
    | .ListComp x [⟨tge, iter, ifs, as⟩] scope p, h =>
      obtain ⟨h1, g2⟩ := and2 h
      obtain ⟨h2, g3⟩ := and2 g2
      obtain ⟨h3, g4⟩ := and2 g3
      obtain ⟨h4, g5⟩ := and2 g4
      obtain ⟨h5, g6⟩ := and2 g5
      obtain ⟨h6, g7⟩ := and2 g6
      obtain ⟨h7, h8⟩ := and2 g7
      clear g2 g3 g4 g5 g6 g7
      have has : as = 0 := by simpa using h1
      subst has
      have hown : (own.map fun i => (cx.N.getD i "", i)).map (·.2) = own := by
        rw [List.map_map]
        exact List.map_id'' (fun _ => rfl) own
      have hok : BlkOk X.N X.env.scope scope (own.map fun i => (cx.N.getD i "", i)) := by
        rw [hX.hN, hX.hs]
        exact blkOk_by h4
      have htg : ∀ i ∈ tgSlots tg, i ∈ own := fun i hi => by
        have z := List.all_eq_true.mp h6 i hi
        simpa using z
      have hg : ∀ (s : Shared) (H : Hp) (C : Addr) (cl : List (Str × Addr)) (fp : List Addr), PG (X.blk s H scope (compEnvC scope cl C X.env) fp) tge (gT X.K tg) := fun s H C cl fp => tg_ok (xok_blk hX scope s H C cl fp) h5
      have ht : ∀ (s : Shared) (H : Hp) (C : Addr) (cls : List (Str × Addr)) (fp : List Addr), PTs (X.blk s H scope (compEnvC scope cls C X.env) fp) ifs (liftT G W0 cx.N.length (evT G.pg cl c)) := fun s H C cls fp => by
        have hb := xok_blk hX scope s H C cls fp
        match ifs, h7 with
        | [], h7 =>
          refine ⟨fun pins s2 σ H2 Q I q => pts_nil.run pins s2 σ H2 Q I ?_⟩
          obtain ⟨io, r, m, hR, hS, hp⟩ := q
          match c, h7, hp with
          | .cst (.bl true), h7, hp => exact hp io H2 true (List.prefix_refl _) hR rfl
        | [t], h7 => exact pts_one (soundE c h7 hb takes0).2
      have he : ∀ (s : Shared) (H : Hp) (C : Addr) (cls : List (Str × Addr)) (fp : List Addr), PE (X.blk s H scope (compEnvC scope cls C X.env) fp) x (liftE G W0 cx.N.length (ev G.pg cl elt)) := fun s H C cls fp =>
        (soundE elt h8 (xok_blk hX scope s H C cls fp) takes0).1
      have hE : PE X (.ListComp x [⟨tge, iter, ifs, 0⟩] scope p) (liftE G W cx.N.length (ev G.pg cl (.lc elt tg it c own))) := by
        refine peOf (pe_lc (own := own.map fun i => (cx.N.getD i "", i)) hX.calm hX.nd (soundI it (tge := tge) h3 hX tk fun is his => by
          subst his
          cases tge <;> first | exact ⟨_, _, _, rfl⟩ | cases h5) hok hg ht he (folded_of h2)) fun s H Q q => ?_
        rw [hown, hX.hK]
        exact lc_read htg q
      exact ⟨hE, test_of hX.hK hE rfl⟩
  | .lc2 elt tg it c tg1 it1 c1 own own1, e, cx, X, W, h, hX, tk => by
    rw [matE_lc2] at h
    match e, h with
    | .ListComp x [⟨tge, iter, ifs, as⟩, ⟨tge1, iter1, ifs1, as1⟩] scope p, h =>
      obtain ⟨h0, g1'⟩ := and2 h
      obtain ⟨h1, g2⟩ := and2 g1'
      obtain ⟨h2, g3⟩ := and2 g2
      obtain ⟨h2', g4⟩ := and2 g3
      obtain ⟨h3, g5⟩ := and2 g4
      obtain ⟨h4, g6⟩ := and2 g5
      obtain ⟨h5, g7⟩ := and2 g6
      obtain ⟨h3', g8⟩ := and2 g7
      obtain ⟨h5', g9⟩ := and2 g8
      obtain ⟨h6, g10⟩ := and2 g9
      obtain ⟨h6', g11⟩ := and2 g10
      obtain ⟨h6'', g12⟩ := and2 g11
      obtain ⟨h7, g13⟩ := and2 g12
      obtain ⟨h7', h8⟩ := and2 g13
      clear g1' g2 g3 g4 g5 g6 g7 g8 g9 g10 g11 g12 g13
      have has : as = 0 := by simpa using h0
      have has1 : as1 = 0 := by simpa using h1
      subst has has1
      have hown : (own.map fun i => (cx.N.getD i "", i)).map (·.2) = own := by
        rw [List.map_map]
        exact List.map_id'' (fun _ => rfl) own
      have hok : BlkOk X.N X.env.scope scope (own.map fun i => (cx.N.getD i "", i)) := by
        rw [hX.hN, hX.hs]
        exact blkOk_by h4
      have htg : ∀ i ∈ tgSlots tg, i ∈ own := fun i hi => by
        have z := List.all_eq_true.mp h6 i hi
        simpa using z
      have htg1 : ∀ i ∈ tgSlots tg1, i ∈ own1 := fun i hi => by
        have z := List.all_eq_true.mp h6' i hi
        simpa using z
      have hv : ∀ i ∈ own1, i ∈ (own.map fun i => (cx.N.getD i "", i)).map (·.2) := fun i hi => by
        rw [hown]
        have z := List.all_eq_true.mp h6'' i hi
        simpa using z
      have hg : ∀ (s : Shared) (H : Hp) (C : Addr) (cl : List (Str × Addr)) (fp : List Addr), PG (X.blk s H scope (compEnvC scope cl C X.env) fp) tge (gT X.K tg) := fun s H C cl fp => tg_ok (xok_blk hX scope s H C cl fp) h5
      have hg1 : ∀ (s : Shared) (H : Hp) (C : Addr) (cl : List (Str × Addr)) (fp : List Addr), PG (X.blk s H scope (compEnvC scope cl C X.env) fp) tge1 (gT X.K tg1) := fun s H C cl fp => tg_ok (xok_blk hX scope s H C cl fp) h5'
      have test : ∀ {ifs : List Expr} {c : ME}, (match ifs with
          | [] => isTrueC c
          | [t] => matE (cx.blk scope) c t
          | _ => false) = true → (∀ t, ifs = [t] → ∀ (s : Shared) (H : Hp) (C : Addr) (cls : List (Str × Addr)) (fp : List Addr), PT (X.blk s H scope (compEnvC scope cls C X.env) fp) t (liftT G W0 cx.N.length (evT G.pg cl c))) →
          ∀ (s : Shared) (H : Hp) (C : Addr) (cls : List (Str × Addr)) (fp : List Addr), PTs (X.blk s H scope (compEnvC scope cls C X.env) fp) ifs (liftT G W0 cx.N.length (evT G.pg cl c)) := by
        intro ifs c h7 ih s H C cls fp
        match ifs, h7, ih with
        | [], h7, _ =>
          refine ⟨fun pins s2 σ H2 Q I q => pts_nil.run pins s2 σ H2 Q I ?_⟩
          obtain ⟨io, r, m, hR, hS, hp⟩ := q
          match c, h7, hp with
          | .cst (.bl true), h7, hp => exact hp io H2 true (List.prefix_refl _) hR rfl
        | [t], h7, ih => exact pts_one (ih t rfl s H C cls fp)
      have ht := test h7 fun t e s H C cls fp => by
        subst e
        exact (soundE c h7 (xok_blk hX scope s H C cls fp) takes0).2
      have ht1 := test h7' fun t e s H C cls fp => by
        subst e
        exact (soundE c1 h7' (xok_blk hX scope s H C cls fp) takes0).2
      have he : ∀ (s : Shared) (H : Hp) (C : Addr) (cls : List (Str × Addr)) (fp : List Addr), PE (X.blk s H scope (compEnvC scope cls C X.env) fp) x (liftE G W0 cx.N.length (ev G.pg cl elt)) := fun s H C cls fp =>
        (soundE elt h8 (xok_blk hX scope s H C cls fp) takes0).1
      have hi1 : ∀ (s : Shared) (H : Hp) (C : Addr) (cls : List (Str × Addr)) (fp : List Addr), PI (X.blk s H scope (compEnvC scope cls C X.env) fp) tge1 iter1 (liftI G W0 cx.N.length (evi G.pg cl it1)) := fun s H C cls fp =>
        soundI it1 (tg := tg1) (cx := cx.blk scope) (tge := tge1) h3' (xok_blk hX scope s H C cls fp) takes0 fun is his => by
          subst his
          cases tge1 <;> first | exact ⟨_, _, _, rfl⟩ | cases h5'
      have hi : PI X tge iter (liftI G W cx.N.length (evi G.pg cl it)) := soundI it (tge := tge) h3 hX tk fun is his => by
          subst his
          cases tge <;> first | exact ⟨_, _, _, rfl⟩ | cases h5
      have hE : PE X (.ListComp x [⟨tge, iter, ifs, 0⟩, ⟨tge1, iter1, ifs1, 0⟩] scope p) (liftE G W cx.N.length (ev G.pg cl (.lc2 elt tg it c tg1 it1 c1 own own1))) := by
        refine peOf (pe_lc2 (own := own.map fun i => (cx.N.getD i "", i)) hX.calm hX.nd hi hok hv hg ht hi1 hg1 ht1 he (folded_of h2) (fun env => folded_of h2')) fun s H Q q => ?_
        rw [hown, hX.hK]
        exact lc2_read htg htg1 q
      exact ⟨hE, test_of hX.hK hE rfl⟩
theorem soundEs : ∀ (as : MEs) {es : List Expr} {cx : Ctx} {X : Cx} {W : WX}, matEs cx as es = true → XOk G k cx X → Takes X W → PA X es (liftA G W cx.N.length (evs G.pg cl as))
  | .nil, es, cx, X, W, h, hX, tk => by
    rw [matEs_nil] at h
    match es, h with
    | [], h => exact paOf pa_nil fun s H Q ⟨io, r, m, hR, hS, hp⟩ => hp io H [] (List.prefix_refl _) hR .nil
  | .cons a as, es, cx, X, W, h, hX, tk => by
    rw [matEs_cons] at h
    match es, h with
    | e :: es, h =>
      obtain ⟨h1, h2⟩ := and2 h
      obtain ⟨h2, h3⟩ := and2 h2
      refine paOf (pa_cons (soundE a h2 hX tk).1 (soundEs as h3 hX tk) (star_of h1)) fun s H Q ⟨io, r, m, hR, hS, hp⟩ => ?_
      rw [evs_cons] at hp
      refine ⟨io, r, m, hR, hS, (Post.bind hp).imp ?_⟩
      rintro x H1 ⟨io1, u, m1, p1, hR1, e1, hp1⟩
      refine ⟨io1, r, m1, hR1, hS.mono p1, (Post.bind hp1).imp ?_⟩
      rintro xs H2 ⟨io2, us, m2, p2, hR2, e2, hp2⟩
      exact hp2 io2 H2 (x :: xs) (List.prefix_refl _) hR2 (.cons (e1.mono p2) e2)
theorem soundKs : ∀ (as : MEs) {ks : List Str} {ws : List Keyword} {cx : Ctx} {X : Cx} {W : WX}, matKs cx as ks ws = true → XOk G k cx X → Takes X W → Kws ks ws ∧ PK X ws (liftA G W cx.N.length (evs G.pg cl as))
  | .nil, ks, ws, cx, X, W, h, hX, tk => by
    rw [matKs_nil] at h
    match ks, ws, h with
    | [], [], h => exact ⟨.nil, pkOf pk_nil fun s H Q ⟨io, r, m, hR, hS, hp⟩ => hp io H [] (List.prefix_refl _) hR .nil⟩
  | .cons a as, ks, ws, cx, X, W, h, hX, tk => by
    rw [matKs_cons] at h
    match ks, ws, h with
    | k :: ks, ⟨nm, x, kp⟩ :: ws, h =>
      obtain ⟨h1, h2⟩ := and2 h
      obtain ⟨h2, h3⟩ := and2 h2
      obtain ⟨h3, h4⟩ := and2 h3
      obtain rfl : nm = some k := of_decide_eq_true h1
      obtain ⟨i1, i2⟩ := soundKs as h4 hX tk
      refine ⟨.cons i1, pkOf (pk_cons (soundE a h3 hX tk).1 i2) fun s H Q ⟨io, r, m, hR, hS, hp⟩ => ?_⟩
      rw [evs_cons] at hp
      refine ⟨io, r, m, hR, hS, (Post.bind hp).imp ?_⟩
      rintro x H1 ⟨io1, u, m1, p1, hR1, e1, hp1⟩
      refine ⟨io1, r, m1, hR1, hS.mono p1, (Post.bind hp1).imp ?_⟩
      rintro xs H2 ⟨io2, us, m2, p2, hR2, e2, hp2⟩
      exact hp2 io2 H2 (x :: xs) (List.prefix_refl _) hR2 (.cons (e1.mono p2) e2)
theorem soundI : ∀ (it : MI) {tg : Tg} {e tge : Expr} {cx : Ctx} {X : Cx} {W : WX}, matI cx tg it e = true → XOk G k cx X → Takes X W → (∀ is, tg = .tp is → ∃ es j p, tge = .Tuple es j p) → PI X tge e (liftI G W cx.N.length (evi G.pg cl it))
  | .seq a, tg, e, tge, cx, X, W, h, hX, tk, ht => by
    have i1 := (soundE a (W := W) h hX tk).1
    refine ⟨fun pins s σ H R I q => ?_⟩
    obtain ⟨io, r, m, hR, hS, hp⟩ := q
    rw [evi_seq] at hp
    have goL : Post G W cx.N.length Em (fun x H1 => ∃ a, x = .ref a ∧ (∃ xs, SqL X.K H1 a xs) ∧ R (Itl X.K a) H1) io (ev G.pg cl a r m) → _ := fun z => (pi_list (tg := tge) i1).run pins s σ H R I ⟨io, r, m, hR, hS, z⟩
    have goT : Post G W cx.N.length Em (fun x H1 => ∃ a, x = .ref a ∧ (∃ xs, SqT X.K H1 a xs) ∧ R (Itt X.K a) H1) io (ev G.pg cl a r m) → _ := fun z => (pi_tup (tg := tge) i1).run pins s σ H R I ⟨io, r, m, hR, hS, z⟩
    cases q : ev G.pg cl a r m with
    | stuck => rw [q] at hp; exact hp.elim
    | ex ee me => rw [q] at hp goL; exact goL hp
    | ok u m1 =>
      rw [q] at hp goL goT
      simp only [bind_ok] at hp
      match u, hp with
      | .ref c, hp =>
        simp only at hp
        cases hx : lsOf m1 c with
        | some xs =>
          rw [hx] at hp
          refine goL fun i H' v p hR' e' => ?_
          obtain ⟨b, e1, rfl⟩ := e'
          obtain ⟨vs, b1, b2⟩ := hR'.ls hx e1
          rw [hX.hK]
          exact ⟨b, rfl, ⟨vs, b2⟩, hp i H' _ p hR' (.sqL e1)⟩
        | none =>
          rw [hx] at hp
          simp only at hp
          cases hy : tpOf m1 c with
          | none => rw [hy] at hp; exact hp.elim
          | some xs =>
            rw [hy] at hp
            refine goT fun i H' v p hR' e' => ?_
            obtain ⟨b, e1, rfl⟩ := e'
            obtain ⟨vs, b1, b2⟩ := hR'.tp hy e1
            rw [hX.hK]
            exact ⟨b, rfl, ⟨vs, b2⟩, hp i H' _ p hR' (.sqT e1)⟩
  | .rng a, tg, e, tge, cx, X, W, h, hX, tk, ht => by
    rw [matI_rng] at h
    match e, h with
    | .Call (.Name x q) [y] [] p, h =>
      obtain ⟨k1, g2⟩ := and2 h
      obtain ⟨k2, g3⟩ := and2 g2
      obtain ⟨k3, k4⟩ := and2 g3
      have hx : x = ("range" : Str) := of_decide_eq_true k1
      subst hx
      obtain ⟨hg, hd⟩ := hX.name k2
      have i1 := (soundE a (W := W) k4 hX tk).1
      refine ⟨fun pins s σ H R I q => (pi_range1 hg (hX.free hG (by decide)) (pa_cons i1 pa_nil (star_of k3)) (star_of k3)).run pins s σ H R I ?_⟩
      obtain ⟨io, r, m, hR, hS, hp⟩ := q
      rw [evi_rng] at hp
      refine ⟨io, r, m, hR, hS, (Post.bind hp).imp ?_⟩
      rintro v H1 ⟨io1, u, m1, p1, hR1, e1, hp1⟩
      match u, e1, hp1 with
      | .int j, e1, hp1 =>
        simp only at hp1
        by_cases hc : -(2 ^ 62) ≤ j ∧ j < 2 ^ 62
        · rw [if_pos hc] at hp1
          cases e1
          exact ⟨j, rfl, hc.1, hc.2, hp1 io1 H1 _ (List.prefix_refl _) hR1 (.rng 0 j.toNat)⟩
        · rw [if_neg hc] at hp1
          exact hp1.elim
  | .rng2 a b, tg, e, tge, cx, X, W, h, hX, tk, ht => by
    rw [matI_rng2] at h
    match e, h with
    | .Call (.Name x q) [y, z] [] p, h =>
      obtain ⟨k1, g2⟩ := and2 h
      obtain ⟨k2, g3⟩ := and2 g2
      obtain ⟨k3, g4⟩ := and2 g3
      obtain ⟨k4, g5⟩ := and2 g4
      obtain ⟨k5, k6⟩ := and2 g5
      have hx : x = ("range" : Str) := of_decide_eq_true k1
      subst hx
      obtain ⟨hg, hd⟩ := hX.name k2
      have i1 := (soundE a (W := W) k5 hX tk).1
      have i2 := (soundE b (W := W) k6 hX tk).1
      refine ⟨fun pins s σ H R I q => (pi_range2 hg (hX.free hG (by decide)) (pa_cons i1 (pa_cons i2 pa_nil (star_of k4)) (star_of k3)) (by rw [star_of k3, star_of k4]; rfl) (star_of k4)).run pins s σ H R I ?_⟩
      obtain ⟨io, r, m, hR, hS, hp⟩ := q
      rw [evi_rng2] at hp
      refine ⟨io, r, m, hR, hS, (Post.bind hp).imp ?_⟩
      rintro v H1 ⟨io1, u, m1, p1, hR1, e1, hp1⟩
      refine ⟨io1, r, m1, hR1, hS.mono p1, (Post.bind hp1).imp ?_⟩
      rintro v2 H2 ⟨io2, u2, m2, p2, hR2, e2, hp2⟩
      match u, u2, e1, e2, hp2 with
      | .int i, .int j, e1, e2, hp2 =>
        simp only at hp2
        by_cases hc : (-(2 ^ 62) ≤ i ∧ i < 2 ^ 62) ∧ (-(2 ^ 62) ≤ j ∧ j < 2 ^ 62)
        · rw [if_pos hc] at hp2
          cases e1
          cases e2
          exact ⟨i, j, rfl, ⟨hc.1.1, hc.1.2, hc.2.1, hc.2.2⟩, hp2 io2 H2 _ (List.prefix_refl _) hR2 (.rng i (j - i).toNat)⟩
        · rw [if_neg hc] at hp2
          exact hp2.elim
  | .enu a, tg, e, tge, cx, X, W, h, hX, tk, ht => by
    rw [matI_enu] at h
    match tg, e, h with
    | .tp is, .Call (.Name x q) [y] [] p, h =>
      obtain ⟨es, j, pt, rfl⟩ := ht is rfl
      obtain ⟨k1, g2⟩ := and2 h
      obtain ⟨k2, g3⟩ := and2 g2
      obtain ⟨k3, k4⟩ := and2 g3
      have hx : x = ("enumerate" : Str) := of_decide_eq_true k1
      subst hx
      obtain ⟨hg, hd⟩ := hX.name k2
      have i1 := (soundE a (W := W) k4 hX tk).1
      refine ⟨fun pins s σ H R I q => (pi_enum hg (hX.free hG (by decide)) (pa_cons i1 pa_nil (star_of k3)) (star_of k3)).run pins s σ H R I ?_⟩
      obtain ⟨io, r, m, hR, hS, hp⟩ := q
      rw [evi_enu] at hp
      refine ⟨io, r, m, hR, hS, (Post.bind hp).imp ?_⟩
      rintro v H1 ⟨io1, u, m1, p1, hR1, e1, hp1⟩
      match u, e1, hp1 with
      | .ref c, e1, hp1 =>
        obtain ⟨b, e2, rfl⟩ := e1
        simp only at hp1
        cases hx : lsOf m1 c with
        | none => rw [hx] at hp1; exact hp1.elim
        | some xs =>
          rw [hx] at hp1
          obtain ⟨vs, b1, b2⟩ := hR1.ls hx e2
          rw [hX.hK]
          exact ⟨b, vs, rfl, b2, hp1 io1 H1 _ (List.prefix_refl _) hR1 (.en e2)⟩
  | .zip a b, tg, e, tge, cx, X, W, h, hX, tk, ht => by
    rw [matI_zip] at h
    match tg, e, h with
    | .tp is, .Call (.Name x q) [y, z] [] p, h =>
      obtain ⟨es, j, pt, rfl⟩ := ht is rfl
      obtain ⟨k1, g2⟩ := and2 h
      obtain ⟨k2, g3⟩ := and2 g2
      obtain ⟨k3, g4⟩ := and2 g3
      obtain ⟨k4, g5⟩ := and2 g4
      obtain ⟨k5, k6⟩ := and2 g5
      have hx : x = ("zip" : Str) := of_decide_eq_true k1
      subst hx
      obtain ⟨hg, hd⟩ := hX.name k2
      have i1 := (soundE a (W := W) k5 hX tk).1
      have i2 := (soundE b (W := W) k6 hX tk).1
      refine ⟨fun pins s σ H R I q => (pi_zip hg (hX.free hG (by decide)) (pa_cons i1 (pa_cons i2 pa_nil (star_of k4)) (star_of k3)) (star_of k3) (nostar_of (by rw [List.all_cons, k4]; rfl))).run pins s σ H R I ?_⟩
      obtain ⟨io, r, m, hR, hS, hp⟩ := q
      rw [evi_zip] at hp
      refine ⟨io, r, m, hR, hS, (Post.bind hp).imp ?_⟩
      rintro v H1 ⟨io1, u, m1, p1, hR1, e1, hp1⟩
      refine ⟨io1, r, m1, hR1, hS.mono p1, (Post.bind hp1).imp ?_⟩
      rintro v2 H2 ⟨io2, u2, m2, p2, hR2, e2, hp2⟩
      match u, u2, e1, e2, hp2 with
      | .ref c, .ref d, e1, e2, hp2 =>
        obtain ⟨f1, e3, rfl⟩ := e1
        obtain ⟨f2, e4, rfl⟩ := e2
        simp only at hp2
        cases hx : lsOf m2 c with
        | none => rw [hx] at hp2; exact hp2.elim
        | some xs =>
          cases hy : lsOf m2 d with
          | none => rw [hx, hy] at hp2; exact hp2.elim
          | some ys =>
            rw [hx, hy] at hp2
            have e3' := pre_get p2 e3
            obtain ⟨vs, b1, b2⟩ := hR2.ls hx e3'
            obtain ⟨ws, b3, b4⟩ := hR2.ls hy e4
            rw [hX.hK]
            exact ⟨f1, f2, vs, ws, rfl, b2, b4, hp2 io2 H2 _ (List.prefix_refl _) hR2 (.zp e3' e4)⟩
end
/-- a comprehension given to a name on its line -/
theorem setLc {a : ME} {v : Expr} {cx : Ctx} {X : Cx} {W : WX} {i : Nat} {y : Str} {py spos : Pos} (h : matE cx a v = true) (hX : XOk G k cx X) (tk : Takes X W) (hv : okC v = false) (hy : X.N[i]? = some y) (hyl : X.env.scope.names.lookup y = some .local)
    (hsw : swapsWith v (some (.Name y py)) spos.line X.env = pure true) : PS X (.Assign [.Name y py] v spos) (tAsg (liftE G W cx.N.length (ev G.pg cl a)) (gName i)) := by
  have key : ∀ {t : TE}, PS X (.Assign [.Name y py] v spos) (tAsg t (gName i)) → (∀ s H Q, liftE G W cx.N.length (ev G.pg cl a) s H Q → t s H Q) → PS X (.Assign [.Name y py] v spos) (tAsg (liftE G W cx.N.length (ev G.pg cl a)) (gName i)) :=
    fun p f => ⟨fun pins s σ H D I q => p.run pins s σ H D I (f _ _ _ q)⟩
  cases a with
  | lc elt tg it c own =>
    rw [matE_lc] at h
    match v, h, hsw with
    | .ListComp x [⟨tge, iter, ifs, as⟩] scope p, h, hsw =>
      obtain ⟨h1, g2⟩ := and2 h
      obtain ⟨h2, g3⟩ := and2 g2
      obtain ⟨h3, g4⟩ := and2 g3
      obtain ⟨h4, g5⟩ := and2 g4
      obtain ⟨h5, g6⟩ := and2 g5
      obtain ⟨h6, g7⟩ := and2 g6
      obtain ⟨h7, h8⟩ := and2 g7
      clear g2 g3 g4 g5 g6 g7
      have has : as = 0 := by simpa using h1
      subst has
      have hown : (own.map fun i => (cx.N.getD i "", i)).map (·.2) = own := by
        rw [List.map_map]
        exact List.map_id'' (fun _ => rfl) own
      have hok : BlkOk X.N X.env.scope scope (own.map fun i => (cx.N.getD i "", i)) := by
        rw [hX.hN, hX.hs]
        exact blkOk_by h4
      have htg : ∀ i ∈ tgSlots tg, i ∈ own := fun i hi => by
        have z := List.all_eq_true.mp h6 i hi
        simpa using z
      have hg : ∀ (s : Shared) (H : Hp) (C : Addr) (cl : List (Str × Addr)) (fp : List Addr), PG (X.blk s H scope (compEnvC scope cl C X.env) fp) tge (gT X.K tg) := fun s H C cl fp => tg_ok (xok_blk hX scope s H C cl fp) h5
      have ht : ∀ (s : Shared) (H : Hp) (C : Addr) (cls : List (Str × Addr)) (fp : List Addr), PTs (X.blk s H scope (compEnvC scope cls C X.env) fp) ifs (liftT G W0 cx.N.length (evT G.pg cl c)) := fun s H C cls fp => by
        have hb := xok_blk hX scope s H C cls fp
        match ifs, h7 with
        | [], h7 =>
          refine ⟨fun pins s2 σ H2 Q I q => pts_nil.run pins s2 σ H2 Q I ?_⟩
          obtain ⟨io, r, m, hR, hS, hp⟩ := q
          match c, h7, hp with
          | .cst (.bl true), h7, hp => exact hp io H2 true (List.prefix_refl _) hR rfl
        | [t], h7 => exact pts_one (soundE hF hG c h7 hb takes0).2
      have he : ∀ (s : Shared) (H : Hp) (C : Addr) (cls : List (Str × Addr)) (fp : List Addr), PE (X.blk s H scope (compEnvC scope cls C X.env) fp) x (liftE G W0 cx.N.length (ev G.pg cl elt)) := fun s H C cls fp =>
        (soundE hF hG elt h8 (xok_blk hX scope s H C cls fp) takes0).1
      have hi : PI X tge iter (liftI G W cx.N.length (evi G.pg cl it)) := soundI hF hG it (tge := tge) h3 hX tk fun is his => by
          subst his
          cases tge <;> first | exact ⟨_, _, _, rfl⟩ | cases h5
      refine key (ps_setLc (own := own.map fun i => (cx.N.getD i "", i)) hX.calm hX.nd hy hyl hsw hi hok hg ht he (folded_of h2)) fun s H Q q => ?_
      rw [hown, hX.hK]
      exact lc_read htg q
  | lc2 elt tg it c tg1 it1 c1 own own1 =>
    rw [matE_lc2] at h
    match v, h, hsw with
    | .ListComp x [⟨tge, iter, ifs, as⟩, ⟨tge1, iter1, ifs1, as1⟩] scope p, h, hsw =>
      obtain ⟨h0, g1'⟩ := and2 h
      obtain ⟨h1, g2⟩ := and2 g1'
      obtain ⟨h2, g3⟩ := and2 g2
      obtain ⟨h2', g4⟩ := and2 g3
      obtain ⟨h3, g5⟩ := and2 g4
      obtain ⟨h4, g6⟩ := and2 g5
      obtain ⟨h5, g7⟩ := and2 g6
      obtain ⟨h3', g8⟩ := and2 g7
      obtain ⟨h5', g9⟩ := and2 g8
      obtain ⟨h6, g10⟩ := and2 g9
      obtain ⟨h6', g11⟩ := and2 g10
      obtain ⟨h6'', g12⟩ := and2 g11
      obtain ⟨h7, g13⟩ := and2 g12
      obtain ⟨h7', h8⟩ := and2 g13
      clear g1' g2 g3 g4 g5 g6 g7 g8 g9 g10 g11 g12 g13
      have has : as = 0 := by simpa using h0
      have has1 : as1 = 0 := by simpa using h1
      subst has has1
      have hown : (own.map fun i => (cx.N.getD i "", i)).map (·.2) = own := by
        rw [List.map_map]
        exact List.map_id'' (fun _ => rfl) own
      have hok : BlkOk X.N X.env.scope scope (own.map fun i => (cx.N.getD i "", i)) := by
        rw [hX.hN, hX.hs]
        exact blkOk_by h4
      have htg : ∀ i ∈ tgSlots tg, i ∈ own := fun i hi => by
        have z := List.all_eq_true.mp h6 i hi
        simpa using z
      have htg1 : ∀ i ∈ tgSlots tg1, i ∈ own1 := fun i hi => by
        have z := List.all_eq_true.mp h6' i hi
        simpa using z
      have hv : ∀ i ∈ own1, i ∈ (own.map fun i => (cx.N.getD i "", i)).map (·.2) := fun i hi => by
        rw [hown]
        have z := List.all_eq_true.mp h6'' i hi
        simpa using z
      have hg : ∀ (s : Shared) (H : Hp) (C : Addr) (cl : List (Str × Addr)) (fp : List Addr), PG (X.blk s H scope (compEnvC scope cl C X.env) fp) tge (gT X.K tg) := fun s H C cl fp => tg_ok (xok_blk hX scope s H C cl fp) h5
      have hg1 : ∀ (s : Shared) (H : Hp) (C : Addr) (cl : List (Str × Addr)) (fp : List Addr), PG (X.blk s H scope (compEnvC scope cl C X.env) fp) tge1 (gT X.K tg1) := fun s H C cl fp => tg_ok (xok_blk hX scope s H C cl fp) h5'
      have test : ∀ {ifs : List Expr} {c : ME}, (match ifs with
          | [] => isTrueC c
          | [t] => matE (cx.blk scope) c t
          | _ => false) = true → (∀ t, ifs = [t] → ∀ (s : Shared) (H : Hp) (C : Addr) (cls : List (Str × Addr)) (fp : List Addr), PT (X.blk s H scope (compEnvC scope cls C X.env) fp) t (liftT G W0 cx.N.length (evT G.pg cl c))) →
          ∀ (s : Shared) (H : Hp) (C : Addr) (cls : List (Str × Addr)) (fp : List Addr), PTs (X.blk s H scope (compEnvC scope cls C X.env) fp) ifs (liftT G W0 cx.N.length (evT G.pg cl c)) := by
        intro ifs c h7 ih s H C cls fp
        match ifs, h7, ih with
        | [], h7, _ =>
          refine ⟨fun pins s2 σ H2 Q I q => pts_nil.run pins s2 σ H2 Q I ?_⟩
          obtain ⟨io, r, m, hR, hS, hp⟩ := q
          match c, h7, hp with
          | .cst (.bl true), h7, hp => exact hp io H2 true (List.prefix_refl _) hR rfl
        | [t], h7, ih => exact pts_one (ih t rfl s H C cls fp)
      have ht := test h7 fun t e s H C cls fp => by
        subst e
        exact (soundE hF hG c h7 (xok_blk hX scope s H C cls fp) takes0).2
      have ht1 := test h7' fun t e s H C cls fp => by
        subst e
        exact (soundE hF hG c1 h7' (xok_blk hX scope s H C cls fp) takes0).2
      have he : ∀ (s : Shared) (H : Hp) (C : Addr) (cls : List (Str × Addr)) (fp : List Addr), PE (X.blk s H scope (compEnvC scope cls C X.env) fp) x (liftE G W0 cx.N.length (ev G.pg cl elt)) := fun s H C cls fp =>
        (soundE hF hG elt h8 (xok_blk hX scope s H C cls fp) takes0).1
      have hi1 : ∀ (s : Shared) (H : Hp) (C : Addr) (cls : List (Str × Addr)) (fp : List Addr), PI (X.blk s H scope (compEnvC scope cls C X.env) fp) tge1 iter1 (liftI G W0 cx.N.length (evi G.pg cl it1)) := fun s H C cls fp =>
        soundI hF hG it1 (tg := tg1) (cx := cx.blk scope) (tge := tge1) h3' (xok_blk hX scope s H C cls fp) takes0 fun is his => by
          subst his
          cases tge1 <;> first | exact ⟨_, _, _, rfl⟩ | cases h5'
      have hi : PI X tge iter (liftI G W cx.N.length (evi G.pg cl it)) := soundI hF hG it (tge := tge) h3 hX tk fun is his => by
          subst his
          cases tge <;> first | exact ⟨_, _, _, rfl⟩ | cases h5
      refine key (ps_setLc2 (own := own.map fun i => (cx.N.getD i "", i)) hX.calm hX.nd hy hyl hsw hi hok hv hg ht hi1 hg1 ht1 he (folded_of h2) (fun env => folded_of h2')) fun s H Q q => ?_
      rw [hown, hX.hK]
      exact lc2_read htg htg1 q
  | bm f a2 es =>
    exfalso
    cases f <;> cases v <;> first | exact Bool.noConfusion hv | exact Bool.noConfusion h
  | _ =>
    exfalso
    cases v <;> first | exact Bool.noConfusion hv | exact Bool.noConfusion h
end
end Py
set_option maxHeartbeats 4000000
/-! MINI PYTHON, part C6: statements: the matcher, the theorem. -/
namespace Py
open PySem PySem.Spec PyProof.Rows L2

theorem swaps_of {e : Expr} {t : Option Expr} {l : Nat} {env : PySem.Env} (h : okC e = true) : swapsWith e t l env = pure false := by
  cases e <;> first | rfl | cases h
def okTup : Expr → Bool
  | .Tuple _ _ _ => false
  | _ => true
theorem swappedT {es : List Expr} {k : Nat} {p : Pos} {e : Expr} {env : PySem.Env} (h : okTup e = true) : swappedStores [.Tuple es k p] e env = pure none := by
  cases e <;> first | rfl | cases h
theorem swapsT {es : List Expr} {k : Nat} {p : Pos} {e : Expr} {l : Nat} {env : PySem.Env} : swapsWithSole [.Tuple es k p] e l env = pure false := by
  cases e <;> rfl
theorem swapsS {o i : Expr} {p : Pos} {e : Expr} {l : Nat} {env : PySem.Env} : swapsWithSole [.Subscript o i p] e l env = pure false := by
  cases e <;> rfl
theorem swappedS {o i : Expr} {p : Pos} {e : Expr} {env : PySem.Env} : swappedStores [.Subscript o i p] e env = pure none := by
  cases e <;> rfl
/-- a comprehension given to a name: true where the name is stored within -/
def swapB (sc : Scope) (x : Str) (px : Pos) (v : Expr) : Option Bool := match v with
  | .ListComp _ _ scope pos => match sc.names.lookup x with
    | some .local => if (px.line == pos.line) && !(scope.names.any fun (n, k) => n == x && (k == .local || k == .cell)) then some true else none
    | some .cell => some false
    | _ => none
  | .SetComp _ _ _ _ => none
  | .DictComp _ _ _ _ _ => none
  | _ => some false

/-! ### parts of trees -/
def dNm : Expr → Option Str
  | .Name x _ => some x
  | _ => none
theorem dNm_ok {e : Expr} {x : Str} (h : dNm e = some x) : ∃ p, e = .Name x p := by
  cases e with
  | Name y p => exact ⟨p, by rw [Option.some.inj h]⟩
  | _ => cases h
def dPr : Expr → Option (Expr × Expr)
  | .Tuple es _ _ => match es with
    | [a, b] => some (a, b)
    | _ => none
  | _ => none
theorem dPr_ok {e a b : Expr} (h : dPr e = some (a, b)) : ∃ k p, e = .Tuple [a, b] k p := by
  cases e with
  | Tuple es k p =>
    match es, h with
    | [x, y], h =>
      cases h
      exact ⟨k, p, rfl⟩
  | _ => cases h
/-- f(..) -/
def dCl : Expr → Option (Str × List Expr)
  | .Call f xs ks _ => match dNm f, ks with
    | some x, [] => some (x, xs)
    | _, _ => none
  | _ => none
theorem dCl_ok {e : Expr} {x : Str} {xs : List Expr} (h : dCl e = some (x, xs)) : ∃ q p, e = .Call (.Name x q) xs [] p := by
  cases e with
  | Call f ys ks p =>
    replace h : (match (generalizing := false) dNm f, ks with
      | some x, [] => some (x, ys)
      | _, _ => none) = some (x, xs) := h
    cases hf : dNm f with
    | none => rw [hf] at h; cases h
    | some y =>
      rw [hf] at h
      obtain ⟨q, rfl⟩ := dNm_ok hf
      cases ks with
      | nil => cases h; exact ⟨q, p, rfl⟩
      | cons _ _ => cases h
  | _ => cases h
/-- the one target -/
def dTg : List Expr → Option Expr
  | [e] => some e
  | _ => none
theorem dTg_ok {es : List Expr} {e : Expr} (h : dTg es = some e) : es = [e] := by
  match es, h with
  | [x], h => rw [Option.some.inj h]
/-- except C as n: return f(n) -/
def dHd : List ExceptHandler → Option (Expr × Str × List Stmt)
  | [.ExceptHandler (some e) (some n) ss _] => some (e, n, ss)
  | _ => none
theorem dHd_ok {hs : List ExceptHandler} {e : Expr} {n : Str} {ss : List Stmt} (h : dHd hs = some (e, n, ss)) : ∃ p, hs = [.ExceptHandler (some e) (some n) ss p] := by
  match hs, h with
  | [.ExceptHandler (some x) (some y) zs p], h =>
    cases h
    exact ⟨p, rfl⟩
def dRt : Stmt → Option Expr
  | .Return e _ => e
  | _ => none
theorem dRt_ok {s : Stmt} {e : Expr} (h : dRt s = some e) : ∃ p, s = .Return (some e) p := by
  cases s with
  | Return o p =>
    obtain rfl : o = some e := h
    exact ⟨p, rfl⟩
  | _ => cases h
def dSuite (hs : List ExceptHandler) : Option (Str × Str × Str × Str) := match dHd hs with
  | some (e, n, [s]) => match dNm e, dRt s with
    | some x, some c => match dCl c with
      | some (y, [a]) => match dNm a with
        | some n' => some (x, n, y, n')
        | none => none
      | _ => none
    | _, _ => none
  | _ => none
theorem dSuite_ok {hs : List ExceptHandler} {x n y n' : Str} (h : dSuite hs = some (x, n, y, n')) : ∃ p1 p2 p3 p4 p5 p6, hs = [.ExceptHandler (some (.Name x p1)) (some n) [.Return (some (.Call (.Name y p2) [.Name n' p3] [] p4)) p5] p6] := by
  unfold dSuite at h
  split at h
  · rename_i e n0 s h1
    obtain ⟨p6, rfl⟩ := dHd_ok h1
    split at h
    · rename_i x0 c h2 h3
      obtain ⟨p1, rfl⟩ := dNm_ok h2
      obtain ⟨p5, rfl⟩ := dRt_ok h3
      split at h
      · rename_i y0 a h4
        obtain ⟨p2, p4, rfl⟩ := dCl_ok h4
        split at h
        · rename_i n1 h5
          obtain ⟨p3, rfl⟩ := dNm_ok h5
          cases h
          exact ⟨p1, p2, p3, p4, p5, p6, rfl⟩
        · cases h
      · cases h
    · cases h
  · cases h
/-- a, b = v, w -/
def dPar (ts : List Expr) (vv : Expr) : Option (Str × Str × Pos × Pos × Expr × Expr) := match dTg ts with
  | some t => match dPr t, dPr vv with
    | some (a, b), some (v, w) => match a, b with
      | .Name x px, .Name y py => some (x, y, px, py, v, w)
      | _, _ => none
    | _, _ => none
  | none => none
theorem dPar_ok {ts : List Expr} {vv : Expr} {x y : Str} {px py : Pos} {v w : Expr} (h : dPar ts vv = some (x, y, px, py, v, w)) : ∃ kt pt k2 pt2, ts = [.Tuple [.Name x px, .Name y py] kt pt] ∧ vv = .Tuple [v, w] k2 pt2 := by
  unfold dPar at h
  split at h
  · rename_i t h1
    obtain rfl := dTg_ok h1
    split at h
    · rename_i a b v0 w0 h2 h3
      obtain ⟨kt, pt, rfl⟩ := dPr_ok h2
      obtain ⟨k2, pt2, rfl⟩ := dPr_ok h3
      cases a with
      | Name x0 px0 =>
        cases b with
        | Name y0 py0 => cases h; exact ⟨kt, pt, k2, pt2, rfl, rfl⟩
        | _ => cases h
      | _ => cases h
    · cases h
  · cases h
/-- an exception class with one field -/
def excB (cx : Ctx) (c : Str) : Bool := match cx.pg.exc.lookup c with
  | some (some _) => true
  | _ => false
mutual
def matS (cx : Ctx) : MS → Stmt → Bool
  | .expr e, s => match s with
    | .Expr x _ => okC x && matE cx e x
    | _ => false
  | .asg i e, s => match s with
    | .Assign [.Name x px] v _ => storB cx i x && (matE cx e v && (match swapB cx.sc x px v with
      | some _ => true
      | none => false))
    | _ => false
  | .asgT is e, s => match s with
    | .Assign [.Tuple es k p1] v _ => okTup v && (matTs cx is es && matE cx e v)
    | _ => false
  | .par i j a b, s => match s with
    | .Assign ts vv _ => match dPar ts vv with
      | some (x, y, px, py, v, w) => storB cx i x && (storB cx j y && (decide (i ≠ j) && (decide (x ≠ y) && (decide (cx.sc.names.lookup x = some .local) && (decide (cx.sc.names.lookup y = some .local) &&
      ((py.line == px.line) && (!([v, w].all (foldedForSure 8)) && (!([v, w].all (constantsAlone 8)) && matEs cx (.cons a (.cons b .nil)) [v, w]))))))))
      | none => false
    | _ => false
  | .sub o i v, s => match s with
    | .Assign [.Subscript o' i' _] v' _ => okX i' && (matE cx v v' && (matE cx o o' && matE cx i i'))
    | _ => false
  | .aug i o e, s => match s with
    | .AugAssign (.Name x _) op v _ => storB cx i x && ((match o with
      | .add => decide (op = .Add)
      | .sub => decide (op = .Sub)
      | _ => false) && matE cx e v)
    | _ => false
  | .ifs c a b, s => match s with
    | .If t xs ys _ => matE cx c t && (matSs cx a xs && matSs cx b ys)
    | _ => false
  | .fors tg it b, s => match s with
    | .For tge iter body [] _ => okX iter && (matTg cx tg tge && (matI cx tg it iter && matSs cx b body))
    | _ => false
  | .whl c b, s => match s with
    | .While t body [] _ => matE cx c t && matSs cx b body
    | _ => false
  | .ret e, s => match s with
    | .Return (some v) _ => matE cx e v
    | _ => false
  | .retN, s => match s with
    | .Return none _ => true
    | _ => false
  | .raise c es, s => match s with
    | .Raise (some e) none _ => match dCl e with
      | some (x, xs) => decide (x = c) && (nameB cx x && (excB cx c && matEs cx es xs))
      | none => false
    | _ => false
  | .brk, s => match s with
    | .Break _ => true
    | _ => false
  | .cnt, s => match s with
    | .Continue _ => true
    | _ => false
  | .pass, s => match s with
    | .Pass _ => true
    | _ => false
  | .tryK b i h f, s => match s with
    | .Try body hs [] [] _ => match dSuite hs with
      | some (x, n, y, n') => decide (x = h) && (nameB cx x && (decide (cx.N[i]? = some n) && (decide (cx.sc.names.lookup n = some .local) &&
        (decide (n' = n) && (slotB cx i n && (decide (y = f) && (nameB cx y && (decide (h = cx.pg.base) && (decide (f ∈ cx.pg.kinds) && matSs cx b body)))))))))
      | none => false
    | _ => false
def matSs (cx : Ctx) : MSs → List Stmt → Bool
  | .nil, ss => match ss with
    | [] => true
    | _ => false
  | .cons s ss, xs => match xs with
    | x :: r => matS cx s x && matSs cx ss r
    | [] => false
end

theorem swapped2 {x y : Str} {px py p1 p2 : Pos} {k1 k2 : Nat} {v w : Expr} {env : PySem.Env} (hk : env.scope.kind = .function) (hx : env.scope.names.lookup x = some .local) (hy : env.scope.names.lookup y = some .local) (hxy : x ≠ y) (hv : okX v = true) (hw : okX w = true)
    (hl : (py.line == px.line) = true) (h1 : [v, w].all (foldedForSure 8) = false) (h2 : [v, w].all (constantsAlone 8) = false) :
    swappedStores [.Tuple [.Name x px, .Name y py] k1 p1] (.Tuple [v, w] k2 p2) env = pure (some [x, y]) := by
  have hb : env.blockKind = .function := by unfold Env.blockKind; rw [hk]; rfl
  have kx : env.kindOf x = some .local := hx
  have ky : env.kindOf y = some .local := hy
  have e : ([x, y] : List Str).eraseDups.length = 2 := by
    have q : (y == x) = false := by simpa using (Ne.symm hxy)
    simp [List.eraseDups_cons, q]
  have hl' : py.line = px.line := by simpa using hl
  unfold swappedStores
  simp only [hb]
  rw [if_neg (by simp)]
  rw [if_neg ?_]
  · have q1 : (env.kindOf x == some NameKind.local && px.line == px.line) = true := by rw [kx]; simp
    have q2 : (env.kindOf y == some NameKind.local && py.line == px.line) = true := by rw [ky, hl']; simp
    simp only [List.filterMap_cons, List.filterMap_nil, List.head?_cons, Option.map_some, Option.getD_some, Expr.pos, q1, q2, if_true]
    rw [if_neg (by rw [e]; simp)]
    rw [if_neg (by rw [h1]; exact Bool.false_ne_true), if_neg (by rw [h2]; exact Bool.false_ne_true)]
  · intro h
    rw [List.any_cons, List.any_cons, List.any_nil, Bool.or_false, Bool.or_eq_true] at h
    rcases h with h | h
    · revert hv
      clear h1 h2
      cases v <;> intro hv <;> first | exact Bool.noConfusion h | exact Bool.noConfusion hv
    · revert hw
      clear h1 h2
      cases w <;> intro hw <;> first | exact Bool.noConfusion h | exact Bool.noConfusion hw

/-! ### the equations of the matchers -/
theorem matS_expr {cx : Ctx} {e} {s : Stmt} : matS cx (MS.expr e) s = (match s with
    | .Expr x _ => okC x && matE cx e x
    | _ => false) := rfl
theorem matS_asg {cx : Ctx} {i e} {s : Stmt} : matS cx (MS.asg i e) s = (match s with
    | .Assign [.Name x px] v _ => storB cx i x && (matE cx e v && (match swapB cx.sc x px v with
      | some _ => true
      | none => false))
    | _ => false) := rfl
theorem matS_asgT {cx : Ctx} {is e} {s : Stmt} : matS cx (MS.asgT is e) s = (match s with
    | .Assign [.Tuple es k p1] v _ => okTup v && (matTs cx is es && matE cx e v)
    | _ => false) := rfl
theorem matS_par {cx : Ctx} {i j a b} {s : Stmt} : matS cx (MS.par i j a b) s = (match s with
    | .Assign ts vv _ => match dPar ts vv with
      | some (x, y, px, py, v, w) => storB cx i x && (storB cx j y && (decide (i ≠ j) && (decide (x ≠ y) && (decide (cx.sc.names.lookup x = some .local) && (decide (cx.sc.names.lookup y = some .local) &&
      ((py.line == px.line) && (!([v, w].all (foldedForSure 8)) && (!([v, w].all (constantsAlone 8)) && matEs cx (.cons a (.cons b .nil)) [v, w]))))))))
      | none => false
    | _ => false) := rfl
theorem matS_sub {cx : Ctx} {o i v} {s : Stmt} : matS cx (MS.sub o i v) s = (match s with
    | .Assign [.Subscript o' i' _] v' _ => okX i' && (matE cx v v' && (matE cx o o' && matE cx i i'))
    | _ => false) := rfl
theorem matS_aug {cx : Ctx} {i o e} {s : Stmt} : matS cx (MS.aug i o e) s = (match s with
    | .AugAssign (.Name x _) op v _ => storB cx i x && ((match o with
      | .add => decide (op = .Add)
      | .sub => decide (op = .Sub)
      | _ => false) && matE cx e v)
    | _ => false) := rfl
theorem matS_ifs {cx : Ctx} {c a b} {s : Stmt} : matS cx (MS.ifs c a b) s = (match s with
    | .If t xs ys _ => matE cx c t && (matSs cx a xs && matSs cx b ys)
    | _ => false) := rfl
theorem matS_fors {cx : Ctx} {tg it b} {s : Stmt} : matS cx (MS.fors tg it b) s = (match s with
    | .For tge iter body [] _ => okX iter && (matTg cx tg tge && (matI cx tg it iter && matSs cx b body))
    | _ => false) := rfl
theorem matS_whl {cx : Ctx} {c b} {s : Stmt} : matS cx (MS.whl c b) s = (match s with
    | .While t body [] _ => matE cx c t && matSs cx b body
    | _ => false) := rfl
theorem matS_ret {cx : Ctx} {e} {s : Stmt} : matS cx (MS.ret e) s = (match s with
    | .Return (some v) _ => matE cx e v
    | _ => false) := rfl
theorem matS_retN {cx : Ctx} {s : Stmt} : matS cx (MS.retN) s = (match s with
    | .Return none _ => true
    | _ => false) := rfl
theorem matS_raise {cx : Ctx} {c es} {s : Stmt} : matS cx (MS.raise c es) s = (match s with
    | .Raise (some e) none _ => match dCl e with
      | some (x, xs) => decide (x = c) && (nameB cx x && (excB cx c && matEs cx es xs))
      | none => false
    | _ => false) := rfl
theorem matS_brk {cx : Ctx} {s : Stmt} : matS cx (MS.brk) s = (match s with
    | .Break _ => true
    | _ => false) := rfl
theorem matS_cnt {cx : Ctx} {s : Stmt} : matS cx (MS.cnt) s = (match s with
    | .Continue _ => true
    | _ => false) := rfl
theorem matS_pass {cx : Ctx} {s : Stmt} : matS cx (MS.pass) s = (match s with
    | .Pass _ => true
    | _ => false) := rfl
theorem matS_tryK {cx : Ctx} {b i h f} {s : Stmt} : matS cx (MS.tryK b i h f) s = (match s with
    | .Try body hs [] [] _ => match dSuite hs with
      | some (x, n, y, n') => decide (x = h) && (nameB cx x && (decide (cx.N[i]? = some n) && (decide (cx.sc.names.lookup n = some .local) &&
        (decide (n' = n) && (slotB cx i n && (decide (y = f) && (nameB cx y && (decide (h = cx.pg.base) && (decide (f ∈ cx.pg.kinds) && matSs cx b body)))))))))
      | none => false
    | _ => false) := rfl
theorem matSs_nil {cx : Ctx} {ss : List Stmt} : matSs cx (MSs.nil) ss = (match ss with
    | [] => true
    | _ => false) := rfl
theorem matSs_cons {cx : Ctx} {s ss} {xs : List Stmt} : matSs cx (MSs.cons s ss) xs = (match xs with
    | x :: r => matS cx s x && matSs cx ss r
    | [] => false) := rfl
/-! ### (end of the equations) -/
/-! ### what is asked of exceptions -/
/-- raise C(..) keeps to the mini run -/
def RaiseOk (G : Gd) (cl : Cl) (k : Nat) : Prop := ∀ (cx : Ctx) (X : Cx) (W : WX) (c : Str) (as : MEs) (xs : List Expr) (p p1 p2 : Pos), nameB cx c = true → excB cx c = true → matEs cx as xs = true → XOk G k cx X → Takes X W →
  PA X xs (liftA G W cx.N.length (evs G.pg cl as)) → PS X (.Raise (some (.Call (.Name c p) xs [] p1)) none p2) (liftS G W cx.N.length (exe G.pg cl (.raise c as)))
/-- the suite that tells the kind of an error -/
def tKind (G : Gd) (L i : Nat) : Addr → Value → Option Addr → TS := fun a cls d D s H => ∃ io e m, RelH G io m H ∧ ExR G io e cls d H ∧ s.length = L ∧ s[i]? = some (some (.ref a)) ∧ H a = none ∧
  ∀ u m', kindOf e m = .ok u m' → ∀ io' H' v, io <+: io' → RelH G io' m' H' → Em io' u v → D.rt v H'
def KindOk (G : Gd) (k : Nat) : Prop := ∀ (cx : Ctx) (X : Cx) (h f n : Str) (i : Nat) (a : Addr) (oe : Obj) (cls : Value) (d : Option Addr) (pn : List (Addr × Obj)) (p1 p2 p3 p4 : Pos), XOk G k cx X → nameB cx f = true → slotB cx i n = true → f ∈ G.pg.kinds →
  Zc cls d oe → (∃ vs, oe.data = .fields vs) → PSs (X.suite a ((a, oe) :: pn)) [.Return (some (.Call (.Name f p1) [.Name n p2] [] p3)) p4] (tKind G cx.N.length i a cls d)

/-- what a clause of the base class needs -/
structure BaseOk (G : Gd) : Prop where
  mg : G.mg G.pg.base = some (.ref (G.xa G.pg.base))
  exm : ∀ p ∈ G.pg.exc, PySem.W.exmOne G.K (.ref (G.xa p.1)) (.ref (G.xa G.pg.base)) = some true

section
variable {G : Gd} {W : WX} {L : Nat} {cl : Cl} {k : Nat} {cx : Ctx} {X : Cx}
theorem psOf {e : Stmt} {t t' : TS} (h : PS X e t) (i : ∀ D s H, t' D s H → t D s H) : PS X e t' := ⟨fun pins s σ H D I q => h.run pins s σ H D I (i _ _ _ q)⟩
theorem pssOf {e : List Stmt} {t t' : TS} (h : PSs X e t) (i : ∀ D s H, t' D s H → t D s H) : PSs X e t' := ⟨fun pins s σ H D I q => h.run pins s σ H D I (i _ _ _ q)⟩
/-- an expression, then the statement's end -/
theorem liftS_e {fa : Env → M → R U} {g : U → Env → M → R (Fl × Env)} {D : Ends} {s : L2.St} {H : Hp} {P : VK} (h : liftS G W L (fun r m => (fa r m).bind fun u m1 => g u r m1) D s H)
    (f : ∀ v H1 io u r m, RelH G io m H1 → Sl L io r s → Em io u v → PostS G W L D io (g u r m) → P v H1) : liftE G W L fa s H P := by
  obtain ⟨io, r, m, hR, hS, hp⟩ := h
  refine ⟨io, r, m, hR, hS, (PostS.bind (T := Em) hp).imp ?_⟩
  rintro v H1 ⟨io1, u, m1, p1, hR1, e1, hp1⟩
  exact f v H1 io1 u r m1 hR1 (hS.mono p1) e1 hp1
theorem liftS_t {fa : Env → M → R Bool} {g : Bool → Env → M → R (Fl × Env)} {D : Ends} {s : L2.St} {H : Hp} {P : Bool → Hp → Prop} (h : liftS G W L (fun r m => (fa r m).bind fun u m1 => g u r m1) D s H)
    (f : ∀ v H1 io r m, RelH G io m H1 → Sl L io r s → PostS G W L D io (g v r m) → P v H1) : liftT G W L fa s H P := by
  obtain ⟨io, r, m, hR, hS, hp⟩ := h
  refine ⟨io, r, m, hR, hS, (PostS.bind (T := fun _ a b => a = b) hp).imp ?_⟩
  rintro v H1 ⟨io1, u, m1, p1, hR1, rfl, hp1⟩
  exact f _ H1 io1 r m1 hR1 (hS.mono p1) hp1
/-- a run that is through -/
theorem PostS.now {D : Ends} {io : List Addr} {p : Fl × Env} {m : M} {H : Hp} {s : L2.St} (h : PostS G W L D io (.ok p m)) (hR : RelH G io m H) (hS : Sl L io p.2 s) : (match p.1 with
    | .nx => D.nx s H
    | .br => D.bk s H
    | .ct => D.ct s H
    | .rt u => ∀ v, Em io u v → D.rt v H) := h io H s (List.prefix_refl _) hR hS
/-- another end for what falls through -/
theorem PostS.ends {D D' : Ends} {io : List Addr} {r : R (Fl × Env)} (h : PostS G W L D io r) (hn : ∀ io' m H s r', io <+: io' → RelH G io' m H → Sl L io' r' s → r = .ok (.nx, r') m → D.nx s H → D'.nx s H) (hb : D'.bk = D.bk) (hc : D'.ct = D.ct) (hr : D'.rt = D.rt) : PostS G W L D' io r := by
  cases r with
  | stuck => exact h
  | ex e m => exact h
  | ok p m =>
    intro i H s q x y
    have z := h i H s q x y
    obtain ⟨fl, r'⟩ := p
    cases fl with
    | nx => exact hn i m H s r' q x y rfl z
    | br => rw [hb]; exact z
    | ct => rw [hc]; exact z
    | rt u => rw [hr]; exact z
end
end Py
set_option maxHeartbeats 4000000
/-! MINI PYTHON, part D1: an exception class of the text with __init__: super().__init__('..'); self.f = x. -/
namespace Py
open PySem PySem.Spec PyProof.Rows L2 PySem.Calls

theorem mc_eq {o : Expr} {name : Str} {apos p3 pos : Pos} {c : Const} {j : Nat} {env : PySem.Env} (h : (apos.endLine == pos.line) = true) : eval (.Call (.Attribute o name apos) [.Constant c j p3] [] pos) env = (do
      let ov ← attributeBase o name env (eval o env)
      standAt apos.atName
      let (f, first) ← holding [ov] (getMethod ov name (do return (← importBound o env).getD true))
      callWith pos f first (backTo pos (starEach [.Constant c j p3] env)) []) := by
  have e : methodCallPos true o env apos pos = pure pos := by
    unfold methodCallPos
    rw [h]
    rfl
  show (do
    let ov ← attributeBase o name env (eval o env)
    standAt apos.atName
    let (f, first) ← holding [ov] (getMethod ov name (do return (← importBound o env).getD true))
    let callPos ← methodCallPos true o env apos pos
    callWith callPos f first (backTo pos (starEach [.Constant c j p3] env)) []) = _
  rw [e]
  rfl
/-- the __init__ -/
structure InitS (scope : Scope) (params : Arguments) (body : List Stmt) (f : Str) : Prop where
  kind : scope.kind = .function
  co : scope.isCoroutine = false
  gen : scope.isGenerator = false
  cell : ∀ x ∈ scope.names, x.2 ≠ .cell
  sup : scope.names.lookup ("super" : Str) = some .globalImplicit
  cls : scope.names.lookup ("__class__" : Str) = some .free
  slf : scope.names.lookup ("self" : Str) = some .local
  head : ∃ ar, (params.posonlyargs ++ params.args).head? = some ar ∧ ar.arg = ("self" : Str)
  arg : ∃ x : Str, scope.names.lookup x = some .local ∧ (("self" : Str) == x) = false ∧ (x == ("__debug__" : Str)) = false ∧
    (∀ (qual : Str) (body : List Stmt) (scope : Scope) (kV doc pm : Value) (an : Option Addr) (cdv ct : Value) (cc : Addr) (a u : Value), bindArgs (W.ksFn "__init__" qual params body scope .none kV doc pm an cdv ct cc) ⟨[a, u], []⟩ = pure [(("self" : Str), a), (x, u)]) ∧
    ∃ (txt : Str) (j : Nat) (p0 p1 p2 p3 p4 p5 p6 p7 p8 p9 : Pos), (p2.endLine == p4.line) = true ∧ body = [.Expr (.Call (.Attribute (.Call (.Name "super" p0) [] [] p1) "__init__" p2) [.Constant (.str txt) j p3] [] p4) p5, .Assign [.Attribute (.Name "self" p6) f p7] (.Name x p8) p9]
structure ExF (prog : Program) (K : W.Frag) (C fI : Addr) (f : Str) : Prop where
  fn : ∃ (oc : Value) (od an : Option Addr) (qual : Str) (params : Arguments) (body : List Stmt) (scope : Scope) (kV doc pm ct : Value) (cda cc : Addr) (osl : Array (Option Value)),
    K.lookup fI = some ⟨oc, od, .func (W.ksFn "__init__" qual params body scope .none kV doc pm an (.ref cda) ct cc), osl⟩ ∧ W.codeIn K (.ref cda) qual = true ∧ InitS scope params body f ∧
    (∃ (ccl : Value) (cdd : Option Addr) (vs : Array Value) (ccs : Array (Option Value)) (file : Str) (tf : Tok), K.lookup cda = some ⟨ccl, cdd, .fields vs, ccs⟩ ∧ vs[2]? = some (.str file tf) ∧ (prog.main.file == file) = true) ∧
    (∃ (cl : Value) (cld : Option Addr) (csl : Array (Option Value)), K.lookup cc = some ⟨cl, cld, .cell (some (.ref C)), csl⟩)
  top : (prog.main.scope.names.lookup ("super" : Str)).isSome = false
  sup : W.ks_superIn K C C "__init__" = some (some (.builtin "ValueError.__init__"))
  sub : W.subIn K (.ref C) (.type "ValueError") = some true
  self : W.mroIn K C (.ref C) = some true
  opq : W.nsIn K cStatics "thirdparty.any" = some none
  noat : W.findIn K (.ref C) f = some none

section
open W
variable {prog : Program} {w : World} {A : Around} {h : Heap} {g : Array GenState} {d : Drawn} {t : Nat} {os : OsState} {K : W.Frag} {mg mb : Str → Option Value} {C e t1 : Addr}
/-- the wrapper called -/
theorem vi_call {E : Value → Shared → Prop} {Q : Value → Shared → Prop} {q : Addr} {rest : List Value} (T : OexC K C) (X : K.In h) (hu : h.get? q = some (kxs_mw "ValueError.__init__" e)) (he : h.get? e = some (HandSPX.excO C t1)) (hz : rest.length ≤ sizeLine)
    (hq : ∀ h', (∀ b o, b ≠ e → h.get? b = some o → h'.get? b = some o) → h'.get? e = some (HandSPX.excO C h.objs.size) → Q .none ⟨h', g, d, t, os⟩) :
    wpAny (model prog w) A (call (.ref q) rest) Q E ⟨h, g, d, t, os⟩ := by
  obtain ⟨nm, qn, N, bs, bm, sn, sub, ab, col, dd, k0, k1, k2, k3, k5, hC, hbm⟩ := T.cls
  refine wpAny_call (codeAny_of_tree ?_)
  show wpAny _ A.in1 (callAny (.ref q) ⟨rest, []⟩) _ _ _
  simp only [callAny]
  refine wpAny_bind (wpAny_load hu ?_)
  simp only [kxs_mw, show (Value.type "method-wrapper" == Value.type "method" || Value.type "method-wrapper" == Value.type "builtin_function_or_method" || Value.type "method-wrapper" == Value.type "method-wrapper") = true by decide, if_true]
  refine KFB.if_so (by decide) ?_
  refine wpAny_bind (check_bound_init F.excBase_ValueError.toExcCallFacts (X _ _ hC) he rfl ?_)
  refine wpAny_bind (wpAny_pure (wpAny_pure ?_))
  refine ⟨plainId_quiet F.excBase_ValueError.init.plain _, codeAny_builtin F.excBase_ValueError.initEntry ?_⟩
  exact exc_init_tree (cls := .ref C) (t0 := t1) (dv := none) (c2 := .none) (c3 := .none) (b4 := .bool false) he hz fun h' k e' t' => hq h' k e'
/-- __init__ called -/
theorem init_code {R : Result → Shared → Prop} {fI : Addr} {u : Value} {f : Str} (X : K.In h) (hlim : h.NoLimit) (hroom : A.depth < recursionLimit) (hg : h.Ns mainGlobals mg) (hb : h.Ns builtinsNs mb) (hbb : ∀ x : Str, x ≠ "__name__" → mb x = bootBuiltins x)
    (hs : mg "super" = none) (hne : ∀ b o, K.lookup b = some o → b ≠ e) (Fx : ExF prog K C fI f) (T : OexC K C) (he : h.get? e = some (HandSPX.excO C t1))
    (hq : ∀ h' t2 tk dx, (∀ b o, b ≠ e → h.get? b = some o → h'.get? b = some o) → h.objs.size ≤ dx → dx ≠ e → h'.get? e = some { cls := .ref C, dict := some dx, data := .fields #[.ref t2, .none, .none, .none, .bool false, .none] } →
      h'.Ns1 dx (fun y => if y = f then some u else none) → R (.ok (.ret .none)) ⟨h', g, d, tk, os⟩) :
    codeAny (model prog w) A (.call (.ref fI) ⟨[.ref e, u], []⟩) R ⟨h, g, d, t, os⟩ := by
  obtain ⟨nm, qn, N, bs, bm, sn, sub, ab, col, dd, k0, k1, k2, k3, k5, hC, hbm⟩ := T.cls
  have hcl : clsIn K C = some { name := nm, bases := bs, mro := .ref C :: bm, ns := N, qualname := qn, hasDict := true, slotNames := sn, subclasses := sub, abstract := ab, collection := col, hasDel := false } := by unfold clsIn; rw [hC] <;> rfl
  obtain ⟨oc, od, an, qual, params, body, scope, kV, doc, pm, ct, cda, cc, osl, lk, hcd, S, ⟨ccl, cdd, vs, ccs, file, tf, hcode, hvs, hfile⟩, ⟨cl, cld, csl, hcell⟩⟩ := Fx.fn
  obtain ⟨ar, har, har2⟩ := S.head
  obtain ⟨x, hx1, hx2, hx3, hbind, txt, j, p0, p1, p2, p3, p4, p5, p6, p7, p8, p9, hln, rfl⟩ := S.arg
  refine ks_codeAny_call_defAt (fd := W.ksFn "__init__" qual params _ scope .none kV doc pm an (.ref cda) ct cc) (binds := [(("self" : Str), .ref e), (x, u)]) hroom (X _ _ lk) rfl hlim (codeRec_of X hcd) rfl (BindsTo.of_eq (hbind _ _ _ _ _ _ _ _ _ _ _ _)) S.cell (fun y hy => ?_) (fun h1 hns hk1 => ?_) S.co S.gen S.kind
  · rcases List.mem_cons.mp hy with rfl | hy
    · exact S.slf
    · rcases List.mem_cons.mp hy with rfl | hy
      · exact hx1
      · cases hy
  have vself : ([(("self" : Str), Value.ref e), (x, u)] : List (Str × Value)).reverse.lookup ("self" : Str) = some (.ref e) := by
    show List.lookup ("self" : Str) [(x, u), (("self" : Str), Value.ref e)] = _
    simp [List.lookup, hx2]
  have varg : ([(("self" : Str), Value.ref e), (x, u)] : List (Str × Value)).reverse.lookup x = some u := by
    show List.lookup x [(x, u), (("self" : Str), Value.ref e)] = _
    simp [List.lookup]
  have X1 : K.In h1 := fun a o q => hk1 _ _ (X a o q)
  have he1 := hk1 _ _ he
  have ne : e ≠ C := fun z => by
    have z2 := X1 _ _ hC
    rw [← z, he1] at z2
    have z3 := congrArg Obj.data (Option.some.inj z2)
    cases z3
  refine ks_wpAt_execs_cons (ks_wpAt_Expr_any ?m0 ?ri rfl)
  case ri =>
    show (scope.kind == .module && _) = false
    rw [S.kind]
    rfl
  refine ks_wpAt_MethodCall ?m (mc_eq hln)
  refine ks_wpAt_super_base (env := W.ksEnv qual scope h.objs.size fI (.ref cda) cc) S.sup S.cls (by decide) rfl (X1 _ _ lk) rfl har rfl (X1 _ _ hcode) rfl hvs hfile Fx.top ?_
  have hg1 : h1.Ns mainGlobals mg := hg.at fun o q => hk1 _ _ q
  have hb1 : h1.Ns builtinsNs mb := hb.at fun o q => hk1 _ _ q
  refine ks_loadName_global S.kind S.sup (loadGlobal_builtin (env := W.ksEnv qual scope h.objs.size fI (.ref cda) cc) hg1 hs hb1 ((hbb _ (by decide +kernel)).trans (show bootBuiltins "super" = some (.type "super") by decide +kernel)) ⟨rfl, ?_⟩)
  refine wpAny_loadName_free S.kind S.cls rfl ⟨_, X1 _ _ hcell, rfl⟩ ?_
  rw [har2]
  refine wpAny_loadName_local S.kind S.slf hns vself ?_
  refine ks_wpAny_isType_cls (X1 _ _ hC) rfl ⟨rfl, ?_⟩
  refine ks_wpAny_call_super (X1 _ _ hC) rfl he1 rfl (fun c z => by cases z) (looks_mroIn X1 Fx.self) (fun h2 e2 hk2 => ?_)
  have X2 : K.In h2 := fun a o q => hk2 _ _ (X1 a o q)
  have he2 := hk2 _ _ he1
  have I2 : W.InstAt h2 e (HandSPX.excO C t1) C none := ⟨he2, rfl, rfl, trivial⟩
  have hm := Fx.sup
  unfold ks_superIn at hm
  rw [hcl] at hm
  refine kxs_getMethod kxs_ValueError e2 (looks_opaque X2 Fx.opq) (l₀ := .ref C :: bm) ?_ rfl X2 hm (I2.type.andThen (looks_subIn X2 Fx.sub)) ne (by decide) ?_
  · exact fun A Q E s k q => wpAny_bind ((looks_clsIn X2 hcl) A _ E s k (wpAny_pure q))
  have X3 : K.In (h2.push (kxs_mw "ValueError.__init__" e)) := fun a o q => Heap.get?_push_of_some _ (X2 a o q)
  have he3 : (h2.push (kxs_mw "ValueError.__init__" e)).get? e = _ := Heap.get?_push_of_some _ he2
  have hu3 : (h2.push (kxs_mw "ValueError.__init__" e)).get? h2.objs.size = some (kxs_mw "ValueError.__init__" e) := Heap.get?_push_at rfl rfl
  refine kxs_callWith (i := "ValueError.__init__") (x := e) rfl ?_
  refine evalArgs_plain (wpAny_items_cons (wpAny_Constant_str (wpAny_items_nil ⟨hu3, ?_⟩)))
  refine vi_call T X3 hu3 he3 (by rw [sizeLine_eq]; show 1 ≤ _; decide) fun h4 hk4 he4 => ?_
  have keep : ∀ b o, b ≠ e → h.get? b = some o → h4.get? b = some o := fun b o n q => hk4 _ _ n (Heap.get?_push_of_some _ (hk2 _ _ (hk1 _ _ q)))
  have X4 : K.In h4 := fun a o q => keep _ _ (hne _ _ q) (X _ _ q)
  have nL : h.objs.size ≠ e := Nat.ne_of_gt (Heap.lt_size he)
  have hns4 : h4.Ns h.objs.size _ := hns.at fun o q => hk4 _ _ nL (Heap.get?_push_of_some _ (hk2 _ _ q))
  refine ks_wpAt_execs_cons (ks_wpAt_Assign_Attr (wpAt_of_wpAny (wpAny_Name (wpAny_loadName_local S.kind hx1 hns4 varg ?_) hx3)) rfl)
  refine wpAny_Name (wpAny_loadName_local S.kind S.slf hns4 vself ?_) (by decide)
  refine set_plain X4 (ox := HandSPX.excO C _) (od := none) ⟨he4, rfl, rfl, trivial⟩ T.sa ?_
  refine HandSPX.exc_osa X4 he4 hcl (show HandSPX.refsVE (.ref C :: bm) = true from hbm) rfl Fx.noat (fun h5 tk5 dx k5 dn dne hx5 hn5 => ?_)
  refine wpAt_of_wpAny (wpAny_execs_nil ?_)
  have sz : h.objs.size ≤ h4.objs.size := by
    obtain ⟨o, _, _, ho, _⟩ := hns4
    exact Nat.le_of_lt (Heap.lt_size ho)
  exact hq h5 _ _ dx (fun b o n q => k5 b o n (keep b o n q)) (Nat.le_trans sz dn) dne hx5 hn5
end

/-- C(e): the exception is made, it has one field -/
def tMkS (C : Addr) (f : Str) (ta : TA) : L2.St → Hp → XK → Prop := fun σ H Q => ta σ H fun vs H1 => ∃ y, vs = [y] ∧ ∀ d, H1 d = none → Q (.ref C) (some d) (upd H1 d (.xd [(f, y)]))
section
variable {X : Cx} {C fI : Addr} {f x : Str} {e : Expr} {es : List Expr} {ta : TA} {p pos : Pos}
theorem pmk_sup (T : OexC X.K C) (iC : PySem.W.findIn X.K (.ref C) "__init__" = some (some (.ref fI))) (tI : PySem.W.typeIn X.K (.ref fI) = some (.type "function")) (Fx : ExF X.prog X.K C fI f) (hs : X.mg "super" = none)
    (hr : Room 1 X.A) (hg : Gl X x) (hm : X.mg x = some (.ref C)) (ha : PA X (e :: es) ta) (hdb : (x == ("__debug__" : Str)) = false) (he : starEach (e :: es) X.env = (false, eval e X.env) :: starEach es X.env) (hpl : (backTo pos (starEach es X.env)).any (·.1) = false) :
    PMk X (.Call (.Name x p) (e :: es) [] pos) (tMkS C f ta) := by
  intro pins s σ H Q I h
  obtain ⟨nm, q, N, bs, bm, sn, sub, ab, col, dd, k0, k1, k2, k3, k5, hC, hbm⟩ := T.cls
  refine wpAny_Call_Name_kw (ld_glob I hg hm ?_ hdb)
  refine PySem.W.callWith_K (h₀ := X.base) I.ok.mod.kin T.kC (thn (ha.run pos pins s σ H _ I h) fun us s1 ⟨vs, H1, I1, r1, y, hvs, q1⟩ => ⟨I1.kIn, ?_⟩) he hpl
  subst hvs
  show wpAny _ _ (call (.ref C) us) _ _ _
  obtain ⟨u, rfl, ru⟩ : ∃ u, us = [u] ∧ RelV y u := by
    cases r1 with
    | cons a b =>
      cases b with
      | nil => exact ⟨_, rfl, a⟩
  obtain ⟨hp, g, dr, tk, os⟩ := s1
  have hsz : hp.objs.size ≤ hp.objs.size + 1 := Nat.le_succ _
  have hn : H1 (hp.objs.size + 1) = none := I1.hok.fresh hsz
  have kk : ∀ b o, hp.get? b = some o → ((hp.push (PySem.W.kdv_tup [u])).push (PySem.HandSPX.excO C hp.objs.size)).get? b = some o := fun b o e => Heap.get?_push_of_some _ (Heap.get?_push_of_some _ e)
  have hget : ((hp.push (PySem.W.kdv_tup [u])).push (PySem.HandSPX.excO C hp.objs.size)).get? (hp.objs.size + 1) = some (PySem.HandSPX.excO C hp.objs.size) := by heap_get
  have I2 : Inv X pins σ (upd H1 (hp.objs.size + 1) (exo (hp.objs.size + 1) C none)) ⟨(hp.push (PySem.W.kdv_tup [u])).push (PySem.HandSPX.excO C hp.objs.size), g, dr, tk, os⟩ :=
    I1.laid (t' := tk) (a := hp.objs.size + 1) (o := exo (hp.objs.size + 1) C none) (h' := (hp.push (PySem.W.kdv_tup [u])).push (PySem.HandSPX.excO C hp.objs.size)) kk hsz (exo_ok hget)
  obtain ⟨mb, hb1, hb2⟩ := I1.ok.mod.blt
  have bk : ∀ b o, X.base.get? b = some o → hp.get? b = some o := fun b o z => I1.bk b o z
  refine wpAny_call (PySem.HandSPX.call_own F.excBase_ValueError (fun Y => PySem.HandSPX.refsVE_contains Y bm hbm) (I1.kIn _ _ hC) (PySem.W.looks_findIn I1.kIn iC) (fun self => PySem.W.bind_fn I1.kIn self tI) (by rw [sizeLine_eq]; show 1 ≤ _; decide)
    (init_code (mg := X.mg) (mb := mb) (fun a o z => kk _ _ (I1.kIn _ _ z)) (I1.nolimit.keeps kk) ((hr.make C [u] []).depth) (I1.ok.mod.glob.at fun o z => kk _ _ (bk _ _ z)) (hb1.at fun o z => kk _ _ (bk _ _ z)) hb2 hs ?_ Fx T hget ?_))
  · intro b o z zb
    have z1 : b < hp.objs.size := Heap.lt_size (I1.kIn _ _ z)
    have z2 : b = hp.objs.size + 1 := zb
    exact absurd (show hp.objs.size + 1 < hp.objs.size from z2 ▸ z1) (fun z => absurd (Nat.lt_of_succ_lt z) (Nat.lt_irrefl _))
  · intro h' t2 tk' dx k5 dn dne hx hn5
    generalize ea : hp.objs.size + 1 = a at *
    generalize eh : (hp.push (PySem.W.kdv_tup [u])).push (PySem.HandSPX.excO C hp.objs.size) = hp2 at *
    have e : upd H1 a (exo a C none) a = some (exo a C none) := upd_same
    have hnd : upd H1 a (exo a C none) dx = none := I2.hok.fresh dn
    have hn1 : H1 dx = none := by rw [upd_ne dne] at hnd; exact hnd
    have nd : ∀ {b : Addr} {o : Obj}, hp2.get? b = some o → b ≠ dx := fun {b o} q => Nat.ne_of_lt (Nat.lt_of_lt_of_le (Heap.lt_size q) dn)
    have na : ∀ {b : Addr}, upd H1 a (exo a C none) b = none → b ≠ a := fun {b} n z => by
      rw [z, e] at n
      cases n
    have Un1 : Un (frs X.stack) [] (upd H1 a (exo a C none)) (upd (upd (upd H1 a (exo a C none)) dx (exd dx [(f, y)])) a (exo a C (some dx))) hp2 h' := {
      keep := fun b o q n _ _ => k5 b o (na n) q
      slot := fun b o q n _ _ => ⟨o.slots, k5 b o (na n) q⟩
      free := fun b o q n _ => by rw [upd_ne (na n), upd_ne (nd q)]; exact n
      there := fun b o q _ => by
        by_cases hb : b = a
        · exact ⟨_, by rw [hb]; exact hx⟩
        · exact ⟨o, k5 b o hb q⟩
      tups := fun b xs q => by rw [upd_ne (at_ne e q exo_tup), upd_ne (ne_of_none q hnd)]; exact q
      frzs := fun b o v q => by rw [upd_ne (at_ne e q exo_frz), upd_ne (ne_of_none q hnd)]; exact q
      tbls := fun b ps q => ⟨#[], by rw [upd_ne (at_ne e q exo_tbl), upd_ne (ne_of_none q hnd), q]; simp⟩ }
    have hok : HOk X.prog X.w (upd (upd (upd H1 a (exo a C none)) dx (exd dx [(f, y)])) a (exo a C (some dx))) h' := fun b o q => by
      by_cases hb : b = a
      · subst hb
        rw [upd_same] at q
        cases q
        exact exo_ok hx
      · rw [upd_ne hb] at q
        by_cases hd : b = dx
        · subst hd
          rw [upd_same] at q
          cases q
          exact exd_ok hn5 (relO_put (fs := []) ru fun g => True.intro)
        · rw [upd_ne hd] at q
          exact (I2.hok b o q).stay (fun c v hc z => k5 c v (by
              rcases hc with hc | hc
              · rw [hc]
                exact hb
              · exact at_ne e hc exo_own) z)
            (fun c hc => by rw [upd_ne (at_ne e hc exo_own), upd_ne (ne_of_none hc hnd)]; exact hc) (fun c xs hc => by rw [upd_ne (at_ne e hc exo_tup), upd_ne (ne_of_none hc hnd)]; exact hc)
    refine ⟨rfl, mk_end (fs := [(f, y)]) (raises_own T.exC T.tyC) I1 hsz kk Un1 hok rfl I2.bare upd_same ?_ hn1 ?_⟩
    · rw [upd_ne dne, upd_same]
    · have eq : upd (del (upd (upd (upd H1 a (exo a C none)) dx (exd dx [(f, y)])) a (exo a C (some dx))) a) dx (.xd [(f, y)]) = upd H1 dx (.xd [(f, y)]) := by
        funext b
        by_cases hd : b = dx
        · rw [hd, upd_same, upd_same]
        · rw [upd_ne hd, upd_ne hd]
          by_cases hb : b = a
          · rw [hb, del_same, hn]
          · rw [del_ne hb, upd_ne hb, upd_ne hd, upd_ne hb]
      rw [eq]
      exact q1 dx hn1
end

/-! ### raise C(e) -/
/-- the classes of the table -/
structure XcOk (G : Gd) : Prop where
  sup : G.mg "super" = none
  cls : ∀ (c f : Str), G.pg.exc.lookup c = some (some f) → G.mg c = some (.ref (G.xa c)) ∧ OexC G.K (G.xa c) ∧ ∃ fI, PySem.W.findIn G.K (.ref (G.xa c)) "__init__" = some (some (.ref fI)) ∧ PySem.W.typeIn G.K (.ref fI) = some (.type "function") ∧ ExF G.P G.K (G.xa c) fI f
theorem RelH.fresh {G : Gd} {io : List Addr} {m : M} {H : Hp} {d : Addr} {o : HO} (h : RelH G io m H) (hd : H d = none) : RelH G io m (upd H d o) where
  len := h.len
  inj := h.inj
  glo := h.glo
  obj := fun i b a hb ha => by
    have r := h.obj i b a hb ha
    cases b with
    | stp xs => exact r
    | ins _ _ => exact r.elim
    | lst xs =>
      obtain ⟨vs, e1, e2⟩ := r
      exact ⟨vs, e1, by rw [upd_ne (ne_of_none e2 hd)]; exact e2⟩
    | tup xs =>
      obtain ⟨vs, e1, e2⟩ := r
      exact ⟨vs, e1, by rw [upd_ne (ne_of_none e2 hd)]; exact e2⟩
    | fls xs =>
      obtain ⟨vs, e1, e2⟩ := r
      exact ⟨vs, e1, e2.mono fun x hx => by rw [upd_ne (ne_of_none hx hd)]; exact hx⟩
theorem mem_of_lookup {A B : Type} [BEq A] [LawfulBEq A] {k : A} {v : B} : ∀ {l : List (A × B)}, l.lookup k = some v → (k, v) ∈ l
  | [], h => by cases h
  | (a, b) :: r, h => by
    rw [List.lookup] at h
    split at h
    · rename_i q
      cases h
      rw [beq_iff_eq.mp q]
      exact List.mem_cons_self ..
    · exact List.mem_cons_of_mem _ (mem_of_lookup h)
theorem raise_ok {G : Gd} {cl : Cl} {k : Nat} (hx : XcOk G) : RaiseOk G cl (k + 1) := by
  intro cx X W c as xs p p1 p2 hn hc hes hX tk ha
  unfold excB at hc
  rw [hX.hpg] at hc
  split at hc
  case h_2 => cases hc
  rename_i f hl
  obtain ⟨h1, h2, fI, h3, h4, h5⟩ := hx.cls c f hl
  obtain ⟨hg, hd⟩ := hX.name hn
  have hL : X.N.length = cx.N.length := by rw [hX.hN]
  match as, xs, hes with
  | .nil, [], hes =>
    refine ⟨fun pins s σ H D I q => ?_⟩
    obtain ⟨io, r, m, hR, hS, hp⟩ := q
    rw [exe_raise] at hp
    have z : mkEx G.pg c [] = none := by unfold mkEx; rw [hl]
    have z2 : PostS G W cx.N.length D io (match mkEx G.pg c [] with
      | some e => .ex e m
      | none => .stuck) := hp
    rw [z] at z2
    exact z2.elim
  | .cons a as, e :: es, hes =>
    have hk := okes_of hes
    rw [List.all_cons, Bool.and_eq_true] at hk
    have pm := pmk_sup (p := p) (pos := p1) (x := c) (C := G.xa c) (fI := fI) (f := f) (hX.hK.symm ▸ h2) (hX.hK.symm ▸ h3) (hX.hK.symm ▸ h4) (by rw [hX.hP, hX.hK]; exact h5) (by rw [hX.hm]; exact hx.sup) (hX.room.mono (by omega)) hg (by rw [hX.hm]; exact h1) ha hd (star_of hk.1) (nostar_of hk.2)
    refine psOf (ps_raise hX.calm tk pm) fun D s H q => ?_
    obtain ⟨io, r, m, hR, hS, hp⟩ := q
    rw [exe_raise] at hp
    refine ⟨io, r, m, hR, hS, (PostS.bind (T := Ems) hp).imp ?_⟩
    rintro vs H1 ⟨io1, us, m1, p1, hR1, e1, hp1⟩
    unfold mkEx at hp1
    rw [hl] at hp1
    match us, e1, hp1 with
    | [u], e1, hp1 =>
      obtain ⟨y, rfl, ey⟩ := ems1 e1
      refine ⟨y, rfl, fun d hd => ?_⟩
      exact hp1 io1 _ s _ _ (List.prefix_refl _) (hR1.fresh hd) hS.len' ⟨mem_of_lookup hl, rfl, d, y, rfl, upd_same, ey⟩
    | [], _, hp1 => exact hp1.elim
    | _ :: _ :: _, _, hp1 => exact hp1.elim
end Py
set_option maxHeartbeats 4000000
/-! MINI PYTHON, part D2: the def that tells the kind of a caught exception: isinstance, field. -/
namespace Py
open PySem PySem.Spec PyProof.Rows L2 PySem.Calls

/-! ### e.__class__ where e has a dict of its own -/
section
variable {prog : Program} {w : World} {A : Around} {K : W.Frag} {a D : Addr} {oe : Obj} {od : Option Obj}
theorem found_class (C : ExcC K D) : W.findObj K D od "__class__" = some (.bind (.builtin "getset_descriptor.__get__") (.builtin "object.__class__")) := by
  have hd := C.hd
  obtain ⟨cd, q, _⟩ := W.any_some hd
  unfold W.findObj
  rw [q, C.ha]
  simp [C.hn, C.ht]
theorem its_class (C : ExcC K D) {E : Value → Shared → Prop} {Q : Option Value → Shared → Prop} {hp : Heap} {g : Array GenState} {d : Drawn} {t : Nat} {os : OsState} (X : K.In hp) (I : W.InstAt hp a oe D od)
    (h : Q (some (.ref D)) ⟨hp, g, d, t + 1, os⟩) : wpAny (model prog w) A (getAttr? (.ref a) "__class__") Q E ⟨hp, g, d, t, os⟩ := by
  have ofT := I.type (M := model prog w)
  have exB : W.Looks (model prog w) hp (isInstance (.ref a) (.type "BaseException")) true := ofT.andThen (W.looks_subIn X C.hs)
  have ga := W.looks_findIn (M := model prog w) X C.hg
  have gt := W.looks_findIn (M := model prog w) X C.hk
  have fd := W.looks_find (M := model prog w) X I (found_class C (od := od))
  have no0 : (Value.builtin "BaseException.__getattribute__" == Value.builtin "object.__getattribute__") = false := by decide +kernel
  unfold getAttr? getAttrBy? getAttrBy
  refine wpAny_bind (wpAny_mkText (wpAny_bind (wpAny_attempt (wpAny_holding (wpAny_bind (ofT.at (wpAny_bind (ga.at ?p0))))))))
  show wpAny _ _ (if (onTheHeap (.ref D) && Value.builtin "BaseException.__getattribute__" == Value.builtin "object.__getattribute__") = true then _ else _) _ _ _
  rw [no0, Bool.and_false, if_neg Bool.false_ne_true]
  unfold getAttrByItsOwn hookBefore
  refine wpAny_bind ?p1
  rw [if_pos (show onTheHeap (.ref D) = true from rfl)]
  refine gt.at (wpAny_bind (wpAny_attempt (wpAny_holding ?p2)))
  unfold callGetattribute
  rw [if_neg (show ¬ ((false && onTheHeap (Value.builtin "BaseException.__getattribute__")) = true) from Bool.false_ne_true)]
  unfold boundAndCalled
  rw [F.excAttr_ValueError.ga.bind (.ref a)]
  refine wpAny_bind (wpAny_pure ?p3)
  show wpAny _ _ (call (.builtin "BaseException.__getattribute__") [.ref a, .str "__class__" t]) _ _ _
  refine wpAny_call (codeAny_call_builtin F.excAttr_ValueError.ga.plain F.entry_bexc_ga ?p4)
  refine @W.check_slot (model prog w) _ _ ⟨hp, g, d, t + 1, os⟩ "BaseException.__getattribute__" "BaseException" "__getattribute__" (.ref a) [.str "__class__" t] [] _ (by decide +kernel) (by decide +kernel) exB (F.args_bexc_ga _ _) ?p5
  unfold Builtin.«object.__getattribute__»
  refine wpAny_bind (wpAny_of_eq (a := ((Value.ref a : Value), [Value.str "__class__" t])) (by first | rfl | (simp only [slotArgs]; rfl)) ?p6)
  refine wpAny_bind (wpAny_pure (wpAny_bind (ofT.at (wpAny_bind (fd.at ?p7)))))
  show wpAny _ _ (holding [.builtin "object.__class__"] (call (.builtin "getset_descriptor.__get__") [.builtin "object.__class__", .ref a, .ref D]) >>= ret) _ _ _
  refine wpAny_bind (wpAny_holding (wpAny_call (W.class_get (s := ⟨hp, g, d, t + 1, os⟩) (ox := oe) (od := od) X I C.hm ?p8)))
  refine wpAny_pure ?p9
  show wpAny _ _ (handedOut (.ref D)) _ _ _
  rw [W.handedOut_of (v := .ref D) rfl]
  first
    | exact wpAny_pure (wpAny_pure h)
    | exact wpAny_pure h
    | exact wpAny_pure (wpAny_bind (wpAny_pure (wpAny_pure h)))
theorem kitx_own (C : ExcC K D) : W.KitX K (.ref a) (.ref D) (fun h => W.InstAt h a oe D od) := by
  obtain ⟨cd, q, _⟩ := W.any_some C.hd
  obtain ⟨c', d', sl', lk⟩ : ∃ c' d' sl', K.lookup D = some ⟨c', d', .cls cd, sl'⟩ := by
    unfold W.clsIn at q
    split at q
    · cases q
      exact ⟨_, _, _, by assumption⟩
    · cases q
  refine ⟨fun _ _ _ I => I.type, fun _ _ X _ A' Q' E' s' k z => ?_, fun h tp dd its n sl X z => ?_, fun {_ _ _ _ _ s} X I k => ?_⟩
  · unfold isType loadHead
    exact wpAny_bind (wpAny_loadPart (k _ _ (X _ _ lk)) (wpAny_pure z))
  · cases y : (Value.ref D == Value.ref tp) with
    | false => rfl
    | true =>
      obtain rfl : D = tp := Value.ref.inj (beq_iff_eq.mp y)
      rw [X _ _ lk] at z
      cases z
  · obtain ⟨hp, g, d, t, os⟩ := s
    exact its_class C X I k
end

/-! ### where it runs -/
structure KdX (G : Gd) (en ln : Str) (a : Addr) (oe : Obj) (D : Addr) (d : Option Addr) (Y : Cx) : Prop where
  hK : Y.K = G.K
  hm : Y.mg = G.mg
  hN : Y.N = [en, ln]
  nd : Y.N.Nodup
  kn : Y.env.scope.names.lookup en = some .local
  kl : Y.env.scope.names.lookup ln = some .local
  pin : (a, oe) ∈ Y.pn
  hz : Zc (.ref D) d oe
  hf : ∃ vs, oe.data = .fields vs
  C : ExcC G.K D
/-- its dict holds these -/
def Dic (d : Option Addr) (H : Hp) : Prop := ∀ dd, d = some dd → ∃ fs, H dd = some (.xd fs)
section
variable {G : Gd} {en ln : Str} {a D : Addr} {oe : Obj} {d : Option Addr} {Y : Cx} (hY : KdX G en ln a oe D d Y)
include hY
theorem KdX.inst {pins : List (Addr × Obj)} {σ : L2.St} {H : Hp} {s : Shared} (I : Inv Y pins σ H s) (h : Dic d H) : ∃ od, W.InstAt s.heap a oe D od := by
  obtain ⟨ha, _⟩ := I.pin (a, oe) (List.mem_append_left _ hY.pin)
  obtain ⟨vs, hd⟩ := hY.hf
  have hz := hY.hz
  cases d with
  | none => exact ⟨none, ha, hz.1, by unfold W.notCls; rw [hd] <;> rfl, by rw [hz.2]; trivial⟩
  | some dd =>
    obtain ⟨fs, e⟩ := h dd rfl
    have hx : ObjOk Y.prog Y.w H s.heap dd (.xd fs) := I.hok dd _ e
    obtain ⟨mA, hns, _⟩ := hx
    obtain ⟨od, ho, _⟩ := lookIn_ns hns
    exact ⟨some od, ha, hz.1, by unfold W.notCls; rw [hd] <;> rfl, by rw [hz.2]; exact ho⟩
def rIsD (K : W.Frag) (D a : Addr) (d : Option Addr) : List V → Hp → VK → Prop := fun xs H Q => ∃ (c : V) (cv : Value) (b : Bool), xs = [.ref a, c] ∧ (∀ u, RelV c u → u = cv) ∧ W.kitOne K (.ref D) cv = some b ∧ Dic d H ∧ Q (.bl b) H
theorem KdX.isi : CallR Y (.builtin "isinstance") (rIsD G.K D a d) := by
  intro pins s σ H xs us Q I r h
  obtain ⟨c, cv, b, rfl, hcv, e, hd, q⟩ := h
  match us, r with
  | [u1, u2], .cons r1 (.cons r2 .nil) =>
    obtain rfl : u1 = .ref a := r1
    obtain rfl := hcv _ r2
    obtain ⟨od, J⟩ := hY.inst I hd
    have X0 := I.kIn
    rw [hY.hK] at X0
    exact W.kia_one (kitx_own hY.C) X0 J e (fun z => nomatch z) fun tk => ⟨.bl b, H, I.kept (t' := tk) fun _ _ z => z, rfl, q⟩
theorem KdX.fld {f : Str} {p q : Pos} (hd : (en == ("__debug__" : Str)) = false ∧ (en == ("__classdict__" : Str)) = false) (hno : W.findIn G.K (.ref D) f = some none) :
    PE Y (.Attribute (.Name en p) f q) (fun σ H Q => σ[0]? = some (some (.ref a)) ∧ ∃ dd v, d = some dd ∧ H dd = some (.xd [(f, v)]) ∧ Q v H) := by
  refine ⟨fun pins s σ H Q I h => ?_⟩
  obtain ⟨e0, dd, v, ed, ea, q⟩ := h
  have he : PE Y (.Name en p) (tVar 0) := pe_var (by rw [hY.hN]; rfl) (.inl hY.kn) hd.1 hd.2
  refine attr_of rfl (thn (he.run pins s σ H (fun x H' => x = .ref a ∧ H' = H) I ⟨_, e0, rfl, rfl⟩) fun u s1 ⟨x, H1, I1, rx, ex, eH⟩ => ?_)
  subst ex eH
  obtain rfl : u = .ref a := rx
  obtain ⟨ha, _⟩ := I1.pin (a, oe) (List.mem_append_left _ hY.pin)
  obtain ⟨vs, hdt⟩ := hY.hf
  have hx : ObjOk Y.prog Y.w H1 s1.heap dd (.xd [(f, v)]) := I1.hok dd _ ea
  obtain ⟨mA, hns, hr⟩ := hx
  obtain ⟨od, ho, hl⟩ := lookIn_ns hns
  have l : List.lookup f [(f, v)] = some v := by simp [List.lookup]
  obtain ⟨u, hu, ru⟩ := RelO.some_of (v := v) (o := mA f) (by rw [← l]; exact hr f)
  have J : W.InstAt s1.heap a oe D (some od) := ⟨ha, hY.hz.1, by unfold W.notCls; rw [hdt] <;> rfl, by rw [hY.hz.2, ed]; exact ho⟩
  have X0 := I1.kIn
  rw [hY.hK] at X0
  exact HandSPX.exc_get X0 J hY.C.hg hY.C.hk hY.C.hs (W.findObj_own hY.C.hd hno rfl (by rw [hl, hu])) (handed_of ru) ⟨v, H1, I1.tok _, ru, q⟩
end

/-! ### its text -/
def kArg (en : Str) (q1 q2 : Pos) (j : Nat) : Option Str → Expr
  | some f => .Attribute (.Name en q1) f q2
  | none => .Constant .none j q1
def kIf (en ln c : Str) (f : Option Str) (i j k : Nat) (p1 p2 p3 p4 p5 p6 p7 p8 q1 q2 p9 p10 p11 p12 : Pos) : Stmt :=
  .If (.Call (.Name "isinstance" p1) [.Name en p2, .Name c p3] [] p4) [.Expr (.Call (.Attribute (.Name ln p5) "append" p6) [.Tuple [.Constant (.str c) i p7, kArg en q1 q2 k f] j p9] [] p10) p11] [] p12
inductive KdIfs (en ln : Str) (rest : List Stmt) : List (Str × Option Str) → List Stmt → Prop where
  | nil : KdIfs en ln rest [] rest
  | cons {c : Str} {f : Option Str} {t : List (Str × Option Str)} {ss : List Stmt} {i j k : Nat} {p1 p2 p3 p4 p5 p6 p7 p8 q1 q2 p9 p10 p11 p12 : Pos} (hl : (p6.endLine == p10.line) = true) (h : KdIfs en ln rest t ss) :
    KdIfs en ln rest ((c, f) :: t) (kIf en ln c f i j k p1 p2 p3 p4 p5 p6 p7 p8 q1 q2 p9 p10 p11 p12 :: ss)
/-- the end: the answer, if there is one and only one -/
def kEnd (en ln b : Str) (none_ : List Stmt) (i j : Nat) (p1 p2 p3 p4 p5 p6 p7 p8 p9 p10 p11 p12 p13 p14 p15 p16 p17 p18 p19 p20 p21 : Pos) : List Stmt :=
  [.If (.BoolOp .Or [.Compare (.Call (.Name "len" p1) [.Name ln p2] [] p3) [.NotEq] [.Constant (.int 1) i p4] p5, .UnaryOp .Not (.Call (.Name "isinstance" p6) [.Name en p7, .Name b p8] [] p9) p10,
    .UnaryOp .Not (.Call (.Name "isinstance" p11) [.Name en p12, .Name "ValueError" p13] [] p14) p15] p16) none_ [] p17, .Return (some (.Subscript (.Name ln p18) (.Constant (.int 0) j p19) p20)) p21]
section
variable {G : Gd} {en ln : Str} {a D : Addr} {oe : Obj} {d : Option Addr} {Y : Cx}
/-- what the field holds -/
def Fv (d : Option Addr) (f : Option Str) (H : Hp) (v : V) : Prop := match f with
  | some g => ∃ dd, d = some dd ∧ H dd = some (.xd [(g, v)])
  | none => v = .non
/-- one test, and what is noted -/
def tK1 (b : Bool) (a : Addr) (d : Option Addr) (c : Str) (f : Option Str) : TS := fun E σ H => σ[0]? = some (some (.ref a)) ∧ Dic d H ∧ if b = true then
  ∃ p xs v, σ[1]? = some (some (.ref p)) ∧ H p = some (.lst xs) ∧ xs.length < sizeLine ∧ Fv d f H v ∧ ∀ q, H q = none → E.nx σ (upd (upd H q (.tup [.str c, v])) p (.lst (xs ++ [.ref q]))) else E.nx σ H
structure KdN (en ln : Str) : Prop where
  e : (en == ("__debug__" : Str)) = false ∧ (en == ("__classdict__" : Str)) = false
  l : (ln == ("__debug__" : Str)) = false ∧ (ln == ("__classdict__" : Str)) = false
theorem kd_test (hY : KdX G en ln a oe D d Y) (hN : KdN en ln) {c : Str} {v : V} {cv : Value} {b : Bool} {p1 p2 p3 p4 : Pos} (hi : Gl Y "isinstance") (hm : G.mg "isinstance" = none) (hc : PE Y (.Name c p3) (tC v)) (hv : ∀ u, RelV v u → u = cv) (hb : W.kitOne G.K (.ref D) cv = some b) :
    PT Y (.Call (.Name "isinstance" p1) [.Name en p2, .Name c p3] [] p4) (fun σ H Q => σ[0]? = some (some (.ref a)) ∧ Dic d H ∧ Q b H) := by
  have he : PE Y (.Name en p2) (tVar 0) := pe_var (by rw [hY.hN]; rfl) (.inl hY.kn) hN.e.1 hN.e.2
  refine ptOf (pt_truth (pe_callB hY.isi hi (by rw [hY.hm]; exact hm) (by decide +kernel) (pa_cons he (pa_cons hc pa_nil rfl) rfl)) fun _ => rfl) fun σ H Q q => ?_
  obtain ⟨e0, hd, q⟩ := q
  exact ⟨_, e0, v, cv, b, rfl, hv, hb, hd, b, rfl, q⟩

theorem kd_arg (hY : KdX G en ln a oe D d Y) (hN : KdN en ln) {f : Option Str} (hno : ∀ g, f = some g → W.findIn G.K (.ref D) g = some none) {q1 q2 : Pos} {k : Nat} :
    PE Y (kArg en q1 q2 k f) (fun σ H Q => σ[0]? = some (some (.ref a)) ∧ ∃ v, Fv d f H v ∧ Q v H) := by
  cases f with
  | none => exact peOf pe_non fun σ H Q ⟨_, v, e, q⟩ => by subst e; exact q
  | some g => exact peOf (hY.fld hN.e (hno g rfl)) fun σ H Q ⟨e0, v, ⟨dd, e1, e2⟩, q⟩ => ⟨e0, dd, v, e1, e2, q⟩
theorem kd_step (hY : KdX G en ln a oe D d Y) (hN : KdN en ln) {c : Str} {f : Option Str} {b : Bool} (hb : W.kitOne G.K (.ref D) (.ref (G.xa c)) = some b) (hi : Gl Y "isinstance") (hm : G.mg "isinstance" = none) (hc : Gl Y c) (hmc : G.mg c = some (.ref (G.xa c)))
    (hcd : (c == ("__debug__" : Str)) = false) (hno : b = true → ∀ g, f = some g → W.findIn G.K (.ref D) g = some none) {i j k : Nat} {p1 p2 p3 p4 p5 p6 p7 p8 q1 q2 p9 p10 p11 p12 : Pos} (hl : (p6.endLine == p10.line) = true) :
    PS Y (kIf en ln c f i j k p1 p2 p3 p4 p5 p6 p7 p8 q1 q2 p9 p10 p11 p12) (tK1 b a d c f) := by
  have hC : PE Y (.Name c p3) (tC (.ref (G.xa c))) := pe_glob hc (by rw [hY.hm]; exact hmc) rfl hcd
  have t := kd_test (c := c) (p1 := p1) (p2 := p2) (p3 := p3) (p4 := p4) hY hN hi hm hC (cv := .ref (G.xa c)) (fun u r => r) hb
  cases b with
  | false => exact psOf (ps_if t pss_never pss_nil) fun E σ H ⟨e0, hd, q⟩ => ⟨e0, hd, q⟩
  | true =>
    have hv : PE Y (.Name ln p5) (tVar 1) := pe_var (by rw [hY.hN]; rfl) (.inl hY.kl) hN.l.1 hN.l.2
    have hA := pe_tup (x1 := j) (pos := p9) (pa_cons (pe_str (X := Y) (x := c) (j := i) (pos := p7)) (pa_cons (kd_arg hY hN (q1 := q1) (q2 := q2) (k := k) (hno rfl)) pa_nil (by cases f <;> rfl)) rfl)
    refine psOf (ps_if t (pss_one (ps_expr (pe_bm F.plainAttrs_list F.slot_list_append F.type_list_append mt_append hv (pa_cons hA pa_nil rfl) rfl rfl hl rfl rfl))) pss_nil) fun E σ H q => ?_
    obtain ⟨e0, hd, p, xs, v, e1, e2, e3, e4, q⟩ := q
    refine ⟨e0, hd, _, e1, .inl ⟨rfl, xs, SqL.of e2⟩, e0, v, e4, (by show 2 ≤ sizeLine; rw [sizeLine_eq]; decide), fun r hr => ?_⟩
    exact ⟨p, xs, .ref r, rfl, rfl, by rw [upd_ne (ne_of_none e2 hr)]; exact e2, e3, q r hr⟩

/-! ### all of it -/
theorem iteF' {b : Bool} {A B : Prop} (hb : b = false) (h : B) : if b = true then A else B := by
  rw [hb, if_neg Bool.false_ne_true]
  exact h
/-- the tests, one behind another -/
def tKs (c0 : Str) (a : Addr) (d : Option Addr) (tr : TS) : List (Str × Option Str) → TS
  | [] => tr
  | (c, f) :: t => tSeq (tK1 (decide (c = c0)) a d c f) (tKs c0 a d tr t)
/-- the facts of the table at the class D, named c0 -/
structure KdF (G : Gd) (en ln : Str) (D : Addr) (c0 : Str) (Y : Cx) (t : List (Str × Option Str)) : Prop where
  isi : Gl Y "isinstance" ∧ G.mg "isinstance" = none
  cls : ∀ c f, (c, f) ∈ t → W.kitOne G.K (.ref D) (.ref (G.xa c)) = some (decide (c = c0)) ∧ Gl Y c ∧ G.mg c = some (.ref (G.xa c)) ∧ (c == ("__debug__" : Str)) = false ∧ (c = c0 → ∀ g, f = some g → W.findIn G.K (.ref D) g = some none)
theorem kd_ifs (hY : KdX G en ln a oe D d Y) (hN : KdN en ln) {c0 : Str} {rest ss : List Stmt} {tr : TS} (hr : PSs Y rest tr) {t : List (Str × Option Str)} (h : KdIfs en ln rest t ss) (hF : KdF G en ln D c0 Y t) : PSs Y ss (tKs c0 a d tr t) := by
  induction h with
  | nil => exact hr
  | @cons c f t ss i j k p1 p2 p3 p4 p5 p6 p7 p8 q1 q2 p9 p10 p11 p12 hl _ ih =>
    obtain ⟨h1, h2, h3, h4, h5⟩ := hF.cls c f (List.mem_cons_self ..)
    exact pss_cons (kd_step hY hN h1 hF.isi.1 hF.isi.2 h2 h3 h4 (fun z => h5 (of_decide_eq_true z)) hl) (ih ⟨hF.isi, fun c f hm => hF.cls c f (List.mem_cons_of_mem _ hm)⟩)
theorem ks_skip {c0 : Str} {tr : TS} {E : Ends} {σ : L2.St} {H : Hp} (e0 : σ[0]? = some (some (.ref a))) (hd : Dic d H) (h : tr E σ H) : ∀ {t : List (Str × Option Str)}, (∀ c f, (c, f) ∈ t → c ≠ c0) → tKs c0 a d tr t E σ H
  | [], _ => h
  | (c, f) :: t, hn => by
    have z : decide (c = c0) = false := decide_eq_false (hn c f (List.mem_cons_self ..))
    show tK1 (decide (c = c0)) a d c f _ σ H
    rw [z]
    exact ⟨e0, hd, by rw [if_neg Bool.false_ne_true]; exact ks_skip e0 hd h fun c f hm => hn c f (List.mem_cons_of_mem _ hm)⟩
theorem ks_hit {c0 : Str} {f0 : Option Str} {tr : TS} {E : Ends} {σ : L2.St} {H : Hp} {p : Addr} {v : V} (e0 : σ[0]? = some (some (.ref a))) (hd : Dic d H) (e1 : σ[1]? = some (some (.ref p))) (e2 : H p = some (.lst [])) (hv : Fv d f0 H v)
    (h : ∀ q, H q = none → tr E σ (upd (upd H q (.tup [.str c0, v])) p (.lst [.ref q]))) : ∀ {t : List (Str × Option Str)}, t.lookup c0 = some f0 → (t.map (·.1)).Nodup → tKs c0 a d tr t E σ H
  | [], hl, _ => by cases hl
  | (c, f) :: t, hl, hnd => by
    show tK1 (decide (c = c0)) a d c f _ σ H
    rw [List.map_cons, List.nodup_cons] at hnd
    by_cases hc : c = c0
    · subst hc
      have hf : f = f0 := by
        rw [List.lookup, show (c == c) = true from beq_self_eq_true c] at hl
        exact Option.some.inj hl
      subst hf
      rw [decide_eq_true rfl]
      refine ⟨e0, hd, ?_⟩
      rw [if_pos rfl]
      refine ⟨p, [], v, e1, e2, (by rw [sizeLine_eq]; decide), hv, fun q hq => ?_⟩
      have hd2 : Dic d (upd (upd H q (.tup [.str c, v])) p (.lst ([] ++ [.ref q]))) := fun dd he => by
        obtain ⟨fs, hx⟩ := hd dd he
        have n1 : dd ≠ p := fun z => by rw [z, e2] at hx; cases hx
        exact ⟨fs, by rw [upd_ne n1, upd_ne (ne_of_none hx hq)]; exact hx⟩
      exact ks_skip e0 hd2 (h q hq) fun c' f' hm hz => hnd.1 (by rw [← hz]; exact List.mem_map_of_mem (f := (·.1)) hm)
    · rw [decide_eq_false hc]
      refine ⟨e0, hd, ?_⟩
      rw [if_neg Bool.false_ne_true]
      have hb : (c0 == c) = false := by simpa using fun z : c0 = c => hc z.symm
      rw [List.lookup, hb] at hl
      exact ks_hit e0 hd e1 e2 hv h hl hnd.2
theorem kd_end (hY : KdX G en ln a oe D d Y) (hN : KdN en ln) {b : Str} {nn : List Stmt} (hi : Gl Y "isinstance" ∧ G.mg "isinstance" = none) (hln : Gl Y "len" ∧ G.mg "len" = none) (hb : Gl Y b ∧ G.mg b = some (.ref (G.xa b)) ∧ (b == ("__debug__" : Str)) = false)
    (hve : Gl Y "ValueError" ∧ G.mg "ValueError" = none) (kb : W.kitOne G.K (.ref D) (.ref (G.xa b)) = some true) (kv : W.kitOne G.K (.ref D) (.type "ValueError") = some true) {i j : Nat} {p1 p2 p3 p4 p5 p6 p7 p8 p9 p10 p11 p12 p13 p14 p15 p16 p17 p18 p19 p20 p21 : Pos} :
    PSs Y (kEnd en ln b nn i j p1 p2 p3 p4 p5 p6 p7 p8 p9 p10 p11 p12 p13 p14 p15 p16 p17 p18 p19 p20 p21) (fun E σ H => σ[0]? = some (some (.ref a)) ∧ Dic d H ∧ ∃ p x, σ[1]? = some (some (.ref p)) ∧ H p = some (.lst [x]) ∧ E.rt x H) := by
  have hv : ∀ q : Pos, PE Y (.Name ln q) (tVar 1) := fun q => pe_var (by rw [hY.hN]; rfl) (.inl hY.kl) hN.l.1 hN.l.2
  have hC : PE Y (.Name b p8) (tC (.ref (G.xa b))) := pe_glob hb.1 (by rw [hY.hm]; exact hb.2.1) rfl hb.2.2
  have hV : PE Y (.Name "ValueError" p13) (tC (.ty "ValueError")) := pe_bltn hve.1 (by rw [hY.hm]; exact hve.2) (by decide +kernel) rfl (by decide) (by decide)
  have t1 := pt_cmp (pos := p5) (pc_neI (pe_callB (p := p1) (pos := p3) call_len_seq hln.1 (by rw [hY.hm]; exact hln.2) (by decide +kernel) (pa_cons (hv p2) pa_nil rfl)) (pe_int (i := 1) (j := i) (pos := p4)))
  have t2 := pt_not (pos := p10) (kd_test (p1 := p6) (p2 := p7) (p4 := p9) hY hN hi.1 hi.2 hC (cv := .ref (G.xa b)) (fun u r => r) kb)
  have t3 := pt_not (pos := p15) (kd_test (p1 := p11) (p2 := p12) (p4 := p14) hY hN hi.1 hi.2 hV (cv := .type "ValueError") (fun u r => r) kv)
  refine pssOf (pss_cons (ps_if (PW.pt (pw_or t1 (pw_or t2 (pw_or1 t3)))) (pss_never (sts := nn)) pss_nil) (pss_one (ps_ret (pe_ix ix_list (hv p18) (pe_int (i := 0) (j := j) (pos := p19)) fun _ _ => rfl)))) fun E σ H q => ?_
  obtain ⟨e0, hd, p, x, e1, e2, q⟩ := q
  have sq : SqL Y.K H p [x] := SqL.of e2
  refine ⟨_, e1, p, [x], rfl, .inl sq, _, _, rfl, rfl, _, rfl, ?_⟩
  refine iteF' (show (!decide ((([x] : List V).length : Int) = 1)) = false from rfl) ⟨e0, hd, ?_⟩
  refine iteF' (show (!true) = false from rfl) ⟨e0, hd, ?_⟩
  refine iteF' (show (!true) = false from rfl) ?_
  exact ⟨_, e1, p, [x], 0, x, rfl, rfl, sq, rfl, q⟩
end
end Py
set_option maxHeartbeats 4000000
/-! MINI PYTHON, part D3: the def that tells the kind of a caught exception is called in the suite. -/
namespace Py
open PySem PySem.Spec PyProof.Rows L2 PySem.Calls L2H

/-- what the text says of the def f -/
structure KdTxt (G : Gd) (f : Str) : Prop where
  ex : ∃ (fk : Addr) (fd : FuncData) (qual : Str) (params : Arguments) (scope : Scope) (en ln : Str) (tbl : List (Str × Option Str)) (ss nn : List Stmt) (q1 q2 q3 : Pos) (i j : Nat) (p1 p2 p3 p4 p5 p6 p7 p8 p9 p10 p11 p12 p13 p14 p15 p16 p17 p18 p19 p20 p21 : Pos),
    G.mg f = some (.ref fk) ∧ FunD G.K f qual params (.Assign [.Name ln q1] (.List [] q2) q3 :: ss) scope [] [] fk fd ∧ Binds G.K fd [en] [] ∧ FnScope [en, ln] [en] scope ∧ KdN en ln ∧
    scope.names.lookup en = some .local ∧ scope.names.lookup ln = some .local ∧ [en, ln].Nodup ∧
    KdIfs en ln (kEnd en ln G.pg.base nn i j p1 p2 p3 p4 p5 p6 p7 p8 p9 p10 p11 p12 p13 p14 p15 p16 p17 p18 p19 p20 p21) tbl ss ∧ (tbl.map (·.1)).Nodup ∧
    (∀ x, x ∈ ("isinstance" : Str) :: ("len" : Str) :: ("ValueError" : Str) :: G.pg.base :: tbl.map (·.1) → scope.names.lookup x = some .globalImplicit) ∧
    (∀ c, c ∈ G.pg.base :: tbl.map (·.1) → G.mg c = some (.ref (G.xa c)) ∧ (c == ("__debug__" : Str)) = false) ∧
    (∀ c0 f0, (c0, f0) ∈ G.pg.exc → tbl.lookup c0 = some f0 ∧ ExcC G.K (G.xa c0) ∧ (∀ g, f0 = some g → PySem.W.findIn G.K (.ref (G.xa c0)) g = some none) ∧
      (∀ c, c ∈ tbl.map (·.1) → PySem.W.kitOne G.K (.ref (G.xa c0)) (.ref (G.xa c)) = some (decide (c = c0))) ∧
      PySem.W.kitOne G.K (.ref (G.xa c0)) (.ref (G.xa G.pg.base)) = some true ∧ PySem.W.kitOne G.K (.ref (G.xa c0)) (.type "ValueError") = some true)
  isi : G.mg "isinstance" = none
  len : G.mg "len" = none
  ve : G.mg "ValueError" = none

/-- the reading of the call -/
def tKc (G : Gd) (L i : Nat) (a : Addr) (cls : Value) (d : Option Addr) : TE := fun s H Q => ∃ io e m, RelH G io m H ∧ ExR G io e cls d H ∧ s.length = L ∧ s[i]? = some (some (.ref a)) ∧ H a = none ∧
  ∀ u m', kindOf e m = .ok u m' → ∀ io' H' v, io <+: io' → RelH G io' m' H' → Em io' u v → Q v H'
section
variable {G : Gd}
/-- what stands when it is through -/
theorem kd_pure {io : List Addr} {e : Ex} {m : M} {H : Hp} {cls : Value} {d : Option Addr} {Q : VK} {p q : Addr} {v : V} (hR : RelH G io m H) (hx : ExR G io e cls d H) (hp : H p = none) (hq : upd H p (.lst []) q = none) (hv : Fv d (e.f.map (·.1)) H v)
    (h : ∀ u m', kindOf e m = .ok u m' → ∀ io' H' v, io <+: io' → RelH G io' m' H' → Em io' u v → Q v H') : Q (.ref q) (upd (upd (upd H p (.lst [])) q (.tup [.str e.c, v])) p (.lst [.ref q])) := by
  have e0 : ∃ u, (match e.f with
      | some z => z.2
      | none => U.non) = u ∧ Em io u v := by
    obtain ⟨_, _, hx3⟩ := hx
    cases hf : e.f with
    | none =>
      rw [hf] at hv
      exact ⟨_, rfl, hv⟩
    | some z =>
      rw [hf] at hv hx3
      obtain ⟨a1, v1, e1, e2, e3⟩ := hx3
      obtain ⟨dd, e4, e5⟩ := hv
      rw [e1] at e4
      cases e4
      rw [e2] at e5
      cases e5
      exact ⟨_, rfl, e3⟩
  obtain ⟨u, hu, eu⟩ := e0
  have R1 : RelH G (io ++ [p]) (m ++ [.lst []]) (upd H p (.lst [])) := hR.lay hp ⟨[], .nil, upd_same⟩
  have R2 : RelH G (io ++ [p] ++ [q]) (m ++ [.lst []] ++ [.tup [.str e.c, u]]) (upd (upd H p (.lst [])) q (.tup [.str e.c, v])) :=
    R1.lay hq ⟨_, .cons rfl (.cons ((eu.mono pre1).mono pre1) .nil), upd_same⟩
  have hl : (m ++ [MO.lst []] ++ [MO.tup [.str e.c, u]])[m.length]? = some (.lst []) := by simp
  have hi : (io ++ [p] ++ [q])[m.length]? = some p := by rw [← hR.len]; simp
  have hj : (io ++ [p] ++ [q])[m.length + 1]? = some q := by rw [← hR.len]; simp
  have R3 := R2.put (ys := [.ref (m.length + 1)]) (vs := [.ref q]) hi hl (.cons ⟨q, hj, rfl⟩ .nil)
  have hm : (m ++ [MO.lst []] ++ [MO.tup [.str e.c, u]]).set m.length (.lst [.ref (m.length + 1)]) = m ++ [.lst [.ref (m.length + 1)], .tup [.str e.c, u]] := by simp
  rw [hm] at R3
  refine h (.ref (m.length + 1)) _ ?_ _ _ _ ⟨[p, q], by simp⟩ R3 ⟨q, hj, rfl⟩
  rw [← hu]
  rfl
theorem fv_of {io : List Addr} {e : Ex} {cls : Value} {d : Option Addr} {H : Hp} (hx : ExR G io e cls d H) : ∃ v, Fv d (e.f.map (·.1)) H v ∧ Dic d H := by
  obtain ⟨_, _, hx3⟩ := hx
  cases hf : e.f with
  | none =>
    rw [hf] at hx3
    exact ⟨.non, rfl, fun dd z => by rw [hx3] at z; cases z⟩
  | some z =>
    rw [hf] at hx3
    obtain ⟨a1, v1, e1, e2, e3⟩ := hx3
    exact ⟨v1, ⟨a1, e1, e2⟩, fun dd z => by rw [e1] at z; cases z; exact ⟨_, e2⟩⟩
theorem mem_lookup {B : Type} {c : Str} {f : B} : ∀ {t : List (Str × B)}, (c, f) ∈ t → (t.map (·.1)).Nodup → t.lookup c = some f
  | [], h, _ => by cases h
  | (x, y) :: t, h, hn => by
    rw [List.map_cons, List.nodup_cons] at hn
    rcases List.mem_cons.mp h with e | h
    · cases e
      rw [List.lookup, beq_self_eq_true]
    · have z : (c == x) = false := by
        cases q : (c == x) with
        | false => rfl
        | true =>
          rw [beq_iff_eq] at q
          exact absurd (List.mem_map_of_mem (f := (·.1)) h) (by rw [q]; exact hn.1)
      rw [List.lookup, z]
      exact mem_lookup h hn.2
theorem Fv.upd {d : Option Addr} {f : Option Str} {H : Hp} {v : V} {p : Addr} {o : HO} (h : Fv d f H v) (hp : H p = none) : Fv d f (upd H p o) v := by
  cases f with
  | none => exact h
  | some g =>
    obtain ⟨dd, e1, e2⟩ := h
    exact ⟨dd, e1, by rw [upd_ne (ne_of_none e2 hp)]; exact e2⟩
theorem Dic.upd {d : Option Addr} {H : Hp} {p : Addr} {o : HO} (h : Dic d H) (hp : H p = none) : Dic d (upd H p o) := fun dd z => by
  obtain ⟨fs, e2⟩ := h dd z
  exact ⟨fs, by rw [upd_ne (ne_of_none e2 hp)]; exact e2⟩
theorem kd_call {k : Nat} {cx : Ctx} {X : Cx} {f n : Str} {i : Nat} {a : Addr} {oe : Obj} {cls : Value} {d : Option Addr} {pn : List (Addr × Obj)} {p1 p2 p3 : Pos} (T : KdTxt G f) (hX : XOk G (k + 1) cx X) (hf : nameB cx f = true) (hn : slotB cx i n = true) (hz : Zc cls d oe)
    (hv : ∃ vs, oe.data = .fields vs) : PE (X.suite a ((a, oe) :: pn)) (.Call (.Name f p1) [.Name n p2] [] p3) (tKc G cx.N.length i a cls d) := by
  obtain ⟨fk, fd, qual, params, scope, en, ln, tbl, ss, nn, q1, q2, q3, i0, j0, r1, r2, r3, r4, r5, r6, r7, r8, r9, r10, r11, r12, r13, r14, r15, r16, r17, r18, r19, r20, r21, t1, t2, t3, t4, t5, t6, t7, t8, t9, t10, t11, t12, t13⟩ := T.ex
  obtain ⟨hg, hd⟩ := hX.name hf
  obtain ⟨s1, s2, s3, s4⟩ := hX.slot hn
  have ha : PA (X.suite a ((a, oe) :: pn)) [.Name n p2] _ := pa_cons (pe_var s1 s2 s3 s4) pa_nil rfl
  refine ⟨fun pins s σ H Q I h => ?_⟩
  obtain ⟨io, e, m, hR, hx, hl, hs, hna, hq⟩ := h
  have hm : (X.suite a ((a, oe) :: pn)).mg f = some (.ref fk) := hX.hm ▸ t1
  refine wpAny_Call_Name_kw (ld_glob I hg hm ?_ hd)
  refine W.callWith_K (h₀ := X.base) I.ok.mod.kin (hX.hK.symm ▸ t2.kp) (thn (ha.run p3 pins s σ H (fun vs H1 => vs = [.ref a] ∧ H1 = H) I ⟨_, hs, rfl, rfl⟩) fun us s1 ⟨vs, H1, I1, rv, ev, eH⟩ => ⟨I1.kIn, ?_⟩) rfl rfl
  subst ev eH
  have hus : us = [.ref a] := by
    cases rv with
    | cons x y =>
      cases y
      rw [show _ = Value.ref a from x]
  subst hus
  show wpAny _ _ (call (.ref fk) [.ref a]) _ _ _
  obtain ⟨oc, od, dV, kV, doc, pm, an, cdv, ct, osl, rfl, lk, hcd, _, _⟩ := t2.ex
  obtain ⟨_, hcls, _⟩ := id hx
  obtain ⟨f0, hmem⟩ : ∃ f0, (e.c, f0) ∈ G.pg.exc ∧ f0 = e.f.map (·.1) := ⟨_, hx.1, rfl⟩
  obtain ⟨hmem, hf0⟩ := hmem
  obtain ⟨c1, c2, c3, c4, c5, c6⟩ := t13 _ _ hmem
  have rH : RoomH (k + 1) (X.suite a ((a, oe) :: pn)).A := ⟨hX.room.dp, hX.room.un⟩
  have e0 := I1.env0
  have KX := I1.kIn
  rw [show (X.suite a ((a, oe) :: pn)).K = G.K from hX.hK] at KX
  have P1 := I1.pin (a, oe) (List.mem_append_left _ List.mem_cons_self)
  have hpin : PinOk (X.suite a ((a, oe) :: pn)).stack H1 s1 (a, oe) := ⟨P1.1, P1.2.1, fun hmm => (List.mem_cons.mp (I1.stkSub a hmm)).elim P1.2.2.1 P1.2.2.2.1, P1.2.2.2.2⟩
  have KX' : W.Frag.In X.K s1.heap := I1.kIn
  have lk' : X.K.lookup fk = _ := hX.hK.symm ▸ lk
  have lim : s1.heap.NoLimit := I1.nolimit
  have hb := t3 s1 [.ref a] KX rfl
  refine wpAny_call (codeAny_mono (R := CR L2.CX0 (X.suite a ((a, oe) :: pn)).stack X.prog X.w H1 s1 Q L2.E0) ?run fun r s' hq' => ?back)
  case back =>
    cases r with
    | error er => exact hq'.elim
    | ok fl => cases fl with
      | ret u => exact I1.after hq'
      | next => exact False.elim hq'
      | brk => exact False.elim hq'
      | cont => exact False.elim hq'
  refine codeAny_call_function rH.depth (KX _ _ lk) rfl t4.co t4.gen rfl (W.codeRec_of KX hcd) (hb _ _ _ _ ?_)
  refine wpAny_newFunctionEnv_cells t4.kind (fun y hy => ?_) fun env he st x => ?_
  · have hy' : y ∈ [(en, Value.ref a)] := hy
    rw [List.mem_singleton] at hy'
    subst hy'
    exact .inl t6
  subst he
  refine ⟨lim.keeps x.toInCall.keep, codeAny_func ?_⟩
  have rv0 : Vals [V.ref a] [Value.ref a] := .cons rfl .nil
  have I2 := inv_startH (CX := L2.CX0) (E := L2.E0) t4 hpin e0 (vs := [.ref a]) rfl rv0 x
  have gl : ∀ x, x ∈ ("isinstance" : Str) :: ("len" : Str) :: ("ValueError" : Str) :: G.pg.base :: tbl.map (·.1) → Gl (cxH L2.CX0 X.prog X.w X.K X.mg X.base [en, ln] qual scope fk cdv (X.suite a ((a, oe) :: pn)).A (X.suite a ((a, oe) :: pn)).stack s1 H1 L2.E0 (a, oe)) x := fun x hx => t11 x hx
  have HY : KdX G en ln a oe (G.xa e.c) d (cxH L2.CX0 X.prog X.w X.K X.mg X.base [en, ln] qual scope fk cdv (X.suite a ((a, oe) :: pn)).A (X.suite a ((a, oe) :: pn)).stack s1 H1 L2.E0 (a, oe)) :=
    ⟨hX.hK, hX.hm, rfl, t8, t6, t7, List.mem_cons_self, hcls ▸ hz, hv, c2⟩
  have HF : KdF G en ln (G.xa e.c) e.c _ tbl := ⟨⟨gl _ (by simp), T.isi⟩, fun c f hm => by
    have hmm : c ∈ tbl.map (·.1) := List.mem_map_of_mem (f := (·.1)) hm
    refine ⟨c4 c hmm, gl c (by simp only [List.mem_cons]; exact .inr (.inr (.inr (.inr hmm)))), (t12 c (List.mem_cons_of_mem _ hmm)).1, (t12 c (List.mem_cons_of_mem _ hmm)).2, fun hc g hg => ?_⟩
    subst hc
    have z := mem_lookup hm t10
    rw [c1] at z
    exact c3 g ((Option.some.inj z).trans hg)⟩
  have HE := kd_end (nn := nn) (i := i0) (j := j0) (p1 := r1) (p2 := r2) (p3 := r3) (p4 := r4) (p5 := r5) (p6 := r6) (p7 := r7) (p8 := r8) (p9 := r9) (p10 := r10) (p11 := r11) (p12 := r12) (p13 := r13) (p14 := r14) (p15 := r15) (p16 := r16) (p17 := r17) (p18 := r18) (p19 := r19) (p20 := r20) (p21 := r21)
    HY t5 ⟨gl _ (by simp), T.isi⟩ ⟨gl _ (by simp), T.len⟩ ⟨gl _ (by simp), t12 _ (List.mem_cons_self ..)⟩ ⟨gl _ (by simp), T.ve⟩ c5 c6
  have HB := pss_cons (ps_set (i := 1) (pos := q3) (pos' := q1) HY.nd rfl (Or.inl t7) (pe_lst (pos := q2) pa_nil) rfl (.inl rfl)) (kd_ifs HY t5 HE t9 HF)
  refine wpAny_mono (HB.run [] st (start [en, ln] [.ref a]) H1 { nx := fun _ H' => Q .non H', rt := Q } I2 ?pure) (fun fl s' hs => ?back) fun e s' hs => hs
  case back =>
    have fin : ∀ {σ' : L2.St} {H' : Hp} {v : V} {u : Value}, Inv (cxH L2.CX0 X.prog X.w X.K X.mg X.base [en, ln] qual scope fk cdv (X.suite a ((a, oe) :: pn)).A (X.suite a ((a, oe) :: pn)).stack s1 H1 L2.E0 (a, oe)) [] σ' H' s' → RelV v u → Q v H' → CE (X.suite a ((a, oe) :: pn)).stack X.prog X.w H1 s1 Q u s' :=
      fun {σ' H' v u} J rv q => ⟨v, H', J.os, J.bare, J.base, J.hok, rv, q⟩
    cases fl with
    | ret u =>
      obtain ⟨v, σ', H', J, rv, q⟩ := hs
      exact fin J rv q
    | next =>
      obtain ⟨σ', H', J, q⟩ := hs
      exact fin (v := V.non) (u := Value.none) J rfl q
    | brk =>
      obtain ⟨_, _, _, q⟩ := hs
      exact False.elim q
    | cont =>
      obtain ⟨_, _, _, q⟩ := hs
      exact False.elim q
  obtain ⟨v, hfv, hdic⟩ := fv_of hx
  rw [← hf0] at hfv
  refine ⟨by show 0 ≤ sizeLine; exact Nat.zero_le _, fun p hp => ?_⟩
  refine ks_hit (p := p) (v := v) rfl (hdic.upd hp) rfl upd_same (hfv.upd hp) (fun q hqn => ?_) c1 t10
  have n1 : p ≠ q := fun z => by rw [← z, upd_same] at hqn; cases hqn
  have hd3 : Dic d (upd (upd (upd H1 p (.lst [])) q (.tup [.str e.c, v])) p (.lst [.ref q])) := fun dd z => by
    obtain ⟨fs, e2⟩ := (hdic.upd (o := .lst []) hp).upd (o := .tup [.str e.c, v]) hqn dd z
    have n2 : dd ≠ p := fun y => by
      rw [y, upd_ne n1, upd_same] at e2
      cases e2
    exact ⟨fs, by rw [upd_ne n2]; exact e2⟩
  exact ⟨rfl, hd3, p, .ref q, rfl, upd_same, kd_pure hR hx hp hqn (hf0 ▸ hfv) hq⟩
theorem kind_ok {k : Nat} (h : ∀ f ∈ G.pg.kinds, KdTxt G f) : KindOk G (k + 1) := fun cx X hh f n i a oe cls d pn p1 p2 p3 p4 hX hf hn hk hz hv =>
  pssOf (pss_one (ps_ret (kd_call (h f hk) hX hf hn hz hv))) fun D s H ⟨io, e, m, hR, hx, hl, hs, hna, hq⟩ => ⟨io, e, m, hR, hx, hl, hs, hna, hq⟩
end
end Py
set_option maxHeartbeats 4000000
/-! MINI PYTHON, part C7: the theorem for statements. -/
namespace Py
open PySem PySem.Spec PyProof.Rows L2

structure XSt (G : Gd) (k : Nat) (cx : Ctx) (X : Cx) : Prop extends XOk G k cx X where
  stk : X.stack = X.env :: X.outer
  fr : X.env.frame = some X.env.locals
  po : PassesOwn (model X.prog X.w) X.A X.env X.xe
  kf : X.env.scope.kind = .function
theorem XSt.tr {G : Gd} {k : Nat} {cx : Ctx} {X : Cx} (hX : XSt G k cx X) (pn : List (Addr × Obj)) (xe : Value → Shared → Prop) (po : PassesOwn (model X.prog X.w) X.A X.env xe) : XSt G k cx (X.tr pn xe) where
  hP := hX.hP
  hw := hX.hw
  hK := hX.hK
  hm := hX.hm
  hb := hX.hb
  calm := hX.calm
  hN := hX.hN
  nd := hX.nd
  hs := hX.hs
  hf := hX.hf
  room := hX.room
  fns := hX.fns
  hpg := hX.hpg
  kws := hX.kws
  stk := hX.stk
  fr := hX.fr
  po := po
  kf := hX.kf

/-! ### loops -/
section
variable {G : Gd} {W : WX} {L : Nat} {cl : Cl}
theorem for_read {tg : Tg} {it : MI} {b : MSs} {D : Ends} {s : L2.St} {H : Hp} (h : liftS G W L (exe G.pg cl (.fors tg it b)) D s H) :
    tFor (liftI G W L (evi G.pg cl it)) (gT G.K tg) (liftS G W L (exs G.pg cl b)) D s H := by
  obtain ⟨io, r, m, hR, hS, hp⟩ := h
  rw [exe_fors] at hp
  refine ⟨io, r, m, hR, hS, (PostS.bind (T := ITR G) hp).imp ?_⟩
  rintro J H1 ⟨io1, t, m1, p1, hR1, hJ, hp1⟩
  refine ⟨fun i n s' H' => n = t.items.length - i ∧ i ≤ t.items.length ∧ ∃ io' r' m', io1 <+: io' ∧ RelH G io' m' H' ∧ Sl L io' r' s' ∧ PostS G W L D io' (forL t tg (fun r1 m2 => exs G.pg cl b r1 m2) (t.items.drop i) r' m'),
    ⟨_, rfl, Nat.zero_le _, io1, r, m1, List.prefix_refl _, hR1, hS.mono p1, hp1⟩, ?_⟩
  rintro i n s' H' ⟨rfl, hi, io', r', m', pre, hR', hS', hp'⟩
  have hJ' : ITR G io' t J := hJ.mono pre
  by_cases hlt : i < t.items.length
  · refine .inr ?_
    rw [drop_get hlt] at hp'
    unfold forL at hp'
    by_cases ok : t.ok m' = true
    · rw [if_pos ok] at hp'
      have hx : t.items[i]? = some t.items[i] := by simp [hlt]
      obtain ⟨go, yl⟩ := it_go hR' hJ' ok hx
      refine ⟨go, fun s'' H'' => t.items.length - (i + 1) = t.items.length - (i + 1) ∧ i + 1 ≤ t.items.length ∧ ∃ io' r' m', io1 <+: io' ∧ RelH G io' m' H'' ∧ Sl L io' r' s'' ∧ PostS G W L D io' (forL t tg (fun r1 m2 => exs G.pg cl b r1 m2) (t.items.drop (i + 1)) r' m'),
        fun s'' H'' q => ⟨_, by omega, q⟩, fun v H'' y => ?_⟩
      obtain ⟨hR2, hIR⟩ := yl v H'' y
      cases ha : asgT tg t.items[i] r' m' with
      | stuck => rw [ha] at hp'; exact hp'.elim
      | ex e me =>
        exfalso
        revert ha
        unfold asgT
        split
        · intro z; cases z
        · split <;> (try split) <;> intro z <;> cases z
        · split <;> intro z <;> cases z
        · intro z; cases z
      | ok r1 m2 =>
        obtain rfl : m2 = m' := (asg_run (Q := fun _ _ => True) hR2 hS' hIR ha fun _ _ _ => trivial).1
        refine (asg_run hR2 hS' hIR ha fun s2 hS2 _ => ?_).2
        rw [ha] at hp'
        simp only [bind_ok] at hp'
        refine ⟨io', r1, m2, hR2, hS2, PostS.bindS hp' fun p m io3 H3 s3 hr p3 hR3 hS3 hp3 => ?_⟩
        obtain ⟨fl, r3⟩ := p
        cases fl with
        | nx => exact ⟨rfl, hlt, io3, r3, m, pre.trans p3, hR3, hS3, hp3⟩
        | ct => exact ⟨rfl, hlt, io3, r3, m, pre.trans p3, hR3, hS3, hp3⟩
        | br => exact PostS.now hp3 hR3 hS3
        | rt u => exact PostS.now hp3 hR3 hS3
    · rw [if_neg ok] at hp'
      exact hp'.elim
  · refine .inl ?_
    have he : t.items.drop i = [] := List.drop_eq_nil_of_le (by omega)
    rw [he] at hp'
    unfold forL at hp'
    by_cases ok : t.ok m' = true
    · rw [if_pos ok] at hp'
      exact ⟨it_stop hR' hJ' ok (by omega), PostS.now hp' hR' hS'⟩
    · rw [if_neg ok] at hp'
      exact hp'.elim
theorem whl_read {c : ME} {b : MSs} {D : Ends} {s : L2.St} {H : Hp} (h : liftS G W L (exe G.pg cl (.whl c b)) D s H) :
    tWhile (liftT G W L (evT G.pg cl c)) (liftS G W L (exs G.pg cl b)) D s H := by
  obtain ⟨io, r, m, hR, hS, hp⟩ := h
  rw [exe_whl] at hp
  refine ⟨fun n s' H' => ∃ io' r' m', io <+: io' ∧ RelH G io' m' H' ∧ Sl L io' r' s' ∧ PostS G W L D io' (whlL (fun r1 m1 => evT G.pg cl c r1 m1) (fun r1 m1 => exs G.pg cl b r1 m1) n r' m'),
    ⟨_, io, r, m, List.prefix_refl _, hR, hS, hp⟩, ?_⟩
  rintro n s' H' ⟨io', r', m', pre, hR', hS', hp'⟩
  cases n with
  | zero => exact hp'.elim
  | succ n =>
    unfold whlL at hp'
    refine ⟨io', r', m', hR', hS', (PostS.bind (T := fun _ a b => a = b) hp').imp ?_⟩
    rintro kk H1 ⟨io1, k', m1, p1, hR1, rfl, hp1⟩
    cases k' with
    | true =>
      rw [if_pos rfl] at hp1
      refine iteT ⟨fun s'' H'' => ∃ io' r' m', io <+: io' ∧ RelH G io' m' H'' ∧ Sl L io' r' s'' ∧ PostS G W L D io' (whlL (fun r1 m1 => evT G.pg cl c r1 m1) (fun r1 m1 => exs G.pg cl b r1 m1) n r' m'), fun s'' H'' q => ⟨n, Nat.lt_succ_self n, q⟩, ?_⟩
      refine ⟨io1, r', m1, hR1, hS'.mono p1, PostS.bindS hp1 fun p m io3 H3 s3 hr p3 hR3 hS3 hp3 => ?_⟩
      obtain ⟨fl, r3⟩ := p
      cases fl with
      | nx => exact ⟨io3, r3, m, (pre.trans p1).trans p3, hR3, hS3, hp3⟩
      | ct => exact ⟨io3, r3, m, (pre.trans p1).trans p3, hR3, hS3, hp3⟩
      | br => exact PostS.now hp3 hR3 hS3
      | rt u => exact PostS.now hp3 hR3 hS3
    | false =>
      rw [if_neg Bool.false_ne_true] at hp1
      exact iteF (PostS.now hp1 hR1 (hS'.mono p1))
end

section
variable {G : Gd} {cl : Cl} {k : Nat} (hF : FsOk G cl k) (hG : GOk G) (hRs : RaiseOk G cl k) (hKd : KindOk G k) (hB : BaseOk G)
include hF hG hRs hKd hB
mutual
theorem soundS : ∀ (a : MS) {e : Stmt} {cx : Ctx} {X : Cx} {W : WX}, matS cx a e = true → XSt G k cx X → Takes X W → PS X e (liftS G W cx.N.length (exe G.pg cl a))
  | .expr a, e, cx, X, W, h, hX, tk => by
    rw [matS_expr] at h
    cases e with
    | Expr x p =>
      obtain ⟨h1, h2⟩ := and2 h
      exact psOf (ps_expr (soundE hF hG a h2 hX.toXOk tk).1 (swaps_of h1)) fun D s H q => liftS_e (g := fun _ r m => .ok (.nx, r) m) q fun v H1 io u r m hR hS e1 hp => PostS.now hp hR hS
    | _ => cases h
  | .asg i a, e, cx, X, W, h, hX, tk => by
    rw [matS_asg] at h
    cases e with
    | Assign ts v p =>
     match ts, h with
     | [.Name x px], h =>
      obtain ⟨h1, g2⟩ := and2 h
      obtain ⟨h2, h3⟩ := and2 g2
      obtain ⟨a1, a2, a3⟩ := hX.toXOk.stor h1
      have read : ∀ {D : Ends} {s : L2.St} {H : Hp}, liftS G W cx.N.length (exe G.pg cl (.asg i a)) D s H → liftE G W cx.N.length (ev G.pg cl a) s H fun w H1 => gName i w s H1 D.nx := fun {D s H} q => by
        obtain ⟨io, r, m, hR, hS, hp⟩ := q
        rw [exe_asg] at hp
        refine ⟨io, r, m, hR, hS, (PostS.bind (T := Em) hp).imp ?_⟩
        rintro w H1 ⟨io1, u, m1, p1, hR1, e1, hp1⟩
        exact PostS.now hp1 hR1 ((hS.mono p1).set i e1)
      by_cases hc : okC v = true
      · exact psOf (ps_set hX.nd a1 a2 (soundE hF hG a h2 hX.toXOk tk).1 (swaps_of hc) a3) fun D s H q => read q
      · have hc' : okC v = false := Bool.eq_false_iff.mpr hc
        cases v with
        | ListComp elt gs scope pos =>
          simp only [swapB] at h3
          cases hl : cx.sc.names.lookup x with
          | none => rw [hl] at h3; cases h3
          | some kd =>
            rw [hl] at h3
            have hl2 : X.env.scope.names.lookup x = some kd := by rw [hX.hs]; exact hl
            cases kd with
            | «local» =>
              simp only at h3
              by_cases hb : ((px.line == pos.line) && !(scope.names.any fun (n, k) => n == x && (k == .local || k == .cell))) = true
              · obtain ⟨b1, b2⟩ := and2 hb
                have b3 : (scope.names.any fun (n, k) => n == x && (k == .local || k == .cell)) = false := by simpa using b2
                exact psOf (setLc hF hG h2 hX.toXOk tk hc' a1 hl2 (sw_true hX.kf hl2 b1 b3)) fun D s H q => read q
              · rw [if_neg hb] at h3
                cases h3
            | cell =>
              have hsw : swapsWith (.ListComp elt gs scope pos) (some (.Name x px)) p.line X.env = pure false := by
                have ky : X.env.kindOf x = some .cell := hl2
                show (pure (X.env.blockKind == .function && X.env.kindOf x == some .local && px.line == pos.line && !(scope.names.any fun (n, k) => n == x && (k == .local || k == .cell))) : Sem Bool) = pure false
                rw [ky]
                have e : (some NameKind.cell == some NameKind.local) = false := by decide
                rw [e]
                simp
              exact psOf (ps_set hX.nd a1 a2 (soundE hF hG a h2 hX.toXOk tk).1 hsw a3) fun D s H q => read q
            | _ => cases h3
        | SetComp _ _ _ _ => cases h3
        | DictComp _ _ _ _ _ => cases h3
        | _ => cases hc'
    | _ => cases h
  | .asgT is a, e, cx, X, W, h, hX, tk => by
    rw [matS_asgT] at h
    cases e with
    | Assign ts v p =>
     match ts, h with
     | [.Tuple es j p1], h =>
      obtain ⟨h1, g2⟩ := and2 h
      obtain ⟨h2, h3⟩ := and2 g2
      have ht : matTg cx (.tp is) (.Tuple es j p1) = true := h2
      refine psOf (ps_asg (soundE hF hG a h3 hX.toXOk tk).1 (tg_ok hX.toXOk ht) swapsT (swappedT h1) rfl) fun D s H q => ?_
      obtain ⟨io, r, m, hR, hS, hp⟩ := q
      rw [exe_asgT] at hp
      refine ⟨io, r, m, hR, hS, (PostS.bind (T := Em) hp).imp ?_⟩
      rintro w H1 ⟨io1, u, m1, p1, hR1, e1, hp1⟩
      cases ha : asgT (.tp is) [u] r m1 with
      | stuck => rw [ha] at hp1; exact hp1.elim
      | ex e me =>
        exfalso
        revert ha
        unfold asgT
        split
        · intro z; cases z
        · split <;> (try split) <;> intro z <;> cases z
        · split <;> intro z <;> cases z
        · intro z; cases z
      | ok r1 m2 =>
        rw [ha] at hp1
        have hIR : IR G io1 H1 [u] w := e1
        obtain rfl : m2 = m1 := (asg_run (Q := fun _ _ => True) hR1 (hS.mono p1) hIR ha fun _ _ _ => trivial).1
        rw [hX.hK]
        exact (asg_run hR1 (hS.mono p1) hIR ha fun s2 hS2 _ => PostS.now hp1 hR1 hS2).2
    | _ => cases h
  | .par i j a b, e, cx, X, W, h, hX, tk => by
    rw [matS_par] at h
    cases e with
    | Assign ts vv p =>
      have h' : (match dPar ts vv with
        | some (x, y, px, py, v, w) => storB cx i x && (storB cx j y && (decide (i ≠ j) && (decide (x ≠ y) && (decide (cx.sc.names.lookup x = some .local) && (decide (cx.sc.names.lookup y = some .local) &&
          ((py.line == px.line) && (!([v, w].all (foldedForSure 8)) && (!([v, w].all (constantsAlone 8)) && matEs cx (.cons a (.cons b .nil)) [v, w]))))))))
        | none => false) = true := h
      clear h
      split at h'
      case h_2 => cases h'
      rename_i x y px py v w hdp
      obtain ⟨kt, pt, k2, pt2, rfl, rfl⟩ := dPar_ok hdp
      have h := h'
      obtain ⟨h1, g2⟩ := and2 h
      obtain ⟨h2, g3⟩ := and2 g2
      obtain ⟨h3, g4⟩ := and2 g3
      obtain ⟨h4, g5⟩ := and2 g4
      obtain ⟨h5, g6⟩ := and2 g5
      obtain ⟨h6, g7⟩ := and2 g6
      obtain ⟨h7, g8⟩ := and2 g7
      obtain ⟨h8, g9⟩ := and2 g8
      obtain ⟨h9, h10⟩ := and2 g9
      clear g2 g3 g4 g5 g6 g7 g8 g9
      obtain ⟨a1, _, _⟩ := hX.toXOk.stor h1
      obtain ⟨b1, _, _⟩ := hX.toXOk.stor h2
      have hx : X.env.scope.names.lookup x = some .local := by rw [hX.hs]; exact of_decide_eq_true h5
      have hy : X.env.scope.names.lookup y = some .local := by rw [hX.hs]; exact of_decide_eq_true h6
      have hxy : x ≠ y := of_decide_eq_true h4
      have hes := okes_of h10
      have hv1 : okX v = true := by
        rw [List.all_cons] at hes
        exact (and2 hes).1
      have hw1 : okX w = true := by
        rw [List.all_cons, List.all_cons] at hes
        exact (and2 (and2 hes).2).1
      have hw := swapped2 (k1 := kt) (k2 := k2) (p1 := pt) (p2 := pt2) hX.kf hx hy hxy hv1 hw1 h7 (by rw [Bool.not_eq_true'] at h8; exact h8) (by rw [Bool.not_eq_true'] at h9; exact h9)
      refine psOf (ps_par hX.calm hX.nd a1 b1 (of_decide_eq_true h3) hx hy (soundEs hF hG (.cons a (.cons b .nil)) h10 hX.toXOk tk) hw swapsT) fun D s H q => ?_
      obtain ⟨io, r, m, hR, hS, hp⟩ := q
      rw [exe_par] at hp
      have hp2 : PostS G W cx.N.length D io ((evs G.pg cl (.cons a (.cons b .nil)) r m).bind fun us m2 => match us with
          | [u1, u2] => .ok (.nx, (r.set i (some u1)).set j (some u2)) m2
          | _ => .stuck) := by
        rw [evs_cons]
        simp only [evs_cons, evs_nil, bind_assoc, bind_ok]
        exact hp
      refine ⟨io, r, m, hR, hS, (PostS.bind (T := Ems) hp2).imp ?_⟩
      rintro vs H1 ⟨io1, us, m1, p1, hR1, e1, hp1⟩
      match us, e1, hp1 with
      | [u1, u2], e1, hp1 =>
        obtain ⟨v1, v2, rfl, q1, q2⟩ := ems2 e1
        exact ⟨v1, v2, rfl, PostS.now hp1 hR1 (((hS.mono p1).set i q1).set j q2)⟩
    | _ => cases h
  | .sub o i v, e, cx, X, W, h, hX, tk => by
    rw [matS_sub] at h
    cases e with
    | Assign ts v' p =>
     match ts, h with
     | [.Subscript o' i' p'], h =>
      obtain ⟨h1, g2⟩ := and2 h
      obtain ⟨h2, g3⟩ := and2 g2
      obtain ⟨h3, h4⟩ := and2 g3
      have ha : ∀ w, assign (.Subscript o' i' p') X.env w = (do
          let ov ← holding [w] (eval o' X.env)
          let iv ← holding [w, ov] (eval i' X.env)
          standAt p'
          holding [w, ov, iv] (setItem ov iv w)
          release [w, ov, iv] []) := by
        intro w
        cases i' <;> first | rfl | cases h1
      refine psOf (ps_asg (soundE hF hG v h2 hX.toXOk tk).1 (pg_sub (soundE hF hG o h3 hX.toXOk tk).1 (soundE hF hG i h4 hX.toXOk tk).1 set_list ha) swapsS swappedS rfl) fun D s H q => ?_
      obtain ⟨io, r, m, hR, hS, hp⟩ := q
      rw [exe_sub] at hp
      refine ⟨io, r, m, hR, hS, (PostS.bind (T := Em) hp).imp ?_⟩
      rintro w H1 ⟨io1, u, m1, p1, hR1, e1, hp1⟩
      refine ⟨io1, r, m1, hR1, hS.mono p1, (PostS.bind (T := Em) hp1).imp ?_⟩
      rintro w2 H2 ⟨io2, u2, m2, p2, hR2, e2, hp2⟩
      refine ⟨io2, r, m2, hR2, hS.mono (p1.trans p2), (PostS.bind (T := Em) hp2).imp ?_⟩
      rintro w3 H3 ⟨io3, u3, m3, p3, hR3, e3, hp3⟩
      match u2, u3, e2, e3, hp3 with
      | .ref c, .int kk, e2, e3, hp3 =>
        obtain ⟨q, e4, rfl⟩ := e2
        simp only [set3] at hp3
        have e5 := pre_get p3 e4
        cases hm : m3[c]? with
        | none => rw [hm] at hp3; exact hp3.elim
        | some ob =>
          rw [hm] at hp3
          cases ob with
          | lst xs =>
            simp only at hp3
            cases hx : ixN xs.length kk with
            | none => rw [hx] at hp3; exact hp3.elim
            | some j =>
              rw [hx] at hp3
              obtain ⟨vs, b1, b2⟩ := hR3.lst hm e5
              exact ⟨q, vs, kk, j, rfl, e3, b2, by rw [← Paired.len b1]; exact hx, PostS.now hp3 (hR3.put e5 hm (Paired.setAt (e1.mono (p2.trans p3)) j b1)) (hS.mono ((p1.trans p2).trans p3))⟩
          | _ => exact hp3.elim
    | _ => cases h
  | .aug i o a, e, cx, X, W, h, hX, tk => by
    rw [matS_aug] at h
    cases e with
    | AugAssign tgt op v p =>
     match tgt, h with
     | .Name x p', h =>
      obtain ⟨h1, g2⟩ := and2 h
      obtain ⟨h2, h3⟩ := and2 g2
      obtain ⟨a1, a2, a3⟩ := hX.toXOk.stor h1
      have i1 := (soundE hF hG a h3 hX.toXOk tk).1
      have read : ∀ {f : Int → Int → Int}, (∀ x y : Int, opI o x y = some (f x y)) → (o = .add ∨ o = .sub) → ∀ {D : Ends} {s : L2.St} {H : Hp}, liftS G W cx.N.length (exe G.pg cl (.aug i o a)) D s H → tAug i (liftE G W cx.N.length (ev G.pg cl a)) (ipI f) D s H := by
        intro f hf ho D s H q
        obtain ⟨io, r, m, hR, hS, hp⟩ := q
        rw [exe_aug] at hp
        cases hr : r[i]? with
        | none => rw [hr] at hp; exact hp.elim
        | some ou =>
          rw [hr] at hp
          cases ou with
          | none => exact hp.elim
          | some u0 =>
            obtain ⟨v0, b1, b2⟩ := hS.val i u0 hr
            refine ⟨v0, b1, io, r, m, hR, hS, (PostS.bind (T := Em) hp).imp ?_⟩
            rintro w H1 ⟨io1, u, m1, p1, hR1, e1, hp1⟩
            match u0, u, b2, e1, hp1 with
            | .int c, .int d, b2, e1, hp1 =>
              cases b2
              cases e1
              refine ⟨c, d, rfl, rfl, ?_⟩
              have hb : bin2 o (.int c) (.int d) m1 = .ok (.int (f c d)) m1 := by
                simp only [bin2, hf]
              have hp2 : PostS G W cx.N.length D io1 (.ok (.nx, r.set i (some (.int (f c d)))) m1) := by
                rcases ho with rfl | rfl
                · simp only [hb, bind_ok] at hp1
                  exact hp1
                · simp only [hb, bind_ok] at hp1
                  exact hp1
              exact PostS.now hp2 hR1 ((hS.mono p1).set i (v := V.int (f c d)) rfl)
      match o, h2 with
      | .add, h2 =>
        have e2 : op = .Add := of_decide_eq_true h2
        subst e2
        exact psOf (ps_aug hX.nd a1 a2 i1 ip_add a3) fun D s H q => read (fun _ _ => rfl) (.inl rfl) q
      | .sub, h2 =>
        have e2 : op = .Sub := of_decide_eq_true h2
        subst e2
        exact psOf (ps_aug hX.nd a1 a2 i1 ip_sub a3) fun D s H q => read (fun _ _ => rfl) (.inr rfl) q
    | _ => cases h
  | .ifs c a b, e, cx, X, W, h, hX, tk => by
    rw [matS_ifs] at h
    cases e with
    | If t xs ys p =>
      obtain ⟨h1, g2⟩ := and2 h
      obtain ⟨h2, h3⟩ := and2 g2
      refine psOf (ps_if (soundE hF hG c h1 hX.toXOk tk).2 (soundSs a h2 hX tk) (soundSs b h3 hX tk)) fun D s H q => ?_
      refine liftS_t (g := fun kk r m => if kk = true then exs G.pg cl a r m else exs G.pg cl b r m) q fun kk H1 io r m hR hS hp => ?_
      cases kk with
      | true => exact iteT ⟨io, r, m, hR, hS, hp⟩
      | false => exact iteF ⟨io, r, m, hR, hS, hp⟩
    | _ => cases h
  | .fors tg it b, e, cx, X, W, h, hX, tk => by
    rw [matS_fors] at h
    cases e with
    | For tge iter body oe p =>
     match oe, h with
     | [], h =>
      obtain ⟨h1, g2⟩ := and2 h
      obtain ⟨h2, g3⟩ := and2 g2
      obtain ⟨h3, h4⟩ := and2 g3
      refine psOf (ps_for hX.po hX.calm (soundI hF hG it (tge := tge) h3 hX.toXOk tk fun is his => by
        subst his
        cases tge <;> first | exact ⟨_, _, _, rfl⟩ | cases h2) (tg_ok hX.toXOk h2) (soundSs b h4 hX tk) (folded_of h1)) fun D s H q => ?_
      rw [hX.hK]
      exact for_read q
    | _ => cases h
  | .whl c b, e, cx, X, W, h, hX, tk => by
    rw [matS_whl] at h
    cases e with
    | While t body oe p =>
     match oe, h with
     | [], h =>
      obtain ⟨h1, h2⟩ := and2 h
      exact psOf (ps_while hX.po (soundE hF hG c h1 hX.toXOk tk).2 (soundSs b h2 hX tk)) fun D s H q => whl_read q
    | _ => cases h
  | .ret a, e, cx, X, W, h, hX, tk => by
    rw [matS_ret] at h
    cases e with
    | Return ov p =>
     match ov, h with
     | some v, h =>
      exact psOf (ps_ret (soundE hF hG a h hX.toXOk tk).1) fun D s H q => liftS_e (g := fun u r m => .ok (.rt u, r) m) q fun v H1 io u r m hR hS e1 hp => PostS.now hp hR hS v e1
    | _ => cases h
  | .retN, e, cx, X, W, h, hX, tk => by
    rw [matS_retN] at h
    cases e with
    | Return ov p =>
     match ov, h with
     | none, h => exact psOf ps_retN fun D s H ⟨io, r, m, hR, hS, hp⟩ => PostS.now hp hR hS .non rfl
    | _ => cases h
  | .raise c es, e, cx, X, W, h, hX, tk => by
    rw [matS_raise] at h
    cases e with
    | Raise ex cause p =>
     match ex, cause, h with
     | some ee, none, h =>
      have h' : (match dCl ee with
        | some (x, xs) => decide (x = c) && (nameB cx x && (excB cx c && matEs cx es xs))
        | none => false) = true := h
      clear h
      split at h'
      case h_2 => cases h'
      rename_i x xs hdp
      obtain ⟨q, p1, rfl⟩ := dCl_ok hdp
      have h := h'
      obtain ⟨h1, g2⟩ := and2 h
      obtain ⟨h2, g3⟩ := and2 g2
      obtain ⟨hc, h3⟩ := and2 g3
      have hx : x = c := of_decide_eq_true h1
      subst hx
      exact hRs cx X W x es xs q p1 p h2 hc h3 hX.toXOk tk (soundEs hF hG es h3 hX.toXOk tk)
    | _ => cases h
  | .brk, e, cx, X, W, h, hX, tk => by
    rw [matS_brk] at h
    cases e with
    | Break p => exact psOf ps_break fun D s H ⟨io, r, m, hR, hS, hp⟩ => PostS.now hp hR hS
    | _ => cases h
  | .cnt, e, cx, X, W, h, hX, tk => by
    rw [matS_cnt] at h
    cases e with
    | Continue p => exact psOf ps_continue fun D s H ⟨io, r, m, hR, hS, hp⟩ => PostS.now hp hR hS
    | _ => cases h
  | .pass, e, cx, X, W, h, hX, tk => by
    rw [matS_pass] at h
    cases e with
    | Pass p => exact psOf ps_pass fun D s H ⟨io, r, m, hR, hS, hp⟩ => PostS.now hp hR hS
    | _ => cases h
  | .tryK b i hh f, e, cx, X, W, h, hX, tk => by
    rw [matS_tryK] at h
    cases e with
    | Try body hs oe fb p =>
     match oe, fb, h with
     | [], [], h =>
      have h' : (match dSuite hs with
        | some (x, n, y, n') => decide (x = hh) && (nameB cx x && (decide (cx.N[i]? = some n) && (decide (cx.sc.names.lookup n = some .local) &&
          (decide (n' = n) && (slotB cx i n && (decide (y = f) && (nameB cx y && (decide (hh = cx.pg.base) && (decide (f ∈ cx.pg.kinds) && matSs cx b body)))))))))
        | none => false) = true := h
      clear h
      split at h'
      case h_2 => cases h'
      rename_i x n y n' hdp
      obtain ⟨xp, yp, np, cp, rp, hp, rfl⟩ := dSuite_ok hdp
      have h := h'
      obtain ⟨h1, g2⟩ := and2 h
      obtain ⟨h2, g3⟩ := and2 g2
      obtain ⟨h3, g4⟩ := and2 g3
      obtain ⟨h4, g5⟩ := and2 g4
      obtain ⟨h5, g6⟩ := and2 g5
      obtain ⟨h6, g7⟩ := and2 g6
      obtain ⟨h7, g8⟩ := and2 g7
      obtain ⟨h8, g9⟩ := and2 g8
      obtain ⟨h9, g10⟩ := and2 g9
      obtain ⟨h10, h11⟩ := and2 g10
      clear g2 g3 g4 g5 g6 g7 g8 g9 g10
      have e1 : x = hh := of_decide_eq_true h1
      have e5 : n' = n := of_decide_eq_true h5
      have e7 : y = f := of_decide_eq_true h7
      have e9 : hh = cx.pg.base := of_decide_eq_true h9
      subst e1 e5 e7
      obtain ⟨hg, hd⟩ := hX.toXOk.name h2
      have hni : X.N[i]? = some n' := by rw [hX.hN]; exact of_decide_eq_true h3
      have hln : X.env.kindOf n' = some .local := by
        show X.env.scope.names.lookup n' = _
        rw [hX.hs]
        exact of_decide_eq_true h4
      have hxb : x = G.pg.base := by rw [e9, hX.hpg]
      have hnm : Names X x (.ref (G.xa x)) := ⟨hg, hd, .inl (by rw [hX.hm, hxb]; exact hB.mg)⟩
      have hfk : y ∈ G.pg.kinds := by rw [← hX.hpg]; exact of_decide_eq_true h10
      refine psOf (ps_try_as (Wout := W) (tb := fun W' => liftS G W' cx.N.length (exs G.pg cl b)) (ts := tKind G cx.N.length i) hX.stk hX.fr hX.nd hni hln hnm tk
        (fun W' pn xe tk' po => soundSs b h11 (hX.tr pn xe po) tk') (fun a oe cls d pn hz hf => hKd cx X x y n' i a oe cls d pn yp np cp rp hX.toXOk h8 h6 hfk hz hf)) fun D s H q => ?_
      obtain ⟨io, r, m, hR, hS, hp⟩ := q
      rw [exe_tryK] at hp
      refine ⟨io, r, m, hR, hS, ?_⟩
      cases q : exs G.pg cl b r m with
      | stuck => rw [q] at hp; exact hp.elim
      | ok pp mm =>
        rw [q] at hp
        exact hp
      | ex ex me =>
        rw [q] at hp
        intro io' H' s' cls d pre hR' hl hx
        obtain ⟨hmem, hcls, hrest⟩ := id hx
        refine ⟨true, ?_, fun _ a ha => ?_, fun z => nomatch z⟩
        · rw [hX.hK, hcls, hxb]
          exact hB.exm _ hmem
        · refine ⟨io', ex, me, hR', hx, by simpa using hl, ?_, ha, fun u m' hk io2 H2 v p2 hR2 ev2 => ?_⟩
          · have hi : i < s'.length := by
              rw [hl, ← hX.hN]
              exact (List.getElem?_eq_some_iff.mp hni).1
            simp [hi]
          · have hp2 : PostS G W cx.N.length D io ((kindOf ex me).bind fun u m2 => .ok (.rt u, r) m2) := hp
            rw [hk] at hp2
            exact hp2 io2 H2 s (pre.trans p2) hR2 (hS.mono (pre.trans p2)) v ev2
    | _ => cases h
theorem soundSs : ∀ (a : MSs) {e : List Stmt} {cx : Ctx} {X : Cx} {W : WX}, matSs cx a e = true → XSt G k cx X → Takes X W → PSs X e (liftS G W cx.N.length (exs G.pg cl a))
  | .nil, e, cx, X, W, h, hX, tk => by
    rw [matSs_nil] at h
    match e, h with
    | [], h => exact pssOf pss_nil fun D s H ⟨io, r, m, hR, hS, hp⟩ => PostS.now hp hR hS
  | .cons a as, e, cx, X, W, h, hX, tk => by
    rw [matSs_cons] at h
    match e, h with
    | x :: xs, h =>
      obtain ⟨h1, h2⟩ := and2 h
      refine pssOf (pss_cons (soundS a h1 hX tk) (soundSs as h2 hX tk)) fun D s H ⟨io, r, m, hR, hS, hp⟩ => ?_
      rw [exs_cons] at hp
      refine ⟨io, r, m, hR, hS, PostS.bindS hp fun p m io3 H3 s3 hr p3 hR3 hS3 hp3 => ?_⟩
      obtain ⟨fl, r3⟩ := p
      cases fl with
      | nx => exact ⟨io3, r3, m, hR3, hS3, hp3⟩
      | ct => exact PostS.now hp3 hR3 hS3
      | br => exact PostS.now hp3 hR3 hS3
      | rt u => exact PostS.now hp3 hR3 hS3
end
end
end Py
set_option maxHeartbeats 4000000
/-! MINI PYTHON, part E1: all defs of the text keep to their mini runs. -/
namespace Py
open PySem PySem.Spec PyProof.Rows L2

/-- where the bodies stand -/
def ctxOf (G : Gd) (fns : List Str) (kws : List (Str × List Str)) (N : List Str) (sc : Scope) : Ctx := { N := N, sc := sc, fn := fun _ => true, fns := fns, pg := G.pg, kws := kws }
/-- one def of the text -/
structure DefOk (G : Gd) (fns : List Str) (kws : List (Str × List Str)) (f : Str) (d : Fn) : Prop where
  ex : ∃ (fa : Addr) (fd : FuncData) (qual : Str) (params : Arguments) (body : List Stmt) (scope : Scope) (N ps : List Str), G.mg f = some (.ref fa) ∧ FunD G.K f qual params body scope [] [] fa fd ∧ Binds G.K fd ps [] ∧
    (G.kw f ≠ [] → ps = G.kw f ∧ KBinds G.K fd ps ps gK gK) ∧ FnScope N ps scope ∧ ps.length = d.ps ∧ N.length = d.ns ∧ d.ps ≤ d.ns ∧ matSs (ctxOf G fns kws N scope) d.body body = true
structure TxtOk (G : Gd) (fns : List Str) (kws : List (Str × List Str)) : Prop where
  fn : ∀ f ∈ fns, ∃ d, G.fs f = some d
  kw : ∀ p ∈ kws, (∃ d, G.fs p.1 = some d) ∧ G.kw p.1 = p.2 ∧ p.2 ≠ []
  defs : ∀ f d, G.fs f = some d → DefOk G fns kws f d
  g : GOk G
  x : XcOk G
  k : ∀ f ∈ G.pg.kinds, KdTxt G f
  b : BaseOk G

theorem ems_some {io : List Addr} : ∀ {us : List U} {vs : List V}, Ems io us vs → ∀ (n : Nat) (i : Nat) (u : U), (us.map some ++ List.replicate n none)[i]? = some (some u) → ∃ v, ∀ m, (vs.map some ++ List.replicate m none)[i]? = some (some v) ∧ Em io u v
  | [], [], .nil, n, i, u, h => by
    rw [List.map_nil, List.nil_append, List.getElem?_replicate] at h
    split at h <;> cases h
  | u0 :: us, v0 :: vs, .cons e r, n, 0, u, h => by
    have h' : some (some u0) = some (some u) := h
    cases h'
    exact ⟨v0, fun m => ⟨rfl, e⟩⟩
  | u0 :: us, v0 :: vs, .cons e r, n, i + 1, u, h => by
    obtain ⟨v, hv⟩ := ems_some r n i u (by simpa using h)
    exact ⟨v, fun m => ⟨by simpa using (hv m).1, (hv m).2⟩⟩
theorem sl_start {io : List Addr} {us : List U} {vs : List V} {N : List Str} {ns : Nat} (e : Ems io us vs) (hN : N.length = ns) (hl : us.length ≤ ns) : Sl N.length io (us.map some ++ List.replicate (ns - us.length) none) (L2.start N vs) := by
  have hv := Paired.len e
  refine ⟨by simp; omega, by unfold L2.start; simp; omega, fun i u h => ?_⟩
  obtain ⟨v, hv⟩ := ems_some e _ i u h
  exact ⟨v, (hv _).1, (hv 0).2⟩
section
variable {G : Gd} {fns : List Str} {kws : List (Str × List Str)}
theorem def_fn {k : Nat} (T : TxtOk G fns kws) (hF : FsOk G (callN G.pg G.fs k) (k + 2)) {f : Str} {d : Fn} (hd : G.fs f = some d) {fa : Addr} {fd : FuncData} {qual : Str} {params : Arguments} {body : List Stmt} {scope : Scope} {N ps : List Str} (h2 : FunD G.K f qual params body scope [] [] fa fd)
    (h5 : FnScope N ps scope) (h6 : ps.length = d.ps) (h7 : N.length = d.ns) (h8 : d.ps ≤ d.ns) (h9 : matSs (ctxOf G fns kws N scope) d.body body = true) : FnOk G.P G.w G.K G.mg G.base (L2.CX G.P G.w) (k + 3) fa fd ps (spM G (callN G.pg G.fs (k + 1)) f d.ps) := by
  refine h2.ok h5 (fun vs H Q E h => ?_) (fun cdv A outer s H vs Q E hr h => ⟨liftS G (fun c d _ H => E c d H) N.length (exs G.pg (callN G.pg G.fs k) d.body), ?_, ?_⟩)
  · obtain ⟨io, us, m, hR, e, hl, _⟩ := h
    rw [← Paired.len e, hl, h6]
  · refine soundSs (G := G) (k := k + 2) (cx := ctxOf G fns kws N scope) hF T.g (raise_ok T.x) (kind_ok T.k) T.b d.body h9 ?_ (takes_of rfl rfl rfl rfl)
    exact { hP := rfl, hw := rfl, hK := rfl, hm := rfl, hb := rfl, calm := rfl, hN := rfl, nd := h5.nd, hs := rfl, hf := fun _ _ => rfl, room := hr, fns := T.fn, hpg := rfl, kws := T.kw, stk := rfl, fr := rfl, po := passes_of rfl, kf := h5.kind }
  · obtain ⟨io, us, m, hR, e, hl, hp⟩ := h
    refine ⟨io, us.map some ++ List.replicate (d.ns - d.ps) none, m, hR, by rw [← hl]; exact sl_start e h7 (by rw [hl]; exact h8), ?_⟩
    have hc : callN G.pg G.fs (k + 1) f us m = (exs G.pg (callN G.pg G.fs k) d.body (us.map some ++ List.replicate (d.ns - d.ps) none) m).bind fun p m1 => match p.1 with
        | .rt u => .ok u m1
        | .nx => .ok .non m1
        | _ => .stuck := by
      show (match G.fs f with
        | some d => _
        | none => R.stuck) = _
      rw [hd]
      exact if_pos hl
    rw [hc] at hp
    revert hp
    cases exs G.pg (callN G.pg G.fs k) d.body (us.map some ++ List.replicate (d.ns - d.ps) none) m with
    | stuck => exact fun hp => hp.elim
    | ex e m1 => exact fun hp => fun io' H' s cls dd p1 p2 _ p4 => hp io' H' [] cls dd p1 p2 rfl p4
    | ok p m1 =>
      obtain ⟨fl, r⟩ := p
      cases fl with
      | nx => exact fun hp => fun io' H' s p1 p2 _ => hp io' H' .non p1 p2 rfl
      | rt u => exact fun hp => fun io' H' s p1 p2 _ v ev => hp io' H' v p1 p2 ev
      | br => exact fun hp => hp.elim
      | ct => exact fun hp => hp.elim
theorem def_run {k : Nat} (T : TxtOk G fns kws) (hF : FsOk G (callN G.pg G.fs k) (k + 2)) : FsOk G (callN G.pg G.fs (k + 1)) (k + 3) := by
  refine ⟨fun f d hd => ?_, fun f d us m hd hl => ?_⟩
  · obtain ⟨fa, fd, qual, params, body, scope, N, ps, h1, h2, h3, h4, h5, h6, h7, h8, h9⟩ := (T.defs f d hd).ex
    exact ⟨fa, fd, ps, h1, h2.kp, h3, h6, def_fn T hF hd h2 h5 h6 h7 h8 h9, h4⟩
  · show (match G.fs f with
      | some d => _
      | none => R.stuck) = _
    rw [hd]
    exact if_neg hl
theorem defs_run (T : TxtOk G fns kws) : ∀ k, FsOk G (callN G.pg G.fs k) (k + 2)
  | 0 => by
    refine ⟨fun f d hd => ?_, fun _ _ _ _ _ _ => rfl⟩
    obtain ⟨fa, fd, qual, params, body, scope, N, ps, h1, h2, h3, h4, h5, h6, h7, h8, h9⟩ := (T.defs f d hd).ex
    exact ⟨fa, fd, ps, h1, h2.kp, h3, h6, ⟨fun vs H Q E ⟨_, _, _, _, _, _, hp⟩ => hp.elim, fun A outer s H args us vs Q E _ _ _ _ ⟨_, _, _, _, _, _, hp⟩ => hp.elim⟩, h4⟩
  | k + 1 => def_run T (defs_run T k)
end
end Py
set_option maxHeartbeats 4000000
/-! MINI PYTHON, part E2: what the head must say of a text. -/
namespace Py
open PySem PySem.Spec PyProof.Rows L2

/-! ### the exception classes -/
structure IniD where
  c : Str
  f : Str
  qual : Str
  params : Arguments
  body : List Stmt
  scope : Scope
def iniAd (K : PySem.W.Frag) (c : Str) : Addr := He.ma K (He.ga K c) "__init__"
abbrev InW : Type := Option (Str × Str × Arguments × FuncBody × Scope × Addr × List Str × Addr)
def iniW (K : PySem.W.Frag) (d : IniD) : InW := match K.lookup (iniAd K d.c) with
  | some ⟨_, _, .func fd, _⟩ => some (fd.name, fd.qualname, fd.params, fd.body, fd.scope, fd.globals, fd.closure.map (·.1), fd.builtins)
  | _ => none
def IniD.val (d : IniD) : InW := some ("__init__", d.qual, d.params, .stmts d.body, d.scope, mainGlobals, ["__class__"], builtinsNs)
def isNonV : Value → Bool
  | .none => true
  | _ => false
def cellB (K : PySem.W.Frag) (C : Addr) : List (Str × Addr) → Bool
  | [(_, cc)] => (match K.lookup cc with
    | some ⟨_, _, .cell (some (.ref D)), _⟩ => D == C
    | _ => false)
  | _ => false
def fileB (file : Str) (vs : Array Value) : Bool := match (vs[2]? : Option Value) with
  | some (.str f _) => file == f
  | _ => false
theorem fileB_ok {file : Str} {vs : Array Value} (h : fileB file vs = true) : ∃ f tf, vs[2]? = some (.str f tf) ∧ (file == f) = true := by
  unfold fileB at h
  split at h
  · rename_i f tf q
    exact ⟨f, tf, q, h⟩
  · cases h
def codeB (file : Str) (K : PySem.W.Frag) (q : Str) : Value → Bool
  | .ref cda => PySem.W.codeIn K (.ref cda) q && (match K.lookup cda with
    | some ⟨_, _, .fields vs, _⟩ => fileB file vs
    | _ => false)
  | _ => false
def iniB (file : Str) (K : PySem.W.Frag) (d : IniD) : Bool := match K.lookup (iniAd K d.c) with
  | some ⟨_, _, .func fd, _⟩ => isNonV fd.defaults && (cellB K (He.ga K d.c) fd.closure && codeB file K d.qual fd.code)
  | _ => false
theorem isNonV_ok {v : Value} (h : isNonV v = true) : v = .none := by cases v <;> first | rfl | cases h
theorem cellB_ok {K : PySem.W.Frag} {C : Addr} {l : List (Str × Addr)} (h : cellB K C l = true) : ∃ x cc cl cld csl, l = [(x, cc)] ∧ K.lookup cc = some ⟨cl, cld, .cell (some (.ref C)), csl⟩ := by
  unfold cellB at h
  split at h
  · rename_i x cc
    split at h
    · rename_i cl cld D csl q
      rw [beq_iff_eq] at h
      subst h
      exact ⟨x, cc, cl, cld, csl, rfl, q⟩
    · cases h
  · cases h
theorem codeB_ok {file : Str} {K : PySem.W.Frag} {q : Str} {v : Value} (h : codeB file K q v = true) : ∃ cda ccl cdd vs ccs f tf, v = .ref cda ∧ PySem.W.codeIn K (.ref cda) q = true ∧ K.lookup cda = some ⟨ccl, cdd, .fields vs, ccs⟩ ∧ vs[2]? = some (.str f tf) ∧ (file == f) = true := by
  unfold codeB at h
  split at h
  · rename_i cda
    obtain ⟨h1, h2⟩ := and2 h
    split at h2
    · rename_i ccl cdd vs ccs q
      obtain ⟨f, tf, z, h3⟩ := fileB_ok h2
      exact ⟨cda, ccl, cdd, vs, ccs, f, tf, rfl, h1, q, z, h3⟩
    · cases h2
  · cases h
theorem ini_fn {file : Str} {K : PySem.W.Frag} {d : IniD} (e : iniW K d = d.val) (b : iniB file K d = true) (S : InitS d.scope d.params d.body d.f) :
    ∃ (oc : Value) (od an : Option Addr) (qual : Str) (params : Arguments) (body : List Stmt) (scope : Scope) (kV doc pm ct : Value) (cda cc : Addr) (osl : Array (Option Value)),
    K.lookup (iniAd K d.c) = some ⟨oc, od, .func (W.ksFn "__init__" qual params body scope .none kV doc pm an (.ref cda) ct cc), osl⟩ ∧ W.codeIn K (.ref cda) qual = true ∧ InitS scope params body d.f ∧
    (∃ (ccl : Value) (cdd : Option Addr) (vs : Array Value) (ccs : Array (Option Value)) (f : Str) (tf : Tok), K.lookup cda = some ⟨ccl, cdd, .fields vs, ccs⟩ ∧ vs[2]? = some (.str f tf) ∧ (file == f) = true) ∧
    (∃ (cl : Value) (cld : Option Addr) (csl : Array (Option Value)), K.lookup cc = some ⟨cl, cld, .cell (some (.ref (He.ga K d.c))), csl⟩) := by
  unfold iniW at e
  unfold iniB at b
  split at b
  · rename_i oc od fd osl q
    rw [q] at e
    obtain ⟨n1, n2, n3, n4, n5, n6, n7, n8, n9, n10, n11, n12, n13, n14, n15⟩ := fd
    obtain ⟨b1, b2⟩ := and2 b
    obtain ⟨b2, b3⟩ := and2 b2
    have e2 : (some (n1, n2, n3, n4, n5, n6, n7.map (·.1), n15) : InW) = some (("__init__" : Str), d.qual, d.params, FuncBody.stmts d.body, d.scope, mainGlobals, [("__class__" : Str)], builtinsNs) := e
    simp only [Option.some.injEq, Prod.mk.injEq] at e2
    obtain ⟨h1, h2, h3, h4, h5, h6, h7, h8⟩ := e2
    obtain ⟨x, cc, cl, cld, csl, c1, c2⟩ := cellB_ok b2
    obtain ⟨cda, ccl, cdd, vs, ccs, f, tf, d1, d2, d3, d4, d5⟩ := codeB_ok b3
    have b1' := isNonV_ok b1
    dsimp only at c1 d1 b1'
    subst h1 h2 h3 h4 h5 h6 h8 c1 d1 b1'
    have hx : x = ("__class__" : Str) := (List.cons.inj h7).1
    subst hx
    exact ⟨oc, od, n12, d.qual, d.params, d.body, d.scope, n9, n10, n11, n14, cda, cc, osl, q, d2, S, ⟨ccl, cdd, vs, ccs, f, tf, d3, d4, d5⟩, ⟨cl, cld, csl, c2⟩⟩
  · cases b
def mroB (C : Addr) : List Value → Bool
  | .ref C' :: bm => C' == C && HandSPX.refsVE bm
  | _ => false
theorem mroB_ok {C : Addr} {l : List Value} (h : mroB C l = true) : ∃ bm, l = .ref C :: bm ∧ HandSPX.refsVE bm = true := by
  unfold mroB at h
  split at h
  · rename_i C' bm
    obtain ⟨h6, h7⟩ := and2 h
    rw [beq_iff_eq] at h6
    subst h6
    exact ⟨bm, rfl, h7⟩
  · cases h
def newB : List (Option Value) → Bool
  | [_, _, _, _, some (.builtin n), _] => decide (n = "ValueError.__new__")
  | _ => false
theorem newB_ok {l : List (Option Value)} (h : newB l = true) : ∃ k0 k1 k2 k3 k5, l = [k0, k1, k2, k3, some (.builtin "ValueError.__new__"), k5] := by
  unfold newB at h
  split at h
  · rename_i k0 k1 k2 k3 n k5
    have h8 := of_decide_eq_true h
    subst h8
    exact ⟨k0, k1, k2, k3, k5, rfl⟩
  · cases h
def oexB (K : PySem.W.Frag) (C : Addr) : Bool := match K.lookup C with
  | some ⟨.type t, _, .cls cd, sl⟩ => decide (t = "type") && (cd.hasDict && (!cd.hasDel && (mroB C cd.mro && newB sl.toList)))
  | _ => false
theorem oexB_ok {K : PySem.W.Frag} {C : Addr} (h : oexB K C = true) : ∃ nm q N bs bm sn sub ab col dd k0 k1 k2 k3 k5, K.lookup C = some (excClassObj nm q C N bs bm true sn sub ab col dd k0 k1 k2 k3 k5 "ValueError.__new__") ∧ HandSPX.refsVE bm = true := by
  unfold oexB at h
  split at h
  · rename_i t dd cd sl q
    obtain ⟨h1, h⟩ := and2 h
    obtain ⟨h2, h⟩ := and2 h
    obtain ⟨h3, h⟩ := and2 h
    obtain ⟨h4, h5⟩ := and2 h
    have h1 := of_decide_eq_true h1
    obtain ⟨nm, bs, mro, ns, qn, hd, sn, sb, ab, col, del⟩ := cd
    obtain ⟨l⟩ := sl
    dsimp only at h2 h3 h4 h5
    subst h2
    have h3 : del = false := by cases del <;> first | rfl | cases h3
    subst h1 h3
    obtain ⟨bm, rfl, h7⟩ := mroB_ok h4
    obtain ⟨k0, k1, k2, k3, k5, rfl⟩ := newB_ok h5
    exact ⟨nm, qn, ns, bs, bm, sn, sb, ab, col, dd, k0, k1, k2, k3, k5, q, h7⟩
  · cases h
def excCB (K : PySem.W.Frag) (D : Addr) : Bool :=
  decide (PySem.W.findIn K (.ref D) "__getattribute__" = some (some (.builtin "BaseException.__getattribute__"))) && (decide (PySem.W.findIn K (.ref D) "__getattr__" = some none) && (decide (PySem.W.subIn K (.ref D) (.type "BaseException") = some true) &&
  (PySem.W.hasDictIn K D && (decide (PySem.W.findIn K (.ref D) "__class__" = some (some (.builtin "object.__class__"))) && (decide (PySem.W.specialIn K (.builtin "object.__class__") "__get__" = some (some (.builtin "getset_descriptor.__get__"))) &&
  (decide (PySem.W.takesIn K (.builtin "object.__class__") = some true) && decide (PySem.W.mroIn K D (.type "object") = some true)))))))
theorem excCB_ok {K : PySem.W.Frag} {D : Addr} (h : excCB K D = true) : ExcC K D := by
  unfold excCB at h
  simp only [Bool.and_eq_true, decide_eq_true_eq] at h
  obtain ⟨h1, h2, h3, h4, h5, h6, h7, h8⟩ := h
  exact ⟨h1, h2, h3, h4, h5, h6, h7, h8⟩
/-- all that is asked of one class; base, tbl: the class that clauses name, the table of the kinds -/
def clsB (file base : Str) (tbl : List Str) (K : PySem.W.Frag) (d : IniD) : Bool :=
  oexB K (He.ga K d.c) && (decide (PySem.W.findIn K (.ref (He.ga K d.c)) "__setattr__" = some (some (.builtin "object.__setattr__"))) && (decide (PySem.W.subIn K (.ref (He.ga K d.c)) (.type "BaseException") = some true) &&
  (decide (PySem.W.typeIn K (.ref (He.ga K d.c)) = some (.type "type")) && (PySem.W.keepIn K (.ref (He.ga K d.c)) && (excCB K (He.ga K d.c) && (iniB file K d &&
  (decide (PySem.W.findIn K (.ref (He.ga K d.c)) "__init__" = some (some (.ref (iniAd K d.c)))) && (decide (PySem.W.typeIn K (.ref (iniAd K d.c)) = some (.type "function")) &&
  (decide (PySem.W.ks_superIn K (He.ga K d.c) (He.ga K d.c) "__init__" = some (some (.builtin "ValueError.__init__"))) && (decide (PySem.W.subIn K (.ref (He.ga K d.c)) (.type "ValueError") = some true) &&
  (decide (PySem.W.mroIn K (He.ga K d.c) (.ref (He.ga K d.c)) = some true) && (decide (PySem.W.findIn K (.ref (He.ga K d.c)) d.f = some none) && (decide (PySem.W.exmOne K (.ref (He.ga K d.c)) (.ref (He.ga K base)) = some true) &&
  (decide (PySem.W.kitOne K (.ref (He.ga K d.c)) (.ref (He.ga K base)) = some true) && (decide (PySem.W.kitOne K (.ref (He.ga K d.c)) (.type "ValueError") = some true) &&
  tbl.all fun c => decide (PySem.W.kitOne K (.ref (He.ga K d.c)) (.ref (He.ga K c)) = some (decide (c = d.c))))))))))))))))))
end Py
set_option maxHeartbeats 4000000
/-! MINI PYTHON, part E3: a text: its defs, classes, names; what the head says makes all its defs keep to their mini runs. -/
namespace Py
open PySem PySem.Spec PyProof.Rows L2

structure DD where
  name : Str
  params : Arguments
  body : List Stmt
  scope : Scope
  fn : Fn
  N : List Str
  ps : List Str
def DD.d (d : DD) : He.DefD := ⟨(d.name, none), d.name, d.name, d.params, d.body, d.scope, [], []⟩
structure TX where
  file : Str
  base : Str
  glo : List (Str × U)
  inis : List IniD
  dds : List DD
  kws : List (Str × List Str)
  kind : DD
  tbl : List (Str × Option Str)
  en : Str
  ln : Str
namespace TX
def pg (t : TX) : Pg := { glo := t.glo, exc := t.inis.map fun d => (d.c, some d.f), base := t.base, kinds := [t.kind.name] }
def fns (t : TX) : List Str := t.dds.map (·.name)
def fs (t : TX) (f : Str) : Option Fn := (t.dds.map fun d => (d.name, d.fn)).lookup f
def gd (t : TX) (P : Program) (w : World) (K : PySem.W.Frag) (mg : Str → Option Value) (base : Heap) : Gd :=
  { P := P, w := w, K := K, mg := mg, base := base, pg := t.pg, fs := t.fs, xa := fun c => He.ga K c, kw := fun f => (t.kws.lookup f).getD [] }
def ctx (t : TX) (N : List Str) (sc : Scope) : Ctx := { N := N, sc := sc, fn := fun _ => true, fns := t.fns, pg := t.pg, kws := t.kws }
end TX
/-! ### scopes -/
def scB (N ps : List Str) (sc : Scope) : Bool := decide (sc.kind = .function) && (decide (sc.isCoroutine = false) && (decide (sc.isGenerator = false) && (decide N.Nodup && (decide (N.take ps.length = ps) &&
  ((ps.all fun x => decide (sc.names.lookup x = some .local ∨ sc.names.lookup x = some .cell)) && sc.names.all fun y => decide (y.2 ≠ .free))))))
theorem scB_ok {N ps : List Str} {sc : Scope} (h : scB N ps sc = true) : FnScope N ps sc := by
  unfold scB at h
  simp only [Bool.and_eq_true, decide_eq_true_eq, List.all_eq_true] at h
  obtain ⟨h1, h2, h3, h4, h5, h6, h7⟩ := h
  exact ⟨h1, h2, h3, h4, h5, h6, h7⟩
def BN (params : Arguments) (name : Str) (ps : List Str) (body : List Stmt) (scope : Scope) : Prop := ∀ (kV doc pm : Value) (an : Option Addr) (cdv ct : Value) (us : List Value), us.length = ps.length → bindArgs (PySem.W.fnOf name name params body scope .none kV doc pm an cdv ct) ⟨us, []⟩ = pure (ps.zip us)
def BK (params : Arguments) (name : Str) (ps : List Str) (body : List Stmt) (scope : Scope) : Prop := ∀ (kV doc pm : Value) (an : Option Addr) (cdv ct : Value) (ws : List Value), ws.length = ps.length → bindArgs (PySem.W.fnOf name name params body scope .none kV doc pm an cdv ct) ⟨[], ps.zip ws⟩ = pure (ps.zip ws)
theorem kbinds_of {K : PySem.W.Frag} {name : Str} {params : Arguments} {body : List Stmt} {scope : Scope} {f : Addr} {fd : FuncData} {ps : List Str} (F : FunD K name name params body scope [] [] f fd) (h : BK params name ps body scope) (hne : ps ≠ []) : KBinds K fd ps ps gK gK := by
  obtain ⟨oc, od, dV, kV, doc, pm, an, cdv, ct, osl, rfl, lk, hcd, hD, hK⟩ := F.ex
  rcases hD with ⟨_, rfl⟩ | ⟨e, _⟩
  · refine ⟨fun s us ws X hl => ?_, gK_rel⟩
    cases us with
    | nil => exact .of_eq (h kV doc pm an cdv ct ws hl)
    | cons u us =>
      have hl : 0 = ps.length := hl
      exact absurd (List.length_eq_zero_iff.mp hl.symm) hne
  · exact absurd rfl e
def ddB (t : TX) (d : DD) : Bool := scB d.N d.ps d.scope && (decide (d.ps.length = d.fn.ps) && (decide (d.N.length = d.fn.ns) && (decide (d.fn.ps ≤ d.fn.ns) && matSs (t.ctx d.N d.scope) d.fn.body d.body)))
/-! ### constants -/
def gloFa : Str × U → He.Fa
  | (x, .int i) => .int x i
  | (x, .str s) => .str x s
  | (x, _) => .int x 0
def cnsB : Str × U → Bool
  | (_, .int _) => true
  | (_, .str _) => true
  | _ => false
/-! ### what the text itself must show -/
structure TX.Ok (t : TX) (P : Program) : Prop where
  dds : t.dds.all (ddB t) = true
  nm : (t.dds.map (·.name)).Nodup
  bn : ∀ d ∈ t.dds, BN d.params d.name d.ps d.body d.scope
  kw : ∀ p ∈ t.kws, p.2 ≠ [] ∧ ∃ d ∈ t.dds, d.name = p.1 ∧ d.ps = p.2 ∧ BK d.params d.name d.ps d.body d.scope
  kwn : (t.kws.map (·.1)).Nodup
  ini : ∀ d ∈ t.inis, InitS d.scope d.params d.body d.f
  glo : t.glo.all cnsB = true
  file : (P.main.file == t.file) = true
  top : (P.main.scope.names.lookup ("super" : Str)).isSome = false
  kbn : BN t.kind.params t.kind.name [t.en] t.kind.body t.kind.scope
  ksc : scB [t.en, t.ln] [t.en] t.kind.scope = true
  kn : KdN t.en t.ln
  kloc : t.kind.scope.names.lookup t.en = some .local ∧ t.kind.scope.names.lookup t.ln = some .local ∧ [t.en, t.ln].Nodup
  kbody : ∃ (ss nn : List Stmt) (q1 q2 q3 : Pos) (i j : Nat) (p1 p2 p3 p4 p5 p6 p7 p8 p9 p10 p11 p12 p13 p14 p15 p16 p17 p18 p19 p20 p21 : Pos), t.kind.body = .Assign [.Name t.ln q1] (.List [] q2) q3 :: ss ∧
    KdIfs t.en t.ln (kEnd t.en t.ln t.base nn i j p1 p2 p3 p4 p5 p6 p7 p8 p9 p10 p11 p12 p13 p14 p15 p16 p17 p18 p19 p20 p21) t.tbl ss
  ktbl : (t.tbl.map (·.1)).Nodup ∧ (∀ x, x ∈ ("isinstance" : Str) :: ("len" : Str) :: ("ValueError" : Str) :: t.base :: t.tbl.map (·.1) → t.kind.scope.names.lookup x = some .globalImplicit) ∧
    (∀ c, c ∈ t.base :: t.tbl.map (·.1) → (c == ("__debug__" : Str)) = false)
  kini : ∀ d ∈ t.inis, t.tbl.lookup d.c = some (some d.f)
/-! ### what the head must show -/
namespace TX
def fa (t : TX) : List He.Fa := (("super" : Str) :: ("ValueError" : Str) :: bnames).map He.Fa.free ++ ((t.base :: t.tbl.map (·.1)).map He.Fa.glo ++ ((t.kind.name :: t.fns).map He.Fa.glo ++ t.glo.map gloFa))
def fn (t : TX) : List He.DefD := t.kind.d :: t.dds.map DD.d
def clB (t : TX) (K : PySem.W.Frag) : Bool := decide (PySem.W.nsIn K cStatics "thirdparty.any" = some none) && t.inis.all (clsB t.file t.base (t.tbl.map (·.1)) K)
abbrev Al : Type := He.AlD × Bool × List InW
def obs (t : TX) (K : PySem.W.Frag) : Al := (He.obsD t.fa t.fn K, t.clB K, t.inis.map (iniW K))
def val (t : TX) : Al := (He.valD t.fn, true, t.inis.map IniD.val)
def obsG (t : TX) (g : Addr → Option Obj) : Al := t.obs (He.frG g (cStatics :: He.asD g 4))
def hook (t : TX) : PySem.W.Hook where
  α := Al
  obs := fun s => t.obsG s.heap.get?
  val := fun _ => t.val
  says := fun _ h => ∃ K : PySem.W.Frag, K.In h ∧ t.obs K = t.val
  of := fun _ _ e => ⟨_, He.frG_in, e⟩
  keeps := fun _ _ _ ⟨K, hK, c⟩ k => ⟨K, PySem.W.Frag.In.keeps hK k, c⟩
theorem obsG_eq {t : TX} {g : Addr → Option Obj} {s : Shared} (h : ∀ a, g a = s.heap.get? a) : t.obsG g = t.hook.obs s := by
  have e : g = s.heap.get? := funext h
  rw [e]
  rfl
section
variable {t : TX} {K : PySem.W.Frag} (c : t.obs K = t.val)
include c
theorem fact {f : He.Fa} (h : f ∈ t.fa) : f.ok K = true := by
  have c1 : He.SaysD t.fa t.fn K := congrArg (fun z : Al => z.1) c
  obtain ⟨i, hi, rfl⟩ := List.getElem_of_mem h
  exact c1.fact i (by simp [hi])
theorem defd {d : He.DefD} (h : d ∈ t.fn) : ∃ fd, FunD K d.name d.qual d.params d.body d.scope (d.dvs K) (d.kws K) (He.fAd K d.at_) fd := by
  have c1 : He.SaysD t.fa t.fn K := congrArg (fun z : Al => z.1) c
  obtain ⟨i, hi, rfl⟩ := List.getElem_of_mem h
  exact c1.def_ i (by simp [hi])
theorem clOk : PySem.W.nsIn K cStatics "thirdparty.any" = some none ∧ ∀ d ∈ t.inis, clsB t.file t.base (t.tbl.map (·.1)) K d = true := by
  have c2 : t.clB K = true := congrArg (fun z : Al => z.2.1) c
  obtain ⟨h1, h2⟩ := and2 c2
  exact ⟨of_decide_eq_true h1, fun d hd => List.all_eq_true.mp h2 d hd⟩
theorem iniOk {d : IniD} (h : d ∈ t.inis) : iniW K d = d.val := by
  have c3 : t.inis.map (iniW K) = t.inis.map IniD.val := congrArg (fun z : Al => z.2.2) c
  obtain ⟨i, hi, rfl⟩ := List.getElem_of_mem h
  have e : (t.inis.map (iniW K))[i]? = (t.inis.map IniD.val)[i]? := by rw [c3]
  rw [List.getElem?_map, List.getElem?_map, List.getElem?_eq_getElem hi] at e
  exact Option.some.inj e
end
end TX
theorem lookup_dd : ∀ {l : List DD} {f : Str} {x : Fn}, (l.map fun d => (d.name, d.fn)).lookup f = some x → ∃ d ∈ l, d.name = f ∧ d.fn = x
  | [], _, _, h => by cases h
  | d :: l, f, x, h => by
    rw [List.map_cons, List.lookup] at h
    split at h
    · rename_i q
      exact ⟨d, List.mem_cons_self .., (beq_iff_eq.mp q).symm, Option.some.inj h⟩
    · obtain ⟨d', h1, h2⟩ := lookup_dd h
      exact ⟨d', List.mem_cons_of_mem _ h1, h2⟩

section
variable {t : TX} {P : Program} {w : World} {K : PySem.W.Frag} {mg : Str → Option Value} {base h : Heap}
theorem fa_free {x : Str} (h : x ∈ ("super" : Str) :: ("ValueError" : Str) :: bnames) : He.Fa.free x ∈ t.fa := List.mem_append_left _ (List.mem_map_of_mem h)
theorem fa_cls {x : Str} (h : x ∈ t.base :: t.tbl.map (·.1)) : He.Fa.glo x ∈ t.fa := List.mem_append_right _ (List.mem_append_left _ (List.mem_map_of_mem h))
theorem fa_def {x : Str} (h : x ∈ t.kind.name :: t.fns) : He.Fa.glo x ∈ t.fa := List.mem_append_right _ (List.mem_append_right _ (List.mem_append_left _ (List.mem_map_of_mem h)))
theorem fa_con {p : Str × U} (h : p ∈ t.glo) : gloFa p ∈ t.fa := List.mem_append_right _ (List.mem_append_right _ (List.mem_append_right _ (List.mem_map_of_mem h)))
theorem tbl_ini (S : t.Ok P) {d : IniD} (h : d ∈ t.inis) : d.c ∈ t.tbl.map (·.1) := by
  have z := mem_of_lookup (S.kini d h)
  exact List.mem_map_of_mem (f := (·.1)) z
theorem exc_ini {c f : Str} (h : t.pg.exc.lookup c = some (some f)) : ∃ d ∈ t.inis, d.c = c ∧ d.f = f := by
  have z := mem_of_lookup h
  obtain ⟨d, hd, e⟩ := List.mem_map.mp z
  cases e
  exact ⟨d, hd, rfl, rfl⟩
theorem cls_all {file b : Str} {tbl : List Str} {d : IniD} (h : clsB file b tbl K d = true) : OexC K (He.ga K d.c) ∧ ExcC K (He.ga K d.c) ∧ iniB file K d = true ∧
    PySem.W.findIn K (.ref (He.ga K d.c)) "__init__" = some (some (.ref (iniAd K d.c))) ∧ PySem.W.typeIn K (.ref (iniAd K d.c)) = some (.type "function") ∧
    PySem.W.ks_superIn K (He.ga K d.c) (He.ga K d.c) "__init__" = some (some (.builtin "ValueError.__init__")) ∧ PySem.W.subIn K (.ref (He.ga K d.c)) (.type "ValueError") = some true ∧
    PySem.W.mroIn K (He.ga K d.c) (.ref (He.ga K d.c)) = some true ∧ PySem.W.findIn K (.ref (He.ga K d.c)) d.f = some none ∧ PySem.W.exmOne K (.ref (He.ga K d.c)) (.ref (He.ga K b)) = some true ∧
    PySem.W.kitOne K (.ref (He.ga K d.c)) (.ref (He.ga K b)) = some true ∧ PySem.W.kitOne K (.ref (He.ga K d.c)) (.type "ValueError") = some true ∧
    ∀ c ∈ tbl, PySem.W.kitOne K (.ref (He.ga K d.c)) (.ref (He.ga K c)) = some (decide (c = d.c)) := by
  unfold clsB at h
  simp only [Bool.and_eq_true, decide_eq_true_eq, List.all_eq_true] at h
  obtain ⟨h1, h2, h3, h4, h5, h6, h7, h8, h9, h10, h11, h12, h13, h14, h15, h16, h17⟩ := h
  exact ⟨⟨oexB_ok h1, h2, h3, h4, h5⟩, excCB_ok h6, h7, h8, h9, h10, h11, h12, h13, h14, h15, h16, h17⟩
theorem txt_ok (S : t.Ok P) (X : K.In h) (hn : h.Ns mainGlobals mg) (c : t.obs K = t.val) : TxtOk (t.gd P w K mg base) t.fns t.kws := by
  have free : ∀ {x : Str}, x ∈ ("super" : Str) :: ("ValueError" : Str) :: bnames → mg x = none := fun hx => He.free_ok X hn (TX.fact c (fa_free hx))
  have glo : ∀ {x : Str}, He.Fa.glo x ∈ t.fa → mg x = some (.ref (He.ga K x)) := fun hx => He.glo_ok X hn (TX.fact c hx)
  have hasFs : ∀ f ∈ t.fns, ∃ d, t.fs f = some d := by
    intro f hf
    obtain ⟨d, hd, rfl⟩ := List.mem_map.mp hf
    have nd : ((t.dds.map fun d => (d.name, d.fn)).map (·.1)).Nodup := by
      rw [List.map_map]
      exact S.nm
    exact ⟨d.fn, mem_lookup (List.mem_map_of_mem (f := fun d => (d.name, d.fn)) hd) nd⟩
  have ddOk : ∀ d ∈ t.dds, scB d.N d.ps d.scope = true ∧ d.ps.length = d.fn.ps ∧ d.N.length = d.fn.ns ∧ d.fn.ps ≤ d.fn.ns ∧ matSs (t.ctx d.N d.scope) d.fn.body d.body = true := by
    intro d hd
    have z := List.all_eq_true.mp S.dds d hd
    unfold ddB at z
    simp only [Bool.and_eq_true, decide_eq_true_eq] at z
    exact z
  have funOf : ∀ d ∈ t.dds, ∃ fd, FunD K d.name d.name d.params d.body d.scope [] [] (He.ga K d.name) fd := fun d hd => TX.defd c (d := d.d) (List.mem_cons_of_mem _ (List.mem_map_of_mem hd))
  refine { fn := hasFs, kw := ?kw, defs := ?defs, g := ⟨fun x hx => free (List.mem_cons_of_mem _ (List.mem_cons_of_mem _ hx))⟩, x := ⟨free (List.mem_cons_self ..), ?cls⟩, k := ?k, b := ⟨glo (fa_cls (List.mem_cons_self ..)), ?exm⟩ }
  case kw =>
    intro p hp
    obtain ⟨h1, d, hd, h2, h3, h4⟩ := S.kw p hp
    refine ⟨hasFs _ (h2 ▸ List.mem_map_of_mem hd), ?_, h1⟩
    show (t.kws.lookup p.1).getD [] = p.2
    rw [mem_lookup (t := t.kws) (c := p.1) (f := p.2) hp S.kwn]
    rfl
  case defs =>
    intro f x hf
    obtain ⟨d, hd, rfl, rfl⟩ := lookup_dd hf
    obtain ⟨fd, F⟩ := funOf d hd
    obtain ⟨a1, a2, a3, a4, a5⟩ := ddOk d hd
    refine ⟨He.ga K d.name, fd, d.name, d.params, d.body, d.scope, d.N, d.ps, glo (fa_def (List.mem_cons_of_mem _ (List.mem_map_of_mem hd))), F, F.bindsN (S.bn d hd), fun hk => ?_, scB_ok a1, a2, a3, a4, a5⟩
    have hk' : (t.kws.lookup d.name).getD [] ≠ [] := hk
    cases q : t.kws.lookup d.name with
    | none => rw [q] at hk'; exact absurd rfl hk'
    | some ks =>
      have hm := mem_of_lookup q
      obtain ⟨h1, d', hd', h2, h3, h4⟩ := S.kw _ hm
      have hdd : d' = d := by
        have z1 := mem_lookup (t := t.dds.map fun d => (d.name, d)) (c := d'.name) (f := d') (List.mem_map_of_mem (f := fun d => (d.name, d)) hd') (by rw [List.map_map]; exact S.nm)
        have z2 := mem_lookup (t := t.dds.map fun d => (d.name, d)) (c := d.name) (f := d) (List.mem_map_of_mem (f := fun d => (d.name, d)) hd) (by rw [List.map_map]; exact S.nm)
        rw [show d'.name = d.name from h2, z2] at z1
        exact (Option.some.inj z1).symm
      subst hdd
      have h3 : d'.ps = ks := h3
      refine ⟨?_, kbinds_of F h4 (by rw [h3]; exact h1)⟩
      show d'.ps = (t.kws.lookup d'.name).getD []
      rw [q, h3]
      rfl
  case cls =>
    intro cc f hl
    obtain ⟨d, hd, rfl, rfl⟩ := exc_ini hl
    obtain ⟨o1, o2⟩ := TX.clOk c
    obtain ⟨a1, a2, a3, a4, a5, a6, a7, a8, a9, _⟩ := cls_all (o2 d hd)
    exact ⟨glo (fa_cls (List.mem_cons_of_mem _ (tbl_ini S hd))), a1, iniAd K d.c, a4, a5, ⟨by
      obtain ⟨oc, od, an, qual, params, body, scope, kV, doc, pm, ct, cda, cc, osl, b1, b2, b3, ⟨ccl, cdd, vs, ccs, f, tf, b4, b5, b6⟩, b7⟩ := ini_fn (TX.iniOk c hd) a3 (S.ini d hd)
      refine ⟨oc, od, an, qual, params, body, scope, kV, doc, pm, ct, cda, cc, osl, b1, b2, b3, ⟨ccl, cdd, vs, ccs, f, tf, b4, b5, ?_⟩, b7⟩
      have z := S.file
      rw [beq_iff_eq] at z b6
      show (P.main.file == f) = true
      rw [z, b6, beq_self_eq_true], S.top, a6, a7, a8, o1, a9⟩⟩
  case exm =>
    intro p hp
    obtain ⟨d, hd, rfl⟩ := List.mem_map.mp hp
    obtain ⟨o1, o2⟩ := TX.clOk c
    exact (cls_all (o2 d hd)).2.2.2.2.2.2.2.2.2.1
  case k =>
    intro f hf
    have hf' : f ∈ [t.kind.name] := hf
    rw [List.mem_singleton] at hf'
    subst hf'
    obtain ⟨fd, F⟩ := TX.defd c (d := t.kind.d) (List.mem_cons_self ..)
    obtain ⟨ss, nn, q1, q2, q3, i, j, p1, p2, p3, p4, p5, p6, p7, p8, p9, p10, p11, p12, p13, p14, p15, p16, p17, p18, p19, p20, p21, b1, b2⟩ := S.kbody
    have F' : FunD K t.kind.name t.kind.name t.kind.params (.Assign [.Name t.ln q1] (.List [] q2) q3 :: ss) t.kind.scope [] [] (He.ga K t.kind.name) fd := b1 ▸ F
    refine ⟨⟨He.ga K t.kind.name, fd, t.kind.name, t.kind.params, t.kind.scope, t.en, t.ln, t.tbl, ss, nn, q1, q2, q3, i, j, p1, p2, p3, p4, p5, p6, p7, p8, p9, p10, p11, p12, p13, p14, p15, p16, p17, p18, p19, p20, p21,
      glo (fa_def (List.mem_cons_self ..)), F', FunD.bindsN F S.kbn, scB_ok S.ksc, S.kn, S.kloc.1, S.kloc.2.1, S.kloc.2.2, b2, S.ktbl.1, S.ktbl.2.1, fun cc hc => ⟨glo (fa_cls hc), S.ktbl.2.2 cc hc⟩, fun c0 f0 hm => ?_⟩,
      free (by decide), free (by decide), free (by decide)⟩
    obtain ⟨d, hd, e⟩ := List.mem_map.mp hm
    cases e
    obtain ⟨o1, o2⟩ := TX.clOk c
    obtain ⟨a1, a2, a3, a4, a5, a6, a7, a8, a9, a10, a11, a12, a13⟩ := cls_all (o2 d hd)
    exact ⟨S.kini d hd, a2, fun g hg => by cases hg; exact a9, fun cc hc => a13 cc hc, a11, a12⟩
end

/-! ### the law itself -/
theorem FnOk.quiet {P : Program} {w : World} {K : PySem.W.Frag} {mg : Str → Option Value} {base : Heap} {k : Nat} {f : Addr} {fd : FuncData} {ps : List Str} {sp sp' : Sp} (F : FnOk P w K mg base (L2.CX P w) k f fd ps sp) (h : ∀ vs H Q E, sp' vs H Q E → sp vs H Q fun _ _ _ => False) :
    FnOk P w K mg base L2.CX0 k f fd ps sp' := by
  refine ⟨fun vs H Q E z => F.len _ _ _ _ (h _ _ _ _ z), fun A outer s H args us vs Q E hr e0 hb r z => codeAny_mono (F.run A outer s H args us vs Q _ hr e0 hb r (h _ _ _ _ z)) fun r s' hq => ?_⟩
  cases r with
  | ok fl => cases fl <;> exact hq
  | error e =>
    obtain ⟨_, _, _, _, _, _, _, _, _, _, _, _, z⟩ := (show L2.CX P w outer H s (fun _ _ _ => False) e s' from hq)
    exact z
/-- the law's promise -/
def spLw (K : PySem.W.Frag) : Sp := fun vs H Q _ => ∃ (a : Addr) (ns : List Int), vs = [.ref a] ∧ ns.length ≤ 63 ∧ Only H ∧ SqL K H a (ns.map V.int) ∧ ∀ H', Q (.bl true) H'
theorem ems_ints {io : List Addr} : ∀ ns : List Int, Ems io (ns.map U.int) (ns.map V.int)
  | [] => .nil
  | _ :: ns => .cons rfl (ems_ints ns)
section
variable {t : TX} {P : Program} {w : World} {K : PySem.W.Frag} {mg : Str → Option Value} {base h : Heap}
theorem law_fn (S : t.Ok P) (X : K.In h) (hn : h.Ns mainGlobals mg) (c : t.obs K = t.val) {k : Nat} {d : DD} (hd : d ∈ t.dds) (hs : d.ps.length = 1)
    (hrun : ∀ ns : List Int, ns.length ≤ 63 → ∃ m', callN t.pg t.fs (k + 1) d.name [.ref 0] [.fls (ns.map U.int)] = .ok (.bl true) m') :
    ∃ fd : FuncData, mg d.name = some (.ref (He.ga K d.name)) ∧ FunD K d.name d.name d.params d.body d.scope [] [] (He.ga K d.name) fd ∧ ∀ base : Heap, FnOk P w K mg base L2.CX0 (k + 3) (He.ga K d.name) fd d.ps (spLw K) := by
  obtain ⟨fd, F⟩ := TX.defd c (d := d.d) (List.mem_cons_of_mem _ (List.mem_map_of_mem hd))
  have F : FunD K d.name d.name d.params d.body d.scope [] [] (He.ga K d.name) fd := F
  refine ⟨fd, He.glo_ok X hn (TX.fact c (fa_def (List.mem_cons_of_mem _ (List.mem_map_of_mem hd)))), F, fun base => ?_⟩
  have T := txt_ok (w := w) (base := base) S X hn c
  have z := List.all_eq_true.mp S.dds d hd
  unfold ddB at z
  simp only [Bool.and_eq_true, decide_eq_true_eq] at z
  obtain ⟨a1, a2, a3, a4, a5⟩ := z
  have hfs : (t.gd P w K mg base).fs d.name = some d.fn := mem_lookup (List.mem_map_of_mem (f := fun d => (d.name, d.fn)) hd) (by rw [List.map_map]; exact S.nm)
  refine FnOk.quiet (def_fn (G := t.gd P w K mg base) T (defs_run T k) hfs F (scB_ok a1) a2 a3 a4 a5) fun vs H Q E q => ?_
  obtain ⟨a, ns, rfl, hl, hO, hS, hq⟩ := q
  have hF : SqF K H a (ns.map V.int) := by
    rcases hS with hS | hS
    · rcases hS with hS | ⟨o, hS⟩
      · rcases hO a with h0 | ⟨o, xs, h0⟩
        · rw [h0] at hS; cases hS
        · rw [h0] at hS; cases hS
      · exact .inl ⟨o, hS⟩
    · exact .inr hS
  refine ⟨[a], [.ref 0], [.fls (ns.map U.int)], ⟨rfl, fun i o b e1 e2 => ?_, fun i j b o o' e1 e2 f1 f2 d1 d2 => ?_, fun x u hx => ?_⟩, .cons ⟨a, rfl, rfl⟩ .nil, by rw [← a2, hs]; rfl, ?_⟩
  · match i, e1, e2 with
    | 0, e1, e2 =>
      cases e1
      cases e2
      exact ⟨_, ems_ints ns, hF⟩
  · match i, j, f1, f2 with
    | 0, 0, _, _ => rfl
  · have hm := mem_of_lookup (show t.glo.lookup x = some u from hx)
    have hb := List.all_eq_true.mp S.glo _ hm
    have hf := TX.fact c (fa_con hm)
    cases u with
    | int i =>
      obtain ⟨tk, e⟩ := He.int_ok X hn hf
      exact ⟨.int i, _, e, ⟨tk, rfl⟩, rfl⟩
    | str s =>
      obtain ⟨tk, e⟩ := He.str_ok X hn hf
      exact ⟨.str s, _, e, ⟨tk, rfl⟩, rfl⟩
    | _ => cases hb
  · obtain ⟨m', e⟩ := hrun ns hl
    show Post _ _ _ _ _ _ (callN t.pg t.fs (k + 1) d.name [.ref 0] [.fls (ns.map U.int)])
    rw [e]
    intro io' H' b _ _ eb
    cases eb
    exact hq H'
end
end Py
set_option maxHeartbeats 1000000
/-! MINI PYTHON, part F1: the plain reading: values are trees, nothing is shared; wishes are predicates. -/
namespace Py
open PySem

/-- a tree; a list's flag: nobody else holds it -/
inductive D where
  | non | bl (b : Bool) | int (i : Int) | str (s : Str) | lst (q : Bool) (xs : List D) | tup (xs : List D) | st
mutual
/-- the same, but others may hold it -/
def D.sh : D → D
  | .non => .non | .bl b => .bl b | .int i => .int i | .str s => .str s | .st => .st
  | .lst _ xs => .lst false (shs xs)
  | .tup xs => .tup (shs xs)
def shs : List D → List D
  | [] => []
  | d :: ds => d.sh :: shs ds
end
mutual
/-- no list that others may hold -/
def D.own : D → Bool
  | .non => true | .bl _ => true | .int _ => true | .str _ => true | .st => true
  | .lst q xs => q && owns xs
  | .tup xs => owns xs
def owns : List D → Bool
  | [] => true
  | d :: ds => d.own && owns ds
end
abbrev DE := List (Option D)
abbrev DX := Str × Option (Str × D)
abbrev DQ := D → Prop
abbrev DF := Str → List D → DQ → (DX → Prop) → Prop

/-! ### operations on trees -/
def D.ofU : U → Option D
  | .non => some .non
  | .bl b => some (.bl b)
  | .int i => some (.int i)
  | .str s => some (.str s)
  | .ref _ => none
def D.sq : D → Option (List D)
  | .lst _ xs => some xs
  | .tup xs => some xs
  | _ => none
def truD : D → Option Bool
  | .non => some false
  | .bl b => some b
  | .int i => some (i != 0)
  | .str s => if s.length ≤ SL then some ((s.length : Int) != 0) else none
  | .lst _ xs => some (!xs.isEmpty)
  | .tup xs => some (!xs.isEmpty)
  | .st => none
def binD (o : Op) (x y : D) (Q : DQ) : Prop := match x, y with
  | .int i, .int j => match opI o i j with
    | some k => Q (.int k)
    | none => False
  | .str s, .str t => match o with
    | .add => s.length + t.length ≤ SL ∧ Q (.str (s ++ t))
    | _ => False
  | .lst _ xs, .lst _ ys => match o with
    | .add => xs.length + ys.length ≤ SL ∧ Q (.lst true (xs ++ ys))
    | _ => False
  | _, _ => False
def scalD : D → D → Bool
  | .non, .non => true | .non, .int _ => true | .int _, .non => true | .non, .bl _ => true | .bl _, .non => true | .non, .str _ => true | .str _, .non => true
  | .int _, .int _ => true | .bl _, .bl _ => true | .str _, .str _ => true
  | .int _, .str _ => true | .str _, .int _ => true | .bl _, .str _ => true | .str _, .bl _ => true
  | _, _ => false
/-- scalars alike -/
def sameD : D → D → Bool
  | .non, .non => true
  | .bl a, .bl b => a == b
  | .int a, .int b => decide (a = b)
  | .str a, .str b => decide (a = b)
  | _, _ => false
/-- the data of a tree, at most n deep -/
def datD : Nat → D → Option PyData
  | _, .non => some .none
  | _, .bl b => some (.bool b)
  | _, .int i => some (.int i)
  | _, .str s => some (.str s)
  | 0, _ => none
  | n + 1, .lst _ xs => (xs.mapM (datD n)).map .list
  | n + 1, .tup xs => (xs.mapM (datD n)).map .tuple
  | _, .st => none
def eqD (x y : D) : Option Bool := if scalD x y then some (sameD x y) else
  match datD 30 x, datD 30 y with
  | some d, some e => if SeqAt.shaped d && SeqAt.shaped e then some (PyData.eqv d e) else none
  | _, _ => none
def isNonD : D → Bool
  | .non => true
  | _ => false
def cmpD (o : Cp) (x y : D) : Option Bool := match o with
  | .eq => eqD x y
  | .ne => (eqD x y).map (!·)
  | .lt => match x, y with
    | .int i, .int j => some (decide (i < j))
    | _, _ => none
  | .le => match x, y with
    | .int i, .int j => some (decide (i ≤ j))
    | _, _ => none
  | .gt => match x, y with
    | .int i, .int j => some (decide (j < i))
    | _, _ => none
  | .ge => match x, y with
    | .int i, .int j => some (decide (j ≤ i))
    | _, _ => none
  | .is => match y with
    | .non => some (isNonD x)
    | _ => none
  | .isn => match y with
    | .non => some (!isNonD x)
    | _ => none
  | _ => none
def oQ {A : Type} (o : Option A) (Q : A → Prop) : Prop := match o with
  | some a => Q a
  | none => False
def idxD (x y : D) (Q : DQ) : Prop := match x, y with
  | .lst _ xs, .int i => oQ (L2.atI xs i) Q
  | .tup xs, .int i => oQ (L2.atI xs i) Q
  | .str z, .int i => z.length ≤ SL ∧ oQ (L2.atI z.cps.toList i) fun c => Q (.str ⟨#[c]⟩)
  | _, _ => False
def cutD (xs : List D) (lo hi : Option Int) : List D := (xs.drop (HT.sIx xs.length 0 lo)).take (HT.sIx xs.length xs.length hi - HT.sIx xs.length 0 lo)
def slcD (x : D) (l h : Option Int) (Q : DQ) : Prop := match x with
  | .lst _ xs => Q (.lst true (cutD xs l h))
  | _ => False
def partD (x : D) (Q : Option Int → Prop) : Prop := match x with
  | .int i => Q (some i)
  | _ => False
def intsD : List D → Option (List Int)
  | [] => some []
  | .int i :: r => (intsD r).map (i :: ·)
  | _ => none
def blsD : List D → Option (List Bool)
  | [] => some []
  | .bl i :: r => (blsD r).map (i :: ·)
  | _ => none
def bltD (f : Bl) (ds : List D) (Q : DQ) : Prop := match f, ds with
  | .len, [.str s] => s.length ≤ SL ∧ Q (.int s.length)
  | .len, [.lst _ xs] => Q (.int xs.length)
  | .len, [.tup xs] => Q (.int xs.length)
  | .int, [.int i] => Q (.int i)
  | .int, [.bl b] => Q (.int (if b then 1 else 0))
  | .str, [.int i] => i.natAbs.log2 < 1920 ∧ Q (.str (toString i))
  | .list, [.lst _ xs] => Q (.lst true xs)
  | .list, [.tup xs] => Q (.lst true xs)
  | .tuple, [.lst _ xs] => Q (.tup xs)
  | .tuple, [.tup xs] => Q (.tup xs)
  | .sum, [.lst _ xs] => oQ (intsD xs) fun ns => Q (.int ns.sum)
  | .max, [.int i, .int j] => Q (.int (if j > i then j else i))
  | .min, [.int i, .int j] => Q (.int (if j < i then j else i))
  | .abs, [.int i] => Q (.int (if i < 0 then -i else i))
  | .any, [.lst _ xs] => oQ (blsD xs) fun ns => Q (.bl (ns.any id))
  | .all, [.lst _ xs] => oQ (blsD xs) fun ns => Q (.bl (ns.all id))
  | _, _ => False
def tyD : D → Option String
  | .non => some "NoneType"
  | .bl _ => some "bool"
  | .int _ => some "int"
  | .str _ => some "str"
  | .lst _ _ => some "list"
  | .tup _ => some "tuple"
  | .st => none
/-! ### walks -/
def enuD (k : Nat) : List D → List (List D)
  | [] => []
  | x :: r => [.int k, x] :: enuD (k + 1) r
def zipD : List D → List D → List (List D)
  | x :: r, y :: s => [x, y] :: zipD r s
  | _, _ => []
def rngD (lo : Int) : Nat → List (List D)
  | 0 => []
  | n + 1 => [.int lo] :: rngD (lo + 1) n
def setD : DE → List Nat → List D → Option DE
  | r, [], [] => some r
  | r, i :: is, d :: ds => setD (r.set i (some d)) is ds
  | _, _, _ => none
def tgtD (tg : Tg) (x : List D) (r : DE) : Option DE := match tg, x with
  | .nm i, [d] => some (r.set i (some d))
  | .tp is, [.tup ds] => setD r is ds
  | .tp is, [a, b] => setD r is [a, b]
  | _, _ => none
def wipeD (r : DE) : List Nat → DE
  | [] => r
  | v :: vs => (wipeD r vs).set v none
/-- a comprehension's clause: each turn begins at r; the list so far -/
def lcD (tg : Tg) (r : DE) (turn : DE → List D → (List D → Prop) → Prop) : List (List D) → List D → (List D → Prop) → Prop
  | [], acc, Q => Q acc
  | x :: xs, acc, Q => oQ (tgtD tg x r) fun r1 => turn r1 acc fun acc' => lcD tg r turn xs acc' Q
def noX : DX → Prop := fun _ => False
section
variable (g : Pg) (F : DF)
mutual
def pE : ME → DE → DQ → (DX → Prop) → Prop
  | .var i, r, Q, _ => match r[i]? with
    | some (some d) => Q d.sh
    | _ => False
  | .cst u, _, Q, _ => oQ (D.ofU u) Q
  | .glo x, _, Q, _ => oQ (g.glo.lookup x) fun u => oQ (D.ofU u) Q
  | .bin o a b, r, Q, E => pE a r (fun x => pE b r (fun y => binD o x y Q) E) E
  | .neg a, r, Q, E => pE a r (fun x => match x with
    | .int i => Q (.int (-i))
    | _ => False) E
  | .not a, r, Q, E => pE a r (fun x => oQ (truD x) fun b => Q (.bl (!b))) E
  | .cmp o a b, r, Q, E => pE a r (fun x => pE b r (fun y => oQ (cmpD o x y) fun k => Q (.bl k)) E) E
  | .chn o o' a b c, r, Q, E => pE a r (fun x => pE b r (fun y => oQ (cmpD o x y) fun k => cond k (pE c r (fun w => oQ (cmpD o' y w) fun k => Q (.bl k)) E) (Q (.bl false))) E) E
  | .and a b, r, Q, E => pE a r (fun x => oQ (truD x) fun k => cond k (pE b r Q E) (Q x)) E
  | .or a b, r, Q, E => pE a r (fun x => oQ (truD x) fun k => cond k (Q x) (pE b r Q E)) E
  | .ifx c a b, r, Q, E => pE c r (fun x => oQ (truD x) fun k => cond k (pE a r Q E) (pE b r Q E)) E
  | .lst es, r, Q, E => pEs es r (fun ds => ds.length ≤ SL ∧ Q (.lst true ds)) E
  | .tup es, r, Q, E => pEs es r (fun ds => ds.length ≤ SL ∧ Q (.tup ds)) E
  | .idx a b, r, Q, E => pE a r (fun x => pE b r (fun y => idxD x y Q) E) E
  | .slc a lo hi bl bh, r, Q, E => pE a r (fun x => (cond bl (fun K => pE lo r (fun d => partD d K) E) (fun K => K none)) fun l => (cond bh (fun K => pE hi r (fun d => partD d K) E) (fun K => K none)) fun h => slcD x l h Q) E
  | .call f es, r, Q, E => pEs es r (fun ds => F f (shs ds) Q E) E
  | .callk f _ es, r, Q, E => pEs es r (fun ds => F f (shs ds) Q E) E
  | .blt f es, r, Q, E => pEs es r (fun ds => bltD f ds Q) E
  | .isi a ts, r, Q, E => pE a r (fun x => oQ (tyD x) fun t => Q (.bl (tyOk t ts))) E
  | .bm _ _ _, _, _, _ => False
  | .lc elt tg it c own, r, Q, E => pI it r (fun items _ => lcD tg (wipeD r own) (fun r1 acc K => pE c r1 (fun x => oQ (truD x) fun k => cond k (pE elt r1 (fun d => acc.length < SL ∧ K (acc ++ [d])) noX) (K acc)) noX) items [] fun ds => Q (.lst true ds)) E
  | .lc2 elt tg it c tg1 it1 c1 own own1, r, Q, E => pI it r (fun items _ => lcD tg (wipeD r own) (fun r1 acc K => pE c r1 (fun x => oQ (truD x) fun k => cond k (pI it1 r1 (fun items1 _ =>
      lcD tg1 (wipeD r1 own1) (fun r2 acc2 K2 => pE c1 r2 (fun x1 => oQ (truD x1) fun k1 => cond k1 (pE elt r2 (fun d => acc2.length < SL ∧ K2 (acc2 ++ [d])) noX) (K2 acc2)) noX) items1 acc K) noX) (K acc)) noX) items [] fun ds => Q (.lst true ds)) E
def pEs : MEs → DE → (List D → Prop) → (DX → Prop) → Prop
  | .nil, _, Q, _ => Q []
  | .cons e es, r, Q, E => pE e r (fun d => pEs es r (fun ds => Q (d :: ds)) E) E
def pI : MI → DE → (List (List D) → Bool → Prop) → (DX → Prop) → Prop
  | .seq e, r, Q, E => pE e r (fun x => oQ (D.sq x) fun xs => Q ((shs xs).map fun d => [d]) x.own) E
  | .rng e, r, Q, E => pE e r (fun x => match x with
    | .int j => (-(2 ^ 62) ≤ j ∧ j < 2 ^ 62) ∧ Q (rngD 0 j.toNat) true
    | _ => False) E
  | .rng2 a b, r, Q, E => pE a r (fun x => pE b r (fun y => match x, y with
    | .int i, .int j => ((-(2 ^ 62) ≤ i ∧ i < 2 ^ 62) ∧ (-(2 ^ 62) ≤ j ∧ j < 2 ^ 62)) ∧ Q (rngD i (j - i).toNat) true
    | _, _ => False) E) E
  | .enu e, r, Q, E => pE e r (fun x => match x with
    | .lst _ xs => Q (enuD 0 (shs xs)) x.own
    | _ => False) E
  | .zip a b, r, Q, E => pE a r (fun x => pE b r (fun y => match x, y with
    | .lst _ xs, .lst _ ys => Q (zipD (shs xs) (shs ys)) (x.own && y.own)
    | _, _ => False) E) E
end
/-! ### a value is taken over -/
mutual
/-- the names that are read -/
def vE : ME → List Nat
  | .var i => [i]
  | .cst _ => []
  | .glo _ => []
  | .bin _ a b => vE a ++ vE b
  | .neg a => vE a
  | .not a => vE a
  | .cmp _ a b => vE a ++ vE b
  | .chn _ _ a b c => vE a ++ (vE b ++ vE c)
  | .and a b => vE a ++ vE b
  | .or a b => vE a ++ vE b
  | .ifx c a b => vE c ++ (vE a ++ vE b)
  | .lst es => vEs es
  | .tup es => vEs es
  | .idx a b => vE a ++ vE b
  | .slc a lo hi _ _ => vE a ++ (vE lo ++ vE hi)
  | .call _ es => vEs es
  | .callk _ _ es => vEs es
  | .blt _ es => vEs es
  | .isi a _ => vE a
  | .bm _ a es => vE a ++ vEs es
  | .lc elt tg it c own => vI it ++ (tgV tg ++ (own ++ (vE c ++ vE elt)))
  | .lc2 elt tg it c tg1 it1 c1 own own1 => vI it ++ (tgV tg ++ (own ++ (vE c ++ (vI it1 ++ (tgV tg1 ++ (own1 ++ (vE c1 ++ vE elt)))))))
def vEs : MEs → List Nat
  | .nil => []
  | .cons e es => vE e ++ vEs es
def vI : MI → List Nat
  | .seq e => vE e
  | .rng e => vE e
  | .rng2 a b => vE a ++ vE b
  | .enu e => vE e
  | .zip a b => vE a ++ vE b
def tgV : Tg → List Nat
  | .nm i => [i]
  | .tp is => is
end
def memN (i : Nat) : List Nat → Bool
  | [] => false
  | j :: l => decide (i = j) || memN i l
/-- no name is read in both -/
def dj : List Nat → List Nat → Bool
  | [], _ => true
  | i :: a, b => !memN i b && dj a b
/-- a slot is shared -/
def shAt (ρ : DE) (i : Nat) : DE := match ρ[i]? with
  | some (some d) => ρ.set i (some d.sh)
  | _ => ρ
def dropV : List Nat → DE → DE
  | [], ρ => ρ
  | i :: is, ρ => dropV is (shAt ρ i)
def aft (own : Bool) (vs : List Nat) (ρ : DE) : DE := cond own (ρ) (dropV vs ρ)

variable (cons : Str → Bool)
mutual
/-- a value, and the slots behind it; mv: what is read is not used again -/
def pM (mv : Bool) : ME → DE → (D → DE → Prop) → (DX → Prop) → Prop
  | .var i, ρ, Q, E => cond mv ((match ρ[i]? with
    | some (some d) => Q d (ρ.set i none)
    | _ => False)) (pE g F (.var i) ρ (fun d => Q d (aft d.own [i] ρ)) E)
  | .tup es, ρ, Q, E => cond mv (pMs mv es ρ (fun ds ρ1 => ds.length ≤ SL ∧ Q (.tup ds) ρ1) E) (pE g F (.tup es) ρ (fun d => Q d (aft d.own (vE (.tup es)) ρ)) E)
  | .lst es, ρ, Q, E => cond mv (pMs mv es ρ (fun ds ρ1 => ds.length ≤ SL ∧ Q (.lst true ds) ρ1) E) (pE g F (.lst es) ρ (fun d => Q d (aft d.own (vE (.lst es)) ρ)) E)
  | .idx a b, ρ, Q, E => cond (mv && dj (vE a) (vE b)) (pM mv a ρ (fun x ρ1 => pE g F b ρ1 (fun y => idxD x y fun d => Q d ρ1) E) E) (pE g F (.idx a b) ρ (fun d => Q d (aft d.own (vE (.idx a b)) ρ)) E)
  | .not a, ρ, Q, E => pM mv a ρ (fun x ρ1 => oQ (truD x) fun b => Q (.bl (!b)) ρ1) E
  | .call f es, ρ, Q, E => cond (cons f) (pMs true es ρ (fun ds ρ1 => F f ds (fun d => Q d ρ1) E) E) (pE g F (.call f es) ρ (fun d => Q d (aft d.own (vE (.call f es)) ρ)) E)
  | e, ρ, Q, E => pE g F e ρ (fun d => Q d (aft d.own (vE e) ρ)) E
def pMs (mv : Bool) : MEs → DE → (List D → DE → Prop) → (DX → Prop) → Prop
  | .nil, ρ, Q, _ => Q [] ρ
  | .cons e es, ρ, Q, E => pM (mv && dj (vE e) (vEs es)) e ρ (fun d ρ1 => pMs mv es ρ1 (fun ds ρ2 => Q (d :: ds) ρ2) E) E
end
def pT (e : ME) (r : DE) (Q : Bool → DE → Prop) (E : DX → Prop) : Prop := pM g F cons false e r (fun x r1 => oQ (truD x) fun k => Q k r1) E
structure DK where
  nx : DE → Prop
  br : DE → Prop
  ct : DE → Prop
  rt : DQ
  ex : DX → Prop
def forD (tg : Tg) (body : DE → DK → Prop) : List (List D) → DE → DK → Prop
  | [], r, K => K.nx r
  | x :: xs, r, K => oQ (tgtD tg x r) fun r1 => body r1 { nx := fun r2 => forD tg body xs r2 K, ct := fun r2 => forD tg body xs r2 K, br := K.nx, rt := K.rt, ex := K.ex }
def whlD (c : DE → (Bool → Prop) → (DX → Prop) → Prop) (body : DE → DK → Prop) (r : DE) (K : DK) : Prop :=
  ∃ (I : Nat → DE → Prop) (n : Nat), n < WF ∧ I n r ∧ ∀ n r, I n r → c r (fun k => cond k (∃ n', n = n' + 1 ∧ body r { nx := I n', ct := I n', br := K.nx, rt := K.rt, ex := K.ex }) (K.nx r)) K.ex
/-- an owned list takes one more -/
def appD (r : DE) (i : Nat) (d : D) (Q : DE → Prop) : Prop := match r[i]? with
  | some (some (.lst true xs)) => xs.length < SL ∧ Q (r.set i (some (.lst true (xs ++ [d]))))
  | _ => False
def putD (r : DE) (i : Nat) (k d : D) (Q : DE → Prop) : Prop := match r[i]?, k with
  | some (some (.lst true xs)), .int k => oQ (L2.ixN xs.length k) fun j => Q (r.set i (some (.lst true (xs.set j d))))
  | _, _ => False
/-- a list stands there -/
def isL (r : DE) (i : Nat) : Prop := match r[i]? with
  | some (some (.lst _ _)) => True
  | _ => False
/-- x.append(e) of a name -/
def asApp : ME → Option (Nat × ME)
  | .bm .append (.var i) (.cons a .nil) => some (i, a)
  | _ => none
mutual
def pSs : MSs → DE → DK → Prop
  | .nil, r, K => K.nx r
  | .cons s ss, r, K => pS s r { K with nx := fun r1 => pSs ss r1 K }
def pS : MS → DE → DK → Prop
  | .expr e, r, K => match asApp e with
    | some (i, a) => isL r i ∧ pM g F cons false a r (fun d r1 => appD r1 i d K.nx) K.ex
    | none => pM g F cons false e r (fun _ r1 => K.nx r1) K.ex
  | .asg i e, r, K => pM g F cons false e r (fun d r1 => K.nx (r1.set i (some d))) K.ex
  | .asgT is e, r, K => pM g F cons false e r (fun d r1 => match d with
    | .tup ds => oQ (setD r1 is ds) K.nx
    | _ => False) K.ex
  | .par i j a b, r, K => pE g F a r (fun x => pE g F b r (fun y => K.nx (((aft (x.own && y.own) (vE a ++ vE b) r).set i (some x)).set j (some y))) K.ex) K.ex
  | .sub o ix v, r, K => match o with
    | .var i => pM g F cons false v r (fun d r1 => isL r1 i ∧ pE g F ix r1 (fun k => putD r1 i k d K.nx) K.ex) K.ex
    | _ => False
  | .aug i o e, r, K => match r[i]? with
    | some (some (.int c)) => pE g F e r (fun y => match y with
      | .int d => (match o with
        | .add => K.nx (r.set i (some (.int (c + d))))
        | .sub => K.nx (r.set i (some (.int (c - d))))
        | _ => False)
      | _ => False) K.ex
    | _ => False
  | .ifs c a b, r, K => pT g F cons c r (fun k r1 => cond k (pSs a r1 K) (pSs b r1 K)) K.ex
  | .fors tg it b, r, K => pI g F it r (fun items o => forD tg (fun r1 K1 => pSs b r1 K1) items (aft o (vI it) r) K) K.ex
  | .whl c b, r, K => whlD (fun r1 Q E => pE g F c r1 (fun x => oQ (truD x) Q) E) (fun r1 K1 => pSs b r1 K1) r K
  | .ret e, r, K => pM g F cons true e r (fun d _ => K.rt d) K.ex
  | .retN, _, K => K.rt .non
  | .raise c es, r, K => pEs g F es r (fun ds => match g.exc.lookup c, ds with
    | some none, [] => K.ex (c, none)
    | some (some f), [d] => K.ex (c, some (f, d.sh))
    | _, _ => False) K.ex
  | .brk, r, K => K.br r
  | .cnt, r, K => K.ct r
  | .pass, r, K => K.nx r
  | .tryK b _ _ _, r, K => pSs b r { K with ex := fun x => K.rt (.tup [.str x.1, match x.2 with
    | some p => p.2
    | none => .non]) }
end
end
end Py
set_option maxHeartbeats 1000000
/-! MINI PYTHON, part F2: trees stand for what lies in the memory. -/
namespace Py
open PySem

def R.sat {A : Type} (r : R A) (Q : A → M → Prop) (E : Ex → M → Prop) : Prop := match r with
  | .ok a m => Q a m
  | .ex e m => E e m
  | .stuck => False
theorem sat_bind {A B : Type} {r : R A} {f : A → M → R B} {Q : B → M → Prop} {E : Ex → M → Prop} (h : r.sat (fun a m => (f a m).sat Q E) E) : (r.bind f).sat Q E := by
  cases r <;> exact h
theorem sat_mono {A : Type} {r : R A} {Q Q' : A → M → Prop} {E E' : Ex → M → Prop} (h : r.sat Q E) (q : ∀ a m, Q a m → Q' a m) (e : ∀ a m, E a m → E' a m) : r.sat Q' E' := by
  cases r with
  | ok a m => exact q _ _ h
  | ex a m => exact e _ _ h
  | stuck => exact h

mutual
/-- s: where the store lies; B: what those that others may hold are not; ns: the lists that nobody else holds -/
inductive Rp (s : Nat) (B : Nat → Prop) (m : M) : U → D → List Nat → Prop where
  | non : Rp s B m .non .non []
  | bl (b : Bool) : Rp s B m (.bl b) (.bl b) []
  | int (i : Int) : Rp s B m (.int i) (.int i) []
  | str (z : Str) : Rp s B m (.str z) (.str z) []
  | lt {a : Nat} {us : List U} {ds : List D} {ns : List Nat} (h : m[a]? = some (.lst us)) (r : Rps s B m us ds ns) : Rp s B m (.ref a) (.lst true ds) (a :: ns)
  | lf {a : Nat} {us : List U} {ds : List D} (hb : ¬ B a) (h : m[a]? = some (.lst us)) (r : Rps s B m us ds []) : Rp s B m (.ref a) (.lst false ds) []
  | tup {a : Nat} {us : List U} {ds : List D} {ns : List Nat} (h : tpOf m a = some us) (r : Rps s B m us ds ns) : Rp s B m (.ref a) (.tup ds) ns
  | st : Rp s B m (.ref s) .st []
inductive Rps (s : Nat) (B : Nat → Prop) (m : M) : List U → List D → List Nat → Prop where
  | nil : Rps s B m [] [] []
  | cons {u : U} {d : D} {us : List U} {ds : List D} {ns ns' : List Nat} (h : Rp s B m u d ns) (r : Rps s B m us ds ns') : Rps s B m (u :: us) (d :: ds) (ns ++ ns')
end
theorem ct_ {a b : Prop} (h : cond true a b) : a := h
theorem cf_ {a b : Prop} (h : cond false a b) : b := h
theorem lsOf_of {m m' : M} {a : Nat} {us : List U} (h : lsOf m a = some us) (k : ∀ o, m[a]? = some o → m'[a]? = some o) : lsOf m' a = some us := by
  unfold lsOf at *
  cases q : m[a]? with
  | none => rw [q] at h; cases h
  | some o => rw [q] at h; rw [k _ q]; exact h
theorem ls_of {m : M} {a : Nat} {us : List U} (h : m[a]? = some (.lst us)) : lsOf m a = some us := by
  unfold lsOf
  rw [h]
theorem tpOf_of {m m' : M} {a : Nat} {us : List U} (h : tpOf m a = some us) (k : ∀ o, m[a]? = some o → m'[a]? = some o) : tpOf m' a = some us := by
  unfold tpOf at *
  cases q : m[a]? with
  | none => rw [q] at h; cases h
  | some o => rw [q] at h; rw [k _ q]; exact h
theorem lsOf_lt {m : M} {a : Nat} {us : List U} (h : lsOf m a = some us) : a < m.length := by
  unfold lsOf at h
  cases q : m[a]? with
  | none => rw [q] at h; cases h
  | some o => exact (List.getElem?_eq_some_iff.mp q).1
theorem tpOf_lt {m : M} {a : Nat} {us : List U} (h : tpOf m a = some us) : a < m.length := by
  unfold tpOf at h
  cases q : m[a]? with
  | none => rw [q] at h; cases h
  | some o => exact (List.getElem?_eq_some_iff.mp q).1
theorem get_lt {A : Type} {m : List A} {a : Nat} {o : A} (h : m[a]? = some o) : a < m.length := (List.getElem?_eq_some_iff.mp h).1
theorem shs_map : ∀ xs : List D, shs xs = xs.map D.sh
  | [] => rfl
  | x :: xs => congrArg (x.sh :: ·) (shs_map xs)
theorem shs_len (xs : List D) : (shs xs).length = xs.length := by rw [shs_map, List.length_map]
mutual
theorem sh_sh : ∀ d : D, d.sh.sh = d.sh
  | .non => rfl | .bl _ => rfl | .int _ => rfl | .str _ => rfl | .st => rfl
  | .lst q xs => congrArg (D.lst false) (shs_shs xs)
  | .tup xs => congrArg D.tup (shs_shs xs)
theorem shs_shs : ∀ xs : List D, shs (shs xs) = shs xs
  | [] => rfl
  | x :: xs => by show x.sh.sh :: shs (shs xs) = x.sh :: shs xs; rw [sh_sh x, shs_shs xs]
end
section
variable {s : Nat} {B B' : Nat → Prop} {m m' : M}
mutual
theorem Rp.mv : ∀ {u : U} {d : D} {ns : List Nat}, Rp s B m u d ns → (∀ i us, ¬ B i → m[i]? = some (.lst us) → ¬ B' i ∧ m'[i]? = some (.lst us)) → (∀ i us, tpOf m i = some us → tpOf m' i = some us) → (∀ i us, i ∈ ns → m[i]? = some (.lst us) → m'[i]? = some (.lst us)) → Rp s B' m' u d ns
  | _, _, _, .non, _, _, _ => .non
  | _, _, _, .bl b, _, _, _ => .bl b
  | _, _, _, .int i, _, _, _ => .int i
  | _, _, _, .str z, _, _, _ => .str z
  | _, _, _, .st, _, _, _ => .st
  | _, _, _, .lt h r, k, kt, kn => .lt (kn _ _ (List.mem_cons_self ..) h) (Rps.mv r k kt fun i us hi => kn i us (List.mem_cons_of_mem _ hi))
  | _, _, _, .lf hb h r, k, kt, kn => .lf (k _ _ hb h).1 (k _ _ hb h).2 (Rps.mv r k kt kn)
  | _, _, _, .tup h r, k, kt, kn => .tup (kt _ _ h) (Rps.mv r k kt kn)
theorem Rps.mv : ∀ {us : List U} {ds : List D} {ns : List Nat}, Rps s B m us ds ns → (∀ i us, ¬ B i → m[i]? = some (.lst us) → ¬ B' i ∧ m'[i]? = some (.lst us)) → (∀ i us, tpOf m i = some us → tpOf m' i = some us) → (∀ i us, i ∈ ns → m[i]? = some (.lst us) → m'[i]? = some (.lst us)) → Rps s B' m' us ds ns
  | _, _, _, .nil, _, _, _ => .nil
  | _, _, _, .cons h r, k, kt, kn => .cons (Rp.mv h k kt fun i us hi => kn i us (List.mem_append_left _ hi)) (Rps.mv r k kt fun i us hi => kn i us (List.mem_append_right _ hi))
end
mutual
/-- others may hold it from now on -/
theorem Rp.sh : ∀ {u : U} {d : D} {ns : List Nat}, Rp s B m u d ns → (∀ i, B' i → B i) → (∀ i ∈ ns, ¬ B' i) → Rp s B' m u d.sh []
  | _, _, _, .non, _, _ => .non
  | _, _, _, .bl b, _, _ => .bl b
  | _, _, _, .int i, _, _ => .int i
  | _, _, _, .str z, _, _ => .str z
  | _, _, _, .st, _, _ => .st
  | _, _, _, .lt h r, k, kn => .lf (kn _ (List.mem_cons_self ..)) h (Rps.sh r k fun i hi => kn i (List.mem_cons_of_mem _ hi))
  | _, _, _, .lf hb h r, k, kn => .lf (fun z => hb (k _ z)) h (Rps.sh r k kn)
  | _, _, _, .tup h r, k, kn => .tup h (Rps.sh r k kn)
theorem Rps.sh : ∀ {us : List U} {ds : List D} {ns : List Nat}, Rps s B m us ds ns → (∀ i, B' i → B i) → (∀ i ∈ ns, ¬ B' i) → Rps s B' m us (shs ds) []
  | _, _, _, .nil, _, _ => .nil
  | _, _, _, .cons h r, k, kn => .cons (Rp.sh h k fun i hi => kn i (List.mem_append_left _ hi)) (Rps.sh r k fun i hi => kn i (List.mem_append_right _ hi))
end
mutual
/-- nothing in it is held by others: then B says nothing -/
theorem Rp.ofOwn : ∀ {u : U} {d : D} {ns : List Nat}, Rp s B m u d ns → d.own = true → Rp s B' m u d ns
  | _, _, _, .non, _ => .non
  | _, _, _, .bl b, _ => .bl b
  | _, _, _, .int i, _ => .int i
  | _, _, _, .str z, _ => .str z
  | _, _, _, .st, _ => .st
  | _, _, _, .lt h r, k => .lt h (Rps.ofOwn r (Bool.and_eq_true_iff.mp (show (true && owns _) = true from k)).2)
  | _, _, _, .lf hb h r, k => by cases k
  | _, _, _, .tup h r, k => .tup h (Rps.ofOwn r k)
theorem Rps.ofOwn : ∀ {us : List U} {ds : List D} {ns : List Nat}, Rps s B m us ds ns → owns ds = true → Rps s B' m us ds ns
  | _, _, _, .nil, _ => .nil
  | _, _, _, .cons h r, k => .cons (Rp.ofOwn h (Bool.and_eq_true_iff.mp k).1) (Rps.ofOwn r (Bool.and_eq_true_iff.mp k).2)
end
mutual
/-- the places are lists -/
theorem Rp.pl : ∀ {u : U} {d : D} {ns : List Nat}, Rp s B m u d ns → ∀ a ∈ ns, ∃ us, m[a]? = some (.lst us)
  | _, _, _, .non, _, h => by cases h
  | _, _, _, .bl b, _, h => by cases h
  | _, _, _, .int i, _, h => by cases h
  | _, _, _, .str z, _, h => by cases h
  | _, _, _, .st, _, h => by cases h
  | _, _, _, .lf hb h r, _, k => by cases k
  | _, _, _, .lt h r, a, k => by
    rcases List.mem_cons.mp k with e | k
    · subst e; exact ⟨_, h⟩
    · exact Rps.pl r a k
  | _, _, _, .tup h r, a, k => Rps.pl r a k
theorem Rps.pl : ∀ {us : List U} {ds : List D} {ns : List Nat}, Rps s B m us ds ns → ∀ a ∈ ns, ∃ us, m[a]? = some (.lst us)
  | _, _, _, .nil, _, h => by cases h
  | _, _, _, .cons h r, a, k => (List.mem_append.mp k).elim (Rp.pl h a) (Rps.pl r a)
end
theorem Rps.len : ∀ {us : List U} {ds : List D} {ns : List Nat}, Rps s B m us ds ns → us.length = ds.length
  | _, _, _, .nil => rfl
  | _, _, _, .cons _ r => congrArg Nat.succ r.len
theorem Rps.at' : ∀ {us : List U} {ds : List D} {ns : List Nat} {i : Nat} {d : D}, Rps s B m us ds ns → ds[i]? = some d → ∃ u ns', us[i]? = some u ∧ Rp s B m u d ns' ∧ ns'.Sublist ns
  | _, _, _, _, _, .nil, h => by simp at h
  | _, _, _, 0, _, .cons a _, h => by simp at h; subst h; exact ⟨_, _, rfl, a, List.sublist_append_left ..⟩
  | _, _, _, i + 1, _, .cons _ r, h => by
    obtain ⟨u, ns', h1, h2, h3⟩ := r.at' (i := i) (by simpa using h)
    exact ⟨u, ns', by simpa using h1, h2, h3.trans (List.sublist_append_right ..)⟩
theorem Rps.app : ∀ {us vs : List U} {ds es : List D} {ns ns' : List Nat}, Rps s B m us ds ns → Rps s B m vs es ns' → Rps s B m (us ++ vs) (ds ++ es) (ns ++ ns')
  | _, _, _, _, _, _, .nil, k => k
  | _, _, _, _, _, _, .cons a r, k => by rw [List.append_assoc]; exact .cons a (r.app k)
theorem Rps.takeN : ∀ {us : List U} {ds : List D} {ns : List Nat} (n : Nat), Rps s B m us ds ns → ∃ ns', Rps s B m (us.take n) (ds.take n) ns' ∧ ns'.Sublist ns
  | _, _, _, 0, _ => ⟨[], .nil, List.nil_sublist _⟩
  | _, _, _, _ + 1, .nil => ⟨[], .nil, List.nil_sublist _⟩
  | _, _, _, n + 1, .cons a r => let ⟨ns', h1, h2⟩ := r.takeN n; ⟨_, .cons a h1, h2.append_left _⟩
theorem Rps.dropN : ∀ {us : List U} {ds : List D} {ns : List Nat} (n : Nat), Rps s B m us ds ns → ∃ ns', Rps s B m (us.drop n) (ds.drop n) ns' ∧ ns'.Sublist ns
  | _, _, _, 0, r => ⟨_, r, List.Sublist.refl _⟩
  | _, _, _, _ + 1, .nil => ⟨[], .nil, List.nil_sublist _⟩
  | _, _, _, n + 1, .cons _ r => let ⟨ns', h1, h2⟩ := r.dropN n; ⟨ns', h1, h2.trans (List.sublist_append_right ..)⟩
theorem Rps.setN {u : U} {d : D} {nu : List Nat} (h : Rp s B m u d nu) : ∀ {us : List U} {ds : List D} {ns : List Nat} (n : Nat), Rps s B m us ds ns → n < us.length → ∃ p q q', ns = p ++ (q ++ q') ∧ Rps s B m (us.set n u) (ds.set n d) (p ++ (nu ++ q'))
  | _, _, _, _, .nil, l => absurd l (Nat.not_lt_zero _)
  | _, _, _, 0, .cons (ns := n1) (ns' := n2) a r, _ => ⟨[], n1, n2, rfl, show Rps s B m _ _ (nu ++ n2) from .cons h r⟩
  | _, _, _, n + 1, .cons a r, l => by
    obtain ⟨p, q, q', e, h1⟩ := r.setN h n (Nat.lt_of_succ_lt_succ l)
    exact ⟨_ ++ p, q, q', by rw [e, List.append_assoc], by rw [List.append_assoc]; exact .cons a h1⟩
theorem Rp.ofU {u : U} {d : D} (h : D.ofU u = some d) : Rp s B m u d [] := by
  cases u <;> first | (cases h; constructor) | cases h
mutual
/-- what others hold needs nothing of our own -/
theorem Rp.sh_nil : ∀ {u : U} {d : D} {ns : List Nat}, Rp s B m u d.sh ns → ns = []
  | _, .non, _, h => by cases h; rfl
  | _, .bl _, _, h => by cases h; rfl
  | _, .int _, _, h => by cases h; rfl
  | _, .str _, _, h => by cases h; rfl
  | _, .st, _, h => by cases h; rfl
  | _, .lst _ xs, _, h => by cases h; rfl
  | _, .tup xs, _, h => by
    cases h with
    | tup _ r => exact Rps.sh_nil r
theorem Rps.sh_nil : ∀ {us : List U} {ds : List D} {ns : List Nat}, Rps s B m us (shs ds) ns → ns = []
  | _, [], _, h => by cases h; rfl
  | _, d :: ds, _, h => by
    cases h with
    | cons a r => rw [Rp.sh_nil a, Rps.sh_nil r]; rfl
end
end
/-- tuples stay -/
def TpK (m m' : M) : Prop := ∀ i us, tpOf m i = some us → tpOf m' i = some us
/-- nothing old is changed but the store and X -/
structure FrO (s : Nat) (X : Nat → Prop) (m m' : M) : Prop where
  len : m.length ≤ m'.length
  keep : ∀ i us, i ≠ s → ¬ X i → m[i]? = some (.lst us) → m'[i]? = some (.lst us)
  tp : TpK m m'
abbrev nX : Nat → Prop := fun _ => False
abbrev Fr (s : Nat) (m m' : M) : Prop := FrO s nX m m'
theorem FrO.refl {s : Nat} {X : Nat → Prop} {m : M} : FrO s X m m := ⟨Nat.le_refl _, fun _ _ _ _ h => h, fun _ _ h => h⟩
/-- what is owned later was owned before, or is new -/
def SubO (X X' : Nat → Prop) (m : M) : Prop := ∀ a, X' a → X a ∨ m.length ≤ a
theorem FrO.trans {s : Nat} {X X' : Nat → Prop} {m m1 m2 : M} (a : FrO s X m m1) (k : SubO X X' m) (b : FrO s X' m1 m2) : FrO s X m m2 := by
  refine ⟨Nat.le_trans a.len b.len, fun i o n nx h => b.keep i o n (fun z => ?_) (a.keep i o n nx h), fun i us h => b.tp i us (a.tp i us h)⟩
  rcases k i z with z | z
  · exact nx z
  · exact absurd (get_lt h) (Nat.not_lt.mpr z)
theorem SubO.refl {X : Nat → Prop} {m : M} : SubO X X m := fun _ h => .inl h
theorem SubO.trans {X X' X'' : Nat → Prop} {m m1 : M} (a : SubO X X' m) (l : m.length ≤ m1.length) (b : SubO X' X'' m1) : SubO X X'' m := fun x h => (b x h).elim (a x) fun z => .inr (Nat.le_trans l z)
theorem FrO.wide {s : Nat} {X X' : Nat → Prop} {m m' : M} (f : FrO s X m m') (k : ∀ a, X a → X' a) : FrO s X' m m' := ⟨f.len, fun i us n nx h => f.keep i us n (fun z => nx (k i z)) h, f.tp⟩
theorem FrO.cut {s : Nat} {X X' : Nat → Prop} {m m' : M} (f : FrO s X m m') (k : SubO X' X m) : FrO s X' m m' := ⟨f.len, fun i us n nx h => f.keep i us n (fun z => (k i z).elim nx fun y => absurd (get_lt h) (Nat.not_lt.mpr y)) h, f.tp⟩
theorem FrO.toO {s : Nat} {X : Nat → Prop} {m m' : M} (f : Fr s m m') : FrO s X m m' := f.wide fun _ z => z.elim
theorem Fr.trans {s : Nat} {m m1 m2 : M} (a : Fr s m m1) (b : Fr s m1 m2) : Fr s m m2 := FrO.trans a .refl b
theorem tpk_app {m l : M} : TpK m (m ++ l) := fun i us h => tpOf_of h fun o q => by rw [List.getElem?_append_left (get_lt q)]; exact q
theorem Fr.appL {s : Nat} {m l : M} : Fr s m (m ++ l) := ⟨by simp, fun i _ _ _ h => by rw [List.getElem?_append_left (get_lt h)]; exact h, tpk_app⟩
theorem Fr.app {s : Nat} {m : M} {o : MO} : Fr s m (m ++ [o]) := Fr.appL
theorem tpk_set {m : M} {a : Nat} {us vs : List U} (h : m[a]? = some (.lst us)) : TpK m (m.set a (.lst vs)) := fun i ws q => tpOf_of q fun o z => by
  have ne : a ≠ i := fun e => by
    subst e
    rw [h] at z
    cases z
    unfold tpOf at q
    rw [h] at q
    cases q
  rw [List.getElem?_set_ne ne]
  exact z
/-- the world of a run: where the store lies, what no one else may change, what stays true -/
structure Wd where
  s : Nat
  Z : Nat → Prop
  Inv : M → Prop
  app : ∀ m o, Inv m → Inv (m ++ [o])
  set : ∀ m a o, ¬ Z a → Inv m → Inv (m.set a o)
/-- a set of places that must not be used: the store's, and old ones -/
structure Bd (W : Wd) (B : Nat → Prop) (m : M) : Prop where
  st : B W.s
  z : ∀ a, W.Z a → B a
  lt : ∀ a, B a → a < m.length
theorem Bd.mono {W : Wd} {B : Nat → Prop} {m m' : M} (h : Bd W B m) (l : m.length ≤ m'.length) : Bd W B m' := ⟨h.st, h.z, fun a b => Nat.lt_of_lt_of_le (h.lt a b) l⟩
/-- more is not to be used -/
def BX (B : Nat → Prop) (ns : List Nat) (a : Nat) : Prop := B a ∨ a ∈ ns
theorem Bd.bn {W : Wd} {B : Nat → Prop} {m : M} {ns : List Nat} (h : Bd W B m) (k : ∀ a ∈ ns, a < m.length) : Bd W (BX B ns) m := ⟨.inl h.st, fun a z => .inl (h.z a z), fun a z => z.elim (h.lt a) (k a)⟩
section
variable {W : Wd} {B B' : Nat → Prop} {m m' : M} {u : U} {d : D} {us : List U} {ds : List D} {ns : List Nat}
theorem Rp.fr (hB : B W.s) (f : Fr W.s m m') (hn : W.s ∉ ns) (h : Rp W.s B m u d ns) : Rp W.s B m' u d ns := h.mv (fun i o n q => ⟨n, f.keep i o (fun z => n (z ▸ hB)) id q⟩) f.tp fun i o k q => f.keep i o (fun z => hn (z ▸ k)) id q
theorem Rps.fr (hB : B W.s) (f : Fr W.s m m') (hn : W.s ∉ ns) (h : Rps W.s B m us ds ns) : Rps W.s B m' us ds ns := h.mv (fun i o n q => ⟨n, f.keep i o (fun z => n (z ▸ hB)) id q⟩) f.tp fun i o k q => f.keep i o (fun z => hn (z ▸ k)) id q
theorem Rp.fr0 (hB : B W.s) (f : Fr W.s m m') (h : Rp W.s B m u d []) : Rp W.s B m' u d [] := h.fr hB f (by simp)
theorem Rps.fr0 (hB : B W.s) (f : Fr W.s m m') (h : Rps W.s B m us ds []) : Rps W.s B m' us ds [] := h.fr hB f (by simp)
theorem Rp.weak (k : ∀ i, B' i → B i) (h : Rp W.s B m u d ns) : Rp W.s B' m u d ns := h.mv (fun i o n q => ⟨fun z => n (k i z), q⟩) (fun _ _ z => z) fun _ _ _ z => z
theorem Rps.weak (k : ∀ i, B' i → B i) (h : Rps W.s B m us ds ns) : Rps W.s B' m us ds ns := h.mv (fun i o n q => ⟨fun z => n (k i z), q⟩) (fun _ _ z => z) fun _ _ _ z => z
/-- more is forbidden, but new places alone -/
theorem Rp.sub (k : ∀ a, B' a → B a ∨ m.length ≤ a) (h : Rp W.s B m u d ns) : Rp W.s B' m u d ns := h.mv (fun i o n q => ⟨fun z => (k i z).elim n fun g => absurd (get_lt q) (Nat.not_lt.mpr g), q⟩) (fun _ _ z => z) fun _ _ _ z => z
theorem Rps.sub (k : ∀ a, B' a → B a ∨ m.length ≤ a) (h : Rps W.s B m us ds ns) : Rps W.s B' m us ds ns := h.mv (fun i o n q => ⟨fun z => (k i z).elim n fun g => absurd (get_lt q) (Nat.not_lt.mpr g), q⟩) (fun _ _ z => z) fun _ _ _ z => z
theorem Rp.lt' (h : Rp W.s B m u d ns) : ∀ a ∈ ns, a < m.length := fun a k => let ⟨_, z⟩ := h.pl a k; get_lt z
theorem Rps.lt' (h : Rps W.s B m us ds ns) : ∀ a ∈ ns, a < m.length := fun a k => let ⟨_, z⟩ := h.pl a k; get_lt z
end
/-- an exception stands for one of trees -/
def RepX (s : Nat) (B : Nat → Prop) (m : M) (e : Ex) (x : DX) : Prop := e.c = x.1 ∧ match e.f, x.2 with
  | none, none => True
  | some p, some q => p.1 = q.1 ∧ Rp s B m p.2 q.2 []
  | _, _ => False
/-- a value's end: X may be changed, what is handed over -/
def GV (W : Wd) (B X : Nat → Prop) (m0 : M) (Q : DQ) : U → M → Prop := fun u m => ∃ d ns, Rp W.s (BX B ns) m u d ns ∧ ns.Nodup ∧ (∀ a ∈ ns, X a ∨ m0.length ≤ a) ∧ Q d ∧ FrO W.s X m0 m ∧ W.Inv m
def GX (W : Wd) (B X : Nat → Prop) (m0 : M) (E : DX → Prop) : Ex → M → Prop := fun e m => ∃ x, RepX W.s B m e x ∧ E x ∧ FrO W.s X m0 m ∧ W.Inv m
/-- what a def promises of a call -/
def FCall (cl : Cl) (W : Wd) (f : Str) (ds : List D) (Q : DQ) (E : DX → Prop) : Prop := ∀ (B : Nat → Prop) (m : M) (us : List U) (ns : List Nat), Bd W B m → W.Inv m → Rps W.s (BX B ns) m us ds ns → ns.Nodup → (∀ a ∈ ns, ¬ B a) →
  (cl f us m).sat (GV W B (fun a => a ∈ ns) m Q) (GX W B (fun a => a ∈ ns) m E)
def FSound (cl : Cl) (F : DF) (W : Wd) : Prop := ∀ (f : Str) (ds : List D) (Q : DQ) (E : DX → Prop), F f ds Q E → FCall cl W f ds Q E
theorem FCall.sound {cl : Cl} {W : Wd} : FSound cl (FCall cl W) W := fun _ _ _ _ h => h
end Py
set_option maxHeartbeats 1000000
/-! MINI PYTHON, part F3: the operations keep to trees. -/
namespace Py
open PySem
section
variable {W : Wd} {s : Nat} {B B' : Nat → Prop} {m m' : M} {u v : U} {d e : D} {us : List U} {ds : List D} {ns ns' : List Nat} {q : Bool}
theorem Rp.ls (h : Rp s B m u (.lst q ds) ns) : ∃ a us ns1, u = .ref a ∧ m[a]? = some (.lst us) ∧ Rps s B m us ds ns1 ∧ ns1.Sublist ns := by
  cases h with
  | lt h r => exact ⟨_, _, _, rfl, h, r, List.sublist_cons_self ..⟩
  | lf hb h r => exact ⟨_, _, _, rfl, h, r, List.Sublist.refl _⟩
theorem Rp.ls_ne (h : Rp s B m u (.lst q ds) ns) (hB : B s) (hn : s ∉ ns) : ∃ a us ns1, u = .ref a ∧ a ≠ s ∧ m[a]? = some (.lst us) ∧ Rps s B m us ds ns1 ∧ ns1.Sublist ns := by
  cases h with
  | lt h r => exact ⟨_, _, _, rfl, fun z => hn (z ▸ List.mem_cons_self ..), h, r, List.sublist_cons_self ..⟩
  | lf hb h r => exact ⟨_, _, _, rfl, fun z => hb (z ▸ hB), h, r, List.Sublist.refl _⟩
theorem Rp.tp (h : Rp s B m u (.tup ds) ns) : ∃ a us, u = .ref a ∧ tpOf m a = some us ∧ Rps s B m us ds ns := by
  cases h with
  | tup h r => exact ⟨_, _, rfl, h, r⟩
theorem Rp.int' {i : Int} (h : Rp s B m u (.int i) ns) : u = .int i := by cases h; rfl
theorem Rp.bl' {i : Bool} (h : Rp s B m u (.bl i) ns) : u = .bl i := by cases h; rfl
theorem Rp.str' {i : Str} (h : Rp s B m u (.str i) ns) : u = .str i := by cases h; rfl
theorem Rp.non' (h : Rp s B m u .non ns) : u = .non := by cases h; rfl
theorem lsOf_seq {a : Nat} (h : lsOf m a = some us) : seqOf m a = some us := by
  unfold lsOf at h
  unfold seqOf
  cases q : m[a]? with
  | none => rw [q] at h; cases h
  | some o => rw [q] at h; cases o <;> first | exact h | cases h
theorem tpOf_seq {a : Nat} (h : tpOf m a = some us) : seqOf m a = some us := by
  unfold tpOf at h
  unfold seqOf
  cases q : m[a]? with
  | none => rw [q] at h; cases h
  | some o => rw [q] at h; cases o <;> first | exact h | cases h
theorem isEmpty_len {A C : Type} {xs : List A} {ys : List C} (h : xs.length = ys.length) : xs.isEmpty = ys.isEmpty := by
  cases xs <;> cases ys <;> first | rfl | cases h
theorem tru_rep {b : Bool} (h : Rp s B m u d ns) (t : truD d = some b) : tru u m = some b := by
  cases d with
  | non => cases h.non'; cases t; rfl
  | bl x => cases h.bl'; cases t; rfl
  | int i => cases h.int'; cases t; rfl
  | str z => cases h.str'; exact t
  | lst q xs =>
    obtain ⟨a, us, _, rfl, h1, h2, _⟩ := h.ls
    cases t
    show (seqOf m a).map _ = _
    rw [lsOf_seq (ls_of h1)]
    exact congrArg some (congrArg not (isEmpty_len h2.len))
  | tup xs =>
    obtain ⟨a, us, rfl, h1, h2⟩ := h.tp
    cases t
    show (seqOf m a).map _ = _
    rw [tpOf_seq h1]
    exact congrArg some (congrArg not (isEmpty_len h2.len))
  | st => cases t
/-! ### data -/
theorem mapM_reps {n : Nat} (ih : ∀ (u : U) (d : D) (p : PyData) (ns : List Nat), Rp s B m u d ns → datD n d = some p → datU m n u = some p) : ∀ {us : List U} {ds : List D} {ps : List PyData} {ns : List Nat}, Rps s B m us ds ns → ds.mapM (datD n) = some ps → us.mapM (datU m n) = some ps
  | [], [], ps, _, .nil, h => by simpa using h
  | u :: us, d :: ds, ps, _, .cons a r, h => by
    rw [List.mapM_cons] at h ⊢
    cases h1 : datD n d with
    | none => rw [h1] at h; cases h
    | some p =>
      rw [h1] at h
      cases h2 : ds.mapM (datD n) with
      | none => rw [h2] at h; cases h
      | some qs =>
        rw [h2] at h
        rw [ih u d p _ a h1, mapM_reps ih r h2]
        exact h
theorem dat_ls {n : Nat} {a : Nat} {us : List U} (h : lsOf m a = some us) : datU m (n + 1) (.ref a) = (us.mapM (datU m n)).map .list := by
  unfold lsOf at h
  show (match m[a]? with
    | some (.lst xs) => (xs.mapM (datU m n)).map PyData.list
    | some (.fls xs) => (xs.mapM (datU m n)).map .list
    | some (.tup xs) => (xs.mapM (datU m n)).map .tuple
    | some (.stp xs) => (xs.mapM (datU m n)).map .tuple
    | _ => none) = _
  cases q : m[a]? with
  | none => rw [q] at h; cases h
  | some o => rw [q] at h; cases o <;> first | (cases h; rfl) | cases h
theorem dat_tp {n : Nat} {a : Nat} {us : List U} (h : tpOf m a = some us) : datU m (n + 1) (.ref a) = (us.mapM (datU m n)).map .tuple := by
  unfold tpOf at h
  show (match m[a]? with
    | some (.lst xs) => (xs.mapM (datU m n)).map PyData.list
    | some (.fls xs) => (xs.mapM (datU m n)).map .list
    | some (.tup xs) => (xs.mapM (datU m n)).map .tuple
    | some (.stp xs) => (xs.mapM (datU m n)).map .tuple
    | _ => none) = _
  cases q : m[a]? with
  | none => rw [q] at h; cases h
  | some o => rw [q] at h; cases o <;> first | (cases h; rfl) | cases h
theorem dat_rep : ∀ (n : Nat) (u : U) (d : D) (p : PyData) (ns : List Nat), Rp s B m u d ns → datD n d = some p → datU m n u = some p := by
  intro n
  induction n with
  | zero =>
    intro u d p ns r h
    cases r <;> first | exact h | cases h
  | succ n ih =>
    intro u d p ns r h
    cases d with
    | non => cases r.non'; exact h
    | bl b => cases r.bl'; exact h
    | int i => cases r.int'; exact h
    | str z => cases r.str'; exact h
    | st => cases h
    | lst q xs =>
      obtain ⟨a, us, _, rfl, hl, rr, _⟩ := r.ls
      simp only [datD, Option.map_eq_some_iff] at h
      obtain ⟨ps, h1, h2⟩ := h
      rw [dat_ls (ls_of hl), mapM_reps ih rr h1, ← h2]
      rfl
    | tup xs =>
      obtain ⟨a, us, rfl, hl, rr⟩ := r.tp
      simp only [datD, Option.map_eq_some_iff] at h
      obtain ⟨ps, h1, h2⟩ := h
      rw [dat_tp hl, mapM_reps ih rr h1, ← h2]
      rfl
/-- the forms of a value -/
theorem Rp.form (h : Rp s B m u d ns) : (D.ofU u = some d) ∨ ((∃ a, u = .ref a) ∧ ∀ e, scalD d e = false ∧ scalD e d = false) := by
  cases d with
  | non => cases h.non'; exact .inl rfl
  | bl b => cases h.bl'; exact .inl rfl
  | int b => cases h.int'; exact .inl rfl
  | str b => cases h.str'; exact .inl rfl
  | lst q xs => obtain ⟨a, _, _, e, _⟩ := h.ls; exact .inr ⟨⟨a, e⟩, fun e => ⟨by cases e <;> rfl, by cases e <;> rfl⟩⟩
  | tup xs => obtain ⟨a, _, e, _⟩ := h.tp; exact .inr ⟨⟨a, e⟩, fun e => ⟨by cases e <;> rfl, by cases e <;> rfl⟩⟩
  | st => exact .inr ⟨by cases h; exact ⟨_, rfl⟩, fun e => ⟨by cases e <;> rfl, by cases e <;> rfl⟩⟩
theorem scal_ofU {u v : U} {d e : D} (h : D.ofU u = some d) (k : D.ofU v = some e) : scalU u v = scalD d e ∧ (scalD d e = true → decide (u = v) = sameD d e) := by
  cases u <;> cases v <;> cases h <;> cases k <;> refine ⟨rfl, fun z => ?_⟩ <;> first | (simp only [sameD]; simp; done) | (simp only [sameD, decide_eq_decide, U.bl.injEq, U.int.injEq, U.str.injEq]; done) | (rename_i a b; cases a <;> cases b <;> rfl)
theorem scal_rep (hx : Rp s B m u d ns) (hy : Rp s B' m v e ns') : scalU u v = scalD d e ∧ (scalD d e = true → decide (u = v) = sameD d e) := by
  rcases hx.form with h | ⟨⟨a, rfl⟩, h⟩
  · rcases hy.form with k | ⟨⟨b, rfl⟩, k⟩
    · exact scal_ofU h k
    · have z := (k d).2
      exact ⟨by rw [z]; cases u <;> rfl, fun y => by rw [z] at y; cases y⟩
  · have z := (h e).1
    exact ⟨by rw [z]; cases v <;> rfl, fun y => by rw [z] at y; cases y⟩
theorem eq_rep (hx : Rp s B m u d ns) (hy : Rp s B' m v e ns') {b : Bool} (h : eqD d e = some b) : eqU u v m = some b := by
  obtain ⟨s1, s2⟩ := scal_rep hx hy
  unfold eqD at h
  unfold eqU
  cases q : scalD d e with
  | true =>
    rw [q, if_pos rfl] at h
    rw [s1, q, if_pos rfl, s2 q]
    exact h
  | false =>
    rw [q, if_neg Bool.false_ne_true] at h
    rw [s1, q, if_neg Bool.false_ne_true]
    cases h1 : datD 30 d with
    | none => rw [h1] at h; cases h
    | some p =>
      cases h2 : datD 30 e with
      | none => rw [h1, h2] at h; cases h
      | some p2 =>
        rw [h1, h2] at h
        rw [dat_rep _ _ _ _ _ hx h1, dat_rep _ _ _ _ _ hy h2]
        exact h
theorem isNon_rep (hx : Rp s B m u d ns) : decide (u = U.non) = isNonD d := by
  rcases hx.form with h | ⟨⟨a, rfl⟩, h⟩
  · cases u <;> cases h <;> rfl
  · cases d with
    | non => have z := (h .non).1; cases z
    | _ => rfl
theorem cmp_rep {o : Cp} (hx : Rp s B m u d ns) (hy : Rp s B' m v e ns') {b : Bool} (h : cmpD o d e = some b) : cmp2 o u v m = some b := by
  have ii : ∀ {p : Int → Int → Bool}, (match (generalizing := false) d, e with
      | .int i, .int j => some (p i j)
      | _, _ => none) = some b → ∃ i j, d = .int i ∧ e = .int j ∧ p i j = b := by
    intro p h
    cases d <;> cases e <;> first | (exact ⟨_, _, rfl, rfl, Option.some.inj h⟩) | cases h
  cases o with
  | eq => exact eq_rep hx hy h
  | ne =>
    simp only [cmpD, Option.map_eq_some_iff] at h
    obtain ⟨k, h1, h2⟩ := h
    show (eqU u v m).map _ = _
    rw [eq_rep hx hy h1, ← h2]
    rfl
  | lt =>
    obtain ⟨i, j, rfl, rfl, hb⟩ := ii (p := fun i j => decide (i < j)) h
    cases hx.int'; cases hy.int'
    exact congrArg some hb
  | le =>
    obtain ⟨i, j, rfl, rfl, hb⟩ := ii (p := fun i j => decide (i ≤ j)) h
    cases hx.int'; cases hy.int'
    exact congrArg some hb
  | gt =>
    obtain ⟨i, j, rfl, rfl, hb⟩ := ii (p := fun i j => decide (j < i)) h
    cases hx.int'; cases hy.int'
    exact congrArg some hb
  | ge =>
    obtain ⟨i, j, rfl, rfl, hb⟩ := ii (p := fun i j => decide (j ≤ i)) h
    cases hx.int'; cases hy.int'
    exact congrArg some hb
  | is =>
    cases e <;> first | cases h | skip
    cases hy.non'
    exact congrArg some (isNon_rep hx)
  | isn =>
    cases e <;> first | cases h | skip
    cases hy.non'
    exact congrArg (fun z => some (!z)) (isNon_rep hx)
  | isin => cases h
  | nin => cases h
theorem oQ_some {A : Type} {o : Option A} {Q : A → Prop} (h : oQ o Q) : ∃ a, o = some a ∧ Q a := by
  cases o with
  | none => exact h.elim
  | some a => exact ⟨a, rfl, h⟩
theorem ty_rep (hx : Rp s B m u d ns) {t : String} (h : tyD d = some t) : tyOf u m = some t := by
  cases d with
  | non => cases hx.non'; exact h
  | bl b => cases hx.bl'; exact h
  | int b => cases hx.int'; exact h
  | str b => cases hx.str'; exact h
  | lst q xs =>
    obtain ⟨a, us, _, rfl, h1, _⟩ := hx.ls
    cases h
    simp only [tyOf]
    rw [h1]
  | tup xs =>
    obtain ⟨a, us, rfl, h1, _⟩ := hx.tp
    cases h
    unfold tpOf at h1
    simp only [tyOf]
    cases q : m[a]? with
    | none => rw [q] at h1; cases h1
    | some o => rw [q] at h1; cases o <;> first | rfl | cases h1
  | st => cases h
theorem ints_rep : ∀ {us : List U} {ds : List D} {ns : List Nat} {is : List Int}, Rps s B m us ds ns → intsD ds = some is → intsU us = some is
  | _, _, _, _, .nil, h => h
  | u :: us, d :: ds, _, is, .cons a r, h => by
    cases d with
    | int i =>
      cases a
      simp only [intsD, Option.map_eq_some_iff] at h
      obtain ⟨l, h1, h2⟩ := h
      show (intsU us).map _ = _
      rw [ints_rep r h1, ← h2]
      rfl
    | _ => cases h
theorem bls_rep : ∀ {us : List U} {ds : List D} {ns : List Nat} {is : List Bool}, Rps s B m us ds ns → blsD ds = some is → blsU us = some is
  | _, _, _, _, .nil, h => h
  | u :: us, d :: ds, _, is, .cons a r, h => by
    cases d with
    | bl i =>
      cases a
      simp only [blsD, Option.map_eq_some_iff] at h
      obtain ⟨l, h1, h2⟩ := h
      show (blsU us).map _ = _
      rw [bls_rep r h1, ← h2]
      rfl
    | _ => cases h
end
end Py
set_option maxHeartbeats 1000000
/-! MINI PYTHON, part F4: the operations that make something. -/
namespace Py
open PySem

/-- what is known where a value is made: C is what others' lists are not, ns is what is at hand alone -/
structure HC (W : Wd) (B X : Nat → Prop) (m0 m : M) (C : Nat → Prop) (ns : List Nat) : Prop where
  bd : Bd W B m
  f : FrO W.s X m0 m
  inv : W.Inv m
  hC : ∀ a, BX B ns a → C a
  nd : ns.Nodup
  fr : ∀ a ∈ ns, X a ∨ m0.length ≤ a
  hs : W.s ∉ ns
section
variable {W : Wd} {B X C : Nat → Prop} {m m0 m1 m' : M} {u v : U} {d e : D} {us : List U} {ds : List D} {ns ns' : List Nat} {Q : DQ} {E : DX → Prop}
theorem HC.sub (h : HC W B X m0 m C ns) (k : ns'.Sublist ns) : HC W B X m0 m C ns' := ⟨h.bd, h.f, h.inv, fun a z => h.hC a (z.imp id fun y => k.subset y), h.nd.sublist k, fun a z => h.fr a (k.subset z), fun z => h.hs (k.subset z)⟩
theorem HC.nil (h : HC W B X m0 m C ns) : HC W B X m0 m C [] := h.sub (List.nil_sublist _)
/-- a value that is there -/
theorem HC.now (h : HC W B X m0 m C ns) (r : Rp W.s C m u d ns) (q : Q d) : GV W B X m0 Q u m := ⟨d, ns, r.weak h.hC, h.nd, h.fr, q, h.f, h.inv⟩
theorem HC.lst (h : HC W B X m0 m C ns) (r : Rps W.s C m us ds ns) (q : Q (.lst true ds)) : GV W B X m0 Q (.ref m.length) (m ++ [.lst us]) := by
  have e : (m ++ [MO.lst us])[m.length]? = some (.lst us) := by simp
  have nm : m.length ∉ ns := fun z => Nat.lt_irrefl _ (r.lt' _ z)
  refine ⟨_, m.length :: ns, .lt e (r.mv (fun i vs n z => ⟨fun y => ?_, ?_⟩) tpk_app fun i vs _ z => ?_), List.nodup_cons.mpr ⟨nm, h.nd⟩, fun a z => ?_, q, h.f.trans .refl (FrO.toO Fr.app), W.app _ _ h.inv⟩
  · rcases y with y | y
    · exact n (h.hC i (.inl y))
    · rcases List.mem_cons.mp y with y | y
      · subst y; exact Nat.lt_irrefl _ (get_lt z)
      · exact n (h.hC i (.inr y))
  · rw [List.getElem?_append_left (get_lt z)]; exact z
  · rw [List.getElem?_append_left (get_lt z)]; exact z
  · rcases List.mem_cons.mp z with y | y
    · subst y; exact .inr h.f.len
    · exact h.fr a y
theorem HC.tup (h : HC W B X m0 m C ns) (r : Rps W.s C m us ds ns) (q : Q (.tup ds)) : GV W B X m0 Q (.ref m.length) (m ++ [.tup us]) := by
  have e : tpOf (m ++ [MO.tup us]) m.length = some us := by
    unfold tpOf
    rw [show (m ++ [MO.tup us])[m.length]? = some (.tup us) by simp]
  refine ⟨_, ns, .tup e (r.mv (fun i vs n z => ⟨fun y => n (h.hC i y), ?_⟩) tpk_app fun i vs _ z => ?_), h.nd, h.fr, q, h.f.trans .refl (FrO.toO Fr.app), W.app _ _ h.inv⟩
  · rw [List.getElem?_append_left (get_lt z)]; exact z
  · rw [List.getElem?_append_left (get_lt z)]; exact z
theorem bin_rep {n1 n2 : List Nat} {o : Op} (h : HC W B X m0 m C (n1 ++ n2)) (hx : Rp W.s C m u d n1) (hy : Rp W.s C m v e n2) (q : binD o d e Q) : (bin2 o u v m).sat (GV W B X m0 Q) (GX W B X m0 E) := by
  cases d with
  | int i =>
    cases e with
    | int j =>
      cases hx.int'; cases hy.int'
      simp only [binD] at q
      simp only [bin2]
      cases z : opI o i j with
      | none => rw [z] at q; exact q.elim
      | some k => rw [z] at q; exact h.nil.now (.int k) q
    | _ => exact q.elim
  | str i =>
    cases e with
    | str j =>
      cases hx.str'; cases hy.str'
      cases o with
      | add =>
        simp only [bin2]
        rw [if_pos q.1]
        exact h.nil.now (.str _) q.2
      | _ => exact q.elim
    | _ => exact q.elim
  | lst f1 xs =>
    cases e with
    | lst f2 ys =>
      obtain ⟨a, us, _, rfl, h1, h2, s1⟩ := hx.ls
      obtain ⟨b, vs, _, rfl, k1, k2, s2⟩ := hy.ls
      cases o with
      | add =>
        simp only [bin2]
        rw [h1, k1]
        simp only
        rw [h2.len, k2.len, if_pos q.1]
        exact (h.sub (s1.append s2)).lst (h2.app k2) q.2
      | _ => exact q.elim
    | _ => exact q.elim
  | _ => cases e <;> exact q.elim
theorem atI_rep {i : Int} (r : Rps W.s C m us ds ns) (h : L2.atI ds i = some d) : ∃ u ns', L2.atI us i = some u ∧ Rp W.s C m u d ns' ∧ ns'.Sublist ns := by
  unfold L2.atI at *
  rw [Option.bind_eq_some_iff] at h
  obtain ⟨j, h1, h2⟩ := h
  obtain ⟨u, ns', k1, k2, k3⟩ := r.at' h2
  exact ⟨u, ns', by rw [r.len, h1]; exact k1, k2, k3⟩
theorem idx_rep {n1 n2 : List Nat} (h : HC W B X m0 m C n1) (hx : Rp W.s C m u d n1) (hy : Rp W.s C m v e n2) (q : idxD d e Q) : (idx2 u v m).sat (GV W B X m0 Q) (GX W B X m0 E) := by
  cases e with
  | int i =>
    cases hy.int'
    cases d with
    | lst f xs =>
      obtain ⟨a, us, _, rfl, h1, h2, s1⟩ := hx.ls
      obtain ⟨d, h3, h4⟩ := oQ_some (show oQ (L2.atI xs i) Q from q)
      obtain ⟨w, _, k1, k2, k3⟩ := atI_rep h2 h3
      simp only [idx2]
      rw [lsOf_seq (ls_of h1)]
      simp only
      rw [k1]
      exact (h.sub (k3.trans s1)).now k2 h4
    | tup xs =>
      obtain ⟨a, us, rfl, h1, h2⟩ := hx.tp
      obtain ⟨d, h3, h4⟩ := oQ_some (show oQ (L2.atI xs i) Q from q)
      obtain ⟨w, _, k1, k2, k3⟩ := atI_rep h2 h3
      simp only [idx2]
      rw [tpOf_seq h1]
      simp only
      rw [k1]
      exact (h.sub k3).now k2 h4
    | str z =>
      cases hx.str'
      obtain ⟨g1, g2⟩ := (show z.length ≤ SL ∧ oQ (L2.atI z.cps.toList i) (fun c => Q (.str ⟨#[c]⟩)) from q)
      obtain ⟨c, h3, h4⟩ := oQ_some g2
      simp only [idx2]
      rw [if_pos g1, h3]
      exact h.nil.now (.str _) h4
    | _ => exact q.elim
  | _ => cases d <;> exact q.elim
theorem slc_rep {l k : Option Int} (h : HC W B X m0 m C ns) (hx : Rp W.s C m u d ns) (q : slcD d l k Q) : (slc2 u l k m).sat (GV W B X m0 Q) (GX W B X m0 E) := by
  cases d with
  | lst f xs =>
    obtain ⟨a, us, _, rfl, h1, h2, s1⟩ := hx.ls
    simp only [slc2]
    rw [ls_of h1]
    obtain ⟨n1, g1, s2⟩ := h2.dropN (HT.sIx xs.length 0 l)
    obtain ⟨n2, g2, s3⟩ := g1.takeN (HT.sIx xs.length xs.length k - HT.sIx xs.length 0 l)
    have z := (h.sub ((s3.trans s2).trans s1)).lst (us := cutU us l k) (ds := cutD xs l k) (by unfold cutU cutD; rw [h2.len]; exact g2) q
    exact z
  | _ => exact q.elim
theorem blt_rep {f : Bl} (h : HC W B X m0 m C ns) (hx : Rps W.s C m us ds ns) (q : bltD f ds Q) : (blt2 f us m).sat (GV W B X m0 Q) (GX W B X m0 E) := by
  cases hx with
  | nil => cases f <;> exact q.elim
  | @cons u d us ds n1 n2 hu r =>
    cases r with
    | nil =>
      have h1 := h.sub (List.sublist_append_left n1 [])
      have h0 := h.nil
      cases f with
      | len =>
        cases d with
        | str s => cases hu.str'; simp only [blt2]; rw [if_pos q.1]; exact h0.now (.int _) q.2
        | lst _ xs =>
          obtain ⟨a, us, _, rfl, h1, h2, _⟩ := hu.ls
          simp only [blt2]
          rw [lsOf_seq (ls_of h1)]
          simp only
          rw [h2.len]
          exact h0.now (.int _) q
        | tup xs =>
          obtain ⟨a, us, rfl, h1, h2⟩ := hu.tp
          simp only [blt2]
          rw [tpOf_seq h1]
          simp only
          rw [h2.len]
          exact h0.now (.int _) q
        | _ => exact q.elim
      | int =>
        cases d with
        | int i => cases hu.int'; exact h0.now (.int _) q
        | bl i => cases hu.bl'; exact h0.now (.int _) q
        | _ => exact q.elim
      | str =>
        cases d with
        | int i => cases hu.int'; simp only [blt2]; rw [if_pos q.1]; exact h0.now (.str _) q.2
        | _ => exact q.elim
      | list =>
        cases d with
        | lst _ xs =>
          obtain ⟨a, us, _, rfl, h1', h2, s1⟩ := hu.ls
          simp only [blt2]
          rw [lsOf_seq (ls_of h1')]
          exact (h1.sub s1).lst h2 q
        | tup xs =>
          obtain ⟨a, us, rfl, h1', h2⟩ := hu.tp
          simp only [blt2]
          rw [tpOf_seq h1']
          exact h1.lst h2 q
        | _ => exact q.elim
      | tuple =>
        cases d with
        | lst _ xs =>
          obtain ⟨a, us, _, rfl, h1', h2, s1⟩ := hu.ls
          simp only [blt2]
          rw [h1']
          exact (h1.sub s1).tup h2 q
        | tup xs =>
          have R := hu
          obtain ⟨a, us, rfl, h1', h2⟩ := hu.tp
          simp only [blt2]
          unfold tpOf at h1'
          cases z : m[a]? with
          | none => rw [z] at h1'; cases h1'
          | some o => rw [z] at h1'; cases o <;> first | exact h1.now R q | cases h1'
        | _ => exact q.elim
      | sum =>
        cases d with
        | lst _ xs =>
          obtain ⟨a, us, _, rfl, h1, h2, _⟩ := hu.ls
          obtain ⟨ns, h3, h4⟩ := oQ_some (show oQ (intsD xs) _ from q)
          simp only [blt2]
          rw [ls_of h1]
          simp only
          rw [ints_rep h2 h3]
          exact h0.now (.int _) h4
        | _ => exact q.elim
      | any =>
        cases d with
        | lst _ xs =>
          obtain ⟨a, us, _, rfl, h1, h2, _⟩ := hu.ls
          obtain ⟨ns, h3, h4⟩ := oQ_some (show oQ (blsD xs) _ from q)
          simp only [blt2]
          rw [ls_of h1]
          simp only
          rw [bls_rep h2 h3]
          exact h0.now (.bl _) h4
        | _ => exact q.elim
      | all =>
        cases d with
        | lst _ xs =>
          obtain ⟨a, us, _, rfl, h1, h2, _⟩ := hu.ls
          obtain ⟨ns, h3, h4⟩ := oQ_some (show oQ (blsD xs) _ from q)
          simp only [blt2]
          rw [ls_of h1]
          simp only
          rw [bls_rep h2 h3]
          exact h0.now (.bl _) h4
        | _ => exact q.elim
      | abs =>
        cases d with
        | int i => cases hu.int'; exact h0.now (.int _) q
        | _ => exact q.elim
      | max => cases d <;> exact q.elim
      | min => cases d <;> exact q.elim
    | @cons v e us ds _ _ hv r =>
      cases r with
      | nil =>
        cases f with
        | max =>
          cases d <;> cases e <;> first | exact q.elim | skip
          cases hu.int'; cases hv.int'
          exact h.nil.now (.int _) q
        | min =>
          cases d <;> cases e <;> first | exact q.elim | skip
          cases hu.int'; cases hv.int'
          exact h.nil.now (.int _) q
        | _ => cases d <;> exact q.elim
      | cons hw r => cases f <;> cases d <;> first | exact q.elim | (cases e <;> exact q.elim)
end
end Py
set_option maxHeartbeats 4000000
/-! MINI PYTHON, part F5: slots that are read, walks, comprehension clauses. -/
namespace Py
open PySem

/-! ### slots; V: those that may be read -/
structure EV (W : Wd) (B : Nat → Prop) (V : List Nat) (m : M) (r : Env) (ρ : DE) : Prop where
  len : r.length = ρ.length
  val : ∀ (i : Nat) (d : D), i ∈ V → ρ[i]? = some (some d) → ∃ u, r[i]? = some (some u) ∧ Rp W.s B m u d.sh []
section
variable {W : Wd} {B B' : Nat → Prop} {V V' : List Nat} {m m' m0 m1 : M} {r : Env} {ρ ρ1 : DE} {u v : U} {d e : D} {us : List U} {ds : List D} {ns : List Nat} {Q : DQ} {E : DX → Prop}
theorem EV.fr (hB : B W.s) (f : Fr W.s m m') (h : EV W B V m r ρ) : EV W B V m' r ρ := ⟨h.len, fun i d hi q => let ⟨u, h1, h2⟩ := h.val i d hi q; ⟨u, h1, h2.fr0 hB f⟩⟩
theorem EV.weak (k : ∀ a, B' a → B a) (h : EV W B V m r ρ) : EV W B' V m r ρ := ⟨h.len, fun i d hi q => let ⟨u, h1, h2⟩ := h.val i d hi q; ⟨u, h1, h2.weak k⟩⟩
theorem EV.sub (k : ∀ a, B' a → B a ∨ m.length ≤ a) (h : EV W B V m r ρ) : EV W B' V m r ρ := ⟨h.len, fun i d hi q => let ⟨u, h1, h2⟩ := h.val i d hi q; ⟨u, h1, h2.sub k⟩⟩
theorem EV.vis (k : ∀ i, i ∈ V' → i ∈ V) (h : EV W B V m r ρ) : EV W B V' m r ρ := ⟨h.len, fun i d hi q => h.val i d (k i hi) q⟩
theorem EV.set {i : Nat} (h : EV W B V m r ρ) (hu : Rp W.s B m u d []) : EV W B V m (r.set i (some u)) (ρ.set i (some d)) := by
  refine ⟨by simp [h.len], fun j e hj' q => ?_⟩
  by_cases hj : i = j
  · subst hj
    by_cases hi : i < ρ.length
    · rw [List.getElem?_set_self hi] at q
      cases q
      exact ⟨u, by rw [List.getElem?_set_self (h.len ▸ hi)], hu.sh (fun _ z => z) (by simp)⟩
    · rw [List.getElem?_eq_none (by simpa using hi)] at q
      cases q
  · rw [List.getElem?_set_ne hj] at q
    rw [List.getElem?_set_ne hj]
    exact h.val j e hj' q
theorem EV.unset {i : Nat} (h : EV W B V m r ρ) : EV W B V m (r.set i none) (ρ.set i none) := by
  refine ⟨by simp [h.len], fun j e hj' q => ?_⟩
  by_cases hj : i = j
  · subst hj
    by_cases hi : i < ρ.length
    · rw [List.getElem?_set_self hi] at q
      cases q
    · rw [List.getElem?_eq_none (by simpa using hi)] at q
      cases q
  · rw [List.getElem?_set_ne hj] at q
    rw [List.getElem?_set_ne hj]
    exact h.val j e hj' q
theorem EV.wipe (h : EV W B V m r ρ) : ∀ is : List Nat, EV W B V m (wipeU r is) (wipeD ρ is)
  | [] => h
  | i :: is => (h.wipe is).unset
theorem Rps.nil_cons' {s : Nat} (h : Rps s B m (u :: us) (d :: ds) ns) (e : ns = []) : Rp s B m u d [] ∧ Rps s B m us ds [] := by
  cases h with
  | cons a r =>
    have z := List.append_eq_nil_iff.mp e
    rw [z.1] at a
    rw [z.2] at r
    exact ⟨a, r⟩
theorem Rps.nil_cons {s : Nat} (h : Rps s B m (u :: us) (d :: ds) []) : Rp s B m u d [] ∧ Rps s B m us ds [] := h.nil_cons' rfl
theorem setS_rep : ∀ {is : List Nat} {us : List U} {ds : List D} {r : Env} {ρ ρ1 : DE}, EV W B V m r ρ → Rps W.s B m us ds [] → setD ρ is ds = some ρ1 → ∃ r1, setS r is us = some r1 ∧ EV W B V m r1 ρ1
  | [], [], [], r, ρ, ρ1, h, _, e => ⟨r, rfl, by cases e; exact h⟩
  | i :: is, u :: us, d :: ds, r, ρ, ρ1, h, k, e => setS_rep (is := is) (us := us) (ds := ds) (r := r.set i (some u)) (ρ := ρ.set i (some d)) (h.set k.nil_cons.1) k.nil_cons.2 e
  | [], _ :: _, _ :: _, _, _, _, _, _, e => by cases e
  | _ :: _, [], [], _, _, _, _, _, e => by cases e
  | _, [], _ :: _, _, _, _, _, k, _ => nomatch k
  | _, _ :: _, [], _, _, _, _, k, _ => nomatch k
theorem tgt_rep {tg : Tg} (h : EV W B V m r ρ) (k : Rps W.s B m us ds []) (e : tgtD tg ds ρ = some ρ1) : ∃ r1, asgT tg us r m = .ok r1 m ∧ EV W B V m r1 ρ1 := by
  cases tg with
  | nm i =>
    match us, ds, k, e with
    | [u], [d], k, e => cases e; exact ⟨_, rfl, h.set k.nil_cons.1⟩
    | [], [], _, e => cases e
    | _ :: _ :: _, _ :: _ :: _, _, e => cases e
    | [], _ :: _, k, _ => exact nomatch k
    | _ :: _, [], k, _ => exact nomatch k
    | [_], _ :: _ :: _, k, _ => exact nomatch k.nil_cons.2
    | _ :: _ :: _, [_], k, _ => exact nomatch k.nil_cons.2
  | tp is =>
    match us, ds, k, e with
    | [], [], _, e => cases e
    | [], _ :: _, k, _ => exact nomatch k
    | _ :: _, [], k, _ => exact nomatch k
    | [_], _ :: _ :: _, k, _ => exact nomatch k.nil_cons.2
    | _ :: _ :: _, [_], k, _ => exact nomatch k.nil_cons.2
    | [u], [d], k, e =>
      cases d with
      | tup xs =>
        obtain ⟨a, us, rfl, ht, rr⟩ := k.nil_cons.1.tp
        obtain ⟨r1, h1, h2⟩ := setS_rep h rr e
        refine ⟨r1, ?_, h2⟩
        simp only [asgT]
        rw [ht]
        simp only
        rw [h1]
      | _ => cases e
    | [u, v], [d, d2], k, e =>
      have e' : setD ρ is [d, d2] = some ρ1 := by
        cases d <;> exact e
      obtain ⟨r1, h1, h2⟩ := setS_rep h k e'
      refine ⟨r1, ?_, h2⟩
      have : asgT (.tp is) [u, v] r m = (match setS r is [u, v] with
        | some r' => .ok r' m
        | none => .stuck) := by cases u <;> rfl
      rw [this, h1]
    | [_, _], _ :: _ :: _ :: _, k, _ => exact nomatch k.nil_cons.2.nil_cons.2
    | _ :: _ :: _ :: _, [_, _], k, _ => exact nomatch k.nil_cons.2.nil_cons.2
    | _ :: _ :: _ :: _, _ :: _ :: _ :: _, _, e => exact absurd e (by unfold tgtD; simp)

/-! ### walks -/
inductive IRep (W : Wd) (B : Nat → Prop) (m : M) : IT → List (List D) → Prop where
  | rng (lo : Int) (n : Nat) : IRep W B m (.rng lo n) (rngD lo n)
  | ls {a : Nat} {xs : List U} {ds : List D} (h : m[a]? = some (.lst xs)) (k : Rps W.s B m xs ds []) : IRep W B m (.sq true a xs) (ds.map fun d => [d])
  | tp {a : Nat} {xs : List U} {ds : List D} (h : tpOf m a = some xs) (k : Rps W.s B m xs ds []) : IRep W B m (.sq false a xs) (ds.map fun d => [d])
  | en {a : Nat} {xs : List U} {ds : List D} (h : m[a]? = some (.lst xs)) (k : Rps W.s B m xs ds []) : IRep W B m (.en a xs) (enuD 0 ds)
  | zp {a b : Nat} {xs ys : List U} {ds es : List D} (h : m[a]? = some (.lst xs)) (h2 : m[b]? = some (.lst ys)) (k : Rps W.s B m xs ds []) (k2 : Rps W.s B m ys es []) : IRep W B m (.zp a b xs ys) (zipD ds es)
/-- the lists that a walk looks at -/
def IT.at_ : IT → Nat → Prop
  | .rng _ _, _ => False
  | .sq true a _, i => i = a
  | .sq false _ _, _ => False
  | .en a _, i => i = a
  | .zp a b _ _, i => i = a ∨ i = b
theorem IRep.ok {t : IT} {xs : List (List D)} (h : IRep W B m t xs) (f : ∀ i us, t.at_ i → m[i]? = some (.lst us) → m'[i]? = some (.lst us)) (ft : TpK m m') : t.ok m' = true := by
  cases h with
  | rng lo n => rfl
  | ls h k => simp [IT.ok, ls_of (f _ _ rfl h)]
  | tp h k => simp [IT.ok, ft _ _ h]
  | en h k => simp [IT.ok, ls_of (f _ _ rfl h)]
  | zp h h2 k k2 => simp [IT.ok, ls_of (f _ _ (.inl rfl) h), ls_of (f _ _ (.inr rfl) h2)]
inductive Items (s : Nat) (B : Nat → Prop) (m : M) : List (List U) → List (List D) → Prop where
  | nil : Items s B m [] []
  | cons {us : List U} {ds : List D} {xs : List (List U)} {ys : List (List D)} (h : Rps s B m us ds []) (r : Items s B m xs ys) : Items s B m (us :: xs) (ds :: ys)
theorem Items.mv {s : Nat} (k : ∀ {us ds}, Rps s B m us ds [] → Rps s B' m' us ds []) : ∀ {xs : List (List U)} {ys : List (List D)}, Items s B m xs ys → Items s B' m' xs ys
  | _, _, .nil => .nil
  | _, _, .cons h r => .cons (k h) (r.mv k)
theorem Rps.cons0 {s : Nat} (a : Rp s B m u d []) (r : Rps s B m us ds []) : Rps s B m (u :: us) (d :: ds) [] := Rps.cons (ns := []) (ns' := []) a r
theorem items_map {s : Nat} : ∀ {us : List U} {ds : List D}, Rps s B m us ds [] → Items s B m (us.map fun x => [x]) (ds.map fun d => [d])
  | [], [], _ => .nil
  | [], _ :: _, h => nomatch h
  | _ :: _, [], h => nomatch h
  | u :: us, d :: ds, h => .cons (.cons0 h.nil_cons.1 .nil) (items_map h.nil_cons.2)
theorem items_rng {s : Nat} : ∀ (n : Nat) (lo : Int), Items s B m (rngF lo n) (rngD lo n)
  | 0, _ => .nil
  | n + 1, lo => .cons (.cons0 (.int lo) .nil) (items_rng n (lo + 1))
theorem items_enu : ∀ {us : List U} {ds : List D} (k : Nat), Rps W.s B m us ds [] → Items W.s B m (enuF k us) (enuD k ds)
  | [], [], _, _ => .nil
  | [], _ :: _, _, h => nomatch h
  | _ :: _, [], _, h => nomatch h
  | u :: us, d :: ds, k, h => .cons (.cons0 (.int _) (.cons0 h.nil_cons.1 .nil)) (items_enu (k + 1) h.nil_cons.2)
theorem items_zip : ∀ {us vs : List U} {ds es : List D}, Rps W.s B m us ds [] → Rps W.s B m vs es [] → Items W.s B m (zipF us vs) (zipD ds es)
  | [], _, [], _, _, _ => .nil
  | _ :: _, [], _ :: _, [], _, _ => .nil
  | u :: us, v :: vs, d :: ds, e :: es, h, k => .cons (.cons0 h.nil_cons.1 (.cons0 k.nil_cons.1 .nil)) (items_zip h.nil_cons.2 k.nil_cons.2)
  | [], _, _ :: _, _, h, _ => nomatch h
  | _ :: _, _, [], _, h, _ => nomatch h
  | _ :: _, [], _ :: _, _ :: _, _, k => nomatch k
  | _ :: _, _ :: _, _ :: _, [], _, k => nomatch k
theorem IRep.items {t : IT} {xs : List (List D)} (h : IRep W B m t xs) : Items W.s B m t.items xs := by
  cases h with
  | rng lo n => exact items_rng _ _
  | ls h k => exact items_map k
  | tp h k => exact items_map k
  | en h k => exact items_enu 0 k
  | zp h h2 k k2 => exact items_zip k k2
/-! ### a comprehension's clause -/
/-- nothing is changed but the store and the list that grows -/
abbrev FrD (s p : Nat) (m m' : M) : Prop := FrO s (fun i => i = p) m m'
theorem FrD.trans {s p : Nat} {m2 : M} (a : FrD s p m m1) (b : FrD s p m1 m2) : FrD s p m m2 := FrO.trans a .refl b
theorem Rps.frD {p : Nat} (hB : B W.s) (hp : B p) (f : FrD W.s p m m') (hn : ∀ a ∈ ns, a ≠ W.s ∧ a ≠ p) (h : Rps W.s B m us ds ns) : Rps W.s B m' us ds ns := h.mv (fun i o n q => ⟨n, f.keep i o (fun z => n (z ▸ hB)) (fun z => n (z ▸ hp)) q⟩) f.tp fun i o k q => f.keep i o (hn i k).1 (hn i k).2 q
theorem Rp.frD {p : Nat} (hB : B W.s) (hp : B p) (f : FrD W.s p m m') (hn : ∀ a ∈ ns, a ≠ W.s ∧ a ≠ p) (h : Rp W.s B m u d ns) : Rp W.s B m' u d ns := h.mv (fun i o n q => ⟨n, f.keep i o (fun z => n (z ▸ hB)) (fun z => n (z ▸ hp)) q⟩) f.tp fun i o k q => f.keep i o (hn i k).1 (hn i k).2 q
theorem EV.frD {p : Nat} (hB : B W.s) (hp : B p) (f : FrD W.s p m m') (h : EV W B V m r ρ) : EV W B V m' r ρ := ⟨h.len, fun i d hi q => let ⟨u, h1, h2⟩ := h.val i d hi q; ⟨u, h1, h2.frD hB hp f (by simp)⟩⟩
/-- the list that grows -/
def BA (B : Nat → Prop) (p : Nat) (ns : List Nat) : Nat → Prop := BX (BX B [p]) ns
structure AccI (W : Wd) (B : Nat → Prop) (p : Nat) (m : M) (us : List U) (ds : List D) (ns : List Nat) : Prop where
  at_ : m[p]? = some (.lst us)
  rep : Rps W.s (BA B p ns) m us ds ns
  nd : ns.Nodup
  fr : ∀ a ∈ ns, p < a
def Acc (W : Wd) (B : Nat → Prop) (p : Nat) (ns0 : List Nat) (m0 : M) (Q : List D → Prop) : Unit → M → Prop := fun _ m => ∃ us ds ns, AccI W B p m us ds ns ∧ (∀ a ∈ ns, a ∈ ns0 ∨ m0.length ≤ a) ∧ Q ds ∧ FrD W.s p m0 m ∧ W.Inv m
theorem Acc.up {p : Nat} {Q : List D → Prop} {n0 n1 : List Nat} (f : FrD W.s p m m1) (k : ∀ a ∈ n1, a ∈ n0 ∨ m.length ≤ a) (h : Acc W B p n1 m1 Q () m') : Acc W B p n0 m Q () m' := by
  obtain ⟨us, ds, ns, h1, h2, h3, h4, h5⟩ := h
  exact ⟨us, ds, ns, h1, fun a z => (h2 a z).elim (k a) fun y => .inr (Nat.le_trans f.len y), h3, f.trans h4, h5⟩
theorem BA.sub {p : Nat} {n0 n1 : List Nat} (k : ∀ a ∈ n1, a ∈ n0 ∨ m.length ≤ a) : ∀ a, BA B p n1 a → BA B p n0 a ∨ m.length ≤ a := fun a z => z.elim (fun y => .inl (.inl y)) fun y => (k a y).imp .inr id
theorem BA.s {p : Nat} (hs : B W.s) : BA B p ns W.s := .inl (.inl hs)
theorem BA.p {p : Nat} : BA B p ns p := .inl (.inr (List.mem_cons_self ..))
theorem lc_sound {t : IT} {tg : Tg} {r0 : Env} {ρ0 : DE} {turn : Env → M → R Unit} {turnD : DE → List D → (List D → Prop) → Prop} {p : Nat} {mS : M} (hs : B W.s)
    (hturn : ∀ (r1 : Env) (ρ1 : DE) (m : M) (us : List U) (acc : List D) (ns : List Nat) (K : List D → Prop), EV W (BA B p ns) V m r1 ρ1 → W.Inv m → FrD W.s p mS m → AccI W B p m us acc ns → turnD ρ1 acc K → (turn r1 m).sat (Acc W B p ns m K) (fun _ _ => False))
    (hok : ∀ m, FrD W.s p mS m → t.ok m = true) : ∀ {xs : List (List U)} {ys : List (List D)} {m : M} {us : List U} {acc : List D} {ns : List Nat} {Q : List D → Prop}, FrD W.s p mS m → W.Inv m → EV W (BA B p ns) V m r0 ρ0 → Items W.s (BA B p ns) m xs ys →
      AccI W B p m us acc ns → lcD tg ρ0 turnD ys acc Q → (lcL t tg r0 turn xs m).sat (Acc W B p ns m Q) (fun _ _ => False)
  | _, _, m, us, acc, ns, Q, f, I, hE, .nil, h1, q => by
    unfold lcL
    rw [if_pos (hok m f)]
    exact ⟨us, acc, ns, h1, fun _ z => .inl z, q, .refl, I⟩
  | _, _, m, us, acc, ns, Q, f, I, hE, .cons hx hr, h1, q => by
    unfold lcL
    rw [if_pos (hok m f)]
    obtain ⟨ρ1, e1, q1⟩ := oQ_some q
    obtain ⟨r1, a1, a2⟩ := tgt_rep hE hx e1
    rw [a1]
    refine sat_bind ?_
    show (R.bind (turn r1 m) _).sat _ _
    refine sat_bind (sat_mono (hturn r1 ρ1 m us acc ns _ a2 I f h1 q1) (fun _ m1 hm => ?_) fun _ _ z => z)
    obtain ⟨us1, acc1, ns1, b1, b2, b3, b4, b5⟩ := hm
    exact sat_mono (lc_sound hs hturn hok (f.trans b4) b5 ((hE.sub (BA.sub b2)).frD (BA.s hs) BA.p b4) (hr.mv fun z => (z.sub (BA.sub b2)).frD (BA.s hs) BA.p b4 (by simp)) b1 b3) (fun _ m2 z => Acc.up b4 b2 z) fun _ _ z => z
end
end Py
set_option maxHeartbeats 4000000
/-! MINI PYTHON, part F6: the theorem for expressions. -/
namespace Py
open PySem
theorem ba2 {a b : Bool} (h : (a && b) = true) : a = true ∧ b = true := Bool.and_eq_true_iff.mp h
theorem inL {a b V : List Nat} (h : ∀ i ∈ a ++ b, i ∈ V) : (∀ i ∈ a, i ∈ V) ∧ (∀ i ∈ b, i ∈ V) := ⟨fun i z => h i (List.mem_append_left _ z), fun i z => h i (List.mem_append_right _ z)⟩
section
variable {W : Wd} {B B' X C : Nat → Prop} {V : List Nat} {m m' m0 m1 m2 : M} {r : Env} {ρ ρ1 : DE} {u v : U} {d e : D} {us : List U} {ds : List D} {ns : List Nat} {Q Q1 : DQ} {E : DX → Prop}
theorem RepX.weak {s : Nat} {B B' : Nat → Prop} {e : Ex} {y : DX} (k : ∀ a, B' a → B a) (h : RepX s B m e y) : RepX s B' m e y := by
  obtain ⟨h1, h2⟩ := h
  refine ⟨h1, ?_⟩
  split at h2
  · trivial
  · exact ⟨h2.1, h2.2.mv (fun i o n q => ⟨fun z => n (k i z), q⟩) (fun _ _ z => z) fun _ _ _ z => z⟩
  · exact h2.elim
theorem GX.up {x : Ex} (f : FrO W.s X m m1) (k : ∀ a, B' a → B a) (h : GX W B X m1 E x m') : GX W B' X m E x m' := by
  obtain ⟨d, h1, h2, h3, h4⟩ := h
  exact ⟨d, h1.weak k, h2, f.trans .refl h3, h4⟩
theorem sat_upX {A : Type} {QQ : A → M → Prop} (f : FrO W.s X m m1) (k : ∀ a, B' a → B a) {x : R A} (h : x.sat QQ (GX W B X m1 E)) : x.sat QQ (GX W B' X m E) := sat_mono h (fun _ _ z => z) fun _ _ z => z.up f k
theorem GV.up (f : FrO W.s X m m1) (h : GV W B X m1 Q u m') : GV W B X m Q u m' := by
  obtain ⟨d, ns, h1, h2, h3, h4, h5, h6⟩ := h
  exact ⟨d, ns, h1, h2, fun a z => (h3 a z).imp id fun y => Nat.le_trans f.len y, h4, f.trans .refl h5, h6⟩
/-- a value that lives on: at a later memory, beside others -/
theorem Rp.on {n1 : List Nat} (hB : B W.s) (hs : W.s ∉ n1) (h : Rp W.s (BX B n1) m1 u d n1) (f : Fr W.s m1 m2) (k : ∀ a, C a → BX B n1 a ∨ m1.length ≤ a) (hC : C W.s) : Rp W.s C m2 u d n1 := (h.sub k).fr hC f hs
theorem fresh_ne (hB : Bd W B m) (h : ∀ a ∈ ns, m.length ≤ a) : W.s ∉ ns := fun z => Nat.lt_irrefl _ (Nat.lt_of_lt_of_le (hB.lt _ hB.st) (h _ z))
theorem fresh_nb (hB : Bd W B m) (h : ∀ a ∈ ns, m.length ≤ a) : ∀ a ∈ ns, ¬ B a := fun a k z => Nat.lt_irrefl _ (Nat.lt_of_lt_of_le (hB.lt _ z) (h _ k))
theorem nd_app {n1 n2 : List Nat} {k : Nat} (h1 : n1.Nodup) (h2 : n2.Nodup) (l1 : ∀ a ∈ n1, a < k) (l2 : ∀ a ∈ n2, k ≤ a) : (n1 ++ n2).Nodup := List.nodup_append.mpr ⟨h1, h2, fun a ha b hb e => Nat.lt_irrefl _ (Nat.lt_of_lt_of_le (l1 a ha) (e ▸ l2 b hb))⟩
theorem noF {m : M} {ns : List Nat} (h : ∀ a ∈ ns, nX a ∨ m.length ≤ a) : ∀ a ∈ ns, m.length ≤ a := fun a z => (h a z).elim (fun y => y.elim) id
/-- first a value -/
theorem GV.then {A : Type} {x : R U} {f : U → M → R A} {QQ : A → M → Prop} (hB : Bd W B m) (h : x.sat (GV W B nX m Q1) (GX W B nX m E))
    (k : ∀ u m1 d ns, Rp W.s (BX B ns) m1 u d ns → ns.Nodup → (∀ a ∈ ns, m.length ≤ a) → Q1 d → Fr W.s m m1 → Bd W B m1 → W.Inv m1 → (f u m1).sat QQ (GX W B nX m E)) : (x.bind f).sat QQ (GX W B nX m E) :=
  sat_bind (sat_mono h (fun u m1 ⟨d, ns, h1, h2, h3, h4, h5, h6⟩ => k u m1 d ns h1 h2 (noF h3) h4 h5 (hB.mono h5.len) h6) fun _ _ z => z)
theorem hc1 (hB : Bd W B m) (h1 : Rp W.s (BX B ns) m1 u d ns) (h2 : ns.Nodup) (h3 : ∀ a ∈ ns, m.length ≤ a) (f : Fr W.s m m1) (I : W.Inv m1) : HC W B nX m m1 (BX B ns) ns := ⟨hB.mono f.len, f, I, fun _ z => z, h2, fun a z => .inr (h3 a z), fresh_ne hB h3⟩
theorem hc0 (hB : Bd W B m) (f : Fr W.s m m1) (I : W.Inv m1) : HC W B nX m m1 B [] := ⟨hB.mono f.len, f, I, fun _ z => z.elim id fun y => (by cases y), .nil, fun a z => (by cases z), fun z => (by cases z)⟩
theorem EV.bn (hB : Bd W B m) (f : Fr W.s m m1) (h3 : ∀ a ∈ ns, m.length ≤ a) (hE : EV W B V m r ρ) : EV W (BX B ns) V m1 r ρ := (hE.sub (B' := BX B ns) fun a z => z.imp id (h3 a)).fr (.inl hB.st) f
/-- two values, one behind the other -/
theorem two {A : Type} {x : R U} {y : U → M → R U} {f : U → U → M → R A} {QQ : A → M → Prop} {Q2 : D → D → Prop} (hB : Bd W B m) {Qa : DQ} (ha : x.sat (GV W B nX m Qa) (GX W B nX m E))
    (hb : ∀ u m1 d ns, Fr W.s m m1 → Bd W (BX B ns) m1 → W.Inv m1 → (∀ a ∈ ns, m.length ≤ a) → Qa d → (y u m1).sat (GV W (BX B ns) nX m1 (Q2 d)) (GX W (BX B ns) nX m1 E))
    (k : ∀ u v m2 d e n1 n2 C, HC W B nX m m2 C (n1 ++ n2) → Rp W.s C m2 u d n1 → Rp W.s C m2 v e n2 → Q2 d e → (f u v m2).sat QQ (GX W B nX m E)) :
    (x.bind fun u m1 => (y u m1).bind fun v m2 => f u v m2).sat QQ (GX W B nX m E) := by
  refine GV.then hB ha fun u m1 d n1 h1 h2 h3 q1 f1 hB1 I1 => ?_
  have hB1' : Bd W (BX B n1) m1 := hB1.bn h1.lt'
  refine sat_bind (sat_mono (hb u m1 d n1 f1 hB1' I1 h3 q1) (fun v m2 ⟨e, n2, g1, g2, g3, q2, f2, I2⟩ => ?_) fun _ _ z => z.up f1 fun a y => .inl y)
  have g3 := noF g3
  have hs1 := fresh_ne hB h3
  have hx := h1.on (C := BX (BX B n1) n2) hB.st hs1 f2 (fun a z => z.imp id (g3 a)) (.inl (.inl hB.st))
  have hsub : ∀ a, BX B (n1 ++ n2) a → BX (BX B n1) n2 a := fun a z => z.elim (fun y => .inl (.inl y)) fun y => (List.mem_append.mp y).elim (fun w => .inl (.inr w)) .inr
  have hc : HC W B nX m m2 (BX (BX B n1) n2) (n1 ++ n2) := ⟨hB.mono (f1.trans f2).len, f1.trans f2, I2, hsub, nd_app h2 g2 h1.lt' g3, fun a z => .inr ((List.mem_append.mp z).elim (h3 a) fun y => Nat.le_trans f1.len (g3 a y)), fun z => (List.mem_append.mp z).elim hs1 (fresh_ne (hB.mono f1.len) g3)⟩
  exact k u v m2 d e n1 n2 _ hc hx g1 q2
/-- a list of values -/
def GL (W : Wd) (B : Nat → Prop) (m0 : M) (Q : List D → Prop) : List U → M → Prop := fun us m => ∃ ds ns, Rps W.s (BX B ns) m us ds ns ∧ ns.Nodup ∧ (∀ a ∈ ns, m0.length ≤ a) ∧ Q ds ∧ Fr W.s m0 m ∧ W.Inv m
/-- what a walk is over -/
def GI (W : Wd) (B : Nat → Prop) (m0 : M) (Q : List (List D) → Bool → Prop) : IT → M → Prop := fun t m => ∃ xs o, (∀ B', (∀ a, B' a → a < m0.length) → (o = true ∨ ∀ a, B' a → B a) → IRep W B' m t xs) ∧ IRep W B m t xs ∧ Q xs o ∧ Fr W.s m0 m ∧ W.Inv m ∧ (∀ i, t.at_ i → i < m.length ∧ i ≠ W.s ∧ ¬ B i ∧ (o = true → m0.length ≤ i))
theorem tru_sat {A : Type} {f : Bool → M → R A} {QQ : A → M → Prop} {EE : Ex → M → Prop} (hu : Rp W.s C m u d ns) {K : Bool → Prop} (h : oQ (truD d) K) (k : ∀ b, K b → (f b m).sat QQ EE) : ((truR u m).bind f).sat QQ EE := by
  obtain ⟨b, h1, h2⟩ := oQ_some h
  unfold truR
  rw [tru_rep hu h1]
  exact k b h2
theorem cmp_sat {A : Type} {C' : Nat → Prop} {n2 : List Nat} {o : Cp} {f : U → M → R A} {QQ : A → M → Prop} {EE : Ex → M → Prop} (hx : Rp W.s C m u d ns) (hy : Rp W.s C' m v e n2) {K : Bool → Prop} (h : oQ (cmpD o d e) K) (k : ∀ b, K b → (f (.bl b) m).sat QQ EE) : ((evCmp o u v m).bind f).sat QQ EE := by
  obtain ⟨b, h1, h2⟩ := oQ_some h
  unfold evCmp
  rw [cmp_rep hx hy h1]
  exact k b h2
theorem cmp_end {C' C0 : Nat → Prop} {n1 n2 n0 : List Nat} {o : Cp} (hc : HC W B X m0 m C0 n0) (hx : Rp W.s C m u d n1) (hy : Rp W.s C' m v e n2) {EE : Ex → M → Prop} (h : oQ (cmpD o d e) fun k => Q (.bl k)) : (evCmp o u v m).sat (GV W B X m0 Q) EE := by
  obtain ⟨b, h1, h2⟩ := oQ_some h
  unfold evCmp
  rw [cmp_rep hx hy h1]
  exact hc.nil.now (.bl b) h2
theorem noX_then {A : Type} {x : R A} {QQ : A → M → Prop} (h : x.sat QQ (GX W B X m noX)) : x.sat QQ (fun _ _ => False) := sat_mono h (fun _ _ z => z) fun _ _ ⟨_, _, z, _⟩ => z
theorem noEx_sat {A : Type} {x : R A} {QQ : A → M → Prop} {EE : Ex → M → Prop} (h : x.sat QQ (fun _ _ => False)) : (noEx x).sat QQ EE := by
  cases x with
  | ok a m => exact h
  | ex e m => exact h.elim
  | stuck => exact h.elim
theorem lc_end {t : IT} {xs : List (List D)} {tg : Tg} {own : List Nat} {turn : Nat → Env → M → R Unit} {turnD : DE → List D → (List D → Prop) → Prop} (hB : Bd W B m) (fr1 : Fr W.s m m1) (I1 : W.Inv m1) (i1 : IRep W B m1 t xs) (hat : ∀ i, t.at_ i → i < m1.length ∧ i ≠ W.s) (hE : EV W B V m1 r ρ)
    (hturn : ∀ (r1 : Env) (ρ1 : DE) (m2 : M) (us : List U) (acc : List D) (ns : List Nat) (K : List D → Prop), EV W (BA B m1.length ns) V m2 r1 ρ1 → W.Inv m2 → FrD W.s m1.length (m1 ++ [.lst []]) m2 → AccI W B m1.length m2 us acc ns → turnD ρ1 acc K → (turn m1.length r1 m2).sat (Acc W B m1.length ns m2 K) (fun _ _ => False)) (q : lcD tg (wipeD ρ own) turnD xs [] fun ds => Q (.lst true ds)) :
    (noEx ((lcL t tg (wipeU r own) (turn m1.length) t.items (m1 ++ [.lst []])).bind fun _ m6 => .ok (.ref m1.length) m6)).sat (GV W B nX m Q) (GX W B nX m E) := by
  have hB1 := hB.mono fr1.len
  have hps : m1.length ≠ W.s := fun z => Nat.lt_irrefl _ (z ▸ hB1.lt _ hB1.st)
  have ap : ∀ {i : Nat} {o : MO}, m1[i]? = some o → (m1 ++ [MO.lst []])[i]? = some o := fun {i o} h => by rw [List.getElem?_append_left (get_lt h)]; exact h
  have hsub : ∀ a, BA B m1.length [] a → B a ∨ m1.length ≤ a := fun a z => z.elim (fun y => y.imp id fun w => by simp at w; omega) fun y => by cases y
  have f0 : Fr W.s m1 (m1 ++ [MO.lst []]) := Fr.app
  have hA : AccI W B m1.length (m1 ++ [MO.lst []]) [] [] [] := ⟨by simp, .nil, .nil, fun _ z => by cases z⟩
  refine noEx_sat (sat_bind (sat_mono (lc_sound (p := m1.length) hB.st hturn (fun m2 f => i1.ok (fun i o hi z => f.keep i o (hat i hi).2 (Nat.ne_of_lt (hat i hi).1) (ap z)) fun i us z => f.tp _ _ (f0.tp _ _ z)) .refl (W.app _ _ I1) (((hE.sub hsub).fr (BA.s hB.st) f0).wipe own) (i1.items.mv fun z => (z.sub hsub).fr0 (BA.s hB.st) f0) hA q) (fun _ m6 hm => ?_) fun _ _ z => z))
  obtain ⟨us, ds, ns, h1, h2, h3, h4, h5⟩ := hm
  have hl : m1.length ≤ m6.length := Nat.le_trans (by simp) h4.len
  refine ⟨.lst true ds, m1.length :: ns, .lt h1.at_ (h1.rep.weak fun a z => z.elim (fun y => .inl (.inl y)) fun y => (List.mem_cons.mp y).elim (fun w => .inl (.inr (w ▸ List.mem_cons_self ..))) .inr), List.nodup_cons.mpr ⟨fun z => Nat.lt_irrefl _ (h1.fr _ z), h1.nd⟩, fun a z => .inr ?_, h3, ⟨Nat.le_trans fr1.len hl, fun i o n _ z => ?_, fun i us z => h4.tp _ _ (f0.tp _ _ (fr1.tp _ _ z))⟩, h5⟩
  · rcases List.mem_cons.mp z with y | y
    · rw [y]; exact fr1.len
    · exact Nat.le_of_lt (Nat.lt_of_le_of_lt fr1.len (h1.fr a y))
  · have z1 := fr1.keep i o n id z
    exact h4.keep i o n (Nat.ne_of_lt (get_lt z1)) (ap z1)
theorem AccI.go {p : Nat} {acc : List D} (hp : p ≠ W.s) (hs : B W.s) (hn : ∀ a ∈ ns, a ≠ W.s) (h : AccI W B p m us acc ns) (f : Fr W.s m m') : AccI W B p m' us acc ns := ⟨f.keep _ _ hp id h.at_, h.rep.fr (BA.s hs) f fun z => hn _ z rfl, h.nd, h.fr⟩
/-- the list takes one more -/
theorem push_sat {p : Nat} {acc : List D} {K : List D → Prop} {n1 : List Nat} (hz : ¬ W.Z p) (hsp : W.s < p) (hB : Bd W (BA B p ns) m) (hBs : B W.s) (f : Fr W.s m m1) (I : W.Inv m1) (h1 : AccI W B p m us acc ns) (hu : Rp W.s (BX (BA B p ns) n1) m1 u d n1) (hnd : n1.Nodup) (hfr : ∀ a ∈ n1, m.length ≤ a) (q : acc.length < SL ∧ K (acc ++ [d])) :
    (pushTo p u m1).sat (Acc W B p ns m K) (fun _ _ => False) := by
  have hps : p ≠ W.s := Nat.ne_of_gt hsp
  have hsn : ∀ a ∈ ns, a ≠ W.s := fun a z => Nat.ne_of_gt (Nat.lt_trans hsp (h1.fr a z))
  have g := h1.go hps hBs hsn f
  unfold pushTo
  rw [g.at_]
  simp only
  rw [if_pos (by rw [h1.rep.len]; exact q.1)]
  have hpl : p < m.length := get_lt h1.at_
  have fd : FrD W.s p m1 (m1.set p (.lst (us ++ [u]))) := ⟨by simp, fun i o _ n z => by rw [List.getElem?_set_ne (Ne.symm n)]; exact z, tpk_set g.at_⟩
  have hC : ∀ a, BA B p (ns ++ n1) a → BA B p ns a ∨ m.length ≤ a := fun a z => z.elim (fun y => .inl (.inl y)) fun y => (List.mem_append.mp y).imp .inr (hfr a)
  have r1 : Rps W.s (BA B p (ns ++ n1)) m1 us acc ns := (h1.rep.sub hC).fr (BA.s hBs) f fun z => hsn _ z rfl
  have r2 : Rp W.s (BA B p (ns ++ n1)) m1 u d n1 := hu.weak fun a z => z.elim (fun y => .inl (.inl y)) fun y => (List.mem_append.mp y).imp .inr id
  have e1 : ∀ a ∈ ns, a ≠ W.s ∧ a ≠ p := fun a z => ⟨hsn a z, Nat.ne_of_gt (h1.fr a z)⟩
  have e2 : ∀ a ∈ n1, a ≠ W.s ∧ a ≠ p := fun a z => ⟨fun y => Nat.lt_irrefl _ (Nat.lt_of_lt_of_le (y ▸ hB.lt _ hB.st) (hfr a z)), fun y => Nat.lt_irrefl _ (Nat.lt_of_lt_of_le (y ▸ hpl) (hfr a z))⟩
  refine ⟨us ++ [u], acc ++ [d], ns ++ n1, ⟨by rw [List.getElem?_set_self (get_lt g.at_)], ?_, nd_app h1.nd hnd h1.rep.lt' hfr, fun a z => (List.mem_append.mp z).elim (h1.fr a) fun y => Nat.lt_of_lt_of_le hpl (hfr a y)⟩, fun a z => (List.mem_append.mp z).imp id (hfr a), q.2, FrO.trans (FrO.toO f) .refl fd, W.set _ _ _ hz I⟩
  have z := (r1.frD (BA.s hBs) BA.p fd e1).app (.cons (r2.frD (BA.s hBs) BA.p fd e2) .nil)
  rw [List.append_nil] at z
  exact z
theorem walk_items {n1 : List Nat} {xs : List D} (h : Rps W.s (BX B ns) m1 us xs n1) (hn : ∀ a ∈ n1, m.length ≤ a) (hB' : ∀ a, B' a → a < m.length) (k : owns xs = true ∨ ∀ a, B' a → B a) : Rps W.s B' m1 us (shs xs) [] := by
  have nb : ∀ a ∈ n1, ¬ B' a := fun a z y => Nat.lt_irrefl _ (Nat.lt_of_lt_of_le (hB' a y) (hn a z))
  rcases k with k | k
  · exact (h.ofOwn (B' := B') k).sh (fun _ z => z) nb
  · exact h.sh (fun a z => .inl (k a z)) nb
theorem walk_at {a : Nat} {q : Bool} {xs : List D} (hB : Bd W B m) (h : Rp W.s (BX B ns) m1 (.ref a) (.lst q xs) ns) (hn : ∀ a ∈ ns, m.length ≤ a) : a ≠ W.s ∧ ¬ B a ∧ ((D.lst q xs).own = true → m.length ≤ a) := by
  cases h with
  | lt h r =>
    have z := hn a (List.mem_cons_self ..)
    exact ⟨fun y => Nat.lt_irrefl _ (Nat.lt_of_lt_of_le (hB.lt _ hB.st) (y ▸ z)), fun y => Nat.lt_irrefl _ (Nat.lt_of_lt_of_le (hB.lt _ y) z), fun _ => z⟩
  | lf hb h r => exact ⟨fun y => hb (.inl (y ▸ hB.st)), fun y => hb (.inl y), fun y => nomatch y⟩
theorem own_ls {q : Bool} {xs : List D} (h : (D.lst q xs).own = true) : owns xs = true := (Bool.and_eq_true_iff.mp (show (q && owns xs) = true from h)).2
variable {g : Pg} {cl : Cl} {F : DF} (hF : FSound cl F W)
include hF
mutual
theorem sE : ∀ (a : ME) {V : List Nat} {B : Nat → Prop} {m : M} {r : Env} {ρ : DE} {Q : DQ} {E : DX → Prop}, (∀ i ∈ vE a, i ∈ V) → Bd W B m → W.Inv m → EV W B V m r ρ → pE g F a ρ Q E → (ev g cl a r m).sat (GV W B nX m Q) (GX W B nX m E)
  | .var i, V, B, m, r, ρ, Q, E, c, hB, I, hE, q => by
    rw [ev_var]
    have q' : (match ρ[i]? with
      | some (some d) => Q d.sh
      | _ => False) := q
    split at q'
    · rename_i d hd
      obtain ⟨u, h1, h2⟩ := hE.val i d (c i (List.mem_cons_self ..)) hd
      rw [h1]
      exact (hc0 hB .refl I).now h2 q'
    · exact q'.elim
  | .cst u, V, B, m, r, ρ, Q, E, c, hB, I, hE, q => by
    obtain ⟨d, h1, h2⟩ := oQ_some q
    exact (hc0 hB .refl I).now (Rp.ofU h1) h2
  | .glo x, V, B, m, r, ρ, Q, E, c, hB, I, hE, q => by
    obtain ⟨u, h1, h2⟩ := oQ_some q
    obtain ⟨d, h3, h4⟩ := oQ_some h2
    rw [ev_glo, h1]
    exact (hc0 hB .refl I).now (Rp.ofU h3) h4
  | .bin o a b, V, B, m, r, ρ, Q, E, c, hB, I, hE, q => by
    rw [ev_bin]
    exact two hB (sE a (inL c).1 hB I hE q) (fun u m1 d ns f1 hB1 I1 h3 q1 => sE b (inL c).2 hB1 I1 (hE.bn hB f1 h3) q1) fun u v m2 d e n1 n2 C hc hx hy q2 => bin_rep hc hx hy q2
  | .neg a, V, B, m, r, ρ, Q, E, c, hB, I, hE, q => by
    rw [ev_neg]
    refine GV.then hB (sE a c hB I hE q) fun u m1 d ns h1 h2 h3 q1 fr1 hB1 I1 => ?_
    cases d with
    | int i => cases h1.int'; exact (hc0 hB fr1 I1).now (.int (-i)) q1
    | _ => exact q1.elim
  | .not a, V, B, m, r, ρ, Q, E, c, hB, I, hE, q => by
    rw [ev_not]
    refine GV.then hB (sE a c hB I hE q) fun u m1 d ns h1 h2 h3 q1 fr1 hB1 I1 => ?_
    exact tru_sat h1 q1 fun b hb => (hc0 hB fr1 I1).now (.bl (!b)) hb
  | .cmp o a b, V, B, m, r, ρ, Q, E, c, hB, I, hE, q => by
    rw [ev_cmp]
    exact two hB (sE a (inL c).1 hB I hE q) (fun u m1 d ns f1 hB1 I1 h3 q1 => sE b (inL c).2 hB1 I1 (hE.bn hB f1 h3) q1) fun u v m2 d e n1 n2 C hc hx hy q2 => cmp_end hc hx hy q2
  | .chn o o' a b c', V, B, m, r, ρ, Q, E, c, hB, I, hE, q => by
    have c2 := inL (inL c).2
    rw [ev_chn]
    refine two hB (sE a (inL c).1 hB I hE q) (fun u m1 d ns f1 hB1 I1 h3 q1 => sE b c2.1 hB1 I1 (hE.bn hB f1 h3) q1) fun u v m2 d e n1 n2 C hc hx hy q2 => ?_
    refine cmp_sat hx hy q2 fun k hk => ?_
    cases k with
    | false =>
      rw [if_neg (by decide)]
      replace hk := cf_ hk
      exact hc.nil.now (.bl false) hk
    | true =>
      rw [if_pos rfl]
      replace hk := ct_ hk
      have hn1 : ∀ a ∈ n1 ++ n2, m.length ≤ a := noF hc.fr
      have hE2 := hE.fr hB.st hc.f
      have hyl := hy.lt'
      refine sat_upX hc.f (fun _ z => z) (GV.then hc.bd (sE c' c2.2 hc.bd hc.inv hE2 hk) fun w m3 x n3 h3 g2 g3 q3 fr3 hB3 I3 => ?_)
      have hy3 : Rp W.s B m3 v e n2 := (hy.weak fun a z => hc.hC a (.inl z)).fr hB.st fr3 fun z => hc.hs (List.mem_append_right _ z)
      exact cmp_end (hc0 hB (hc.f.trans .refl fr3) I3) hy3 h3 q3
  | .and a b, V, B, m, r, ρ, Q, E, c, hB, I, hE, q => by
    rw [ev_and]
    refine GV.then hB (sE a (inL c).1 hB I hE q) fun u m1 d ns h1 h2 h3 q1 fr1 hB1 I1 => ?_
    refine tru_sat h1 q1 fun k hk => ?_
    cases k with
    | true =>
      rw [if_pos rfl]
      replace hk := ct_ hk
      exact sat_mono (sE b (inL c).2 hB1 I1 (hE.fr hB.st fr1) hk) (fun _ _ z => z.up fr1) fun _ _ z => z.up fr1 fun _ y => y
    | false =>
      rw [if_neg Bool.false_ne_true]
      replace hk := cf_ hk
      exact (hc1 hB h1 h2 h3 fr1 I1).now h1 hk
  | .or a b, V, B, m, r, ρ, Q, E, c, hB, I, hE, q => by
    rw [ev_or]
    refine GV.then hB (sE a (inL c).1 hB I hE q) fun u m1 d ns h1 h2 h3 q1 fr1 hB1 I1 => ?_
    refine tru_sat h1 q1 fun k hk => ?_
    cases k with
    | false =>
      rw [if_neg Bool.false_ne_true]
      replace hk := cf_ hk
      exact sat_mono (sE b (inL c).2 hB1 I1 (hE.fr hB.st fr1) hk) (fun _ _ z => z.up fr1) fun _ _ z => z.up fr1 fun _ y => y
    | true =>
      rw [if_pos rfl]
      replace hk := ct_ hk
      exact (hc1 hB h1 h2 h3 fr1 I1).now h1 hk
  | .ifx t a b, V, B, m, r, ρ, Q, E, c, hB, I, hE, q => by
    have c2 := inL (inL c).2
    rw [ev_ifx]
    refine GV.then hB (sE t (inL c).1 hB I hE q) fun u m1 d ns h1 h2 h3 q1 fr1 hB1 I1 => ?_
    refine tru_sat h1 q1 fun k hk => ?_
    cases k with
    | true =>
      rw [if_pos rfl]
      replace hk := ct_ hk
      exact sat_mono (sE a c2.1 hB1 I1 (hE.fr hB.st fr1) hk) (fun _ _ z => z.up fr1) fun _ _ z => z.up fr1 fun _ y => y
    | false =>
      rw [if_neg Bool.false_ne_true]
      replace hk := cf_ hk
      exact sat_mono (sE b c2.2 hB1 I1 (hE.fr hB.st fr1) hk) (fun _ _ z => z.up fr1) fun _ _ z => z.up fr1 fun _ y => y
  | .lst es, V, B, m, r, ρ, Q, E, c, hB, I, hE, q => by
    rw [ev_lst]
    refine sat_bind (sat_mono (sEs es c hB I hE q) (fun us m1 hh => ?_) fun _ _ z => z)
    obtain ⟨ds, ns, h1, h2, h3, ⟨h4, h5⟩, f1, I1⟩ := hh
    rw [if_pos (by rw [h1.len]; exact h4)]
    have hc : HC W B nX m m1 (BX B ns) ns := ⟨hB.mono f1.len, f1, I1, fun _ z => z, h2, fun a z => .inr (h3 a z), fresh_ne hB h3⟩
    exact hc.lst h1 h5
  | .tup es, V, B, m, r, ρ, Q, E, c, hB, I, hE, q => by
    rw [ev_tup]
    refine sat_bind (sat_mono (sEs es c hB I hE q) (fun us m1 hh => ?_) fun _ _ z => z)
    obtain ⟨ds, ns, h1, h2, h3, ⟨h4, h5⟩, f1, I1⟩ := hh
    rw [if_pos (by rw [h1.len]; exact h4)]
    have hc : HC W B nX m m1 (BX B ns) ns := ⟨hB.mono f1.len, f1, I1, fun _ z => z, h2, fun a z => .inr (h3 a z), fresh_ne hB h3⟩
    exact hc.tup h1 h5
  | .idx a b, V, B, m, r, ρ, Q, E, c, hB, I, hE, q => by
    rw [ev_idx]
    exact two hB (sE a (inL c).1 hB I hE q) (fun u m1 d ns f1 hB1 I1 h3 q1 => sE b (inL c).2 hB1 I1 (hE.bn hB f1 h3) q1) fun u v m2 d e n1 n2 C hc hx hy q2 => idx_rep (hc.sub (List.sublist_append_left ..)) hx hy q2
  | .slc a lo hi bl bh, V, B, m, r, ρ, Q, E, c, hB, I, hE, q => by
    have c2 := inL (inL c).2
    rw [ev_slc]
    refine GV.then hB (sE a (inL c).1 hB I hE q) fun u m1 d n1 h1 h2 h3 q1 fr1 hB1 I1 => ?_
    have hs1 := fresh_ne hB h3
    have part : ∀ {e : ME} {b : Bool} {m : M} {K : Option Int → Prop}, Bd W B m → W.Inv m → (∀ {Q : DQ}, pE g F e ρ Q E → (ev g cl e r m).sat (GV W B nX m Q) (GX W B nX m E)) → ((cond b (fun K => pE g F e ρ (fun d => partD d K) E) (fun K => K none)) K) →
        (if b = true then (ev g cl e r m).bind partI else .ok none m).sat (fun l m2 => K l ∧ Fr W.s m m2 ∧ W.Inv m2) (GX W B nX m E) := by
      intro e b m K hBm Im ih hK
      cases b with
      | true =>
        rw [if_pos rfl]
        have hK : pE g F e ρ (fun d => partD d K) E := hK
        refine GV.then hBm (ih hK) fun v m2 x n2 h2 _ _ q2 fr2 hB2 I2 => ?_
        cases x with
        | int i => cases h2.int'; exact ⟨q2, fr2, I2⟩
        | _ => exact q2.elim
      | false =>
        rw [if_neg Bool.false_ne_true]
        have hK : K none := hK
        exact ⟨hK, .refl, Im⟩
    refine sat_bind (sat_mono (sat_upX fr1 (fun _ z => z) (part hB1 I1 (fun {Q} z => sE lo c2.1 hB1 I1 (hE.fr hB.st fr1) z) q1)) (fun l m2 ⟨q2, fr2, I2⟩ => ?_) fun _ _ z => z)
    have hB2 := hB1.mono fr2.len
    have fr12 : Fr W.s m m2 := fr1.trans fr2
    refine sat_bind (sat_mono (sat_upX fr12 (fun _ z => z) (part hB2 I2 (fun {Q} z => sE hi c2.2 hB2 I2 (hE.fr hB.st fr12) z) q2)) (fun k m3 ⟨q3, fr3, I3⟩ => ?_) fun _ _ z => z)
    have fr23 : Fr W.s m1 m3 := fr2.trans fr3
    have h1' := h1.fr (.inl hB.st) fr23 hs1
    exact slc_rep (hc1 hB h1' h2 h3 (fr12.trans fr3) I3) h1' q3
  | .call f es, V, B, m, r, ρ, Q, E, c, hB, I, hE, q => by
    rw [ev_call]
    refine sat_bind (sat_mono (sEs es c hB I hE q) (fun us m1 hh => ?_) fun _ _ z => z)
    obtain ⟨ds, ns, h1, h2, h3, h4, f1, I1⟩ := hh
    have h1' : Rps W.s (BX B []) m1 us (shs ds) [] := h1.sh (fun a z => z.elim .inl fun y => by cases y) fun a k z => z.elim (fresh_nb hB h3 a k) fun y => by cases y
    refine sat_mono (hF f _ Q E h4 B m1 us [] (hB.mono f1.len) I1 h1' .nil (fun _ z => by cases z)) (fun u m2 ⟨d, n2, k1, k2, k3, k4, k5, k6⟩ => ?_) fun x m2 ⟨d, k1, k2, k3, k4⟩ => ⟨d, k1, k2, f1.trans (k3.wide fun a z => by cases z), k4⟩
    exact ⟨d, n2, k1, k2, fun a z => .inr ((k3 a z).elim (fun y => by cases y) fun y => Nat.le_trans f1.len y), k4, f1.trans (k5.wide fun a z => by cases z), k6⟩
  | .callk f ks es, V, B, m, r, ρ, Q, E, c, hB, I, hE, q => by
    rw [ev_callk]
    refine sat_bind (sat_mono (sEs es c hB I hE q) (fun us m1 hh => ?_) fun _ _ z => z)
    obtain ⟨ds, ns, h1, h2, h3, h4, f1, I1⟩ := hh
    have h1' : Rps W.s (BX B []) m1 us (shs ds) [] := h1.sh (fun a z => z.elim .inl fun y => by cases y) fun a k z => z.elim (fresh_nb hB h3 a k) fun y => by cases y
    refine sat_mono (hF f _ Q E h4 B m1 us [] (hB.mono f1.len) I1 h1' .nil (fun _ z => by cases z)) (fun u m2 ⟨d, n2, k1, k2, k3, k4, k5, k6⟩ => ?_) fun x m2 ⟨d, k1, k2, k3, k4⟩ => ⟨d, k1, k2, f1.trans (k3.wide fun a z => by cases z), k4⟩
    exact ⟨d, n2, k1, k2, fun a z => .inr ((k3 a z).elim (fun y => by cases y) fun y => Nat.le_trans f1.len y), k4, f1.trans (k5.wide fun a z => by cases z), k6⟩
  | .blt f es, V, B, m, r, ρ, Q, E, c, hB, I, hE, q => by
    rw [ev_blt]
    refine sat_bind (sat_mono (sEs es c hB I hE q) (fun us m1 hh => ?_) fun _ _ z => z)
    obtain ⟨ds, ns, h1, h2, h3, h4, f1, I1⟩ := hh
    have hc : HC W B nX m m1 (BX B ns) ns := ⟨hB.mono f1.len, f1, I1, fun _ z => z, h2, fun a z => .inr (h3 a z), fresh_ne hB h3⟩
    exact blt_rep hc h1 h4
  | .isi a ts, V, B, m, r, ρ, Q, E, c, hB, I, hE, q => by
    rw [ev_isi]
    refine GV.then hB (sE a c hB I hE q) fun u m1 d ns h1 _ _ q1 fr1 hB1 I1 => ?_
    obtain ⟨t, k1, k2⟩ := oQ_some q1
    rw [ty_rep h1 k1]
    exact (hc0 hB fr1 I1).now (.bl _) k2
  | .bm f a es, V, B, m, r, ρ, Q, E, c, hB, I, hE, q => q.elim
  | .lc elt tg it cc own, V, B, m, r, ρ, Q, E, c, hB, I, hE, q => by
    have c2 := inL c
    have c3 := inL (inL (inL c2.2).2).2
    rw [ev_lc]
    refine sat_bind (sat_mono (sI it c2.1 hB I hE q) (fun t m1 ⟨xs, o, _, i1, q1, fr1, I1, hat⟩ => ?_) fun _ _ z => z)
    have hB1 := hB.mono fr1.len
    have hsp : W.s < m1.length := hB1.lt _ hB1.st
    have hpz : ¬ W.Z m1.length := fun z => Nat.lt_irrefl _ (hB1.lt _ (hB1.z _ z))
    refine lc_end (turn := fun p r1 m2 => (ev g cl cc r1 m2).bind fun x m3 => (truR x m3).bind fun k m4 => if k = true then (ev g cl elt r1 m4).bind fun u m5 => pushTo p u m5 else .ok () m4) hB fr1 I1 i1 (fun i hi => ⟨(hat i hi).1, (hat i hi).2.1⟩) (hE.fr hB.st fr1) (fun r1 ρ1 m2 us acc ns K e1 I2 f2 k1 q2 => ?_) q1
    have hB2 : Bd W (BA B m1.length ns) m2 := (((hB1.mono (Nat.le_trans (by simp) f2.len)).bn (ns := [m1.length]) fun a z => by rw [List.mem_singleton.mp z]; exact get_lt k1.at_).bn k1.rep.lt')
    have hsn : ∀ a ∈ ns, a ≠ W.s := fun a z => Nat.ne_of_gt (Nat.lt_trans hsp (k1.fr a z))
    refine noX_then (B := BA B m1.length ns) (X := nX) (m := m2) (GV.then hB2 (sE cc c3.1 hB2 I2 e1 q2) fun x m3 d n3 h1 _ _ q3 fr3 hB3 I3 => ?_)
    refine tru_sat h1 q3 fun b hb => ?_
    cases b with
    | false =>
      rw [if_neg Bool.false_ne_true]
      replace hb := cf_ hb
      exact ⟨us, acc, ns, k1.go (Nat.ne_of_gt hsp) hB.st hsn fr3, fun _ z => .inl z, hb, fr3.toO, I3⟩
    | true =>
      rw [if_pos rfl]
      replace hb := ct_ hb
      refine sat_upX fr3 (fun _ z => z) (GV.then hB3 (sE elt c3.2 hB3 I3 (e1.fr (BA.s hB.st) fr3) hb) fun u m5 dd n5 h5 h6 h7 q5 fr5 hB5 I5 => ?_)
      exact sat_mono (push_sat hpz hsp hB3 hB.st fr5 I5 (k1.go (Nat.ne_of_gt hsp) hB.st hsn fr3) h5 h6 h7 q5) (fun _ _ z => Acc.up fr3.toO (fun _ y => .inl y) z) fun _ _ z => z.elim
  | .lc2 elt tg it cc tg1 it1 c1 own own1, V, B, m, r, ρ, Q, E, c, hB, I, hE, q => by
    have c2 := inL c
    have c3 := inL (inL (inL c2.2).2).2
    have c4 := inL c3.2
    have c5 := inL (inL (inL c4.2).2).2
    rw [ev_lc2]
    refine sat_bind (sat_mono (sI it c2.1 hB I hE q) (fun t m1 ⟨xs, o, _, i1, q1, fr1, I1, hat⟩ => ?_) fun _ _ z => z)
    have hB1 := hB.mono fr1.len
    have hsp : W.s < m1.length := hB1.lt _ hB1.st
    have hpz : ¬ W.Z m1.length := fun z => Nat.lt_irrefl _ (hB1.lt _ (hB1.z _ z))
    refine lc_end (turn := fun p r1 m2 => (ev g cl cc r1 m2).bind fun x m3 => (truR x m3).bind fun k m4 => if k = true then (evi g cl it1 r1 m4).bind fun t1 m5 =>
        lcL t1 tg1 (wipeU r1 own1) (fun r2 m6 => (ev g cl c1 r2 m6).bind fun x1 m7 => (truR x1 m7).bind fun k1 m8 =>
          if k1 = true then (ev g cl elt r2 m8).bind fun u m9 => pushTo p u m9 else .ok () m8) t1.items m5
        else .ok () m4) hB fr1 I1 i1 (fun i hi => ⟨(hat i hi).1, (hat i hi).2.1⟩) (hE.fr hB.st fr1) (fun r1 ρ1 m2 us acc ns K e1 I2 f2 k1 q2 => ?_) q1
    have hB2 : Bd W (BA B m1.length ns) m2 := (((hB1.mono (Nat.le_trans (by simp) f2.len)).bn (ns := [m1.length]) fun a z => by rw [List.mem_singleton.mp z]; exact get_lt k1.at_).bn k1.rep.lt')
    have hsn : ∀ a ∈ ns, a ≠ W.s := fun a z => Nat.ne_of_gt (Nat.lt_trans hsp (k1.fr a z))
    refine noX_then (B := BA B m1.length ns) (X := nX) (m := m2) (GV.then hB2 (sE cc c3.1 hB2 I2 e1 q2) fun x m3 d n3 h1 _ _ q3 fr3 hB3 I3 => ?_)
    refine tru_sat h1 q3 fun b hb => ?_
    have k3 := k1.go (Nat.ne_of_gt hsp) hB.st hsn fr3
    cases b with
    | false =>
      rw [if_neg Bool.false_ne_true]
      replace hb := cf_ hb
      exact ⟨us, acc, ns, k3, fun _ z => .inl z, hb, fr3.toO, I3⟩
    | true =>
      rw [if_pos rfl]
      replace hb := ct_ hb
      refine sat_upX fr3 (fun _ z => z) (sat_bind (sat_mono (sI it1 c4.1 hB3 I3 (e1.fr (BA.s hB.st) fr3) hb) (fun t1 m5 ⟨ys, o5, _, i2, q5, fr5, I5, hat5⟩ => ?_) fun _ _ z => z))
      have fr35 : Fr W.s m2 m5 := fr3.trans fr5
      refine sat_mono (lc_sound (p := m1.length) (mS := m5) (V := V) hB.st (fun r2 ρ2 m6 us2 acc2 ns2 K2 e2 I6 f6 l1 q6 => ?_) (fun m6 f => i2.ok (fun i o hi z => f.keep i o (hat5 i hi).2.1 (fun y => (hat5 i hi).2.2.1 (y ▸ BA.p)) z) f.tp) .refl I5 ((e1.fr (BA.s hB.st) fr35).wipe own1) i2.items (k1.go (Nat.ne_of_gt hsp) hB.st hsn fr35) q5) (fun _ _ z => Acc.up (FrO.toO fr35) (fun _ y => .inl y) z) fun _ _ z => z.elim
      have hB6 : Bd W (BA B m1.length ns2) m6 := (((hB1.mono (Nat.le_trans (Nat.le_trans (by simp) f2.len) (Nat.le_trans fr35.len f6.len))).bn (ns := [m1.length]) fun a z => by rw [List.mem_singleton.mp z]; exact get_lt l1.at_).bn l1.rep.lt')
      have hsn2 : ∀ a ∈ ns2, a ≠ W.s := fun a z => Nat.ne_of_gt (Nat.lt_trans hsp (l1.fr a z))
      refine noX_then (B := BA B m1.length ns2) (X := nX) (m := m6) (GV.then hB6 (sE c1 c5.1 hB6 I6 e2 q6) fun x2 m7 d2 n7 h7 _ _ q7 fr7 hB7 I7 => ?_)
      refine tru_sat h7 q7 fun b2 hb2 => ?_
      have l3 := l1.go (Nat.ne_of_gt hsp) hB.st hsn2 fr7
      cases b2 with
      | false =>
        rw [if_neg Bool.false_ne_true]
        replace hb2 := cf_ hb2
        exact ⟨us2, acc2, ns2, l3, fun _ z => .inl z, hb2, fr7.toO, I7⟩
      | true =>
        rw [if_pos rfl]
        replace hb2 := ct_ hb2
        refine sat_upX fr7 (fun _ z => z) (GV.then hB7 (sE elt c5.2 hB7 I7 (e2.fr (BA.s hB.st) fr7) hb2) fun u m9 dd n9 h9 h10 h11 q9 fr9 hB9 I9 => ?_)
        exact sat_mono (push_sat hpz hsp hB7 hB.st fr9 I9 l3 h9 h10 h11 q9) (fun _ _ z => Acc.up fr7.toO (fun _ y => .inl y) z) fun _ _ z => z.elim
theorem sEs : ∀ (as : MEs) {V : List Nat} {B : Nat → Prop} {m : M} {r : Env} {ρ : DE} {Q : List D → Prop} {E : DX → Prop}, (∀ i ∈ vEs as, i ∈ V) → Bd W B m → W.Inv m → EV W B V m r ρ → pEs g F as ρ Q E → (evs g cl as r m).sat (GL W B m Q) (GX W B nX m E)
  | .nil, V, B, m, r, ρ, Q, E, c, hB, I, hE, q => ⟨[], [], .nil, .nil, (fun _ z => nomatch z), q, FrO.refl, I⟩
  | .cons a as, V, B, m, r, ρ, Q, E, c, hB, I, hE, q => by
    rw [evs_cons]
    refine GV.then hB (sE a (inL c).1 hB I hE q) fun u m1 d n1 h1 h2 h3 q1 f1 hB1 I1 => ?_
    have hs1 := fresh_ne hB h3
    refine sat_bind (sat_mono (sEs as (inL c).2 (hB1.bn h1.lt') I1 (hE.bn hB f1 h3) q1) (fun us m2 hh => ?_) fun _ _ z => z.up f1 fun a y => .inl y)
    obtain ⟨ds, n2, g1, g2, g3, q2, f2, I2⟩ := hh
    have hx := h1.on (C := BX (BX B n1) n2) hB.st hs1 f2 (fun a z => z.imp id (g3 a)) (.inl (.inl hB.st))
    have hsub : ∀ a, BX B (n1 ++ n2) a → BX (BX B n1) n2 a := fun a z => z.elim (fun y => .inl (.inl y)) fun y => (List.mem_append.mp y).elim (fun w => .inl (.inr w)) .inr
    exact ⟨d :: ds, n1 ++ n2, (Rps.cons hx g1).weak hsub, nd_app h2 g2 h1.lt' g3, fun a z => (List.mem_append.mp z).elim (h3 a) fun y => Nat.le_trans f1.len (g3 a y), q2, f1.trans f2, I2⟩
theorem sI : ∀ (it : MI) {V : List Nat} {B : Nat → Prop} {m : M} {r : Env} {ρ : DE} {Q : List (List D) → Bool → Prop} {E : DX → Prop}, (∀ i ∈ vI it, i ∈ V) → Bd W B m → W.Inv m → EV W B V m r ρ → pI g F it ρ Q E → (evi g cl it r m).sat (GI W B m Q) (GX W B nX m E)
  | .seq a, V, B, m, r, ρ, Q, E, c, hB, I, hE, q => by
    rw [evi_seq]
    refine GV.then hB (sE a c hB I hE q) fun u m1 d ns h1 h2 h3 q1 fr1 hB1 I1 => ?_
    cases d with
    | lst f xs =>
      have h0 := h1
      obtain ⟨p, us, n1, rfl, k1, k2, k3⟩ := h1.ls
      obtain ⟨w1, w2, w3⟩ := walk_at hB h0 h3
      have hn : ∀ a ∈ n1, m.length ≤ a := fun a z => h3 a (k3.subset z)
      simp only
      rw [ls_of k1]
      exact ⟨_, _, fun B' b1 b2 => .ls k1 (walk_items k2 hn b1 (b2.imp own_ls id)), .ls k1 (walk_items k2 hn hB.lt (.inr fun _ z => z)), q1, fr1, I1, fun i hi => by cases hi; exact ⟨get_lt k1, w1, w2, w3⟩⟩
    | tup xs =>
      obtain ⟨p, us, rfl, k1, k2⟩ := h1.tp
      simp only
      have hn : lsOf m1 p = none := by
        unfold tpOf at k1
        unfold lsOf
        cases z : m1[p]? with
        | none => rfl
        | some o => rw [z] at k1; cases o <;> first | rfl | cases k1
      rw [hn, k1]
      exact ⟨_, _, fun B' b1 b2 => .tp k1 (walk_items k2 h3 b1 b2), .tp k1 (walk_items k2 h3 hB.lt (.inr fun _ z => z)), q1, fr1, I1, fun i hi => hi.elim⟩
    | _ => exact q1.elim
  | .rng a, V, B, m, r, ρ, Q, E, c, hB, I, hE, q => by
    rw [evi_rng]
    refine GV.then hB (sE a c hB I hE q) fun u m1 d ns h1 h2 h3 q1 fr1 hB1 I1 => ?_
    cases d with
    | int j => cases h1.int'; simp only; rw [if_pos q1.1]; exact ⟨_, true, fun _ _ _ => .rng 0 _, .rng 0 _, q1.2, fr1, I1, fun _ hi => hi.elim⟩
    | _ => exact q1.elim
  | .rng2 a b, V, B, m, r, ρ, Q, E, c, hB, I, hE, q => by
    rw [evi_rng2]
    refine two hB (sE a (inL c).1 hB I hE q) (fun u m1 d ns f1 hB1 I1 h3 q1 => sE b (inL c).2 hB1 I1 (hE.bn hB f1 h3) q1) fun u v m2 d e n1 n2 C hc hx hy q2 => ?_
    cases d with
    | int i =>
      cases e with
      | int j => cases hx.int'; cases hy.int'; simp only; rw [if_pos q2.1]; exact ⟨_, true, fun _ _ _ => .rng i _, .rng i _, q2.2, hc.f, hc.inv, fun _ hi => hi.elim⟩
      | _ => exact q2.elim
    | _ => cases e <;> exact q2.elim
  | .enu a, V, B, m, r, ρ, Q, E, c, hB, I, hE, q => by
    rw [evi_enu]
    refine GV.then hB (sE a c hB I hE q) fun u m1 d ns h1 h2 h3 q1 fr1 hB1 I1 => ?_
    cases d with
    | lst f xs =>
      have h0 := h1
      obtain ⟨p, us, n1, rfl, k1, k2, k3⟩ := h1.ls
      obtain ⟨w1, w2, w3⟩ := walk_at hB h0 h3
      have hn : ∀ a ∈ n1, m.length ≤ a := fun a z => h3 a (k3.subset z)
      simp only
      rw [ls_of k1]
      exact ⟨_, _, fun B' b1 b2 => .en k1 (walk_items k2 hn b1 (b2.imp own_ls id)), .en k1 (walk_items k2 hn hB.lt (.inr fun _ z => z)), q1, fr1, I1, fun i hi => by cases hi; exact ⟨get_lt k1, w1, w2, w3⟩⟩
    | _ => exact q1.elim
  | .zip a b, V, B, m, r, ρ, Q, E, c, hB, I, hE, q => by
    rw [evi_zip]
    refine two hB (sE a (inL c).1 hB I hE q) (fun u m1 d ns f1 hB1 I1 h3 q1 => sE b (inL c).2 hB1 I1 (hE.bn hB f1 h3) q1) fun u v m2 d e n1 n2 C hc hx hy q2 => ?_
    have hn : ∀ a ∈ n1 ++ n2, m.length ≤ a := noF hc.fr
    cases d with
    | lst f xs =>
      cases e with
      | lst f2 ys =>
        have hx : Rp W.s (BX B n1) m2 u _ n1 := hx.weak fun a z => hc.hC a (z.imp id fun y => List.mem_append_left _ y)
        have hy : Rp W.s (BX B n2) m2 v _ n2 := hy.weak fun a z => hc.hC a (z.imp id fun y => List.mem_append_right _ y)
        have hn1 : ∀ a ∈ n1, m.length ≤ a := fun a z => hn a (List.mem_append_left _ z)
        have hn2 : ∀ a ∈ n2, m.length ≤ a := fun a z => hn a (List.mem_append_right _ z)
        have hx0 := hx
        have hy0 := hy
        obtain ⟨p, us, l1, rfl, k1, k2, k3⟩ := hx.ls
        obtain ⟨p2, us2, l2, rfl, g1, g2, g3⟩ := hy.ls
        obtain ⟨w1, w2, w3⟩ := walk_at hB hx0 hn1
        obtain ⟨v1, v2, v3⟩ := walk_at hB hy0 hn2
        have hm1 : ∀ a ∈ l1, m.length ≤ a := fun a z => hn1 a (k3.subset z)
        have hm2 : ∀ a ∈ l2, m.length ≤ a := fun a z => hn2 a (g3.subset z)
        simp only
        rw [ls_of k1, ls_of g1]
        refine ⟨_, _, fun B' b1 b2 => .zp k1 g1 (walk_items k2 hm1 b1 (b2.imp (fun z => own_ls (ba2 z).1) id)) (walk_items g2 hm2 b1 (b2.imp (fun z => own_ls (ba2 z).2) id)), .zp k1 g1 (walk_items k2 hm1 hB.lt (.inr fun _ z => z)) (walk_items g2 hm2 hB.lt (.inr fun _ z => z)), q2, hc.f, hc.inv, fun i hi => ?_⟩
        rcases hi with rfl | rfl
        · exact ⟨get_lt k1, w1, w2, fun z => w3 (ba2 z).1⟩
        · exact ⟨get_lt g1, v1, v2, fun z => v3 (ba2 z).2⟩
      | _ => exact q2.elim
    | _ => cases e <;> exact q2.elim
end
end
end Py
set_option maxHeartbeats 4000000
/-! MINI PYTHON, part F7: slots and what they hold alone. -/
namespace Py
open PySem

/-- what slots hold alone -/
def OwnP (own : Nat → List Nat) (a : Nat) : Prop := ∃ i, a ∈ own i
def BO (B0 : Nat → Prop) (own : Nat → List Nat) (a : Nat) : Prop := B0 a ∨ OwnP own a
structure ER (W : Wd) (B0 : Nat → Prop) (own : Nat → List Nat) (m : M) (r : Env) (ρ : DE) : Prop where
  bd : Bd W B0 m
  inv : W.Inv m
  len : r.length = ρ.length
  val : ∀ (i : Nat) (d : D), ρ[i]? = some (some d) → ∃ u, r[i]? = some (some u) ∧ Rp W.s (BO B0 own) m u d (own i)
  nd : ∀ i, (own i).Nodup
  dis : ∀ i j, i ≠ j → ∀ a ∈ own i, a ∉ own j
  nb : ∀ i, ∀ a ∈ own i, ¬ B0 a
  non : ∀ i, (∀ d, ρ[i]? ≠ some (some d)) → own i = []
theorem get_set {A : Type} {l : List A} {i j : Nat} {x y : A} (h : (l.set i x)[j]? = some y) : (i = j ∧ y = x ∧ i < l.length) ∨ (i ≠ j ∧ l[j]? = some y) := by
  by_cases e : i = j
  · subst e
    by_cases hi : i < l.length
    · rw [List.getElem?_set_self hi] at h
      exact .inl ⟨rfl, (Option.some.inj h).symm, hi⟩
    · rw [List.getElem?_eq_none (by simpa using hi)] at h
      cases h
  · rw [List.getElem?_set_ne e] at h
    exact .inr ⟨e, h⟩
section
variable {W : Wd} {B0 B' : Nat → Prop} {own own' : Nat → List Nat} {m m' : M} {r : Env} {ρ : DE} {u : U} {d : D} {ns : List Nat} {i : Nat}
theorem ER.pl (h : ER W B0 own m r ρ) : ∀ a, OwnP own a → ∃ us, m[a]? = some (.lst us) := fun a ⟨i, z⟩ => by
  by_cases k : ∃ d, ρ[i]? = some (some d)
  · obtain ⟨d, k⟩ := k
    obtain ⟨u, _, g⟩ := h.val i d k
    exact g.pl a z
  · rw [h.non i fun d e => k ⟨d, e⟩] at z
    cases z
theorem ER.lt (h : ER W B0 own m r ρ) : ∀ a, OwnP own a → a < m.length := fun a z => let ⟨_, k⟩ := h.pl a z; get_lt k
theorem ER.nbO (h : ER W B0 own m r ρ) : ∀ a, OwnP own a → ¬ B0 a := fun a ⟨i, z⟩ => h.nb i a z
theorem ER.bdO (h : ER W B0 own m r ρ) : Bd W (BO B0 own) m := ⟨.inl h.bd.st, fun a z => .inl (h.bd.z a z), fun a z => z.elim (h.bd.lt a) (h.lt a)⟩
theorem ER.sO (h : ER W B0 own m r ρ) (i : Nat) : W.s ∉ own i := fun z => h.nb i _ z h.bd.st
/-- what slots other than these hold alone -/
def BM (B0 : Nat → Prop) (own : Nat → List Nat) (V : List Nat) (a : Nat) : Prop := B0 a ∨ ∃ i, i ∉ V ∧ a ∈ own i
theorem ER.bdM {V : List Nat} (h : ER W B0 own m r ρ) : Bd W (BM B0 own V) m := ⟨.inl h.bd.st, fun a z => .inl (h.bd.z a z), fun a z => z.elim (h.bd.lt a) fun ⟨i, _, y⟩ => h.lt a ⟨i, y⟩⟩
theorem ER.ev {V : List Nat} (h : ER W B0 own m r ρ) : EV W (BM B0 own V) V m r ρ := by
  refine ⟨h.len, fun i d hi q => ?_⟩
  obtain ⟨u, h1, h2⟩ := h.val i d q
  refine ⟨u, h1, h2.sh (fun a z => z.imp id fun ⟨j, _, y⟩ => ⟨j, y⟩) fun a z y => ?_⟩
  rcases y with y | ⟨j, hj, y⟩
  · exact h.nb i a z y
  · exact h.dis i j (fun e => hj (e ▸ hi)) a z y
theorem ER.fr (h : ER W B0 own m r ρ) (f : Fr W.s m m') (I : W.Inv m') : ER W B0 own m' r ρ :=
  ⟨h.bd.mono f.len, I, h.len, fun i d q => let ⟨u, h1, h2⟩ := h.val i d q; ⟨u, h1, h2.fr (.inl h.bd.st) f (h.sO i)⟩, h.nd, h.dis, h.nb, h.non⟩
/-- less is forbidden -/
theorem ER.less (h : ER W B0 own m r ρ) (hB : Bd W B' m) (k : ∀ a, B' a → B0 a) : ER W B' own m r ρ :=
  ⟨hB, h.inv, h.len, fun i d q => let ⟨u, h1, h2⟩ := h.val i d q; ⟨u, h1, h2.weak fun a z => z.imp (k a) id⟩, h.nd, h.dis, fun i a z y => h.nb i a z (k a y), h.non⟩
/-- new places are forbidden too -/
theorem ER.more (h : ER W B0 own m r ρ) (f : Fr W.s m m') (I : W.Inv m') (hl : ∀ a ∈ ns, a < m'.length) (hn : ∀ a ∈ ns, m.length ≤ a) : ER W (BX B0 ns) own m' r ρ := by
  refine ⟨(h.bd.mono f.len).bn hl, I, h.len, fun i d q => ?_, h.nd, h.dis, fun i a z y => ?_, h.non⟩
  · obtain ⟨u, h1, h2⟩ := h.val i d q
    refine ⟨u, h1, (h2.sub (B' := BO (BX B0 ns) own) fun a z => ?_).fr (.inl (.inl h.bd.st)) f (h.sO i)⟩
    rcases z with (z | z) | z
    · exact .inl (.inl z)
    · exact .inr (hn a z)
    · exact .inl (.inr z)
  · rcases y with y | y
    · exact h.nb i a z y
    · exact Nat.lt_irrefl _ (Nat.lt_of_lt_of_le (h.lt a ⟨i, z⟩) (hn a y))
/-- slots are shared -/
def outO (own : Nat → List Nat) (i : Nat) : Nat → List Nat := fun j => if j = i then [] else own j
theorem outO_sub : ∀ a, OwnP (outO own i) a → OwnP own a := fun a ⟨j, z⟩ => by
  unfold outO at z
  split at z
  · cases z
  · exact ⟨j, z⟩
theorem outO_mem {j a : Nat} (h : a ∈ outO own i j) : a ∈ own j ∧ j ≠ i := by
  unfold outO at h
  split at h
  · cases h
  · exact ⟨h, by assumption⟩
theorem shAt_len : (shAt ρ i).length = ρ.length := by
  unfold shAt
  split <;> simp
theorem shAt_get {j : Nat} {d : D} (h : (shAt ρ i)[j]? = some (some d)) : ∃ d0, ρ[j]? = some (some d0) ∧ d = if j = i then d0.sh else d0 := by
  unfold shAt at h
  split at h
  · rename_i d1 hd
    rcases get_set h with ⟨e, z, _⟩ | ⟨e, z⟩
    · subst e
      cases z
      exact ⟨d1, hd, by simp⟩
    · exact ⟨d, z, by simp [Ne.symm e]⟩
  · rename_i hd
    by_cases e : j = i
    · subst e
      exact (hd d h).elim
    · exact ⟨d, h, by simp [e]⟩
theorem ER.shAt (h : ER W B0 own m r ρ) (i : Nat) : ER W B0 (outO own i) m r (Py.shAt ρ i) := by
  have sub : ∀ a, BO B0 (outO own i) a → BO B0 own a := fun a z => z.imp id (outO_sub a)
  refine ⟨h.bd, h.inv, by rw [shAt_len]; exact h.len, fun j d q => ?_, fun j => ?_, fun j k e a z y => ?_, fun j a z => h.nb j a (outO_mem z).1, fun j z => ?_⟩
  · obtain ⟨d0, q0, rfl⟩ := shAt_get q
    obtain ⟨u, h1, h2⟩ := h.val j d0 q0
    refine ⟨u, h1, ?_⟩
    by_cases e : j = i
    · subst e
      simp only [if_pos, outO]
      refine h2.sh sub fun a z y => ?_
      rcases y with y | ⟨k, y⟩
      · exact h.nb j a z y
      · obtain ⟨y1, y2⟩ := outO_mem y
        exact h.dis j k (Ne.symm y2) a z y1
    · simp only [if_neg e, outO]
      exact h2.weak sub
  · unfold outO
    split
    · exact .nil
    · exact h.nd j
  · exact h.dis j k e a (outO_mem z).1 (outO_mem y).1
  · unfold outO
    split
    · rfl
    · rename_i e
      refine h.non j fun d q => z d ?_
      unfold Py.shAt
      split
      · rw [List.getElem?_set_ne (Ne.symm e)]; exact q
      · exact q
theorem ER.dropV : ∀ (vs : List Nat) {own : Nat → List Nat} {ρ : DE}, ER W B0 own m r ρ → ∃ own', ER W B0 own' m r (Py.dropV vs ρ) ∧ (∀ a, OwnP own' a → ∃ i, i ∉ vs ∧ a ∈ own i)
  | [], own, ρ, h => ⟨own, h, fun a ⟨i, z⟩ => ⟨i, by simp, z⟩⟩
  | v :: vs, own, ρ, h => by
    obtain ⟨own', h1, h2⟩ := (h.shAt v).dropV vs
    refine ⟨own', h1, fun a z => ?_⟩
    obtain ⟨i, k1, k2⟩ := h2 a z
    obtain ⟨g1, g2⟩ := outO_mem k2
    exact ⟨i, fun y => (List.mem_cons.mp y).elim g2 k1, g1⟩
/-- a slot takes a value -/
theorem ER.setN (h : ER W (BX B0 ns) own m r ρ) (hB : Bd W B0 m) (hu : Rp W.s (BX (BO B0 own) ns) m u d ns) (hn : ns.Nodup) (hb : ∀ a ∈ ns, ¬ B0 a) (i : Nat) :
    ∃ own', ER W B0 own' m (r.set i (some u)) (ρ.set i (some d)) ∧ ∀ a, OwnP own' a → OwnP own a ∨ a ∈ ns := by
  by_cases hi : i < ρ.length
  · have o1 : ∀ j a, a ∈ (if j = i then ns else own j) → (j = i ∧ a ∈ ns) ∨ (j ≠ i ∧ a ∈ own j) := fun j a z => by
      split at z
      · exact .inl ⟨by assumption, z⟩
      · exact .inr ⟨by assumption, z⟩
    refine ⟨fun j => if j = i then ns else own j, ⟨hB, h.inv, by simp [h.len], fun j e q => ?_, fun j => ?_, fun j k e a z y => ?_, fun j a z => ?_, fun j z => ?_⟩, fun a ⟨j, z⟩ => ?_⟩
    · have sub : ∀ a, BO B0 (fun j => if j = i then ns else own j) a → BX (BO B0 own) ns a := fun a z => by
        rcases z with z | ⟨j, z⟩
        · exact .inl (.inl z)
        · exact (o1 j a z).elim (fun y => .inr y.2) fun y => .inl (.inr ⟨j, y.2⟩)
      rcases get_set q with ⟨rfl, z, _⟩ | ⟨ne, q⟩
      · cases z
        refine ⟨u, by rw [List.getElem?_set_self (h.len ▸ hi)], ?_⟩
        simp only [if_pos]
        exact hu.weak sub
      · obtain ⟨w, h1, h2⟩ := h.val j e q
        refine ⟨w, by rw [List.getElem?_set_ne ne]; exact h1, ?_⟩
        simp only [if_neg (Ne.symm ne)]
        exact h2.weak fun a z => (sub a z).elim (fun y => y.imp .inl id) fun y => .inl (.inr y)
    · show (if j = i then ns else own j).Nodup
      split
      · exact hn
      · exact h.nd j
    · rcases o1 j a z with ⟨z1, z2⟩ | ⟨z1, z2⟩
      · rcases o1 k a y with ⟨y1, y2⟩ | ⟨y1, y2⟩
        · exact e (z1.trans y1.symm)
        · exact h.nb k a y2 (.inr z2)
      · rcases o1 k a y with ⟨y1, y2⟩ | ⟨y1, y2⟩
        · exact h.nb j a z2 (.inr y2)
        · exact h.dis j k e a z2 y2
    · rcases o1 j a z with ⟨z1, z2⟩ | ⟨z1, z2⟩
      · exact hb a z2
      · exact fun y => h.nb j a z2 (.inl y)
    · show (if j = i then ns else own j) = []
      by_cases e : j = i
      · subst e
        exact (z d (by rw [List.getElem?_set_self hi])).elim
      · rw [if_neg e]
        exact h.non j fun d' q => z d' (by rw [List.getElem?_set_ne (Ne.symm e)]; exact q)
    · exact (o1 j a z).elim (fun y => .inr y.2) fun y => .inl ⟨j, y.2⟩
  · have e1 : ρ.set i (some d) = ρ := by rw [List.set_eq_of_length_le (Nat.not_lt.mp hi)]
    have e2 : r.set i (some u) = r := by rw [List.set_eq_of_length_le (by rw [h.len]; exact Nat.not_lt.mp hi)]
    rw [e1, e2]
    exact ⟨own, h.less hB fun a z => .inl z, fun a z => .inl z⟩
/-- a slot gives its value away -/
theorem ER.unset (h : ER W B0 own m r ρ) (q : ρ[i]? = some (some d)) : ∃ u, r[i]? = some (some u) ∧ ER W (BX B0 (own i)) (outO own i) m r (ρ.set i none) ∧ Rp W.s (BX (BO B0 (outO own i)) (own i)) m u d (own i) := by
  obtain ⟨u, h1, h2⟩ := h.val i d q
  have sub : ∀ a, BX (BO B0 (outO own i)) (own i) a → BO B0 own a := fun a z => by
    rcases z with (z | z) | z
    · exact .inl z
    · exact .inr (outO_sub a z)
    · exact .inr ⟨i, z⟩
  refine ⟨u, h1, ⟨h.bd.bn h2.lt', h.inv, by simp [h.len], fun j e q' => ?_, fun j => ?_, fun j k e a z y => h.dis j k e a (outO_mem z).1 (outO_mem y).1, fun j a z y => ?_, fun j z => ?_⟩, h2.weak sub⟩
  · rcases get_set q' with ⟨_, z, _⟩ | ⟨ne, q'⟩
    · cases z
    · obtain ⟨w, k1, k2⟩ := h.val j e q'
      refine ⟨w, k1, ?_⟩
      simp only [outO, if_neg (Ne.symm ne)]
      exact k2.weak fun a z => by
        rcases z with (z | z) | z
        · exact .inl z
        · exact .inr ⟨i, z⟩
        · exact .inr (outO_sub a z)
  · unfold outO
    split
    · exact .nil
    · exact h.nd j
  · obtain ⟨z1, z2⟩ := outO_mem z
    rcases y with y | y
    · exact h.nb j a z1 y
    · exact h.dis j i z2 a z1 y
  · unfold outO
    split
    · rfl
    · rename_i e
      exact h.non j fun d' q => z d' (by rw [List.getElem?_set_ne (Ne.symm e)]; exact q)
/-- a list that a slot holds alone is written -/
theorem ER.write {us' : List U} {ds' xs : List D} {n' : List Nat} (h : ER W (BX B0 ns) own m r ρ) (hB : Bd W B0 m) (q : ρ[i]? = some (some (.lst true xs))) (hns : ∀ a ∈ ns, ¬ B0 a)
    {a : Nat} {n1 : List Nat} (ho : own i = a :: n1) (hr : Rps W.s (BX (BO B0 own) ns) m us' ds' n') (hn : n'.Nodup) (hsub : ∀ x ∈ n', x ∈ n1 ∨ x ∈ ns) (ha : ∃ us, m[a]? = some (.lst us)) :
    ∃ own', ER W B0 own' (m.set a (.lst us')) r (ρ.set i (some (.lst true ds'))) ∧ (∀ x, OwnP own' x → OwnP own x ∨ x ∈ ns) ∧ FrO W.s (OwnP own) m (m.set a (.lst us')) := by
  obtain ⟨us0, ha⟩ := ha
  obtain ⟨u, g1, g2⟩ := h.val i _ q
  have hil : i < ρ.length := get_lt q
  have isO : OwnP own a := ⟨i, ho ▸ List.mem_cons_self ..⟩
  have aB : ¬ B0 a := fun z => h.nbO a isO (.inl z)
  have an : a ∉ ns := fun z => h.nbO a isO (.inr z)
  have an1 : a ∉ n1 := (List.nodup_cons.mp (ho ▸ h.nd i)).1
  have an' : a ∉ n' := fun z => (hsub a z).elim an1 an
  have hz : ¬ W.Z a := fun z => aB (hB.z _ z)
  have fr : FrO W.s (OwnP own) m (m.set a (.lst us')) := ⟨by simp, fun j o n nx z => by
    rw [List.getElem?_set_ne (fun (y : a = j) => nx (y ▸ isO))]
    exact z, tpk_set ha⟩
  have o1 : ∀ j x, x ∈ (if j = i then a :: n' else own j) → (j = i ∧ (x = a ∨ x ∈ n')) ∨ (j ≠ i ∧ x ∈ own j) := fun j x z => by
    split at z
    · exact .inl ⟨by assumption, List.mem_cons.mp z⟩
    · exact .inr ⟨by assumption, z⟩
  have o2 : ∀ x, OwnP (fun j => if j = i then a :: n' else own j) x → OwnP own x ∨ x ∈ ns := fun x ⟨j, z⟩ => by
    rcases o1 j x z with ⟨_, z⟩ | ⟨_, z⟩
    · rcases z with rfl | z
      · exact .inl isO
      · exact (hsub x z).imp (fun y => ⟨i, ho ▸ List.mem_cons_of_mem _ y⟩) id
    · exact .inl ⟨j, z⟩
  have sub : ∀ x, BO B0 (fun j => if j = i then a :: n' else own j) x → BX (BO B0 own) ns x := fun x z => z.elim (fun y => .inl (.inl y)) fun y => (o2 x y).imp .inr id
  have hg : u = .ref a := by
    rw [ho] at g2
    cases g2
    rfl
  subst hg
  have ne_of : ∀ {x}, x ≠ a → ∀ {us}, m[x]? = some (.lst us) → (m.set a (.lst us'))[x]? = some (.lst us) := fun {x} n {us} z => by rw [List.getElem?_set_ne (Ne.symm n)]; exact z
  refine ⟨fun j => if j = i then a :: n' else own j, ⟨hB.mono (by simp), W.set _ _ _ hz h.inv, by simp [h.len], fun j e q' => ?_, fun j => ?_, fun j k e x z y => ?_, fun j x z => ?_, fun j z => ?_⟩, o2, fr⟩
  · rcases get_set q' with ⟨rfl, z, _⟩ | ⟨ne, q'⟩
    · cases z
      refine ⟨.ref a, g1, ?_⟩
      simp only [if_pos]
      refine .lt (by rw [List.getElem?_set_self (get_lt ha)]) (hr.mv (fun x us n z => ⟨fun y => n (sub x y), ne_of (fun (y : x = a) => n (by rw [y]; exact .inl (.inr isO))) z⟩) fr.tp fun x us k z => ne_of (fun y => an' (y ▸ k)) z)
    · obtain ⟨w, k1, k2⟩ := h.val j e q'
      refine ⟨w, k1, ?_⟩
      simp only [if_neg (Ne.symm ne)]
      refine k2.mv (fun x us n z => ⟨fun y => n ?_, ne_of (fun (y : x = a) => n (by rw [y]; exact .inr isO)) z⟩) fr.tp fun x us k z => ne_of (fun y => h.dis j i (Ne.symm ne) x k (by rw [y, ho]; exact List.mem_cons_self ..)) z
      exact (sub x y).elim (fun w => w.imp .inl id) fun w => .inl (.inr w)
  · show (if j = i then a :: n' else own j).Nodup
    split
    · exact List.nodup_cons.mpr ⟨an', hn⟩
    · exact h.nd j
  · rcases o1 j x z with ⟨z1, z2⟩ | ⟨z1, z2⟩
    · rcases o1 k x y with ⟨y1, y2⟩ | ⟨y1, y2⟩
      · exact e (z1.trans y1.symm)
      · rcases z2 with rfl | z2
        · exact h.dis k i y1 x y2 (ho ▸ List.mem_cons_self ..)
        · rcases hsub x z2 with w | w
          · exact h.dis k i y1 x y2 (ho ▸ List.mem_cons_of_mem _ w)
          · exact h.nb k x y2 (.inr w)
    · rcases o1 k x y with ⟨y1, y2⟩ | ⟨y1, y2⟩
      · rcases y2 with rfl | y2
        · exact h.dis j i z1 x z2 (ho ▸ List.mem_cons_self ..)
        · rcases hsub x y2 with w | w
          · exact h.dis j i z1 x z2 (ho ▸ List.mem_cons_of_mem _ w)
          · exact h.nb j x z2 (.inr w)
      · exact h.dis j k e x z2 y2
  · rcases o1 j x z with ⟨z1, z2⟩ | ⟨z1, z2⟩
    · rcases z2 with rfl | z2
      · exact aB
      · rcases hsub x z2 with w | w
        · exact fun y => h.nb i x (ho ▸ List.mem_cons_of_mem _ w) (.inl y)
        · exact hns x w
    · exact fun y => h.nb j x z2 (.inl y)
  · show (if j = i then a :: n' else own j) = []
    by_cases e : j = i
    · subst e
      exact (z _ (by rw [List.getElem?_set_self hil])).elim
    · rw [if_neg e]
      exact h.non j fun d' q => z d' (by rw [List.getElem?_set_ne (Ne.symm e)]; exact q)
end
end Py
set_option maxHeartbeats 4000000
/-! MINI PYTHON, part F8: values that are taken over; loops. -/
namespace Py
open PySem

/-- a value is taken over, and the slots behind it -/
def GM (W : Wd) (B0 X : Nat → Prop) (m0 : M) (r : Env) (Q : D → DE → Prop) : U → M → Prop := fun u m1 => ∃ d ns ρ1 own1, ER W (BX B0 ns) own1 m1 r ρ1 ∧ Rp W.s (BX (BO B0 own1) ns) m1 u d ns ∧ ns.Nodup ∧ (∀ a ∈ ns, ¬ B0 a) ∧ (∀ a ∈ ns, X a ∨ m0.length ≤ a) ∧ SubO X (OwnP own1) m0 ∧ FrO W.s X m0 m1 ∧ Q d ρ1
def GMs (W : Wd) (B0 X : Nat → Prop) (m0 : M) (r : Env) (Q : List D → DE → Prop) : List U → M → Prop := fun us m1 => ∃ ds ns ρ1 own1, ER W (BX B0 ns) own1 m1 r ρ1 ∧ Rps W.s (BX (BO B0 own1) ns) m1 us ds ns ∧ ns.Nodup ∧ (∀ a ∈ ns, ¬ B0 a) ∧ (∀ a ∈ ns, X a ∨ m0.length ≤ a) ∧ SubO X (OwnP own1) m0 ∧ FrO W.s X m0 m1 ∧ Q ds ρ1
section
variable {W : Wd} {B0 B' X X' : Nat → Prop} {own own1 : Nat → List Nat} {m m0 m1 m2 : M} {r : Env} {ρ ρ1 : DE} {u : U} {d : D} {us : List U} {ds : List D} {ns : List Nat} {i : Nat} {K : DK} {p : Fl × Env} {E : DX → Prop}
/-- what others may not have stays -/
theorem ER.frX (h : ER W (BX B0 ns) own m r ρ) (f : FrO W.s (fun a => a ∈ ns) m m1) (I : W.Inv m1) : ER W (BX B0 ns) own m1 r ρ :=
  ⟨h.bd.mono f.len, I, h.len, fun i d q => let ⟨u, h1, h2⟩ := h.val i d q; ⟨u, h1, h2.mv (fun j us n z => ⟨n, f.keep j us (fun y => n (y ▸ .inl h.bd.st)) (fun y => n (.inl (.inr y))) z⟩) f.tp fun j us k z => f.keep j us (fun y => h.sO i (y ▸ k)) (fun y => h.nb i j k (.inr y)) z⟩, h.nd, h.dis, h.nb, h.non⟩
theorem ER.bd0 (h : ER W (BX B0 ns) own m r ρ) (hB : Bd W B0 m0) (l : m0.length ≤ m.length) : Bd W B0 m := hB.mono l
/-- GX, seen from before -/
theorem GX.before {e : Ex} {m' : M} (f : FrO W.s X m m1) (k : SubO X X' m) (kb : ∀ a, B' a → B0 a) (h : GX W B0 X' m1 E e m') : GX W B' X m E e m' := by
  obtain ⟨y, h1, h2, h3, h4⟩ := h
  exact ⟨y, h1.weak kb, h2, f.trans k h3, h4⟩
theorem own_at {d : D} {xs : List D} {j : Nat} (h : Rps W.s B' m us xs ns) (q : xs[j]? = some d) : ∃ u ns', us[j]? = some u ∧ Rp W.s B' m u d ns' ∧ ns'.Sublist ns := h.at' q
variable {g : Pg} {cl : Cl} {F : DF} {cons : Str → Bool} (hF : FSound cl F W)
include hF
/-- a value that is read -/
theorem sG (e : ME) {own : Nat → List Nat} {B0 : Nat → Prop} {m : M} {r : Env} {ρ : DE} {Q : D → DE → Prop} {E : DX → Prop} (h : ER W B0 own m r ρ) (q : pE g F e ρ (fun d => Q d (aft d.own (vE e) ρ)) E) : (ev g cl e r m).sat (GM W B0 (OwnP own) m r Q) (GX W B0 (OwnP own) m E) := by
  refine sat_mono (sE hF e (fun _ z => z) h.bdM h.inv h.ev q) (fun u m1 ⟨d, ns, h1, h2, h3, q1, f1, I1⟩ => ?_) fun x m1 ⟨y, z1, z2, z3, z4⟩ => ⟨y, z1.weak fun a z => .inl z, z2, z3.toO, z4⟩
  have h3 := noF h3
  have hb : ∀ a ∈ ns, ¬ B0 a := fresh_nb h.bd h3
  have q1 : Q d (aft d.own (vE e) ρ) := q1
  cases ho : d.own with
  | true =>
    rw [ho] at q1
    exact ⟨d, ns, ρ, own, h.more f1 I1 h1.lt' h3, h1.ofOwn ho, h2, hb, fun a z => .inr (h3 a z), .refl, f1.toO, q1⟩
  | false =>
    rw [ho] at q1
    obtain ⟨own', k1, k2⟩ := h.dropV (vE e)
    exact ⟨d, ns, _, own', k1.more f1 I1 h1.lt' h3, h1.weak fun a z => z.imp (fun y => y.imp id (k2 a)) id, h2, hb, fun a z => .inr (h3 a z), fun a z => let ⟨i, _, y⟩ := k2 a z; .inl ⟨i, y⟩, f1.toO, q1⟩
mutual
theorem sM : ∀ (e : ME) {mv : Bool} {own : Nat → List Nat} {B0 : Nat → Prop} {m : M} {r : Env} {ρ : DE} {Q : D → DE → Prop} {E : DX → Prop}, ER W B0 own m r ρ → pM g F cons mv e ρ Q E → (ev g cl e r m).sat (GM W B0 (OwnP own) m r Q) (GX W B0 (OwnP own) m E)
  | .var i, mv, own, B0, m, r, ρ, Q, E, h, q => by
    cases mv with
    | true =>
      have q' : (match ρ[i]? with
        | some (some d) => Q d (ρ.set i none)
        | _ => False) := by
        unfold pM at q
        exact q
      split at q'
      · rename_i d hd
        obtain ⟨u, h1, h2, h3⟩ := h.unset hd
        rw [ev_var, h1]
        exact ⟨d, own i, _, _, h2, h3, h.nd i, h.nb i, fun a z => .inl ⟨i, z⟩, fun a z => .inl (outO_sub a z), .refl, q'⟩
      · exact q'.elim
    | false =>
      unfold pM at q
      exact sG hF _ h q
  | .tup es, mv, own, B0, m, r, ρ, Q, E, h, q => by
    unfold pM at q
    cases hc : mv with
    | true =>
      rw [hc] at q
      replace q := ct_ q
      rw [ev_tup]
      refine sat_bind (sat_mono (sMs es h q) (fun us m1 hh => ?_) fun _ _ z => z)
      obtain ⟨ds, ns, ρ1, own1, h1, h2, h3, h4, h5, h6, h7, ⟨q1, q2⟩⟩ := hh
      rw [if_pos (by rw [h2.len]; exact q1)]
      have e : tpOf (m1 ++ [MO.tup us]) m1.length = some us := by
        unfold tpOf
        rw [show (m1 ++ [MO.tup us])[m1.length]? = some (.tup us) by simp]
      have f : Fr W.s m1 (m1 ++ [MO.tup us]) := Fr.app
      exact ⟨.tup ds, ns, ρ1, own1, h1.fr f (W.app _ _ h1.inv), .tup e (h2.fr (.inl (.inl h.bd.st)) f fun z => h4 _ z h.bd.st), h3, h4, h5, h6, h7.trans h6 f.toO, q2⟩
    | false =>
      rw [hc] at q
      exact sG hF _ h (cf_ q)
  | .lst es, mv, own, B0, m, r, ρ, Q, E, h, q => by
    unfold pM at q
    cases hc : mv with
    | true =>
      rw [hc] at q
      replace q := ct_ q
      rw [ev_lst]
      refine sat_bind (sat_mono (sMs es h q) (fun us m1 hh => ?_) fun _ _ z => z)
      obtain ⟨ds, ns, ρ1, own1, h1, h2, h3, h4, h5, h6, h7, ⟨q1, q2⟩⟩ := hh
      rw [if_pos (by rw [h2.len]; exact q1)]
      have e : (m1 ++ [MO.lst us])[m1.length]? = some (.lst us) := by simp
      have f : Fr W.s m1 (m1 ++ [MO.lst us]) := Fr.app
      have hm : ∀ a ∈ [m1.length], m1.length ≤ a := fun a z => by rw [List.mem_singleton.mp z]; exact Nat.le_refl _
      have g1 := h1.more (ns := [m1.length]) f (W.app _ _ h1.inv) (fun a z => by rw [List.mem_singleton.mp z]; simp) hm
      have hBm : Bd W (BX B0 (m1.length :: ns)) (m1 ++ [MO.lst us]) := (h.bd.mono (Nat.le_trans h7.len f.len)).bn fun a z => by
        rcases List.mem_cons.mp z with rfl | z
        · simp
        · exact Nat.lt_of_lt_of_le (h2.lt' a z) f.len
      refine ⟨.lst true ds, m1.length :: ns, ρ1, own1, g1.less hBm fun a z => ?_, .lt e ((h2.sub (B' := BX (BO B0 own1) (m1.length :: ns)) fun a z => ?_).fr (.inl (.inl h.bd.st)) f fun z => h4 _ z h.bd.st), List.nodup_cons.mpr ⟨fun z => Nat.lt_irrefl _ (h2.lt' _ z), h3⟩, fun a z => ?_, fun a z => ?_, h6, h7.trans h6 f.toO, q2⟩
      · rcases z with z | z
        · exact .inl (.inl z)
        · rcases List.mem_cons.mp z with z | z
          · exact .inr (by rw [z]; simp)
          · exact .inl (.inr z)
      · rcases z with z | z
        · exact .inl (.inl z)
        · rcases List.mem_cons.mp z with z | z
          · exact .inr (by rw [z]; exact Nat.le_refl _)
          · exact .inl (.inr z)
      · rcases List.mem_cons.mp z with rfl | z
        · exact fun y => Nat.lt_irrefl _ (Nat.lt_of_lt_of_le (h.bd.lt _ y) h7.len)
        · exact h4 a z
      · rcases List.mem_cons.mp z with rfl | z
        · exact .inr h7.len
        · exact h5 a z
    | false =>
      rw [hc] at q
      exact sG hF _ h (cf_ q)
  | .idx a b, mv, own, B0, m, r, ρ, Q, E, h, q => by
    unfold pM at q
    cases hc : (mv && dj (vE a) (vE b)) with
    | true =>
      rw [hc] at q
      replace q := ct_ q
      rw [ev_idx]
      refine sat_bind (sat_mono (sM a h q) (fun u m1 hh => ?_) fun _ _ z => z)
      obtain ⟨d, ns, ρ1, own1, h1, h2, h3, h4, h5, h6, h7, q1⟩ := hh
      refine sat_bind (sat_mono (sE hF b (fun _ z => z) h1.bdM h1.inv h1.ev q1) (fun v m2 ⟨e, n2, g1, _, _, q2, f2, I2⟩ => ?_) fun x m2 ⟨y, z1, z2, z3, z4⟩ => ⟨y, z1.weak fun a z => .inl (.inl z), z2, h7.trans h6 z3.toO, z4⟩)
      have h1' := h1.fr f2 I2
      have h2' := h2.fr (.inl (.inl h.bd.st)) f2 fun z => h4 _ z h.bd.st
      have hBm : Bd W B0 m2 := h.bd.mono (Nat.le_trans h7.len f2.len)
      have fin : ∀ {w : U} {d1 : D} {n1 : List Nat}, Rp W.s (BX (BO B0 own1) ns) m2 w d1 n1 → n1.Sublist ns → Q d1 ρ1 → GM W B0 (OwnP own) m r Q w m2 := fun {w d1 n1} k1 k2 k3 => by
        have kk : ∀ {Z : Nat → Prop} a, BX Z n1 a → BX Z ns a := fun a z => z.imp id fun y => k2.subset y
        exact ⟨d1, n1, ρ1, own1, h1'.less (hBm.bn k1.lt') kk, k1.weak kk, h3.sublist k2, fun a z => h4 a (k2.subset z), fun a z => h5 a (k2.subset z), h6, h7.trans h6 f2.toO, k3⟩
      cases e with
      | int j =>
        cases g1.int'
        cases d with
        | lst fl xs =>
          obtain ⟨a, us, n1, rfl, k1, k2, s1⟩ := h2'.ls
          obtain ⟨d, k3, k4⟩ := oQ_some (show oQ (L2.atI xs j) _ from q2)
          obtain ⟨w, n3, l1, l2, l3⟩ := atI_rep k2 k3
          simp only [idx2]
          rw [lsOf_seq (ls_of k1)]
          simp only
          rw [l1]
          exact fin l2 (l3.trans s1) k4
        | tup xs =>
          obtain ⟨a, us, rfl, k1, k2⟩ := h2'.tp
          obtain ⟨d, k3, k4⟩ := oQ_some (show oQ (L2.atI xs j) _ from q2)
          obtain ⟨w, n3, l1, l2, l3⟩ := atI_rep k2 k3
          simp only [idx2]
          rw [tpOf_seq k1]
          simp only
          rw [l1]
          exact fin l2 l3 k4
        | str z =>
          cases h2'.str'
          obtain ⟨z1, z2⟩ := (show z.length ≤ SL ∧ oQ (L2.atI z.cps.toList j) (fun c => Q (.str ⟨#[c]⟩) ρ1) from q2)
          obtain ⟨c, k3, k4⟩ := oQ_some z2
          simp only [idx2]
          rw [if_pos z1, k3]
          exact fin (.str _) (List.nil_sublist _) k4
        | _ => exact q2.elim
      | _ => cases d <;> exact q2.elim
    | false =>
      rw [hc] at q
      exact sG hF _ h (cf_ q)
  | .not a, mv, own, B0, m, r, ρ, Q, E, h, q => by
    unfold pM at q
    rw [ev_not]
    refine sat_bind (sat_mono (sM a h q) (fun u m1 hh => ?_) fun _ _ z => z)
    obtain ⟨d, ns, ρ1, own1, h1, h2, h3, h4, h5, h6, h7, q1⟩ := hh
    have hBm : Bd W B0 m1 := h.bd.mono h7.len
    exact tru_sat h2 q1 fun b hb => ⟨.bl (!b), [], ρ1, own1, h1.less (hBm.bn fun _ z => by cases z) fun a z => z.imp id fun y => (by cases y), .bl _, .nil, (fun _ z => nomatch z), (fun _ z => nomatch z), h6, h7, hb⟩
  | .call f es, mv, own, B0, m, r, ρ, Q, E, h, q => by
    unfold pM at q
    cases hc : (cons f) with
    | true =>
      rw [hc] at q
      replace q := ct_ q
      rw [ev_call]
      refine sat_bind (sat_mono (sMs es h q) (fun us m1 hh => ?_) fun _ _ z => z)
      obtain ⟨ds, ns, ρ1, own1, h1, h2, h3, h4, h5, h6, h7, q1⟩ := hh
      have hB1 : Bd W (BO B0 own1) m1 := ⟨.inl h.bd.st, fun a z => .inl (h.bd.z a z), fun a z => z.elim (fun y => Nat.lt_of_lt_of_le (h.bd.lt a y) h7.len) (h1.lt a)⟩
      have hnb : ∀ a ∈ ns, ¬ BO B0 own1 a := fun a z y => y.elim (h4 a z) fun w => h1.nbO a w (.inr z)
      have sub : SubO (OwnP own) (fun a => a ∈ ns) m := fun a z => h5 a z
      refine sat_mono (hF f ds _ E q1 (BO B0 own1) m1 us ns hB1 h1.inv h2 h3 hnb) (fun v m2 ⟨e, n2, k1, k2, k3, k4, k5, k6⟩ => ?_) fun x m2 z => z.before h7 sub fun a y => .inl y
      have h1' := h1.frX k5 k6
      have hBm : Bd W B0 m2 := h.bd.mono (Nat.le_trans h7.len k5.len)
      have hb2 : ∀ a ∈ n2, ¬ B0 a := fun a z y => (k3 a z).elim (fun w => h4 a w y) fun w => Nat.lt_irrefl _ (Nat.lt_of_lt_of_le (hB1.lt a (.inl y)) w)
      have g1 := h1'.less (B' := B0) hBm fun a z => .inl z
      have hno : ∀ j, ∀ a ∈ own1 j, a ∉ n2 := fun j a z y => (k3 a y).elim (fun w => h1.nb j a z (.inr w)) fun w => Nat.lt_irrefl _ (Nat.lt_of_lt_of_le (h1.lt a ⟨j, z⟩) w)
      refine ⟨e, n2, ρ1, own1, ⟨hBm.bn k1.lt', k6, h1.len, fun j dj qj => ?_, h1.nd, h1.dis, fun j a z y => y.elim (g1.nb j a z) (hno j a z), h1.non⟩, k1, k2, hb2, fun a z => (k3 a z).elim (fun w => h5 a w) fun w => .inr (Nat.le_trans h7.len w), h6, h7.trans sub k5, k4⟩
      obtain ⟨w, l1, l2⟩ := h1.val j dj qj
      refine ⟨w, l1, l2.mv (fun x us' n z => ⟨fun y => n ?_, k5.keep x us' (fun y => n (.inl (.inl (y ▸ h.bd.st)))) (fun y => n (.inl (.inr y))) z⟩) k5.tp fun x us' k z => k5.keep x us' (fun y => h1.sO j (y ▸ k)) (fun y => h1.nb j x k (.inr y)) z⟩
      rcases y with (y | y) | y
      · exact .inl (.inl y)
      · rcases k3 x y with w | w
        · exact .inl (.inr w)
        · exact absurd (get_lt z) (Nat.not_lt.mpr w)
      · exact .inr y
    | false =>
      rw [hc] at q
      exact sG hF _ h (cf_ q)
  | .cst u, mv, own, B0, m, r, ρ, Q, E, h, q => sG hF _ h q
  | .glo x, mv, own, B0, m, r, ρ, Q, E, h, q => sG hF _ h q
  | .bin o a b, mv, own, B0, m, r, ρ, Q, E, h, q => sG hF _ h q
  | .neg a, mv, own, B0, m, r, ρ, Q, E, h, q => sG hF _ h q
  | .cmp o a b, mv, own, B0, m, r, ρ, Q, E, h, q => sG hF _ h q
  | .chn o o' a b c, mv, own, B0, m, r, ρ, Q, E, h, q => sG hF _ h q
  | .and a b, mv, own, B0, m, r, ρ, Q, E, h, q => sG hF _ h q
  | .or a b, mv, own, B0, m, r, ρ, Q, E, h, q => sG hF _ h q
  | .ifx c a b, mv, own, B0, m, r, ρ, Q, E, h, q => sG hF _ h q
  | .slc a lo hi bl bh, mv, own, B0, m, r, ρ, Q, E, h, q => sG hF _ h q
  | .callk f ks es, mv, own, B0, m, r, ρ, Q, E, h, q => sG hF _ h q
  | .blt f es, mv, own, B0, m, r, ρ, Q, E, h, q => sG hF _ h q
  | .isi a ts, mv, own, B0, m, r, ρ, Q, E, h, q => sG hF _ h q
  | .bm f a es, mv, own, B0, m, r, ρ, Q, E, h, q => sG hF _ h q
  | .lc elt tg it c own', mv, own, B0, m, r, ρ, Q, E, h, q => sG hF _ h q
  | .lc2 elt tg it c tg1 it1 c1 own' own1, mv, own, B0, m, r, ρ, Q, E, h, q => sG hF _ h q
theorem sMs : ∀ (es : MEs) {mv : Bool} {own : Nat → List Nat} {B0 : Nat → Prop} {m : M} {r : Env} {ρ : DE} {Q : List D → DE → Prop} {E : DX → Prop}, ER W B0 own m r ρ → pMs g F cons mv es ρ Q E → (evs g cl es r m).sat (GMs W B0 (OwnP own) m r Q) (GX W B0 (OwnP own) m E)
  | .nil, mv, own, B0, m, r, ρ, Q, E, h, q => ⟨[], [], ρ, own, h.less (h.bd.bn fun _ z => by cases z) fun a z => z.elim id fun y => (by cases y), .nil, .nil, (fun _ z => nomatch z), (fun _ z => nomatch z), .refl, FrO.refl, q⟩
  | .cons e es, mv, own, B0, m, r, ρ, Q, E, h, q => by
    rw [evs_cons]
    refine sat_bind (sat_mono (sM e h q) (fun u m1 hh => ?_) fun _ _ z => z)
    obtain ⟨d, n1, ρ1, own1, h1, h2, h3, h4, h5, h6, h7, q1⟩ := hh
    refine sat_bind (sat_mono (sMs es h1 q1) (fun us m2 hh => ?_) fun x m2 z => z.before h7 h6 fun a y => .inl y)
    obtain ⟨ds, n2, ρ2, own2, k1, k2, k3, k4, k5, k6, k7, q2⟩ := hh
    have hBm : Bd W B0 m2 := h.bd.mono (Nat.le_trans h7.len k7.len)
    have hx : Rp W.s (BX (BO B0 own2) (n1 ++ n2)) m2 u d n1 := h2.mv (fun j us' n z => ⟨fun y => n ?_, k7.keep j us' (fun y => n (.inl (.inl (y ▸ h.bd.st)))) (fun y => n (.inl (.inr y))) z⟩) k7.tp fun j us' k z => k7.keep j us' (fun y => h4 j k (y ▸ h.bd.st)) (fun y => h1.nbO j y (.inr k)) z
    · have hsub : ∀ a, BX B0 (n1 ++ n2) a → BX (BX B0 n1) n2 a := fun a z => z.elim (fun y => .inl (.inl y)) fun y => (List.mem_append.mp y).elim (fun w => .inl (.inr w)) .inr
      refine ⟨d :: ds, n1 ++ n2, ρ2, own2, k1.less (hBm.bn fun a z => (List.mem_append.mp z).elim (fun y => hx.lt' a y) (k2.lt' a)) hsub, .cons hx (k2.weak fun a z => ?_), ?_, fun a z => (List.mem_append.mp z).elim (h4 a) fun y w => k4 a y (.inl w), fun a z => (List.mem_append.mp z).elim (h5 a) fun y => (k5 a y).elim (h6 a) fun w => .inr (Nat.le_trans h7.len w), h6.trans h7.len k6, h7.trans h6 k7, q2⟩
      · rcases z with z | z
        · exact z.elim (fun y => .inl (.inl (.inl y))) fun y => .inl (.inr y)
        · exact (List.mem_append.mp z).elim (fun y => .inl (.inl (.inr y))) .inr
      · exact List.nodup_append.mpr ⟨h3, k3, fun a ha b hb e => k4 b hb (.inr (e ▸ ha))⟩
    · rcases y with (y | y) | y
      · exact .inl (.inl y)
      · rcases k6 j y with w | w
        · exact .inl (.inr w)
        · exact absurd (get_lt z) (Nat.not_lt.mpr w)
      · rcases List.mem_append.mp y with y | y
        · exact .inr y
        · rcases k5 j y with w | w
          · exact .inl (.inr w)
          · exact absurd (get_lt z) (Nat.not_lt.mpr w)
end
end
end Py
set_option maxHeartbeats 4000000
/-! MINI PYTHON, part F9: the theorem for statements. -/
namespace Py
open PySem

/-- the end of a statement -/
def GS (W : Wd) (B0 X : Nat → Prop) (m0 : M) (K : DK) : (Fl × Env) → M → Prop := fun p m => match p.1 with
  | .nx => ∃ own1 ρ1, ER W B0 own1 m p.2 ρ1 ∧ SubO X (OwnP own1) m0 ∧ FrO W.s X m0 m ∧ K.nx ρ1
  | .br => ∃ own1 ρ1, ER W B0 own1 m p.2 ρ1 ∧ SubO X (OwnP own1) m0 ∧ FrO W.s X m0 m ∧ K.br ρ1
  | .ct => ∃ own1 ρ1, ER W B0 own1 m p.2 ρ1 ∧ SubO X (OwnP own1) m0 ∧ FrO W.s X m0 m ∧ K.ct ρ1
  | .rt u => GV W B0 X m0 K.rt u m
section
variable {W : Wd} {B0 X X' : Nat → Prop} {own : Nat → List Nat} {m m0 m1 : M} {r : Env} {ρ : DE} {K : DK} {p : Fl × Env} {E : DX → Prop} {us : List U} {ds : List D} {ns : List Nat}
theorem GV.before {Q : DQ} {u : U} (f : FrO W.s X m0 m1) (k : SubO X X' m0) (h : GV W B0 X' m1 Q u m) : GV W B0 X m0 Q u m := by
  obtain ⟨d, ns, h1, h2, h3, h4, h5, h6⟩ := h
  exact ⟨d, ns, h1, h2, fun a z => (h3 a z).elim (k a) fun y => .inr (Nat.le_trans f.len y), h4, f.trans k h5, h6⟩
theorem GS.up (f : FrO W.s X m0 m1) (k : SubO X X' m0) (h : GS W B0 X' m1 K p m) : GS W B0 X m0 K p m := by
  obtain ⟨fl, r'⟩ := p
  cases fl with
  | nx => obtain ⟨own1, ρ1, h2, h3, h4, h5⟩ := h; exact ⟨own1, ρ1, h2, k.trans f.len h3, f.trans k h4, h5⟩
  | br => obtain ⟨own1, ρ1, h2, h3, h4, h5⟩ := h; exact ⟨own1, ρ1, h2, k.trans f.len h3, f.trans k h4, h5⟩
  | ct => obtain ⟨own1, ρ1, h2, h3, h4, h5⟩ := h; exact ⟨own1, ρ1, h2, k.trans f.len h3, f.trans k h4, h5⟩
  | rt u => exact GV.before f k h
theorem GX.up' {e : Ex} (f : FrO W.s X m0 m1) (k : SubO X X' m0) (h : GX W B0 X' m1 E e m) : GX W B0 X m0 E e m := h.before f k fun _ z => z
/-- slots take the parts -/
theorem setS_er : ∀ {is : List Nat} {us : List U} {ds : List D} {ns : List Nat} {r : Env} {ρ ρ1 : DE} {own : Nat → List Nat}, Bd W B0 m → ER W (BX B0 ns) own m r ρ → Rps W.s (BX (BO B0 own) ns) m us ds ns → ns.Nodup → (∀ a ∈ ns, ¬ B0 a) → setD ρ is ds = some ρ1 →
    ∃ r1 own1, setS r is us = some r1 ∧ ER W B0 own1 m r1 ρ1 ∧ ∀ a, OwnP own1 a → OwnP own a ∨ a ∈ ns
  | [], [], [], ns, r, ρ, ρ1, own, hB, h, _, _, _, e => ⟨r, own, rfl, by cases e; exact h.less hB fun a z => .inl z, fun _ z => .inl z⟩
  | i :: is, u :: us, d :: ds, ns, r, ρ, ρ1, own, hB, h, k, nd, hb, e => by
    cases k with
    | @cons _ _ _ _ n1 n2 a b =>
      obtain ⟨nd1, nd2, nd3⟩ := List.nodup_append.mp nd
      have e1 : ∀ x, BX (BX B0 n2) n1 x → BX B0 (n1 ++ n2) x := fun x z => z.elim (fun y => y.imp id fun w => List.mem_append_right _ w) fun y => .inr (List.mem_append_left _ y)
      have hl1 : ∀ x ∈ n1, x < m.length := a.lt'
      have hl2 : ∀ x ∈ n2, x < m.length := b.lt'
      obtain ⟨own', g1, g2⟩ := (h.less ((hB.bn hl2).bn hl1) e1).setN (B0 := BX B0 n2) (hB.bn hl2) (a.weak fun x z => by
        rcases z with (z | z) | z
        · exact z.elim (fun y => .inl (.inl y)) fun y => .inr (List.mem_append_right _ y)
        · exact .inl (.inr z)
        · exact .inr (List.mem_append_left _ z)) nd1 (fun x hx y => y.elim (hb x (List.mem_append_left _ hx)) fun w => nd3 x hx x w rfl) i
      obtain ⟨r1, own1, k1, k2, k3⟩ := setS_er (is := is) hB g1 (b.weak fun x z => by
        rcases z with (z | z) | z
        · exact .inl (.inl z)
        · exact (g2 x z).elim (fun y => .inl (.inr y)) fun y => .inr (List.mem_append_left _ y)
        · exact .inr (List.mem_append_right _ z)) nd2 (fun x hx => hb x (List.mem_append_right _ hx)) e
      exact ⟨r1, own1, k1, k2, fun x z => (k3 x z).elim (fun y => (g2 x y).imp id fun w => List.mem_append_left _ w) fun y => .inr (List.mem_append_right _ y)⟩
  | [], _ :: _, _ :: _, _, _, _, _, _, _, _, _, _, _, e => by cases e
  | _ :: _, [], [], _, _, _, _, _, _, _, _, _, _, e => by cases e
  | _, [], _ :: _, _, _, _, _, _, _, _, k, _, _, _ => nomatch k
  | _, _ :: _, [], _, _, _, _, _, _, _, k, _, _, _ => nomatch k
theorem asgT_er {is : List Nat} {u : U} {ρ1 : DE} (hB : Bd W B0 m) (h : ER W (BX B0 ns) own m r ρ) (k : Rp W.s (BX (BO B0 own) ns) m u (.tup ds) ns) (nd : ns.Nodup) (hb : ∀ a ∈ ns, ¬ B0 a) (e : setD ρ is ds = some ρ1) :
    ∃ r1 own1, asgT (.tp is) [u] r m = .ok r1 m ∧ ER W B0 own1 m r1 ρ1 ∧ ∀ a, OwnP own1 a → OwnP own a ∨ a ∈ ns := by
  obtain ⟨a, us, rfl, ht, rr⟩ := k.tp
  obtain ⟨r1, own1, h1, h2, h3⟩ := setS_er hB h rr nd hb e
  refine ⟨r1, own1, ?_, h2, h3⟩
  simp only [asgT]
  rw [ht]
  simp only
  rw [h1]
theorem tgt_er {tg : Tg} {ρ1 : DE} (h : ER W B0 own m r ρ) (k : Rps W.s (BO B0 own) m us ds []) (e : tgtD tg ds ρ = some ρ1) :
    ∃ r1 own1, asgT tg us r m = .ok r1 m ∧ ER W B0 own1 m r1 ρ1 ∧ ∀ a, OwnP own1 a → OwnP own a := by
  have h0 : ER W (BX B0 []) own m r ρ := h.less (h.bd.bn fun _ z => by cases z) fun a z => z.elim id fun y => by cases y
  have k0 : Rps W.s (BX (BO B0 own) []) m us ds [] := k.weak fun a z => z.elim id fun y => by cases y
  have fin : ∀ {is : List Nat} {us : List U} {ds : List D}, Rps W.s (BX (BO B0 own) []) m us ds [] → setD ρ is ds = some ρ1 → ∃ r1 own1, setS r is us = some r1 ∧ ER W B0 own1 m r1 ρ1 ∧ ∀ a, OwnP own1 a → OwnP own a := fun {is us ds} k e => by
    obtain ⟨r1, own1, h1, h2, h3⟩ := setS_er h.bd h0 k .nil (fun _ z => by cases z) e
    exact ⟨r1, own1, h1, h2, fun a z => (h3 a z).elim id fun y => by cases y⟩
  cases tg with
  | nm i =>
    match us, ds, k0, e with
    | [u], [d], k, e =>
      obtain ⟨r1, own1, h1, h2, h3⟩ := fin (is := [i]) k (by rw [← e]; rfl)
      refine ⟨r1, own1, ?_, h2, h3⟩
      cases h1
      rfl
    | [], [], _, e => cases e
    | _ :: _ :: _, _ :: _ :: _, _, e => cases e
    | [], _ :: _, k, _ => exact nomatch k
    | _ :: _, [], k, _ => exact nomatch k
    | [_], _ :: _ :: _, k, _ => exact nomatch k.nil_cons.2
    | _ :: _ :: _, [_], k, _ => exact nomatch k.nil_cons.2
  | tp is =>
    match us, ds, k0, e with
    | [], [], _, e => cases e
    | [], _ :: _, k, _ => exact nomatch k
    | _ :: _, [], k, _ => exact nomatch k
    | [_], _ :: _ :: _, k, _ => exact nomatch k.nil_cons.2
    | _ :: _ :: _, [_], k, _ => exact nomatch k.nil_cons.2
    | [u], [d], k, e =>
      cases d with
      | tup xs =>
        obtain ⟨r1, own1, h1, h2, h3⟩ := asgT_er h.bd h0 k.nil_cons.1 .nil (fun _ z => by cases z) e
        exact ⟨r1, own1, h1, h2, fun a z => (h3 a z).elim id fun y => by cases y⟩
      | _ => cases e
    | [u, v], [d, d2], k, e =>
      have e' : setD ρ is [d, d2] = some ρ1 := by
        cases d <;> exact e
      obtain ⟨r1, own1, h1, h2, h3⟩ := fin k e'
      refine ⟨r1, own1, ?_, h2, h3⟩
      have : asgT (.tp is) [u, v] r m = (match setS r is [u, v] with
        | some r' => .ok r' m
        | none => .stuck) := by cases u <;> rfl
      rw [this, h1]
    | [_, _], _ :: _ :: _ :: _, k, _ => exact nomatch k.nil_cons.2.nil_cons.2
    | _ :: _ :: _ :: _, [_, _], k, _ => exact nomatch k.nil_cons.2.nil_cons.2
    | _ :: _ :: _ :: _, _ :: _ :: _ :: _, _, e => exact absurd e (by unfold tgtD; simp)
/-- for: each turn -/
theorem for_sound {t : IT} {tg : Tg} {body : Env → M → R (Fl × Env)} {bodyD : DE → DK → Prop} {X0 : Nat → Prop} {mS : M}
    (hbody : ∀ (r1 : Env) (ρ1 : DE) (m : M) (own : Nat → List Nat) (K : DK), ER W B0 own m r1 ρ1 → bodyD ρ1 K → (body r1 m).sat (GS W B0 (OwnP own) m K) (GX W B0 (OwnP own) m K.ex))
    (hok : ∀ m, FrO W.s X0 mS m → t.ok m = true) : ∀ {xs : List (List U)} {ys : List (List D)} {m : M} {r : Env} {ρ : DE} {own : Nat → List Nat} {K : DK}, FrO W.s X0 mS m → SubO X0 (OwnP own) mS → ER W B0 own m r ρ → Items W.s (BO B0 own) m xs ys → forD tg bodyD ys ρ K →
      (forL t tg body xs r m).sat (GS W B0 X0 mS K) (GX W B0 X0 mS K.ex)
  | _, _, m, r, ρ, own, K, f, k, h, .nil, q => by
    unfold forL
    rw [if_pos (hok m f)]
    exact ⟨own, ρ, h, k, f, q⟩
  | _, _, m, r, ρ, own, K, f, k, h, .cons hx hr, q => by
    unfold forL
    rw [if_pos (hok m f)]
    obtain ⟨ρ1, e1, q1⟩ := oQ_some q
    obtain ⟨r1, own1, a1, a2, a3⟩ := tgt_er h hx e1
    rw [a1]
    have k1 : SubO X0 (OwnP own1) mS := fun a z => k a (a3 a z)
    have goOn : ∀ {m2 : M} {r2 : Env} {ρ2 : DE} {own2 : Nat → List Nat}, ER W B0 own2 m2 r2 ρ2 → SubO (OwnP own1) (OwnP own2) m → FrO W.s (OwnP own1) m m2 → forD tg bodyD _ ρ2 K →
        (forL t tg body _ r2 m2).sat (GS W B0 X0 mS K) (GX W B0 X0 mS K.ex) := fun {m2 r2 ρ2 own2} h2 s2 f2 q2 => by
      refine for_sound hbody hok (f.trans k1 f2) (k1.trans f.len s2) h2 (hr.mv fun z => z.mv (fun i o n y => ⟨fun w => ?_, f2.keep i o (fun w => n (w ▸ .inl h.bd.st)) (fun w => n (.inr (a3 i w))) y⟩) f2.tp fun i us k _ => by cases k) q2
      rcases w with w | w
      · exact n (.inl w)
      · rcases s2 i w with w | w
        · exact n (.inr (a3 i w))
        · exact absurd (get_lt y) (Nat.not_lt.mpr w)
    refine sat_bind (sat_bind (sat_mono (hbody r1 ρ1 m own1 _ a2 q1) (fun p m2 hp => ?_) fun _ _ z => z.up' f k1))
    obtain ⟨fl, r2⟩ := p
    cases fl with
    | nx =>
      obtain ⟨own2, ρ2, h2, s2, f2, q2⟩ := hp
      exact goOn h2 s2 f2 q2
    | ct =>
      obtain ⟨own2, ρ2, h2, s2, f2, q2⟩ := hp
      exact goOn h2 s2 f2 q2
    | br =>
      obtain ⟨own2, ρ2, h2, s2, f2, q2⟩ := hp
      exact ⟨own2, ρ2, h2, k1.trans f.len s2, f.trans k1 f2, q2⟩
    | rt u => exact GV.before f k1 hp
/-- while: each turn -/
theorem whl_sound {c : Env → M → R Bool} {cD : DE → (Bool → Prop) → (DX → Prop) → Prop} {body : Env → M → R (Fl × Env)} {bodyD : DE → DK → Prop} {X0 : Nat → Prop} {mS : M} {I : Nat → DE → Prop} {K : DK}
    (hc : ∀ (r : Env) (ρ : DE) (m : M) (own : Nat → List Nat) (Q : Bool → Prop) (E : DX → Prop), ER W B0 own m r ρ → cD ρ Q E → (c r m).sat (fun b m' => Q b ∧ Fr W.s m m' ∧ W.Inv m') (GX W B0 (OwnP own) m E))
    (hbody : ∀ (r1 : Env) (ρ1 : DE) (m : M) (own : Nat → List Nat) (K : DK), ER W B0 own m r1 ρ1 → bodyD ρ1 K → (body r1 m).sat (GS W B0 (OwnP own) m K) (GX W B0 (OwnP own) m K.ex))
    (hI : ∀ n r, I n r → cD r (fun k => cond k (∃ n', n = n' + 1 ∧ bodyD r { nx := I n', ct := I n', br := K.nx, rt := K.rt, ex := K.ex }) (K.nx r)) K.ex) :
    ∀ (fuel n : Nat) {m : M} {r : Env} {ρ : DE} {own : Nat → List Nat}, n < fuel → I n ρ → FrO W.s X0 mS m → SubO X0 (OwnP own) mS → ER W B0 own m r ρ → (whlL c body fuel r m).sat (GS W B0 X0 mS K) (GX W B0 X0 mS K.ex)
  | 0, _, _, _, _, _, l, _, _, _, _ => absurd l (Nat.not_lt_zero _)
  | fuel + 1, n, m, r, ρ, own, l, hi, f, k, h => by
    unfold whlL
    refine sat_bind (sat_mono (hc r ρ m own _ _ h (hI n ρ hi)) (fun b m1 ⟨q, f1, I1⟩ => ?_) fun _ _ z => z.up' f k)
    have h1 := h.fr f1 I1
    have f' : FrO W.s X0 mS m1 := f.trans k f1.toO
    cases b with
    | false =>
      replace q := cf_ q
      rw [if_neg Bool.false_ne_true]
      exact ⟨own, ρ, h1, k, f', q⟩
    | true =>
      replace q := ct_ q
      rw [if_pos rfl]
      obtain ⟨n', rfl, q⟩ := q
      refine sat_bind (sat_mono (hbody r ρ m1 own _ h1 q) (fun p m2 hp => ?_) fun _ _ z => z.up' f' k)
      obtain ⟨fl, r2⟩ := p
      cases fl with
      | nx =>
        obtain ⟨own2, ρ2, h2, s2, f2, q2⟩ := hp
        exact whl_sound hc hbody hI fuel n' (Nat.lt_of_succ_lt_succ l) q2 (f'.trans k f2) (k.trans f'.len s2) h2
      | ct =>
        obtain ⟨own2, ρ2, h2, s2, f2, q2⟩ := hp
        exact whl_sound hc hbody hI fuel n' (Nat.lt_of_succ_lt_succ l) q2 (f'.trans k f2) (k.trans f'.len s2) h2
      | br =>
        obtain ⟨own2, ρ2, h2, s2, f2, q2⟩ := hp
        exact ⟨own2, ρ2, h2, k.trans f'.len s2, f'.trans k f2, q2⟩
      | rt u => exact GV.before f' k hp
theorem Rp.lt_inv {s : Nat} {B : Nat → Prop} {u : U} {xs : List D} (h : Rp s B m u (.lst true xs) ns) : ∃ a us n1, u = .ref a ∧ ns = a :: n1 ∧ m[a]? = some (.lst us) ∧ Rps s B m us xs n1 := by
  cases h with
  | lt h r => exact ⟨_, _, _, rfl, rfl, h, r⟩
theorem ixN_lt {n j : Nat} {k : Int} (h : L2.ixN n k = some j) : j < n := (L2.ixN_seq h).2.1
theorem asApp_inv {e a : ME} {i : Nat} (h : asApp e = some (i, a)) : e = .bm .append (.var i) (.cons a .nil) := by
  unfold asApp at h
  split at h
  · cases h; rfl
  · cases h
theorem isL_inv {i : Nat} (h : isL ρ i) : ∃ q xs, ρ[i]? = some (some (.lst q xs)) := by
  unfold isL at h
  split at h
  · exact ⟨_, _, by assumption⟩
  · exact h.elim
theorem ER.int {i : Nat} {c : Int} (h : ER W B0 own m r ρ) (q : ρ[i]? = some (some (.int c))) : r[i]? = some (some (.int c)) := by
  obtain ⟨u, h1, h2⟩ := h.val i _ q
  rw [h1, h2.int']
theorem ER.bn0 (h : ER W B0 own m r ρ) : ER W (BX B0 []) own m r ρ := h.less (h.bd.bn fun _ z => by cases z) fun a z => z.elim id fun y => by cases y
variable {g : Pg} {cl : Cl} {F : DF} {cons : Str → Bool} (hF : FSound cl F W)
include hF
/-- behind a value that was taken over -/
theorem sMt {A : Type} {e : ME} {mv : Bool} {Q : D → DE → Prop} {E : DX → Prop} {f : U → M → R A} {QQ : A → M → Prop} (h : ER W B0 own m r ρ) (q : pM g F cons mv e ρ Q E)
    (k : ∀ u m1 d ns ρ1 own1, Bd W B0 m1 → ER W (BX B0 ns) own1 m1 r ρ1 → Rp W.s (BX (BO B0 own1) ns) m1 u d ns → ns.Nodup → (∀ a ∈ ns, ¬ B0 a) → (∀ a ∈ ns, OwnP own a ∨ m.length ≤ a) → SubO (OwnP own) (OwnP own1) m → FrO W.s (OwnP own) m m1 → Q d ρ1 → (f u m1).sat QQ (GX W B0 (OwnP own) m E)) :
    ((ev g cl e r m).bind f).sat QQ (GX W B0 (OwnP own) m E) :=
  sat_bind (sat_mono (sM hF e h q) (fun u m1 ⟨d, ns, ρ1, own1, h1, h2, h3, h4, h5, h6, h7, q1⟩ => k u m1 d ns ρ1 own1 (h.bd.mono h7.len) h1 h2 h3 h4 h5 h6 h7 q1) fun _ _ z => z)
mutual
theorem sSs : ∀ (ss : MSs) {B0 : Nat → Prop} {own : Nat → List Nat} {m : M} {r : Env} {ρ : DE} {K : DK}, ER W B0 own m r ρ → pSs g F cons ss ρ K → (exs g cl ss r m).sat (GS W B0 (OwnP own) m K) (GX W B0 (OwnP own) m K.ex)
  | .nil, B0, own, m, r, ρ, K, h, q => ⟨own, ρ, h, .refl, .refl, q⟩
  | .cons s ss, B0, own, m, r, ρ, K, h, q => by
    rw [exs_cons]
    refine sat_bind (sat_mono (sS s h q) (fun p m1 hp => ?_) fun _ _ z => z)
    obtain ⟨fl, r1⟩ := p
    cases fl with
    | nx =>
      obtain ⟨own1, ρ1, h2, s2, f2, q2⟩ := hp
      exact sat_mono (sSs ss h2 q2) (fun _ _ z => z.up f2 s2) fun _ _ z => z.up' f2 s2
    | br => exact hp
    | ct => exact hp
    | rt u => exact hp
theorem sS : ∀ (s : MS) {B0 : Nat → Prop} {own : Nat → List Nat} {m : M} {r : Env} {ρ : DE} {K : DK}, ER W B0 own m r ρ → pS g F cons s ρ K → (exe g cl s r m).sat (GS W B0 (OwnP own) m K) (GX W B0 (OwnP own) m K.ex)
  | .asg i e, B0, own, m, r, ρ, K, h, q => by
    rw [exe_asg]
    refine sMt hF h q fun u m1 d ns ρ1 own1 hB h1 h2 h3 h4 h5 h6 h7 q1 => ?_
    obtain ⟨own', g1, g2⟩ := h1.setN hB h2 h3 h4 i
    exact ⟨own', _, g1, fun a z => (g2 a z).elim (h6 a) (h5 a), h7, q1⟩
  | .asgT is e, B0, own, m, r, ρ, K, h, q => by
    rw [exe_asgT]
    refine sMt hF h q fun u m1 d ns ρ1 own1 hB h1 h2 h3 h4 h5 h6 h7 q1 => ?_
    cases d with
    | tup ds =>
      obtain ⟨ρ2, e2, q2⟩ := oQ_some (show oQ (setD ρ1 is ds) K.nx from q1)
      obtain ⟨r1, own', g0, g1, g2⟩ := asgT_er (u := u) hB h1 h2 h3 h4 e2
      rw [g0]
      exact ⟨own', _, g1, fun a z => (g2 a z).elim (h6 a) (h5 a), h7, q2⟩
    | _ => exact q1.elim
  | .par i j a b, B0, own, m, r, ρ, K, h, q => by
    rw [exe_par]
    have hE := h.ev (V := vE a ++ vE b)
    refine sat_mono (two (QQ := GS W B0 (OwnP own) m K) h.bdM (sE hF a (fun i z => List.mem_append_left _ z) h.bdM h.inv hE q) (fun u m1 d ns f1 hB1 I1 h3 q1 => sE hF b (fun i z => List.mem_append_right _ z) hB1 I1 (hE.bn h.bdM f1 h3) q1) fun u v m2 d e n1 n2 C hc hx hy q2 => ?_) (fun _ _ z => z) fun x m1 ⟨y, z1, z2, z3, z4⟩ => ⟨y, z1.weak fun a z => .inl z, z2, z3.toO, z4⟩
    have hn : ∀ a ∈ n1 ++ n2, m.length ≤ a := noF hc.fr
    have hr : Rps W.s (BX (BM B0 own (vE a ++ vE b)) (n1 ++ n2)) m2 [u, v] [d, e] (n1 ++ n2) := by
      have z := Rps.cons (hx.weak hc.hC) (Rps.cons (hy.weak hc.hC) .nil)
      rw [List.append_nil] at z
      exact z
    have fin : ∀ {own1 : Nat → List Nat} {ρ1 : DE}, ER W B0 own1 m r ρ1 → (∀ a, OwnP own1 a → OwnP own a) → Rps W.s (BX (BO B0 own1) (n1 ++ n2)) m2 [u, v] [d, e] (n1 ++ n2) → K.nx ((ρ1.set i (some d)).set j (some e)) → GS W B0 (OwnP own) m K (.nx, (r.set i (some u)).set j (some v)) m2 := fun {own1 ρ1} g1 g2 g3 g4 => by
      obtain ⟨r1, own2, k1, k2, k3⟩ := setS_er (is := [i, j]) (h.bd.mono hc.f.len) (g1.more hc.f hc.inv hr.lt' hn) g3 hc.nd (fun a z => fresh_nb h.bd hn a z) rfl
      cases k1
      exact ⟨own2, _, k2, fun a z => (k3 a z).imp (g2 a) (hn a), hc.f.toO, g4⟩
    have q2 : K.nx (((aft (d.own && e.own) (vE a ++ vE b) ρ).set i (some d)).set j (some e)) := q2
    cases ho : (d.own && e.own) with
    | true =>
      rw [ho] at q2
      obtain ⟨o1, o2⟩ := ba2 ho
      exact fin h (fun _ z => z) (hr.ofOwn (by show (d.own && (e.own && true)) = true; rw [o1, o2]; rfl)) q2
    | false =>
      rw [ho] at q2
      obtain ⟨own', k1, k2⟩ := h.dropV (vE a ++ vE b)
      exact fin k1 (fun a z => let ⟨i, _, y⟩ := k2 a z; ⟨i, y⟩) (hr.weak fun a z => z.imp (fun y => y.imp id (k2 a)) id) q2
  | .sub o ix v, B0, own, m, r, ρ, K, h, q => by
    rw [exe_sub]
    obtain ⟨i, rfl⟩ : ∃ i, o = .var i := by cases o <;> first | exact ⟨_, rfl⟩ | exact q.elim
    have q' : pM g F cons false v ρ (fun d r1 => isL r1 i ∧ pE g F ix r1 (fun k => putD r1 i k d K.nx) K.ex) K.ex := q
    refine sMt hF h q' fun u m1 d ns ρ1 own1 hB h1 h2 h3 h4 h5 h6 h7 ⟨q0, q1⟩ => ?_
    obtain ⟨fl, xs0, e0⟩ := isL_inv q0
    obtain ⟨w, e1, _⟩ := h1.val i _ e0
    refine sat_bind ?_
    rw [ev_var, e1]
    refine sat_bind (sat_mono (sE hF ix (fun _ z => z) h1.bdM h1.inv h1.ev q1) (fun k m2 ⟨dk, n2, g1, _, _, q2, f2, I2⟩ => ?_) fun x m2 ⟨y, z1, z2, z3, z4⟩ => ⟨y, z1.weak fun a z => .inl (.inl z), z2, h7.trans h6 z3.toO, z4⟩)
    have q3 : (match (generalizing := false) ρ1[i]?, dk with
      | some (some (.lst true xs)), .int k => oQ (L2.ixN xs.length k) fun j => K.nx (ρ1.set i (some (.lst true (xs.set j d))))
      | _, _ => False) := q2
    split at q3
    case h_2 => exact q3.elim
    rename_i xs kk e2
    cases g1.int'
    obtain ⟨j, e3, q4⟩ := oQ_some q3
    have h1' := h1.fr f2 I2
    have h2' := h2.fr (.inl (.inl h.bd.st)) f2 fun z => h4 _ z h.bd.st
    obtain ⟨w', e4, e5⟩ := h1'.val i _ e2
    obtain ⟨p, us, n1, e6, e7, e8, e9⟩ := e5.lt_inv
    have e10 : w = .ref p := by rw [e1] at e4; rw [← e6]; exact Option.some.inj (Option.some.inj e4)
    subst e10
    have jl : j < us.length := by rw [e9.len]; exact ixN_lt e3
    obtain ⟨pp, qq, qq', l1, l2⟩ := (e9.weak (B' := BX (BO B0 own1) ns) fun a z => by
      rcases z with (z | z) | z
      · exact .inl (.inl z)
      · exact .inr z
      · exact .inl (.inr z)).setN h2' j jl
    have hnd := h1.nd i
    rw [e7, l1] at hnd
    have hnd2 := (List.nodup_cons.mp hnd).2
    have hin : ∀ x, x ∈ pp ∨ x ∈ qq' → x ∈ own1 i := fun x z => by
      rw [e7, l1]
      refine List.mem_cons_of_mem _ ?_
      rcases z with z | z
      · exact List.mem_append_left _ z
      · exact List.mem_append_right _ (List.mem_append_right _ z)
    have hno : ∀ x, x ∈ pp ∨ x ∈ qq' → x ∉ ns := fun x z y => h1.nb i x (hin x z) (.inr y)
    have hnd3 : (pp ++ (ns ++ qq')).Nodup := by
      obtain ⟨a1, a2, a3⟩ := List.nodup_append.mp hnd2
      obtain ⟨b1, b2, b3⟩ := List.nodup_append.mp a2
      refine List.nodup_append.mpr ⟨a1, List.nodup_append.mpr ⟨h3, b2, fun x hx y hy e => hno y (.inr hy) (e ▸ hx)⟩, fun x hx y hy e => ?_⟩
      rcases List.mem_append.mp hy with hy | hy
      · exact hno x (.inl hx) (e ▸ hy)
      · exact a3 x hx y (List.mem_append_right _ hy) e
    have hB2 : Bd W B0 m2 := hB.mono f2.len
    obtain ⟨own2, w1, w2, w3⟩ := h1'.write hB2 e2 h4 e7 l2 hnd3 (fun x hx => by
      rcases List.mem_append.mp hx with hx | hx
      · exact .inl (l1 ▸ List.mem_append_left _ hx)
      · rcases List.mem_append.mp hx with hx | hx
        · exact .inr hx
        · exact .inl (l1 ▸ List.mem_append_right _ (List.mem_append_right _ hx))) ⟨_, e8⟩
    refine sat_bind ?_
    simp only [set3]
    rw [e8]
    simp only
    rw [e9.len, e3]
    exact ⟨own2, _, w1, fun a z => (w2 a z).elim (h6 a) (h5 a), (h7.trans h6 f2.toO).trans h6 w3, q4⟩
  | .aug i o e, B0, own, m, r, ρ, K, h, q => by
    rw [exe_aug]
    have q' : (match ρ[i]? with
      | some (some (.int c)) => pE g F e ρ (fun y => match y with
        | .int d => (match (generalizing := false) o with
          | .add => K.nx (ρ.set i (some (.int (c + d))))
          | .sub => K.nx (ρ.set i (some (.int (c - d))))
          | _ => False)
        | _ => False) K.ex
      | _ => False) := q
    split at q'
    case h_2 => exact q'.elim
    rename_i c hc
    rw [h.int hc]
    refine sat_bind (sat_mono (sE hF e (fun _ z => z) h.bdM h.inv h.ev q') (fun v m1 ⟨d, ns, h1, h2, h3, q1, f1, I1⟩ => ?_) fun x m1 ⟨y, z1, z2, z3, z4⟩ => ⟨y, z1.weak fun a z => .inl z, z2, z3.toO, z4⟩)
    cases d with
    | int d =>
      cases h1.int'
      have fin : ∀ z : Int, K.nx (ρ.set i (some (.int z))) → GS W B0 (OwnP own) m K (.nx, r.set i (some (.int z))) m1 := fun z qz => by
        have g := h.fr f1 I1
        obtain ⟨own', k1, k2⟩ := g.bn0.setN (u := .int z) (d := .int z) (ns := []) g.bd (.int z) .nil (fun _ z => by cases z) i
        exact ⟨own', _, k1, fun a y => .inl ((k2 a y).elim id fun w => by cases w), f1.toO, qz⟩
      cases o with
      | add => exact fin _ q1
      | sub => exact fin _ q1
      | _ => exact q1.elim
    | _ => exact q1.elim
  | .expr e, B0, own, m, r, ρ, K, h, q => by
    rw [exe_expr]
    have q' : (match asApp e with
      | some (i, a) => isL ρ i ∧ pM g F cons false a ρ (fun d r1 => appD r1 i d K.nx) K.ex
      | none => pM g F cons false e ρ (fun _ r1 => K.nx r1) K.ex) := q
    cases z : asApp e with
    | none =>
      rw [z] at q'
      refine sMt hF h q' fun u m1 d ns ρ1 own1 hB h1 h2 h3 h4 h5 h6 h7 q1 => ?_
      exact ⟨own1, ρ1, h1.less hB fun a z => .inl z, h6, h7, q1⟩
    | some p =>
      obtain ⟨i, a⟩ := p
      rw [z] at q'
      obtain ⟨q0, q'⟩ := q'
      have ee := asApp_inv z
      subst ee
      obtain ⟨fl, xs0, e0⟩ := isL_inv q0
      obtain ⟨w, e1, e2⟩ := h.val i _ e0
      obtain ⟨p, us0, n0, rfl, e3, _⟩ := e2.ls
      rw [ev_bm, ev_var, e1]
      refine sat_bind ?_
      show R.sat (if bmOk .append (.ref p) m = true then _ else _) _ _
      rw [if_pos (by simp only [bmOk]; rw [e3]), evs_cons]
      refine sat_bind (sMt hF h q' fun u m1 d ns ρ1 own1 hB h1 h2 h3 h4 h5 h6 h7 q1 => ?_)
      have q2 : (match ρ1[i]? with
        | some (some (.lst true xs)) => xs.length < SL ∧ K.nx (ρ1.set i (some (.lst true (xs ++ [d]))))
        | _ => False) := q1
      split at q2
      case h_2 => exact q2.elim
      rename_i xs e4
      obtain ⟨w', e5, e6⟩ := h1.val i _ e4
      obtain ⟨p', us, n1, e7, e8, e9, e10⟩ := e6.lt_inv
      have e11 : p = p' := by
        rw [e1] at e5
        have y := Option.some.inj (Option.some.inj e5)
        rw [e7] at y
        cases y
        rfl
      subst e11
      have hno : ∀ x ∈ n1, x ∉ ns := fun x z y => h1.nb i x (e8 ▸ List.mem_cons_of_mem _ z) (.inr y)
      have hnd := (List.nodup_cons.mp (e8 ▸ h1.nd i)).2
      have l1 := (e10.weak (B' := BX (BO B0 own1) ns) fun a z => by
        rcases z with (z | z) | z
        · exact .inl (.inl z)
        · exact .inr z
        · exact .inl (.inr z)).app (.cons h2 .nil)
      rw [List.append_nil] at l1
      obtain ⟨own2, w1, w2, w3⟩ := h1.write hB e4 h4 e8 l1 (List.nodup_append.mpr ⟨hnd, h3, fun x hx y hy e => hno x hx (e ▸ hy)⟩) (fun x hx => List.mem_append.mp hx) ⟨_, e9⟩
      show R.sat (bm2 .append (.ref p) [u] m1) _ _
      simp only [bm2]
      rw [e9]
      simp only
      rw [if_pos (by rw [e10.len]; exact q2.1)]
      exact ⟨own2, _, w1, fun a z => (w2 a z).elim (h6 a) (h5 a), h7.trans h6 w3, q2.2⟩
  | .ifs c a b, B0, own, m, r, ρ, K, h, q => by
    rw [exe_ifs]
    unfold evT
    refine sat_bind (sMt hF h q fun u m1 d ns ρ1 own1 hB h1 h2 h3 h4 h5 h6 h7 q1 => ?_)
    obtain ⟨kk, k1, k2⟩ := oQ_some q1
    unfold truR
    rw [tru_rep h2 k1]
    have h1' := h1.less hB fun a z => .inl z
    cases kk with
    | true =>
      replace k2 := ct_ k2
      show (if true = true then exs g cl a r m1 else exs g cl b r m1).sat _ _
      rw [if_pos rfl]
      exact sat_mono (sSs a h1' k2) (fun _ _ z => z.up h7 h6) fun _ _ z => z.up' h7 h6
    | false =>
      replace k2 := cf_ k2
      show (if false = true then exs g cl a r m1 else exs g cl b r m1).sat _ _
      rw [if_neg Bool.false_ne_true]
      exact sat_mono (sSs b h1' k2) (fun _ _ z => z.up h7 h6) fun _ _ z => z.up' h7 h6
  | .fors tg it b, B0, own, m, r, ρ, K, h, q => by
    rw [exe_fors]
    refine sat_bind (sat_mono (sI hF it (fun _ z => z) h.bdM h.inv h.ev q) (fun t m1 ⟨ys, o, i0, _, q1, f1, I1, hat⟩ => ?_) fun x m1 ⟨y, z1, z2, z3, z4⟩ => ⟨y, z1.weak fun a z => .inl z, z2, z3.toO, z4⟩)
    have step : ∀ {own1 : Nat → List Nat} {ρ1 : DE}, ER W B0 own1 m r ρ1 → (∀ a, OwnP own1 a → OwnP own a) → (o = true ∨ ∀ a, BO B0 own1 a → BM B0 own (vI it) a) → forD tg (fun r1 K1 => pSs g F cons b r1 K1) ys ρ1 K → (forL t tg (fun r1 m2 => exs g cl b r1 m2) t.items r m1).sat (GS W B0 (OwnP own) m K) (GX W B0 (OwnP own) m K.ex) := fun {own1 ρ1} h1 hs ho qq => by
      have ir := i0 (BO B0 own1) (fun a z => h1.bdO.lt a z) ho
      have nw : ∀ i, t.at_ i → ¬ OwnP own1 i := fun i hi z => by
        obtain ⟨w1, w2, w3, w4⟩ := hat i hi
        rcases ho with ho | ho
        · exact Nat.lt_irrefl _ (Nat.lt_of_lt_of_le (h1.lt i z) (w4 ho))
        · exact w3 (ho i (.inr z))
      refine sat_mono (for_sound (X0 := OwnP own1) (mS := m1) (fun r1 ρ1 m2 own2 K2 e2 q2 => sSs b e2 q2) (fun m2 f2 => ir.ok (fun i us hi z => f2.keep i us (hat i hi).2.1 (nw i hi) z) f2.tp) .refl .refl (h1.fr f1 I1) ir.items qq) (fun p m2 hp => hp.up f1.toO fun a z => .inl (hs a z)) fun x m2 z => z.up' f1.toO fun a z => .inl (hs a z)
    have q1 : forD tg (fun r1 K1 => pSs g F cons b r1 K1) ys (aft o (vI it) ρ) K := q1
    cases ho : o with
    | true =>
      rw [ho] at q1
      exact step h (fun _ z => z) (.inl ho) q1
    | false =>
      rw [ho] at q1
      obtain ⟨own', k1, k2⟩ := h.dropV (vI it)
      exact step k1 (fun a z => let ⟨i, _, y⟩ := k2 a z; ⟨i, y⟩) (.inr fun a z => z.imp id (k2 a)) q1
  | .whl c b, B0, own, m, r, ρ, K, h, q => by
    rw [exe_whl]
    obtain ⟨I, n, hn, hi, hI⟩ := q
    exact whl_sound (cD := fun r1 Q E => pE g F c r1 (fun x => oQ (truD x) Q) E) (bodyD := fun r1 K1 => pSs g F cons b r1 K1) (fun r ρ m own Q E h q => by
      unfold evT
      refine sat_bind (sat_mono (sE hF c (fun _ z => z) h.bdM h.inv h.ev q) (fun u m1 ⟨d, ns, h1, h2, h3, q1, f1, I1⟩ => ?_) fun x m1 ⟨y, z1, z2, z3, z4⟩ => ⟨y, z1.weak fun a z => .inl z, z2, z3.toO, z4⟩)
      obtain ⟨b, k1, k2⟩ := oQ_some q1
      unfold truR
      rw [tru_rep h1 k1]
      exact ⟨k2, f1, I1⟩) (fun r1 ρ1 m own K h q => sSs b h q) hI WF n hn hi .refl .refl h
  | .ret e, B0, own, m, r, ρ, K, h, q => by
    rw [exe_ret]
    refine sMt hF h q fun u m1 d ns ρ1 own1 hB h1 h2 h3 h4 h5 h6 h7 q1 => ?_
    exact ⟨d, ns, h2.weak fun a z => z.imp .inl id, h3, h5, q1, h7, h1.inv⟩
  | .retN, B0, own, m, r, ρ, K, h, q => ⟨.non, [], .non, .nil, (fun _ z => nomatch z), q, FrO.refl, h.inv⟩
  | .raise cc es, B0, own, m, r, ρ, K, h, q => by
    rw [exe_raise]
    refine sat_bind (sat_mono (sEs hF es (fun _ z => z) h.bdM h.inv h.ev q) (fun us m1 ⟨ds, ns, e1, e2, e3, q1, f1, I1⟩ => ?_) fun x m1 ⟨y, z1, z2, z3, z4⟩ => ⟨y, z1.weak fun a z => .inl z, z2, z3.toO, z4⟩)
    unfold mkEx
    dsimp only at q1
    split at q1
    · rename_i z
      rw [z]
      cases e1
      exact ⟨(cc, none), ⟨rfl, trivial⟩, q1, f1.toO, I1⟩
    · rename_i f d z
      rw [z]
      cases e1 with
      | cons a b =>
        cases b
        exact ⟨(cc, some (f, d.sh)), ⟨rfl, rfl, a.sh (fun x y => .inl (.inl y)) fun x y => fresh_nb h.bd e3 x (List.mem_append_left _ y)⟩, q1, f1.toO, I1⟩
    · exact q1.elim
  | .brk, B0, own, m, r, ρ, K, h, q => ⟨own, ρ, h, .refl, .refl, q⟩
  | .cnt, B0, own, m, r, ρ, K, h, q => ⟨own, ρ, h, .refl, .refl, q⟩
  | .pass, B0, own, m, r, ρ, K, h, q => ⟨own, ρ, h, .refl, .refl, q⟩
  | .tryK b i hh f, B0, own, m, r, ρ, K, h, q => by
    rw [exe_tryK]
    have z := sSs b h q
    cases e : exs g cl b r m with
    | ok p m1 =>
      rw [e] at z
      obtain ⟨fl, r1⟩ := p
      cases fl <;> exact z
    | stuck => rw [e] at z; exact z
    | ex e1 m1 =>
      rw [e] at z
      obtain ⟨y, ⟨h0, h1⟩, h2, h3, h4⟩ := z
      unfold kindOf
      have key : ∀ {u : U} {d : D}, Rp W.s B0 m1 u d [] → K.rt (.tup [.str y.1, d]) → ((R.ok (.ref (m1.length + 1)) (m1 ++ [.lst [.ref (m1.length + 1)], .tup [.str e1.c, u]])).bind fun u m2 => R.ok (Fl.rt u, r) m2).sat (GS W B0 (OwnP own) m K) (GX W B0 (OwnP own) m K.ex) := fun {u d} hu hq => by
        have f : Fr W.s m1 (m1 ++ [.lst [.ref (m1.length + 1)], .tup [.str e1.c, u]]) := Fr.appL
        have hu' := hu.fr0 h.bd.st f
        have z : tpOf (m1 ++ [MO.lst [.ref (m1.length + 1)], .tup [.str e1.c, u]]) (m1.length + 1) = some [.str e1.c, u] := by
          unfold tpOf
          rw [show (m1 ++ [MO.lst [.ref (m1.length + 1)], .tup [.str e1.c, u]])[m1.length + 1]? = some (.tup [.str e1.c, u]) by simp]
        refine ⟨.tup [.str y.1, d], [], .tup z (.cons0 (h0 ▸ .str _) (.cons0 (hu'.weak fun a z => z.elim id fun y => by cases y) .nil)), .nil, (fun _ z => nomatch z), hq, h3.trans .refl f.toO, ?_⟩
        have z := W.app _ (.tup [.str e1.c, u]) (W.app _ (.lst [.ref (m1.length + 1)]) h4)
        simpa using z
      obtain ⟨y1, y2⟩ := y
      cases hf : e1.f with
      | none =>
        rw [hf] at h1
        cases y2 with
        | none => exact key (by rw [hf]; exact .non) h2
        | some p => exact h1.elim
      | some p =>
        rw [hf] at h1
        cases y2 with
        | none => exact h1.elim
        | some p2 => exact key (by rw [hf]; exact h1.2) h2
end
end
end Py
set_option maxHeartbeats 4000000
/-! MINI PYTHON, part F10: a def's call. -/
namespace Py
open PySem
section
variable {W : Wd} {B0 X X' : Nat → Prop} {own : Nat → List Nat} {m m0 m1 : M} {r : Env} {ρ : DE} {K : DK} {E E' : DX → Prop} {us : List U} {ds : List D} {ns : List Nat} {Q Q' : DQ} {cl : Cl} {f : Str}
theorem FCall.mono (h : FCall cl W f ds Q E) (q : ∀ d, Q d → Q' d) (e : ∀ x, E x → E' x) : FCall cl W f ds Q' E' := fun B m us ns hB I hr nd hb =>
  sat_mono (h B m us ns hB I hr nd hb) (fun u m1 ⟨d, n1, h1, h2, h3, h4, h5⟩ => ⟨d, n1, h1, h2, h3, q d h4, h5⟩) fun x m1 ⟨y, h1, h2, h3⟩ => ⟨y, h1, e y h2, h3⟩
theorem set_mid {A : Type} {pre tl : List A} {a b : A} : (pre ++ a :: tl).set pre.length b = pre ++ b :: tl := by
  rw [List.set_append_right _ _ (Nat.le_refl _), Nat.sub_self]
  rfl
theorem setD_par : ∀ (ds : List D) (pre tl : DE), setD (pre ++ (List.replicate ds.length none ++ tl)) (List.range' pre.length ds.length) ds = some (pre ++ (ds.map some ++ tl))
  | [], pre, tl => rfl
  | d :: ds, pre, tl => by
    have z := setD_par ds (pre ++ [some d]) tl
    simp only [List.length_append, List.length_cons, List.length_nil, List.append_assoc, List.singleton_append] at z
    show setD ((pre ++ (none :: List.replicate ds.length none ++ tl)).set pre.length (some d)) (List.range' (pre.length + 1) ds.length) ds = _
    rw [List.cons_append, set_mid]
    exact z
theorem setS_par : ∀ (us : List U) (pre tl : Env), setS (pre ++ (List.replicate us.length none ++ tl)) (List.range' pre.length us.length) us = some (pre ++ (us.map some ++ tl))
  | [], pre, tl => rfl
  | d :: ds, pre, tl => by
    have z := setS_par ds (pre ++ [some d]) tl
    simp only [List.length_append, List.length_cons, List.length_nil, List.append_assoc, List.singleton_append] at z
    show setS ((pre ++ (none :: List.replicate ds.length none ++ tl)).set pre.length (some d)) (List.range' (pre.length + 1) ds.length) ds = _
    rw [List.cons_append, set_mid]
    exact z
theorem rep_none {n i : Nat} {d : D} (h : (List.replicate n (none : Option D))[i]? = some (some d)) : False := by
  rw [List.getElem?_replicate] at h
  split at h <;> cases h
/-- the slots at a def's beginning -/
theorem entry_er {n : Nat} (hB : Bd W B0 m) (I : W.Inv m) (hr : Rps W.s (BX B0 ns) m us ds ns) (nd : ns.Nodup) (hb : ∀ a ∈ ns, ¬ B0 a) : ∃ own, ER W B0 own m (us.map some ++ List.replicate n none) (ds.map some ++ List.replicate n none) ∧ ∀ a, OwnP own a → a ∈ ns := by
  have h0 : ER W (BX B0 ns) (fun _ => []) m (List.replicate us.length none ++ List.replicate n none) (List.replicate ds.length none ++ List.replicate n none) := by
    rw [List.replicate_append_replicate, List.replicate_append_replicate]
    exact ⟨hB.bn hr.lt', I, by simp [hr.len], fun i d q => (rep_none q).elim, fun _ => .nil, (fun _ _ _ a z => nomatch z), (fun _ a z => nomatch z), fun _ _ => rfl⟩
  have e1 := setD_par ds [] (List.replicate n none)
  have e2 := setS_par us [] (List.replicate n none)
  obtain ⟨r1, own1, k1, k2, k3⟩ := setS_er hB h0 (hr.weak fun a z => by
    rcases z with (z | ⟨i, z⟩) | z
    · exact .inl z
    · cases z
    · exact .inr z) nd hb e1
  rw [List.nil_append, hr.len] at e2
  rw [hr.len] at k1
  have e3 := e2.symm.trans k1
  cases e3
  exact ⟨own1, k2, fun a z => (k3 a z).elim (fun ⟨i, y⟩ => by cases y) id⟩
end
/-- what a def's body is to do -/
def bodyK (Q : DQ) (E : DX → Prop) : DK := ⟨fun _ => Q .non, fun _ => False, fun _ => False, Q, E⟩
theorem call_of {g : Pg} {fs : Str → Option Fn} {k : Nat} {W : Wd} {F : DF} {cons : Str → Bool} (hF : FSound (callN g fs k) F W) {f : Str} {d : Fn} {ds : List D} {Q : DQ} {E : DX → Prop} (hf : fs f = some d) (hl : ds.length = d.ps)
    (q : pSs g F cons d.body (ds.map some ++ List.replicate (d.ns - d.ps) none) (bodyK Q E)) : FCall (callN g fs (k + 1)) W f ds Q E := by
  intro B m us ns hB I hr nd hb
  unfold callN
  rw [hf]
  simp only
  rw [if_pos (hr.len.trans hl)]
  obtain ⟨own, h1, h2⟩ := entry_er (n := d.ns - d.ps) hB I hr nd hb
  have sub : SubO (fun a => a ∈ ns) (OwnP own) m := fun a z => .inl (h2 a z)
  refine sat_bind (sat_mono (sSs hF d.body h1 q) (fun p m1 hp => ?_) fun x m1 z => z.before .refl sub fun _ y => y)
  obtain ⟨fl, r1⟩ := p
  cases fl with
  | nx =>
    obtain ⟨own1, ρ1, k1, k2, k3, k4⟩ := hp
    exact ⟨.non, [], .non, .nil, (fun _ z => nomatch z), k4, k3.cut sub, k1.inv⟩
  | br => obtain ⟨own1, ρ1, k1, k2, k3, k4⟩ := hp; exact k4.elim
  | ct => obtain ⟨own1, ρ1, k1, k2, k3, k4⟩ := hp; exact k4.elim
  | rt u => exact GV.before .refl sub hp
end Py
set_option maxHeartbeats 1000000
/-! MINI PYTHON, part F11: the equations of the plain reading. Printed by genQ.py. -/
namespace Py
open PySem
theorem nr {A : Sort u} {a b : A} (h : a = b) : a = b := h
theorem qpE_var {g : Pg} {F : DF} {r} {Q} {E} {i} : pE g F (ME.var i) r Q E = (match r[i]? with
    | some (some d) => Q d.sh
    | _ => False) := nr rfl
theorem qpE_cst {g : Pg} {F : DF} {r} {Q} {E} {u} : pE g F (ME.cst u) r Q E = (oQ (D.ofU u) Q) := nr rfl
theorem qpE_glo {g : Pg} {F : DF} {r} {Q} {E} {x} : pE g F (ME.glo x) r Q E = (oQ (g.glo.lookup x) fun u => oQ (D.ofU u) Q) := nr rfl
theorem qpE_bin {g : Pg} {F : DF} {r} {Q} {E} {o} {a} {b} : pE g F (ME.bin o a b) r Q E = (pE g F a r (fun x => pE g F b r (fun y => binD o x y Q) E) E) := nr rfl
theorem qpE_neg {g : Pg} {F : DF} {r} {Q} {E} {a} : pE g F (ME.neg a) r Q E = (pE g F a r (fun x => match x with
    | .int i => Q (.int (-i))
    | _ => False) E) := nr rfl
theorem qpE_not {g : Pg} {F : DF} {r} {Q} {E} {a} : pE g F (ME.not a) r Q E = (pE g F a r (fun x => oQ (truD x) fun b => Q (.bl (!b))) E) := nr rfl
theorem qpE_cmp {g : Pg} {F : DF} {r} {Q} {E} {o} {a} {b} : pE g F (ME.cmp o a b) r Q E = (pE g F a r (fun x => pE g F b r (fun y => oQ (cmpD o x y) fun k => Q (.bl k)) E) E) := nr rfl
theorem qpE_chn {g : Pg} {F : DF} {r} {Q} {E} {o} {o'} {a} {b} {c} : pE g F (ME.chn o o' a b c) r Q E = (pE g F a r (fun x => pE g F b r (fun y => oQ (cmpD o x y) fun k => cond k (pE g F c r (fun w => oQ (cmpD o' y w) fun k => Q (.bl k)) E) (Q (.bl false))) E) E) := nr rfl
theorem qpE_and {g : Pg} {F : DF} {r} {Q} {E} {a} {b} : pE g F (ME.and a b) r Q E = (pE g F a r (fun x => oQ (truD x) fun k => cond k (pE g F b r Q E) (Q x)) E) := nr rfl
theorem qpE_or {g : Pg} {F : DF} {r} {Q} {E} {a} {b} : pE g F (ME.or a b) r Q E = (pE g F a r (fun x => oQ (truD x) fun k => cond k (Q x) (pE g F b r Q E)) E) := nr rfl
theorem qpE_ifx {g : Pg} {F : DF} {r} {Q} {E} {c} {a} {b} : pE g F (ME.ifx c a b) r Q E = (pE g F c r (fun x => oQ (truD x) fun k => cond k (pE g F a r Q E) (pE g F b r Q E)) E) := nr rfl
theorem qpE_lst {g : Pg} {F : DF} {r} {Q} {E} {es} : pE g F (ME.lst es) r Q E = (pEs g F es r (fun ds => ds.length ≤ SL ∧ Q (.lst true ds)) E) := nr rfl
theorem qpE_tup {g : Pg} {F : DF} {r} {Q} {E} {es} : pE g F (ME.tup es) r Q E = (pEs g F es r (fun ds => ds.length ≤ SL ∧ Q (.tup ds)) E) := nr rfl
theorem qpE_idx {g : Pg} {F : DF} {r} {Q} {E} {a} {b} : pE g F (ME.idx a b) r Q E = (pE g F a r (fun x => pE g F b r (fun y => idxD x y Q) E) E) := nr rfl
theorem qpE_slc {g : Pg} {F : DF} {r} {Q} {E} {a} {lo} {hi} {bl} {bh} : pE g F (ME.slc a lo hi bl bh) r Q E = (pE g F a r (fun x => (cond bl (fun K => pE g F lo r (fun d => partD d K) E) (fun K => K none)) fun l => (cond bh (fun K => pE g F hi r (fun d => partD d K) E) (fun K => K none)) fun h => slcD x l h Q) E) := nr rfl
theorem qpE_call {g : Pg} {F : DF} {r} {Q} {E} {f} {es} : pE g F (ME.call f es) r Q E = (pEs g F es r (fun ds => F f (shs ds) Q E) E) := nr rfl
theorem qpE_callk {g : Pg} {F : DF} {r} {Q} {E} {f} {v1} {es} : pE g F (ME.callk f v1 es) r Q E = (pEs g F es r (fun ds => F f (shs ds) Q E) E) := nr rfl
theorem qpE_blt {g : Pg} {F : DF} {r} {Q} {E} {f} {es} : pE g F (ME.blt f es) r Q E = (pEs g F es r (fun ds => bltD f ds Q) E) := nr rfl
theorem qpE_isi {g : Pg} {F : DF} {r} {Q} {E} {a} {ts} : pE g F (ME.isi a ts) r Q E = (pE g F a r (fun x => oQ (tyD x) fun t => Q (.bl (tyOk t ts))) E) := nr rfl
theorem qpE_bm {g : Pg} {F : DF} {r} {Q} {E} {v0} {v1} {v2} : pE g F (ME.bm v0 v1 v2) r Q E = (False) := nr rfl
theorem qpE_lc {g : Pg} {F : DF} {r} {Q} {E} {elt} {tg} {it} {c} {own} : pE g F (ME.lc elt tg it c own) r Q E = (pI g F it r (fun items _ => lcD tg (wipeD r own) (fun r1 acc K => pE g F c r1 (fun x => oQ (truD x) fun k => cond k (pE g F elt r1 (fun d => acc.length < SL ∧ K (acc ++ [d])) noX) (K acc)) noX) items [] fun ds => Q (.lst true ds)) E) := nr rfl
theorem qpE_lc2 {g : Pg} {F : DF} {r} {Q} {E} {elt} {tg} {it} {c} {tg1} {it1} {c1} {own} {own1} : pE g F (ME.lc2 elt tg it c tg1 it1 c1 own own1) r Q E = (pI g F it r (fun items _ => lcD tg (wipeD r own) (fun r1 acc K => pE g F c r1 (fun x => oQ (truD x) fun k => cond k (pI g F it1 r1 (fun items1 _ =>
      lcD tg1 (wipeD r1 own1) (fun r2 acc2 K2 => pE g F c1 r2 (fun x1 => oQ (truD x1) fun k1 => cond k1 (pE g F elt r2 (fun d => acc2.length < SL ∧ K2 (acc2 ++ [d])) noX) (K2 acc2)) noX) items1 acc K) noX) (K acc)) noX) items [] fun ds => Q (.lst true ds)) E) := nr rfl
theorem qpEs_nil {g : Pg} {F : DF} {r} {Q} {E} : pEs g F (MEs.nil) r Q E = (Q []) := nr rfl
theorem qpEs_cons {g : Pg} {F : DF} {r} {Q} {E} {e} {es} : pEs g F (MEs.cons e es) r Q E = (pE g F e r (fun d => pEs g F es r (fun ds => Q (d :: ds)) E) E) := nr rfl
theorem qpI_seq {g : Pg} {F : DF} {r} {Q} {E} {e} : pI g F (MI.seq e) r Q E = (pE g F e r (fun x => oQ (D.sq x) fun xs => Q ((shs xs).map fun d => [d]) x.own) E) := nr rfl
theorem qpI_rng {g : Pg} {F : DF} {r} {Q} {E} {e} : pI g F (MI.rng e) r Q E = (pE g F e r (fun x => match x with
    | .int j => (-(2 ^ 62) ≤ j ∧ j < 2 ^ 62) ∧ Q (rngD 0 j.toNat) true
    | _ => False) E) := nr rfl
theorem qpI_rng2 {g : Pg} {F : DF} {r} {Q} {E} {a} {b} : pI g F (MI.rng2 a b) r Q E = (pE g F a r (fun x => pE g F b r (fun y => match x, y with
    | .int i, .int j => ((-(2 ^ 62) ≤ i ∧ i < 2 ^ 62) ∧ (-(2 ^ 62) ≤ j ∧ j < 2 ^ 62)) ∧ Q (rngD i (j - i).toNat) true
    | _, _ => False) E) E) := nr rfl
theorem qpI_enu {g : Pg} {F : DF} {r} {Q} {E} {e} : pI g F (MI.enu e) r Q E = (pE g F e r (fun x => match x with
    | .lst _ xs => Q (enuD 0 (shs xs)) x.own
    | _ => False) E) := nr rfl
theorem qpI_zip {g : Pg} {F : DF} {r} {Q} {E} {a} {b} : pI g F (MI.zip a b) r Q E = (pE g F a r (fun x => pE g F b r (fun y => match x, y with
    | .lst _ xs, .lst _ ys => Q (zipD (shs xs) (shs ys)) (x.own && y.own)
    | _, _ => False) E) E) := nr rfl
theorem qpSs_nil {g : Pg} {F : DF} {cons : Str → Bool} {r} {K} : pSs g F cons (MSs.nil) r K = (K.nx r) := nr rfl
theorem qpSs_cons {g : Pg} {F : DF} {cons : Str → Bool} {r} {K} {s} {ss} : pSs g F cons (MSs.cons s ss) r K = (pS g F cons s r { K with nx := fun r1 => pSs g F cons ss r1 K }) := nr rfl
theorem qpS_expr {g : Pg} {F : DF} {cons : Str → Bool} {r} {K} {e} : pS g F cons (MS.expr e) r K = (match asApp e with
    | some (i, a) => isL r i ∧ pM g F cons false a r (fun d r1 => appD r1 i d K.nx) K.ex
    | none => pM g F cons false e r (fun _ r1 => K.nx r1) K.ex) := nr rfl
theorem qpS_asg {g : Pg} {F : DF} {cons : Str → Bool} {r} {K} {i} {e} : pS g F cons (MS.asg i e) r K = (pM g F cons false e r (fun d r1 => K.nx (r1.set i (some d))) K.ex) := nr rfl
theorem qpS_asgT {g : Pg} {F : DF} {cons : Str → Bool} {r} {K} {is} {e} : pS g F cons (MS.asgT is e) r K = (pM g F cons false e r (fun d r1 => match d with
    | .tup ds => oQ (setD r1 is ds) K.nx
    | _ => False) K.ex) := nr rfl
theorem qpS_par {g : Pg} {F : DF} {cons : Str → Bool} {r} {K} {i} {j} {a} {b} : pS g F cons (MS.par i j a b) r K = (pE g F a r (fun x => pE g F b r (fun y => K.nx (((aft (x.own && y.own) (vE a ++ vE b) r).set i (some x)).set j (some y))) K.ex) K.ex) := nr rfl
theorem qpS_sub {g : Pg} {F : DF} {cons : Str → Bool} {r} {K} {o} {ix} {v} : pS g F cons (MS.sub o ix v) r K = (match o with
    | .var i => pM g F cons false v r (fun d r1 => isL r1 i ∧ pE g F ix r1 (fun k => putD r1 i k d K.nx) K.ex) K.ex
    | _ => False) := nr rfl
theorem qpS_aug {g : Pg} {F : DF} {cons : Str → Bool} {r} {K} {i} {o} {e} : pS g F cons (MS.aug i o e) r K = (match r[i]? with
    | some (some (.int c)) => pE g F e r (fun y => match y with
      | .int d => (match o with
        | .add => K.nx (r.set i (some (.int (c + d))))
        | .sub => K.nx (r.set i (some (.int (c - d))))
        | _ => False)
      | _ => False) K.ex
    | _ => False) := nr rfl
theorem qpS_ifs {g : Pg} {F : DF} {cons : Str → Bool} {r} {K} {c} {a} {b} : pS g F cons (MS.ifs c a b) r K = (pT g F cons c r (fun k r1 => cond k (pSs g F cons a r1 K) (pSs g F cons b r1 K)) K.ex) := nr rfl
theorem qpS_fors {g : Pg} {F : DF} {cons : Str → Bool} {r} {K} {tg} {it} {b} : pS g F cons (MS.fors tg it b) r K = (pI g F it r (fun items o => forD tg (fun r1 K1 => pSs g F cons b r1 K1) items (aft o (vI it) r) K) K.ex) := nr rfl
theorem qpS_whl {g : Pg} {F : DF} {cons : Str → Bool} {r} {K} {c} {b} : pS g F cons (MS.whl c b) r K = (whlD (fun r1 Q E => pE g F c r1 (fun x => oQ (truD x) Q) E) (fun r1 K1 => pSs g F cons b r1 K1) r K) := nr rfl
theorem qpS_ret {g : Pg} {F : DF} {cons : Str → Bool} {r} {K} {e} : pS g F cons (MS.ret e) r K = (pM g F cons true e r (fun d _ => K.rt d) K.ex) := nr rfl
theorem qpS_retN {g : Pg} {F : DF} {cons : Str → Bool} {r} {K} : pS g F cons (MS.retN) r K = (K.rt .non) := nr rfl
theorem qpS_raise {g : Pg} {F : DF} {cons : Str → Bool} {r} {K} {c} {es} : pS g F cons (MS.raise c es) r K = (pEs g F es r (fun ds => match g.exc.lookup c, ds with
    | some none, [] => K.ex (c, none)
    | some (some f), [d] => K.ex (c, some (f, d.sh))
    | _, _ => False) K.ex) := nr rfl
theorem qpS_brk {g : Pg} {F : DF} {cons : Str → Bool} {r} {K} : pS g F cons (MS.brk) r K = (K.br r) := nr rfl
theorem qpS_cnt {g : Pg} {F : DF} {cons : Str → Bool} {r} {K} : pS g F cons (MS.cnt) r K = (K.ct r) := nr rfl
theorem qpS_pass {g : Pg} {F : DF} {cons : Str → Bool} {r} {K} : pS g F cons (MS.pass) r K = (K.nx r) := nr rfl
theorem qpS_tryK {g : Pg} {F : DF} {cons : Str → Bool} {r} {K} {b} {v1} {v2} {v3} : pS g F cons (MS.tryK b v1 v2 v3) r K = (pSs g F cons b r { K with ex := fun x => K.rt (.tup [.str x.1, match x.2 with
    | some p => p.2
    | none => .non]) }) := nr rfl
theorem qpM_var {g : Pg} {F : DF} {cons : Str → Bool} {i r Q E} : pM g F cons false (ME.var i) r Q E = (pE g F (ME.var i) r (fun d => Q d (aft d.own (vE (ME.var i)) r)) E) := by
  refine nr ?_
  conv => lhs; unfold pM
  all_goals rfl
theorem qpM_cst {g : Pg} {F : DF} {cons : Str → Bool} {mv} {u} {r Q E} : pM g F cons mv (ME.cst u) r Q E = (pE g F (ME.cst u) r (fun d => Q d (aft d.own (vE (ME.cst u)) r)) E) := by simp [pM]
theorem qpM_glo {g : Pg} {F : DF} {cons : Str → Bool} {mv} {x} {r Q E} : pM g F cons mv (ME.glo x) r Q E = (pE g F (ME.glo x) r (fun d => Q d (aft d.own (vE (ME.glo x)) r)) E) := by simp [pM]
theorem qpM_bin {g : Pg} {F : DF} {cons : Str → Bool} {mv} {o} {a} {b} {r Q E} : pM g F cons mv (ME.bin o a b) r Q E = (pE g F (ME.bin o a b) r (fun d => Q d (aft d.own (vE (ME.bin o a b)) r)) E) := by simp [pM]
theorem qpM_neg {g : Pg} {F : DF} {cons : Str → Bool} {mv} {a} {r Q E} : pM g F cons mv (ME.neg a) r Q E = (pE g F (ME.neg a) r (fun d => Q d (aft d.own (vE (ME.neg a)) r)) E) := by simp [pM]
theorem qpM_not {g : Pg} {F : DF} {cons : Str → Bool} {mv a r Q E} : pM g F cons mv (ME.not a) r Q E = (pM g F cons mv a r (fun x r1 => oQ (truD x) fun b => Q (.bl (!b)) r1) E) := by simp [pM]
theorem qpM_cmp {g : Pg} {F : DF} {cons : Str → Bool} {mv} {o} {a} {b} {r Q E} : pM g F cons mv (ME.cmp o a b) r Q E = (pE g F (ME.cmp o a b) r (fun d => Q d (aft d.own (vE (ME.cmp o a b)) r)) E) := by simp [pM]
theorem qpM_chn {g : Pg} {F : DF} {cons : Str → Bool} {mv} {o} {o2} {a} {b} {c} {r Q E} : pM g F cons mv (ME.chn o o2 a b c) r Q E = (pE g F (ME.chn o o2 a b c) r (fun d => Q d (aft d.own (vE (ME.chn o o2 a b c)) r)) E) := by simp [pM]
theorem qpM_and {g : Pg} {F : DF} {cons : Str → Bool} {mv} {a} {b} {r Q E} : pM g F cons mv (ME.and a b) r Q E = (pE g F (ME.and a b) r (fun d => Q d (aft d.own (vE (ME.and a b)) r)) E) := by simp [pM]
theorem qpM_or {g : Pg} {F : DF} {cons : Str → Bool} {mv} {a} {b} {r Q E} : pM g F cons mv (ME.or a b) r Q E = (pE g F (ME.or a b) r (fun d => Q d (aft d.own (vE (ME.or a b)) r)) E) := by simp [pM]
theorem qpM_ifx {g : Pg} {F : DF} {cons : Str → Bool} {mv} {c} {a} {b} {r Q E} : pM g F cons mv (ME.ifx c a b) r Q E = (pE g F (ME.ifx c a b) r (fun d => Q d (aft d.own (vE (ME.ifx c a b)) r)) E) := by simp [pM]
theorem qpM_lst {g : Pg} {F : DF} {cons : Str → Bool} {es} {r Q E} : pM g F cons false (ME.lst es) r Q E = (pE g F (ME.lst es) r (fun d => Q d (aft d.own (vE (ME.lst es)) r)) E) := by
  refine nr ?_
  conv => lhs; unfold pM
  all_goals rfl
theorem qpM_tup {g : Pg} {F : DF} {cons : Str → Bool} {es} {r Q E} : pM g F cons false (ME.tup es) r Q E = (pE g F (ME.tup es) r (fun d => Q d (aft d.own (vE (ME.tup es)) r)) E) := by
  refine nr ?_
  conv => lhs; unfold pM
  all_goals rfl
theorem qpM_idx {g : Pg} {F : DF} {cons : Str → Bool} {mv a b r Q E} : pM g F cons mv (ME.idx a b) r Q E = (cond (mv && dj (vE a) (vE b)) (pM g F cons mv a r (fun x r1 => pE g F b r1 (fun y => idxD x y fun d => Q d r1) E) E) (pE g F (ME.idx a b) r (fun d => Q d (aft d.own (vE (ME.idx a b)) r)) E)) := by
  refine nr ?_
  conv => lhs; unfold pM
  all_goals rfl
theorem qpM_slc {g : Pg} {F : DF} {cons : Str → Bool} {mv} {a} {lo} {hi} {bl} {bh} {r Q E} : pM g F cons mv (ME.slc a lo hi bl bh) r Q E = (pE g F (ME.slc a lo hi bl bh) r (fun d => Q d (aft d.own (vE (ME.slc a lo hi bl bh)) r)) E) := by simp [pM]
theorem qpM_call {g : Pg} {F : DF} {cons : Str → Bool} {mv f es r Q E} : pM g F cons mv (ME.call f es) r Q E = (cond (cons f) (pMs g F cons true es r (fun ds r1 => F f ds (fun d => Q d r1) E) E) (pE g F (ME.call f es) r (fun d => Q d (aft d.own (vE (ME.call f es)) r)) E)) := by
  refine nr ?_
  conv => lhs; unfold pM
  all_goals rfl
theorem qpM_callk {g : Pg} {F : DF} {cons : Str → Bool} {mv} {f} {ks} {es} {r Q E} : pM g F cons mv (ME.callk f ks es) r Q E = (pE g F (ME.callk f ks es) r (fun d => Q d (aft d.own (vE (ME.callk f ks es)) r)) E) := by simp [pM]
theorem qpM_blt {g : Pg} {F : DF} {cons : Str → Bool} {mv} {f} {es} {r Q E} : pM g F cons mv (ME.blt f es) r Q E = (pE g F (ME.blt f es) r (fun d => Q d (aft d.own (vE (ME.blt f es)) r)) E) := by simp [pM]
theorem qpM_isi {g : Pg} {F : DF} {cons : Str → Bool} {mv} {a} {ts} {r Q E} : pM g F cons mv (ME.isi a ts) r Q E = (pE g F (ME.isi a ts) r (fun d => Q d (aft d.own (vE (ME.isi a ts)) r)) E) := by simp [pM]
theorem qpM_bm {g : Pg} {F : DF} {cons : Str → Bool} {mv} {f} {a} {es} {r Q E} : pM g F cons mv (ME.bm f a es) r Q E = (pE g F (ME.bm f a es) r (fun d => Q d (aft d.own (vE (ME.bm f a es)) r)) E) := by simp [pM]
theorem qpM_lc {g : Pg} {F : DF} {cons : Str → Bool} {mv} {elt} {tg} {it} {c} {own} {r Q E} : pM g F cons mv (ME.lc elt tg it c own) r Q E = (pE g F (ME.lc elt tg it c own) r (fun d => Q d (aft d.own (vE (ME.lc elt tg it c own)) r)) E) := by simp [pM]
theorem qpM_lc2 {g : Pg} {F : DF} {cons : Str → Bool} {mv} {elt} {tg} {it} {c} {tg1} {it1} {c1} {own} {own1} {r Q E} : pM g F cons mv (ME.lc2 elt tg it c tg1 it1 c1 own own1) r Q E = (pE g F (ME.lc2 elt tg it c tg1 it1 c1 own own1) r (fun d => Q d (aft d.own (vE (ME.lc2 elt tg it c tg1 it1 c1 own own1)) r)) E) := by simp [pM]
theorem qpMt_var {g : Pg} {F : DF} {cons : Str → Bool} {i r Q E} : pM g F cons true (ME.var i) r Q E = (match r[i]? with
    | some (some d) => Q d (r.set i none)
    | _ => False) := by
  refine nr ?_
  conv => lhs; unfold pM
  all_goals rfl
theorem qpMt_tup {g : Pg} {F : DF} {cons : Str → Bool} {es r Q E} : pM g F cons true (ME.tup es) r Q E = (pMs g F cons true es r (fun ds r1 => ds.length ≤ SL ∧ Q (.tup ds) r1) E) := by simp [pM]
theorem qpMt_lst {g : Pg} {F : DF} {cons : Str → Bool} {es r Q E} : pM g F cons true (ME.lst es) r Q E = (pMs g F cons true es r (fun ds r1 => ds.length ≤ SL ∧ Q (.lst true ds) r1) E) := by simp [pM]
theorem qpMs_nil {g : Pg} {F : DF} {cons : Str → Bool} {mv r Q E} : pMs g F cons mv MEs.nil r Q E = (Q [] r) := by simp [pMs]
theorem qpMs_cons {g : Pg} {F : DF} {cons : Str → Bool} {mv e es r Q E} : pMs g F cons mv (MEs.cons e es) r Q E = (pM g F cons (mv && dj (vE e) (vEs es)) e r (fun d r1 => pMs g F cons mv es r1 (fun ds r2 => Q (d :: ds) r2) E) E) := by simp [pMs]
theorem q_oQ_some {A : Type} {a : A} {Q : A → Prop} : oQ (some a) Q = Q a := nr rfl
theorem q_oQ_none {A : Type} {Q : A → Prop} : oQ (none : Option A) Q = False := nr rfl
theorem q_sh_non : D.non.sh = .non := nr rfl
theorem q_sh_bl {b} : (D.bl b).sh = .bl b := nr rfl
theorem q_sh_int {b} : (D.int b).sh = .int b := nr rfl
theorem q_sh_str {b} : (D.str b).sh = .str b := nr rfl
theorem q_sh_st : D.st.sh = .st := nr rfl
theorem q_sh_lst {q xs} : (D.lst q xs).sh = .lst false (shs xs) := nr rfl
theorem q_sh_tup {xs} : (D.tup xs).sh = .tup (shs xs) := nr rfl
theorem q_shs_nil : shs [] = [] := nr rfl
theorem q_shs_cons {d ds} : shs (d :: ds) = d.sh :: shs ds := nr rfl
theorem q_own_non : D.non.own = true := nr rfl
theorem q_own_bl {b} : (D.bl b).own = true := nr rfl
theorem q_own_int {b} : (D.int b).own = true := nr rfl
theorem q_own_str {b} : (D.str b).own = true := nr rfl
theorem q_own_st : D.st.own = true := nr rfl
theorem q_own_lst {q xs} : (D.lst q xs).own = (q && owns xs) := nr rfl
theorem q_own_tup {xs} : (D.tup xs).own = owns xs := nr rfl
theorem q_owns_nil : owns [] = true := nr rfl
theorem q_owns_cons {d ds} : owns (d :: ds) = (d.own && owns ds) := nr rfl
theorem q_truD_non : truD .non = some false := nr rfl
theorem q_truD_bl {b} : truD (.bl b) = some b := nr rfl
theorem q_truD_int {i} : truD (.int i) = some (i != 0) := nr rfl
theorem q_truD_lst {q xs} : truD (.lst q xs) = some (!xs.isEmpty) := nr rfl
theorem q_truD_tup {xs} : truD (.tup xs) = some (!xs.isEmpty) := nr rfl
theorem q_tyD_non : tyD .non = some "NoneType" := nr rfl
theorem q_tyD_bl {b} : tyD (.bl b) = some "bool" := nr rfl
theorem q_tyD_int {b} : tyD (.int b) = some "int" := nr rfl
theorem q_tyD_str {b} : tyD (.str b) = some "str" := nr rfl
theorem q_tyD_lst {q xs} : tyD (.lst q xs) = some "list" := nr rfl
theorem q_tyD_tup {xs} : tyD (.tup xs) = some "tuple" := nr rfl
theorem q_aft_t {vs r} : aft true vs r = r := nr rfl
theorem q_aft_f {vs r} : aft false vs r = dropV vs r := nr rfl
theorem q_dropV_nil {r} : dropV [] r = r := nr rfl
theorem q_dropV_cons {i is r} : dropV (i :: is) r = dropV is (shAt r i) := nr rfl
theorem q_asApp_ap {i a} : asApp (.bm .append (.var i) (.cons a .nil)) = some (i, a) := nr rfl
theorem q_cmpD_lt {i j} : cmpD .lt (.int i) (.int j) = some (decide (i < j)) := nr rfl
theorem q_cmpD_le {i j} : cmpD .le (.int i) (.int j) = some (decide (i ≤ j)) := nr rfl
theorem q_cmpD_gt {i j} : cmpD .gt (.int i) (.int j) = some (decide (j < i)) := nr rfl
theorem q_cmpD_ge {i j} : cmpD .ge (.int i) (.int j) = some (decide (j ≤ i)) := nr rfl
theorem q_cmpD_eq {x y} : cmpD .eq x y = eqD x y := nr rfl
theorem q_cmpD_ne {x y} : cmpD .ne x y = (eqD x y).map (!·) := nr rfl
theorem q_cmpD_is {x} : cmpD .is x .non = some (isNonD x) := nr rfl
theorem q_cmpD_isn {x} : cmpD .isn x .non = some (!isNonD x) := nr rfl
theorem q_isNonD_non : isNonD .non = true := nr rfl
theorem q_isNonD_bl {b} : isNonD (.bl b) = false := nr rfl
theorem q_isNonD_int {b} : isNonD (.int b) = false := nr rfl
theorem q_isNonD_str {b} : isNonD (.str b) = false := nr rfl
theorem q_isNonD_lst {b c} : isNonD (.lst b c) = false := nr rfl
theorem q_isNonD_tup {b} : isNonD (.tup b) = false := nr rfl
theorem q_eqD_int {i j} : eqD (.int i) (.int j) = some (decide (i = j)) := nr rfl
theorem q_eqD_bl {i j} : eqD (.bl i) (.bl j) = some (i == j) := nr rfl
theorem q_eqD_str {i j} : eqD (.str i) (.str j) = some (decide (i = j)) := nr rfl
theorem q_binD_int {o i j Q} : binD o (.int i) (.int j) Q = oQ (opI o i j) fun k => Q (.int k) := by
  simp only [binD]
  cases opI o i j <;> rfl
theorem q_binD_ls {p q xs ys Q} : binD .add (.lst p xs) (.lst q ys) Q = (xs.length + ys.length ≤ SL ∧ Q (.lst true (xs ++ ys))) := nr rfl
theorem q_binD_str {xs ys Q} : binD .add (.str xs) (.str ys) Q = (xs.length + ys.length ≤ SL ∧ Q (.str (xs ++ ys))) := nr rfl
theorem q_opI_add {i j} : opI .add i j = some (i + j) := nr rfl
theorem q_opI_sub {i j} : opI .sub i j = some (i - j) := nr rfl
theorem q_opI_mul {i j} : opI .mul i j = if mulOk i j then some (i * j) else none := nr rfl
theorem q_opI_fdiv {i j} : opI .fdiv i j = if 0 < j ∧ j < 2 ^ 64 then some (i / j) else none := nr rfl
theorem q_opI_mod {i j} : opI .mod i j = if 0 < j then some (i % j) else none := nr rfl
theorem q_idxD_l {q xs i Q} : idxD (.lst q xs) (.int i) Q = oQ (L2.atI xs i) Q := nr rfl
theorem q_idxD_t {xs i Q} : idxD (.tup xs) (.int i) Q = oQ (L2.atI xs i) Q := nr rfl
theorem q_slcD_l {q xs l h Q} : slcD (.lst q xs) l h Q = Q (.lst true (cutD xs l h)) := nr rfl
theorem q_partD_i {i Q} : partD (.int i) Q = Q (some i) := nr rfl
theorem q_blt_len_s {s Q} : bltD .len [.str s] Q = (s.length ≤ SL ∧ Q (.int s.length)) := nr rfl
theorem q_blt_len_l {q xs Q} : bltD .len [.lst q xs] Q = Q (.int xs.length) := nr rfl
theorem q_blt_len_t {xs Q} : bltD .len [.tup xs] Q = Q (.int xs.length) := nr rfl
theorem q_blt_int {i Q} : bltD .int [.int i] Q = Q (.int i) := nr rfl
theorem q_blt_intb {b Q} : bltD .int [.bl b] Q = Q (.int (if b then 1 else 0)) := nr rfl
theorem q_blt_str {i Q} : bltD .str [.int i] Q = (i.natAbs.log2 < 1920 ∧ Q (.str (toString i))) := nr rfl
theorem q_blt_list {q xs Q} : bltD .list [.lst q xs] Q = Q (.lst true xs) := nr rfl
theorem q_blt_listt {xs Q} : bltD .list [.tup xs] Q = Q (.lst true xs) := nr rfl
theorem q_blt_tup {q xs Q} : bltD .tuple [.lst q xs] Q = Q (.tup xs) := nr rfl
theorem q_blt_tupt {xs Q} : bltD .tuple [.tup xs] Q = Q (.tup xs) := nr rfl
theorem q_blt_sum {q xs Q} : bltD .sum [.lst q xs] Q = oQ (intsD xs) fun ns => Q (.int ns.sum) := nr rfl
theorem q_blt_any {q xs Q} : bltD .any [.lst q xs] Q = oQ (blsD xs) fun ns => Q (.bl (ns.any id)) := nr rfl
theorem q_blt_all {q xs Q} : bltD .all [.lst q xs] Q = oQ (blsD xs) fun ns => Q (.bl (ns.all id)) := nr rfl
theorem q_blt_max {i j Q} : bltD .max [.int i, .int j] Q = Q (.int (if j > i then j else i)) := nr rfl
theorem q_blt_min {i j Q} : bltD .min [.int i, .int j] Q = Q (.int (if j < i then j else i)) := nr rfl
theorem q_blt_abs {i Q} : bltD .abs [.int i] Q = Q (.int (if i < 0 then -i else i)) := nr rfl
theorem q_sq_l {q xs} : D.sq (.lst q xs) = some xs := nr rfl
theorem q_sq_t {xs} : D.sq (.tup xs) = some xs := nr rfl
theorem q_ofU_non : D.ofU .non = some .non := nr rfl
theorem q_ofU_bl {b} : D.ofU (.bl b) = some (.bl b) := nr rfl
theorem q_ofU_int {b} : D.ofU (.int b) = some (.int b) := nr rfl
theorem q_ofU_str {b} : D.ofU (.str b) = some (.str b) := nr rfl
theorem q_memN_n {i} : memN i [] = false := nr rfl
theorem q_memN_c {i j l} : memN i (j :: l) = (decide (i = j) || memN i l) := nr rfl
theorem q_dj_n {b} : dj [] b = true := nr rfl
theorem q_dj_c {i a b} : dj (i :: a) b = (!memN i b && dj a b) := nr rfl
theorem q_setD_nil {r} : setD r [] [] = some r := nr rfl
theorem q_setD_cons {r i is d ds} : setD r (i :: is) (d :: ds) = setD (r.set i (some d)) is ds := nr rfl
theorem q_tgtD_nm {i d r} : tgtD (.nm i) [d] r = some (r.set i (some d)) := nr rfl
theorem q_tgtD_tp {is ds r} : tgtD (.tp is) [.tup ds] r = setD r is ds := nr rfl
theorem q_wipe_nil {r} : wipeD r [] = r := nr rfl
theorem q_wipe_cons {r v vs} : wipeD r (v :: vs) = (wipeD r vs).set v none := nr rfl
theorem q_lcD_nil {tg r turn acc Q} : lcD tg r turn [] acc Q = Q acc := nr rfl
theorem q_lcD_cons {tg r turn x xs acc Q} : lcD tg r turn (x :: xs) acc Q = oQ (tgtD tg x r) fun r1 => turn r1 acc fun acc' => lcD tg r turn xs acc' Q := nr rfl
theorem q_forD_nil {tg body r K} : forD tg body [] r K = K.nx r := nr rfl
theorem q_forD_cons {tg body x xs r K} : forD tg body (x :: xs) r K = oQ (tgtD tg x r) fun r1 => body r1 { nx := fun r2 => forD tg body xs r2 K, ct := fun r2 => forD tg body xs r2 K, br := K.nx, rt := K.rt, ex := K.ex } := nr rfl
theorem q_enuD_nil {k} : enuD k [] = [] := nr rfl
theorem q_enuD_cons {k x r} : enuD k (x :: r) = [.int k, x] :: enuD (k + 1) r := nr rfl
theorem q_zipD_nil {s} : zipD [] s = [] := nr rfl
theorem q_zipD_cons {x r y s} : zipD (x :: r) (y :: s) = [x, y] :: zipD r s := nr rfl
theorem q_rngD_zero {lo} : rngD lo 0 = [] := nr rfl
theorem q_rngD_succ {lo n} : rngD lo (n + 1) = [.int lo] :: rngD (lo + 1) n := nr rfl
theorem q_intsD_nil : intsD [] = some [] := nr rfl
theorem q_intsD_cons {i r} : intsD (.int i :: r) = (intsD r).map (i :: ·) := nr rfl
theorem q_bodyK_nx {Q E} : (bodyK Q E).nx = fun _ => Q .non := nr rfl
theorem q_bodyK_br {Q E} : (bodyK Q E).br = fun _ => False := nr rfl
theorem q_bodyK_ct {Q E} : (bodyK Q E).ct = fun _ => False := nr rfl
theorem q_bodyK_rt {Q E} : (bodyK Q E).rt = Q := nr rfl
theorem q_bodyK_ex {Q E} : (bodyK Q E).ex = E := nr rfl
theorem q_tyOk_cons {t x ts} : tyOk t (x :: ts) = (isaT t x || tyOk t ts) := nr rfl
theorem q_tyOk_nil {t} : tyOk t [] = false := nr rfl
theorem q_get_z {A : Type} {a : A} {l : List A} : (a :: l)[0]? = some a := nr rfl
theorem q_get_s {A : Type} {a : A} {l : List A} {n} : (a :: l)[n + 1]? = l[n]? := nr rfl
theorem q_set_z {A : Type} {a b : A} {l : List A} : (a :: l).set 0 b = b :: l := nr rfl
theorem q_set_s {A : Type} {a b : A} {l : List A} {n} : (a :: l).set (n + 1) b = a :: l.set n b := nr rfl
theorem q_app_n {A : Type} {l : List A} : [] ++ l = l := nr rfl
theorem q_app_c {A : Type} {a : A} {l k : List A} : (a :: l) ++ k = a :: (l ++ k) := nr rfl
theorem q_map_n {A C : Type} {f : A → C} : [].map f = [] := nr rfl
theorem q_map_c {A C : Type} {f : A → C} {a : A} {l : List A} : (a :: l).map f = f a :: l.map f := nr rfl
theorem q_rep_z {A : Type} {a : A} : List.replicate 0 a = [] := nr rfl
theorem q_rep_s {A : Type} {a : A} {n} : List.replicate (n + 1) a = a :: List.replicate n a := nr rfl
theorem qvE_var {i} : vE (.var i) = [i] := nr rfl
theorem qvE_cst {u} : vE (.cst u) = [] := nr rfl
theorem qvE_glo {x} : vE (.glo x) = [] := nr rfl
theorem qvE_bin {o} {a} {b} : vE (.bin o a b) = vE a ++ vE b := nr rfl
theorem qvE_neg {a} : vE (.neg a) = vE a := nr rfl
theorem qvE_not {a} : vE (.not a) = vE a := nr rfl
theorem qvE_cmp {o} {a} {b} : vE (.cmp o a b) = vE a ++ vE b := nr rfl
theorem qvE_chn {o} {o2} {a} {b} {c} : vE (.chn o o2 a b c) = vE a ++ (vE b ++ vE c) := nr rfl
theorem qvE_and {a} {b} : vE (.and a b) = vE a ++ vE b := nr rfl
theorem qvE_or {a} {b} : vE (.or a b) = vE a ++ vE b := nr rfl
theorem qvE_ifx {c} {a} {b} : vE (.ifx c a b) = vE c ++ (vE a ++ vE b) := nr rfl
theorem qvE_lst {es} : vE (.lst es) = vEs es := nr rfl
theorem qvE_tup {es} : vE (.tup es) = vEs es := nr rfl
theorem qvE_idx {a} {b} : vE (.idx a b) = vE a ++ vE b := nr rfl
theorem qvE_slc {a} {lo} {hi} {bl} {bh} : vE (.slc a lo hi bl bh) = vE a ++ (vE lo ++ vE hi) := nr rfl
theorem qvE_call {f} {es} : vE (.call f es) = vEs es := nr rfl
theorem qvE_callk {f} {ks} {es} : vE (.callk f ks es) = vEs es := nr rfl
theorem qvE_blt {f} {es} : vE (.blt f es) = vEs es := nr rfl
theorem qvE_isi {a} {ts} : vE (.isi a ts) = vE a := nr rfl
theorem qvE_bm {f} {a} {es} : vE (.bm f a es) = vE a ++ vEs es := nr rfl
theorem qvE_lc {elt} {tg} {it} {c} {own} : vE (.lc elt tg it c own) = vI it ++ (tgV tg ++ (own ++ (vE c ++ vE elt))) := nr rfl
theorem qvE_lc2 {elt} {tg} {it} {c} {tg1} {it1} {c1} {own} {own1} : vE (.lc2 elt tg it c tg1 it1 c1 own own1) = vI it ++ (tgV tg ++ (own ++ (vE c ++ (vI it1 ++ (tgV tg1 ++ (own1 ++ (vE c1 ++ vE elt))))))) := nr rfl
theorem qvEs_nil : vEs .nil = [] := nr rfl
theorem qvEs_cons {e es} : vEs (.cons e es) = vE e ++ vEs es := nr rfl
theorem qvI_seq {e} : vI (.seq e) = vE e := nr rfl
theorem qvI_rng {e} : vI (.rng e) = vE e := nr rfl
theorem qvI_rng2 {a} {b} : vI (.rng2 a b) = vE a ++ vE b := nr rfl
theorem qvI_enu {e} : vI (.enu e) = vE e := nr rfl
theorem qvI_zip {a} {b} : vI (.zip a b) = vE a ++ vE b := nr rfl
theorem qtgV_nm {i} : tgV (.nm i) = [i] := nr rfl
theorem qtgV_tp {i} : tgV (.tp i) = i := nr rfl
theorem q_asApp_var {i} : asApp (.var i) = none := nr rfl
theorem q_asApp_cst {u} : asApp (.cst u) = none := nr rfl
theorem q_asApp_glo {x} : asApp (.glo x) = none := nr rfl
theorem q_asApp_bin {o} {a} {b} : asApp (.bin o a b) = none := nr rfl
theorem q_asApp_neg {a} : asApp (.neg a) = none := nr rfl
theorem q_asApp_not {a} : asApp (.not a) = none := nr rfl
theorem q_asApp_cmp {o} {a} {b} : asApp (.cmp o a b) = none := nr rfl
theorem q_asApp_chn {o} {o2} {a} {b} {c} : asApp (.chn o o2 a b c) = none := nr rfl
theorem q_asApp_and {a} {b} : asApp (.and a b) = none := nr rfl
theorem q_asApp_or {a} {b} : asApp (.or a b) = none := nr rfl
theorem q_asApp_ifx {c} {a} {b} : asApp (.ifx c a b) = none := nr rfl
theorem q_asApp_lst {es} : asApp (.lst es) = none := nr rfl
theorem q_asApp_tup {es} : asApp (.tup es) = none := nr rfl
theorem q_asApp_idx {a} {b} : asApp (.idx a b) = none := nr rfl
theorem q_asApp_slc {a} {lo} {hi} {bl} {bh} : asApp (.slc a lo hi bl bh) = none := nr rfl
theorem q_asApp_call {f} {es} : asApp (.call f es) = none := nr rfl
theorem q_asApp_callk {f} {ks} {es} : asApp (.callk f ks es) = none := nr rfl
theorem q_asApp_blt {f} {es} : asApp (.blt f es) = none := nr rfl
theorem q_asApp_isi {a} {ts} : asApp (.isi a ts) = none := nr rfl
theorem q_asApp_lc {elt} {tg} {it} {c} {own} : asApp (.lc elt tg it c own) = none := nr rfl
theorem q_asApp_lc2 {elt} {tg} {it} {c} {tg1} {it1} {c1} {own} {own1} : asApp (.lc2 elt tg it c tg1 it1 c1 own own1) = none := nr rfl
theorem q_ite_T {A : Sort u} {a b : A} {h : Decidable True} : (@ite A True h a b) = a := if_pos trivial
theorem q_ite_F {A : Sort u} {a b : A} {h : Decidable False} : (@ite A False h a b) = b := if_neg id
theorem q_cond_t {A : Sort u} {a b : A} : cond true a b = a := nr rfl
theorem q_cond_f {A : Sort u} {a b : A} : cond false a b = b := nr rfl
theorem q_cond_d {p a b : Prop} {h : Decidable p} : cond (@decide p h) a b = ((p → a) ∧ (¬ p → b)) := by
  cases h <;> simp [*]
theorem q_cond_n {k : Bool} {a b : Prop} : cond (!k) a b = cond k b a := by cases k <;> rfl
theorem q_pT {g : Pg} {F : DF} {cons : Str → Bool} {e r Q E} : pT g F cons e r Q E = pM g F cons false e r (fun x r1 => oQ (truD x) fun k => Q k r1) E := nr rfl
theorem q_appD {r d Q i} : appD r i d Q = (match r[i]? with
  | some (some (.lst true xs)) => xs.length < SL ∧ Q (r.set i (some (.lst true (xs ++ [d]))))
  | _ => False) := nr rfl
theorem q_putD {r d Q i k} : putD r i k d Q = (match r[i]?, k with
  | some (some (.lst true xs)), .int k => oQ (L2.ixN xs.length k) fun j => Q (r.set i (some (.lst true (xs.set j d))))
  | _, _ => False) := nr rfl
theorem q_isL {r i} : isL r i = (match r[i]? with
  | some (some (.lst _ _)) => True
  | _ => False) := nr rfl
theorem q_shAt {r i} : shAt r i = (match r[i]? with
  | some (some d) => r.set i (some d.sh)
  | _ => r) := nr rfl
end Py
local macro_rules
  | `(tactic| simp_arith [$xs,*]) => `(tactic| simp only [Py.qpE_var, Py.qpE_cst, Py.qpE_glo, Py.qpE_bin, Py.qpE_neg, Py.qpE_not, Py.qpE_cmp, Py.qpE_chn, Py.qpE_and, Py.qpE_or, Py.qpE_ifx, Py.qpE_lst, Py.qpE_tup, Py.qpE_idx, Py.qpE_slc, Py.qpE_call, Py.qpE_callk, Py.qpE_blt, Py.qpE_isi, Py.qpE_bm, Py.qpE_lc, Py.qpE_lc2, Py.qpEs_nil, Py.qpEs_cons, Py.qpI_seq, Py.qpI_rng, Py.qpI_rng2, Py.qpI_enu, Py.qpI_zip, Py.qpS_expr, Py.qpS_asg, Py.qpS_asgT, Py.qpS_par, Py.qpS_sub, Py.qpS_aug, Py.qpS_ifs, Py.qpS_fors, Py.qpS_whl, Py.qpS_ret, Py.qpS_retN, Py.qpS_raise, Py.qpS_brk, Py.qpS_cnt, Py.qpS_pass, Py.qpS_tryK, Py.qpM_var, Py.qpM_cst, Py.qpM_glo, Py.qpM_bin, Py.qpM_neg, Py.qpM_not, Py.qpM_cmp, Py.qpM_chn, Py.qpM_and, Py.qpM_or, Py.qpM_ifx, Py.qpM_lst, Py.qpM_tup, Py.qpM_idx, Py.qpM_slc, Py.qpM_call, Py.qpM_callk, Py.qpM_blt, Py.qpM_isi, Py.qpM_bm, Py.qpM_lc, Py.qpM_lc2, Py.qpMt_var, Py.qpMt_tup, Py.qpMt_lst, Py.qpMs_nil, Py.qpMs_cons, Py.q_oQ_some, Py.q_oQ_none, Py.q_sh_non, Py.q_sh_bl, Py.q_sh_int, Py.q_sh_str, Py.q_sh_st, Py.q_sh_lst, Py.q_sh_tup, Py.q_shs_nil, Py.q_shs_cons, Py.q_own_non, Py.q_own_bl, Py.q_own_int, Py.q_own_str, Py.q_own_st, Py.q_own_lst, Py.q_own_tup, Py.q_owns_nil, Py.q_owns_cons, Py.q_truD_non, Py.q_truD_bl, Py.q_truD_int, Py.q_truD_lst, Py.q_truD_tup, Py.q_tyD_non, Py.q_tyD_bl, Py.q_tyD_int, Py.q_tyD_str, Py.q_tyD_lst, Py.q_tyD_tup, Py.q_aft_t, Py.q_aft_f, Py.q_dropV_nil, Py.q_dropV_cons, Py.q_asApp_ap, Py.q_cmpD_lt, Py.q_cmpD_le, Py.q_cmpD_gt, Py.q_cmpD_ge, Py.q_cmpD_eq, Py.q_cmpD_ne, Py.q_cmpD_is, Py.q_cmpD_isn, Py.q_isNonD_non, Py.q_isNonD_bl, Py.q_isNonD_int, Py.q_isNonD_str, Py.q_isNonD_lst, Py.q_isNonD_tup, Py.q_eqD_int, Py.q_eqD_bl, Py.q_eqD_str, Py.q_binD_int, Py.q_binD_ls, Py.q_binD_str, Py.q_opI_add, Py.q_opI_sub, Py.q_opI_mul, Py.q_opI_fdiv, Py.q_opI_mod, Py.q_idxD_l, Py.q_idxD_t, Py.q_slcD_l, Py.q_partD_i, Py.q_blt_len_s, Py.q_blt_len_l, Py.q_blt_len_t, Py.q_blt_int, Py.q_blt_intb, Py.q_blt_str, Py.q_blt_list, Py.q_blt_listt, Py.q_blt_tup, Py.q_blt_tupt, Py.q_blt_sum, Py.q_blt_any, Py.q_blt_all, Py.q_blt_max, Py.q_blt_min, Py.q_blt_abs, Py.q_sq_l, Py.q_sq_t, Py.q_ofU_non, Py.q_ofU_bl, Py.q_ofU_int, Py.q_ofU_str, Py.q_memN_n, Py.q_memN_c, Py.q_dj_n, Py.q_dj_c, Py.q_setD_nil, Py.q_setD_cons, Py.q_tgtD_nm, Py.q_tgtD_tp, Py.q_wipe_nil, Py.q_wipe_cons, Py.q_lcD_nil, Py.q_lcD_cons, Py.q_forD_nil, Py.q_forD_cons, Py.q_enuD_nil, Py.q_enuD_cons, Py.q_zipD_nil, Py.q_zipD_cons, Py.q_rngD_zero, Py.q_rngD_succ, Py.q_intsD_nil, Py.q_intsD_cons, Py.q_bodyK_nx, Py.q_bodyK_br, Py.q_bodyK_ct, Py.q_bodyK_rt, Py.q_bodyK_ex, Py.q_tyOk_cons, Py.q_tyOk_nil, Py.q_get_z, Py.q_get_s, Py.q_set_z, Py.q_set_s, Py.q_app_n, Py.q_app_c, Py.q_map_n, Py.q_map_c, Py.q_rep_z, Py.q_rep_s, Py.qvE_var, Py.qvE_cst, Py.qvE_glo, Py.qvE_bin, Py.qvE_neg, Py.qvE_not, Py.qvE_cmp, Py.qvE_chn, Py.qvE_and, Py.qvE_or, Py.qvE_ifx, Py.qvE_lst, Py.qvE_tup, Py.qvE_idx, Py.qvE_slc, Py.qvE_call, Py.qvE_callk, Py.qvE_blt, Py.qvE_isi, Py.qvE_bm, Py.qvE_lc, Py.qvE_lc2, Py.qvEs_nil, Py.qvEs_cons, Py.qvI_seq, Py.qvI_rng, Py.qvI_rng2, Py.qvI_enu, Py.qvI_zip, Py.qtgV_nm, Py.qtgV_tp, Py.q_asApp_var, Py.q_asApp_cst, Py.q_asApp_glo, Py.q_asApp_bin, Py.q_asApp_neg, Py.q_asApp_not, Py.q_asApp_cmp, Py.q_asApp_chn, Py.q_asApp_and, Py.q_asApp_or, Py.q_asApp_ifx, Py.q_asApp_lst, Py.q_asApp_tup, Py.q_asApp_idx, Py.q_asApp_slc, Py.q_asApp_call, Py.q_asApp_callk, Py.q_asApp_blt, Py.q_asApp_isi, Py.q_asApp_lc, Py.q_asApp_lc2, Py.q_ite_T, Py.q_ite_F, Py.q_cond_t, Py.q_cond_f, Py.q_cond_d, Py.q_cond_n, Py.q_pT, Py.q_appD, Py.q_putD, Py.q_isL, Py.q_shAt, List.foldl_append, List.foldl_cons, List.foldl_nil, List.map_append, List.map_cons, List.map_nil, List.filter_append, List.all_append, List.any_append, List.length_append, List.sum_append, List.forall_mem_append, List.forall_mem_singleton, $xs,*])
local macro_rules
  | `(tactic| simp_arith [$xs,*] at $h:ident) => `(tactic| simp only [Py.qpE_var, Py.qpE_cst, Py.qpE_glo, Py.qpE_bin, Py.qpE_neg, Py.qpE_not, Py.qpE_cmp, Py.qpE_chn, Py.qpE_and, Py.qpE_or, Py.qpE_ifx, Py.qpE_lst, Py.qpE_tup, Py.qpE_idx, Py.qpE_slc, Py.qpE_call, Py.qpE_callk, Py.qpE_blt, Py.qpE_isi, Py.qpE_bm, Py.qpE_lc, Py.qpE_lc2, Py.qpEs_nil, Py.qpEs_cons, Py.qpI_seq, Py.qpI_rng, Py.qpI_rng2, Py.qpI_enu, Py.qpI_zip, Py.qpS_expr, Py.qpS_asg, Py.qpS_asgT, Py.qpS_par, Py.qpS_sub, Py.qpS_aug, Py.qpS_ifs, Py.qpS_fors, Py.qpS_whl, Py.qpS_ret, Py.qpS_retN, Py.qpS_raise, Py.qpS_brk, Py.qpS_cnt, Py.qpS_pass, Py.qpS_tryK, Py.qpM_var, Py.qpM_cst, Py.qpM_glo, Py.qpM_bin, Py.qpM_neg, Py.qpM_not, Py.qpM_cmp, Py.qpM_chn, Py.qpM_and, Py.qpM_or, Py.qpM_ifx, Py.qpM_lst, Py.qpM_tup, Py.qpM_idx, Py.qpM_slc, Py.qpM_call, Py.qpM_callk, Py.qpM_blt, Py.qpM_isi, Py.qpM_bm, Py.qpM_lc, Py.qpM_lc2, Py.qpMt_var, Py.qpMt_tup, Py.qpMt_lst, Py.qpMs_nil, Py.qpMs_cons, Py.q_oQ_some, Py.q_oQ_none, Py.q_sh_non, Py.q_sh_bl, Py.q_sh_int, Py.q_sh_str, Py.q_sh_st, Py.q_sh_lst, Py.q_sh_tup, Py.q_shs_nil, Py.q_shs_cons, Py.q_own_non, Py.q_own_bl, Py.q_own_int, Py.q_own_str, Py.q_own_st, Py.q_own_lst, Py.q_own_tup, Py.q_owns_nil, Py.q_owns_cons, Py.q_truD_non, Py.q_truD_bl, Py.q_truD_int, Py.q_truD_lst, Py.q_truD_tup, Py.q_tyD_non, Py.q_tyD_bl, Py.q_tyD_int, Py.q_tyD_str, Py.q_tyD_lst, Py.q_tyD_tup, Py.q_aft_t, Py.q_aft_f, Py.q_dropV_nil, Py.q_dropV_cons, Py.q_asApp_ap, Py.q_cmpD_lt, Py.q_cmpD_le, Py.q_cmpD_gt, Py.q_cmpD_ge, Py.q_cmpD_eq, Py.q_cmpD_ne, Py.q_cmpD_is, Py.q_cmpD_isn, Py.q_isNonD_non, Py.q_isNonD_bl, Py.q_isNonD_int, Py.q_isNonD_str, Py.q_isNonD_lst, Py.q_isNonD_tup, Py.q_eqD_int, Py.q_eqD_bl, Py.q_eqD_str, Py.q_binD_int, Py.q_binD_ls, Py.q_binD_str, Py.q_opI_add, Py.q_opI_sub, Py.q_opI_mul, Py.q_opI_fdiv, Py.q_opI_mod, Py.q_idxD_l, Py.q_idxD_t, Py.q_slcD_l, Py.q_partD_i, Py.q_blt_len_s, Py.q_blt_len_l, Py.q_blt_len_t, Py.q_blt_int, Py.q_blt_intb, Py.q_blt_str, Py.q_blt_list, Py.q_blt_listt, Py.q_blt_tup, Py.q_blt_tupt, Py.q_blt_sum, Py.q_blt_any, Py.q_blt_all, Py.q_blt_max, Py.q_blt_min, Py.q_blt_abs, Py.q_sq_l, Py.q_sq_t, Py.q_ofU_non, Py.q_ofU_bl, Py.q_ofU_int, Py.q_ofU_str, Py.q_memN_n, Py.q_memN_c, Py.q_dj_n, Py.q_dj_c, Py.q_setD_nil, Py.q_setD_cons, Py.q_tgtD_nm, Py.q_tgtD_tp, Py.q_wipe_nil, Py.q_wipe_cons, Py.q_lcD_nil, Py.q_lcD_cons, Py.q_forD_nil, Py.q_forD_cons, Py.q_enuD_nil, Py.q_enuD_cons, Py.q_zipD_nil, Py.q_zipD_cons, Py.q_rngD_zero, Py.q_rngD_succ, Py.q_intsD_nil, Py.q_intsD_cons, Py.q_bodyK_nx, Py.q_bodyK_br, Py.q_bodyK_ct, Py.q_bodyK_rt, Py.q_bodyK_ex, Py.q_tyOk_cons, Py.q_tyOk_nil, Py.q_get_z, Py.q_get_s, Py.q_set_z, Py.q_set_s, Py.q_app_n, Py.q_app_c, Py.q_map_n, Py.q_map_c, Py.q_rep_z, Py.q_rep_s, Py.qvE_var, Py.qvE_cst, Py.qvE_glo, Py.qvE_bin, Py.qvE_neg, Py.qvE_not, Py.qvE_cmp, Py.qvE_chn, Py.qvE_and, Py.qvE_or, Py.qvE_ifx, Py.qvE_lst, Py.qvE_tup, Py.qvE_idx, Py.qvE_slc, Py.qvE_call, Py.qvE_callk, Py.qvE_blt, Py.qvE_isi, Py.qvE_bm, Py.qvE_lc, Py.qvE_lc2, Py.qvEs_nil, Py.qvEs_cons, Py.qvI_seq, Py.qvI_rng, Py.qvI_rng2, Py.qvI_enu, Py.qvI_zip, Py.qtgV_nm, Py.qtgV_tp, Py.q_asApp_var, Py.q_asApp_cst, Py.q_asApp_glo, Py.q_asApp_bin, Py.q_asApp_neg, Py.q_asApp_not, Py.q_asApp_cmp, Py.q_asApp_chn, Py.q_asApp_and, Py.q_asApp_or, Py.q_asApp_ifx, Py.q_asApp_lst, Py.q_asApp_tup, Py.q_asApp_idx, Py.q_asApp_slc, Py.q_asApp_call, Py.q_asApp_callk, Py.q_asApp_blt, Py.q_asApp_isi, Py.q_asApp_lc, Py.q_asApp_lc2, Py.q_ite_T, Py.q_ite_F, Py.q_cond_t, Py.q_cond_f, Py.q_cond_d, Py.q_cond_n, Py.q_pT, Py.q_appD, Py.q_putD, Py.q_isL, Py.q_shAt, List.foldl_append, List.foldl_cons, List.foldl_nil, List.map_append, List.map_cons, List.map_nil, List.filter_append, List.all_append, List.any_append, List.length_append, List.sum_append, List.forall_mem_append, List.forall_mem_singleton, $xs,*] at $h:ident)
set_option maxHeartbeats 4000000
/-! MINI PYTHON, part G1: the law's store: choices. -/
namespace Py
open PySem
/-- the store at s, its script at c -/
def stI (s c : Nat) (m : M) : Prop := ∃ (zs : List Int) (a b e f g : Int), m[c]? = some (.lst (zs.map U.int)) ∧ m[s]? = some (.lst [.ref c, .int a, .int b, .int e, .int f, .int g]) ∧ 0 ≤ a ∧ a ≤ zs.length ∧ (e ≠ 0 → 1 ≤ a) ∧ 0 ≤ e
def stW (s c : Nat) : Wd where
  s := s
  Z := fun x => x = s ∨ x = c
  Inv := stI s c
  app := fun m o ⟨zs, a, b, e, f, g, h1, h2, h3⟩ => ⟨zs, a, b, e, f, g, by rw [List.getElem?_append_left (get_lt h1)]; exact h1, by rw [List.getElem?_append_left (get_lt h2)]; exact h2, h3⟩
  set := fun m x o hx ⟨zs, a, b, e, f, g, h1, h2, h3⟩ => ⟨zs, a, b, e, f, g, by rw [List.getElem?_set_ne (fun z => hx (.inr z))]; exact h1, by rw [List.getElem?_set_ne (fun z => hx (.inl z))]; exact h2, h3⟩
namespace LL
def mixed : Fn := ⟨2, 4, (.cons (.asg 2 (.bin .mod (.blt .int (.cons (.bin .add (.bin .add (.bin .mul (.var 0) (.cst (.int 2862933555777941757))) (.bin .mul (.var 1) (.cst (.int 3202034522624059733)))) (.cst (.int 1442695040888963407))) .nil)) (.cst (.int 2305843009213693951))))
  (.cons (.asg 3 (.bin .mod (.blt .int (.cons (.bin .add (.bin .add (.bin .mul (.var 2) (.var 2)) (.bin .fdiv (.var 2) (.cst (.int 1000003)))) (.var 1)) .nil)) (.cst (.int 1000000000000000003))))
  (.cons (.ret (.bin .mod (.blt .int (.cons (.bin .add (.bin .add (.bin .mul (.var 3) (.var 3)) (.bin .mul (.bin .fdiv (.var 3) (.cst (.int 998244353))) (.cst (.int 48271)))) (.var 2)) .nil)) (.cst (.int 1000000000000000009))))
  .nil)))⟩
def tail3 : MSs := (.cons (.ifs (.cmp .gt (.idx (.var 0) (.cst (.int 3))) (.cst (.int 0)))
  (.cons (.sub (.var 0) (.cst (.int 3)) (.bin .sub (.idx (.var 0) (.cst (.int 3))) (.cst (.int 1))))
  (.cons (.ret (.bin .mod (.blt .int (.cons (.call "_law_mixed" (.cons (.bin .add (.bin .mul (.idx (.idx (.var 0) (.cst (.int 0))) (.bin .sub (.idx (.var 0) (.cst (.int 1))) (.cst (.int 1)))) (.cst (.int 1000))) (.idx (.var 0) (.cst (.int 1)))) (.cons (.idx (.var 0) (.cst (.int 3))) .nil))) .nil)) (.var 1)))
  .nil))
  .nil)
  (.cons (.sub (.var 0) (.cst (.int 5)) (.bin .add (.idx (.var 0) (.cst (.int 5))) (.cst (.int 1))))
  (.cons (.ret (.bin .mod (.blt .int (.cons (.call "_law_mixed" (.cons (.idx (.var 0) (.cst (.int 4))) (.cons (.bin .add (.cst (.int 1000)) (.idx (.var 0) (.cst (.int 5)))) .nil))) .nil)) (.var 1)))
  .nil)))
def take : Fn := ⟨2, 3, (.cons (.ifs (.cmp .lt (.var 1) (.cst (.int 2)))
  (.cons (.ret (.cst (.int 0)))
  .nil)
  .nil)
  (.cons (.ifs (.cmp .gt (.idx (.var 0) (.cst (.int 2))) (.cst (.int 1)))
  (.cons (.asg 2 (.idx (.var 0) (.cst (.int 2))))
  (.cons (.sub (.var 0) (.cst (.int 2)) (.bin .fdiv (.var 2) (.var 1)))
  (.cons (.ret (.bin .mod (.blt .int (.cons (.var 2) .nil)) (.var 1)))
  .nil)))
  .nil)
  (.cons (.ifs (.and (.cmp .eq (.idx (.var 0) (.cst (.int 3))) (.cst (.int 0))) (.cmp .lt (.idx (.var 0) (.cst (.int 1))) (.blt .len (.cons (.idx (.var 0) (.cst (.int 0))) .nil))))
  (.cons (.asg 2 (.blt .abs (.cons (.idx (.idx (.var 0) (.cst (.int 0))) (.idx (.var 0) (.cst (.int 1)))) .nil)))
  (.cons (.sub (.var 0) (.cst (.int 1)) (.bin .add (.idx (.var 0) (.cst (.int 1))) (.cst (.int 1))))
  (.cons (.ifs (.cmp .ge (.var 2) (.bin .pow (.cst (.int 10)) (.cst (.int 18))))
  (.cons (.sub (.var 0) (.cst (.int 2)) (.bin .fdiv (.var 2) (.var 1)))
  (.cons (.ret (.bin .mod (.blt .int (.cons (.var 2) .nil)) (.var 1)))
  .nil))
  .nil)
  (.cons (.sub (.var 0) (.cst (.int 3)) (.cst (.int 4)))
  .nil))))
  .nil)
  tail3)))⟩
theorem mulOk_r {i j : Int} (h : -(2 ^ 64) < j ∧ j < 2 ^ 64) : mulOk i j = true := by
  unfold mulOk
  simp only [decide_eq_true_eq]
  exact .inr h
theorem bind_ok {A B : Type} {a : A} {m : M} {f : A → M → R B} : (R.ok a m).bind f = f a m := rfl
section
variable {g : Pg} {fs : Str → Option Fn} {k : Nat} {m : M}
theorem run_mixed (h : fs "_law_mixed" = some mixed) (x y : Int) : ∃ z : Int, callN g fs (k + 1) "_law_mixed" [.int x, .int y] m = .ok (.int z) m := by
  have e1 : ∀ i : Int, mulOk i 2862933555777941757 = true := fun i => mulOk_r (by decide)
  have e2 : ∀ i : Int, mulOk i 3202034522624059733 = true := fun i => mulOk_r (by decide)
  have e3 : ∀ i : Int, mulOk i 48271 = true := fun i => mulOk_r (by decide)
  have e4 : ∀ i j : Int, 0 ≤ j → j < 2 ^ 64 → mulOk i j = true := fun i j a b => mulOk_r ⟨by omega, b⟩
  unfold callN
  rw [h]
  have m1 : ∀ i : Int, mulOk (i % 2305843009213693951) (i % 2305843009213693951) = true := fun i => e4 _ _ (Int.emod_nonneg _ (by decide)) (Int.lt_trans (Int.emod_lt_of_pos _ (by decide)) (by decide))
  have m2 : ∀ i : Int, mulOk (i % 1000000000000000003) (i % 1000000000000000003) = true := fun i => e4 _ _ (Int.emod_nonneg _ (by decide)) (Int.lt_trans (Int.emod_lt_of_pos _ (by decide)) (by decide))
  simp only [mixed, List.length_cons, List.length_nil, Nat.zero_add, ↓reduceIte, List.map_cons, List.map_nil, List.replicate, exs_cons, exs_nil, exe_asg, exe_ret, ev_bin, ev_blt, evs_cons, evs_nil, ev_var, ev_cst, bind_ok, q_get_z, q_get_s, q_set_z, q_set_s, bin2, opI, e1, e2, e3, blt2, q_app_c, q_app_n, Nat.reduceSub, m1, m2, show (0 : Int) < 2305843009213693951 by decide, show (0 : Int) < 1000000000000000003 by decide, show (0 : Int) < 1000000000000000009 by decide, show (0 : Int) < 1000003 ∧ (1000003 : Int) < 2 ^ 64 by decide, show (0 : Int) < 998244353 ∧ (998244353 : Int) < 2 ^ 64 by decide, and_self]
  exact ⟨_, rfl⟩
theorem atI_map {zs : List Int} {a : Int} (h : 0 ≤ a) (l : a < zs.length) : ∃ z, L2.atI (zs.map U.int) a = some (.int z) := by
  obtain ⟨n, rfl⟩ : ∃ n : Nat, a = n := ⟨a.toNat, by omega⟩
  have hn : n < zs.length := by omega
  refine ⟨zs[n], ?_⟩
  unfold L2.atI L2.ixN
  rw [if_pos h, List.length_map, if_pos l]
  simp [hn]
theorem at6_0 {A : Type} {a0 a1 a2 a3 a4 a5 : A} : L2.atI [a0, a1, a2, a3, a4, a5] 0 = some a0 := rfl
theorem at6_1 {A : Type} {a0 a1 a2 a3 a4 a5 : A} : L2.atI [a0, a1, a2, a3, a4, a5] 1 = some a1 := rfl
theorem at6_2 {A : Type} {a0 a1 a2 a3 a4 a5 : A} : L2.atI [a0, a1, a2, a3, a4, a5] 2 = some a2 := rfl
theorem at6_3 {A : Type} {a0 a1 a2 a3 a4 a5 : A} : L2.atI [a0, a1, a2, a3, a4, a5] 3 = some a3 := rfl
theorem at6_4 {A : Type} {a0 a1 a2 a3 a4 a5 : A} : L2.atI [a0, a1, a2, a3, a4, a5] 4 = some a4 := rfl
theorem at6_5 {A : Type} {a0 a1 a2 a3 a4 a5 : A} : L2.atI [a0, a1, a2, a3, a4, a5] 5 = some a5 := rfl
theorem L6 {A : Type} {a0 a1 a2 a3 a4 a5 : A} : [a0, a1, a2, a3, a4, a5].length = 6 := rfl
theorem ix6_1 : L2.ixN 6 1 = some 1 := rfl
theorem ix6_2 : L2.ixN 6 2 = some 2 := rfl
theorem ix6_3 : L2.ixN 6 3 = some 3 := rfl
theorem ix6_5 : L2.ixN 6 5 = some 5 := rfl
theorem eqU_int {i j : Int} : eqU (.int i) (.int j) m = some (decide (i = j)) := by
  show (if true = true then some (decide (U.int i = U.int j)) else _) = _
  rw [if_pos rfl]
  simp
/-- what a choice leaves -/
def Took (s c : Nat) (m : M) (n r : Int) (m' : M) : Prop := (m' = m ∨ ∃ l, m' = m.set s (.lst l)) ∧ stI s c m' ∧ 0 ≤ r ∧ (r < n ∨ r = 0)
theorem run_tail (h2 : fs "_law_mixed" = some mixed) {s c : Nat} {n : Int} {v : Option U} {zs : List Int} {a b e f q : Int} (hn : 2 ≤ n) (hc : m[c]? = some (.lst (zs.map U.int))) (hs : m[s]? = some (.lst [.ref c, .int a, .int b, .int e, .int f, .int q])) (i1 : 0 ≤ a) (i2 : a ≤ zs.length) (i3 : e ≠ 0 → 1 ≤ a) (i4 : 0 ≤ e) :
    ∃ (r : Int) (m' : M) (r' : Env), exs g (callN g fs (k + 1)) tail3 [some (.ref s), some (.int n), v] m = .ok (.rt (.int r), r') m' ∧ Took s c m n r m' := by
  have hsl : s < m.length := get_lt hs
  have hsc : s ≠ c := fun z => by
    subst z
    rw [hs] at hc
    cases zs with
    | nil => cases hc
    | cons z zs => simp at hc
  have hc' : ∀ l, (m.set s (.lst l))[c]? = some (.lst (zs.map U.int)) := fun l => by rw [List.getElem?_set_ne hsc]; exact hc
  have hs' : ∀ l, (m.set s (.lst l))[s]? = some (.lst l) := fun l => by rw [List.getElem?_set_self hsl]
  have hn0 : 0 < n := by omega
  by_cases h3 : 0 < e
  · obtain ⟨z, hz⟩ := atI_map (zs := zs) (a := a - 1) (by have := i3 (by omega); omega) (by omega)
    have hm : mulOk z 1000 = true := mulOk_r (by decide)
    obtain ⟨w, hw⟩ := run_mixed (g := g) (k := k) (m := m.set s (.lst [.ref c, .int a, .int b, .int (e - 1), .int f, .int q])) h2 (z * 1000 + a) (e - 1)
    simp only [tail3, exs_cons, exs_nil, exe_ifs, exe_asg, exe_ret, exe_sub, evT, ev_cmp, ev_and, ev_bin, ev_blt, ev_call, evs_cons, evs_nil, ev_var, ev_cst, ev_idx, idx2, seqOf, bind_ok, evCmp, cmp2, truR, tru, q_get_z, q_get_s, q_set_z, q_set_s, at6_0, at6_1, at6_2, at6_3, at6_4, at6_5, set3, L6, ix6_1, ix6_2, ix6_3, ix6_5, bin2, opI, blt2, eqU_int, ↓reduceIte, decide_eq_true_eq, List.set_set, and_self, hs, hs', hc, hc', h3, hz, hm, hw, hn0]
    exact ⟨_, _, _, rfl, .inr ⟨_, rfl⟩, ⟨zs, a, b, e - 1, f, q, hc' _, hs' _, i1, i2, fun _ => i3 (by omega), by omega⟩, Int.emod_nonneg _ (by omega), .inl (Int.emod_lt_of_pos _ hn0)⟩
  · obtain ⟨w, hw⟩ := run_mixed (g := g) (k := k) (m := m.set s (.lst [.ref c, .int a, .int b, .int e, .int f, .int (q + 1)])) h2 f (1000 + (q + 1))
    simp only [tail3, exs_cons, exs_nil, exe_ifs, exe_asg, exe_ret, exe_sub, evT, ev_cmp, ev_and, ev_bin, ev_blt, ev_call, evs_cons, evs_nil, ev_var, ev_cst, ev_idx, idx2, seqOf, bind_ok, evCmp, cmp2, truR, tru, q_get_z, q_get_s, q_set_z, q_set_s, at6_0, at6_1, at6_2, at6_3, at6_4, at6_5, set3, L6, ix6_1, ix6_2, ix6_3, ix6_5, bin2, opI, blt2, eqU_int, ↓reduceIte, decide_eq_true_eq, List.set_set, and_self, hs, hs', hc, hc', h3, hw, hn0, Bool.false_eq_true, decide_false]
    exact ⟨_, _, _, rfl, .inr ⟨_, rfl⟩, ⟨zs, a, b, e, f, q + 1, hc' _, hs' _, i1, i2, i3, i4⟩, Int.emod_nonneg _ (by omega), .inl (Int.emod_lt_of_pos _ hn0)⟩
theorem run_take (h : fs "_law_take" = some take) (h2 : fs "_law_mixed" = some mixed) {s c : Nat} {n : Int} (hn : n < 2 ^ 64) (I : stI s c m) :
    ∃ (r : Int) (m' : M), callN g fs (k + 2) "_law_take" [.ref s, .int n] m = .ok (.int r) m' ∧ Took s c m n r m' := by
  have I0 := I
  obtain ⟨zs, a, b, e, f, q, hc, hs, i1, i2, i3, i4⟩ := I
  have hsl : s < m.length := get_lt hs
  have hsc : s ≠ c := fun z => by
    subst z
    rw [hs] at hc
    cases zs with
    | nil => cases hc
    | cons z zs => simp at hc
  have hc' : ∀ l, (m.set s (.lst l))[c]? = some (.lst (zs.map U.int)) := fun l => by rw [List.getElem?_set_ne hsc]; exact hc
  have hs' : ∀ l, (m.set s (.lst l))[s]? = some (.lst l) := fun l => by rw [List.getElem?_set_self hsl]
  unfold callN
  rw [h]
  simp only [take, List.length_cons, List.length_nil, Nat.zero_add, ↓reduceIte, List.map_cons, List.map_nil, List.replicate, Nat.reduceSub, q_app_c, q_app_n, Nat.reduceAdd]
  by_cases h1 : n < 2
  · simp only [exs_cons, exs_nil, exe_ifs, exe_asg, exe_ret, exe_sub, evT, ev_cmp, ev_and, ev_bin, ev_blt, ev_call, evs_cons, evs_nil, ev_var, ev_cst, ev_idx, idx2, seqOf, bind_ok, evCmp, cmp2, truR, tru, q_get_z, q_get_s, q_set_z, q_set_s, at6_0, at6_1, at6_2, at6_3, at6_4, at6_5, set3, L6, ix6_1, ix6_2, ix6_3, ix6_5, bin2, opI, blt2, eqU_int, ↓reduceIte, decide_eq_true_eq, List.set_set, and_self, h1]
    exact ⟨0, m, rfl, .inl rfl, I0, Int.le_refl _, .inr rfl⟩
  have hn2 : 2 ≤ n := by omega
  have hn0 : 0 < n := by omega
  have hnn : 0 < n ∧ n < 2 ^ 64 := ⟨hn0, hn⟩
  by_cases hb : 1 < b
  · simp only [exs_cons, exs_nil, exe_ifs, exe_asg, exe_ret, exe_sub, evT, ev_cmp, ev_and, ev_bin, ev_blt, ev_call, evs_cons, evs_nil, ev_var, ev_cst, ev_idx, idx2, seqOf, bind_ok, evCmp, cmp2, truR, tru, q_get_z, q_get_s, q_set_z, q_set_s, at6_0, at6_1, at6_2, at6_3, at6_4, at6_5, set3, L6, ix6_1, ix6_2, ix6_3, ix6_5, bin2, opI, blt2, eqU_int, ↓reduceIte, decide_eq_true_eq, List.set_set, and_self, h1, hb, hs, hs', hn0, hnn, decide_false, Bool.false_eq_true]
    exact ⟨_, _, rfl, .inr ⟨_, rfl⟩, ⟨zs, a, _, e, f, q, hc' _, hs' _, i1, i2, i3, i4⟩, Int.emod_nonneg _ (by omega), .inl (Int.emod_lt_of_pos _ hn0)⟩
  by_cases he : e = 0 ∧ a < zs.length
  · obtain ⟨he, ha⟩ := he
    subst he
    obtain ⟨z, hz⟩ := atI_map (zs := zs) i1 ha
    have hp : (0 ≤ (18 : Int) ∧ (18 : Int) ≤ 1000 ∧ (10 : Int).natAbs < 2 ^ 64) = True := by simp
    have hl : lsOf m c = some (zs.map U.int) := ls_of hc
    generalize hw : (if z < 0 then -z else z) = w
    by_cases hbig : (10 : Int) ^ (18 : Int).toNat ≤ w
    · simp only [exs_cons, exs_nil, exe_ifs, exe_asg, exe_ret, exe_sub, evT, ev_cmp, ev_and, ev_bin, ev_blt, ev_call, evs_cons, evs_nil, ev_var, ev_cst, ev_idx, idx2, seqOf, bind_ok, evCmp, cmp2, truR, tru, q_get_z, q_get_s, q_set_z, q_set_s, at6_0, at6_1, at6_2, at6_3, at6_4, at6_5, set3, L6, ix6_1, ix6_2, ix6_3, ix6_5, bin2, opI, blt2, eqU_int, ↓reduceIte, decide_eq_true_eq, List.set_set, and_self, h1, hb, hs, hs', hc, hc', hz, hn0, hnn, hp, hw, hbig, ha, List.length_map, decide_true, decide_false, Bool.false_eq_true]
      exact ⟨_, _, rfl, .inr ⟨_, rfl⟩, ⟨zs, a + 1, _, 0, f, q, hc' _, hs' _, by omega, by omega, fun z => absurd rfl z, Int.le_refl _⟩, Int.emod_nonneg _ (by omega), .inl (Int.emod_lt_of_pos _ hn0)⟩
    · obtain ⟨r, m', r', e1, e2, e3, e4⟩ := run_tail (g := g) (fs := fs) (k := k) (m := m.set s (.lst [.ref c, .int (a + 1), .int b, .int 4, .int f, .int q])) h2 (s := s) (c := c) (v := some (.int w)) hn2 (hc' _) (hs' _) (by omega) (by omega) (fun _ => by omega) (by decide)
      simp only [exs_cons, exs_nil, exe_ifs, exe_asg, exe_ret, exe_sub, evT, ev_cmp, ev_and, ev_bin, ev_blt, ev_call, evs_cons, evs_nil, ev_var, ev_cst, ev_idx, idx2, seqOf, bind_ok, evCmp, cmp2, truR, tru, q_get_z, q_get_s, q_set_z, q_set_s, at6_0, at6_1, at6_2, at6_3, at6_4, at6_5, set3, L6, ix6_1, ix6_2, ix6_3, ix6_5, bin2, opI, blt2, eqU_int, ↓reduceIte, decide_eq_true_eq, List.set_set, and_self, h1, hb, hs, hs', hc, hc', hz, hn0, hnn, hp, hw, hbig, ha, List.length_map, decide_true, decide_false, Bool.false_eq_true, e1]
      refine ⟨r, m', rfl, .inr ?_, e3, e4⟩
      rcases e2 with rfl | ⟨l, rfl⟩
      · exact ⟨_, rfl⟩
      · exact ⟨l, by rw [List.set_set]⟩
  · obtain ⟨r, m', r', e1, e2, e3, e4⟩ := run_tail (g := g) (fs := fs) (k := k) (m := m) h2 (s := s) (c := c) (v := none) hn2 hc hs i1 i2 i3 i4
    by_cases he0 : e = 0
    · have ha : ¬ a < zs.length := fun z => he ⟨he0, z⟩
      simp only [exs_cons, exs_nil, exe_ifs, exe_asg, exe_ret, exe_sub, evT, ev_cmp, ev_and, ev_bin, ev_blt, ev_call, evs_cons, evs_nil, ev_var, ev_cst, ev_idx, idx2, seqOf, bind_ok, evCmp, cmp2, truR, tru, q_get_z, q_get_s, q_set_z, q_set_s, at6_0, at6_1, at6_2, at6_3, at6_4, at6_5, set3, L6, ix6_1, ix6_2, ix6_3, ix6_5, bin2, opI, blt2, eqU_int, ↓reduceIte, decide_eq_true_eq, List.set_set, and_self, h1, hb, hs, hs', hc, hc', hn0, hnn, ha, he0, List.length_map, decide_true, decide_false, Bool.false_eq_true, e1]
      exact ⟨r, m', rfl, e2, e3, e4⟩
    · simp only [exs_cons, exs_nil, exe_ifs, exe_asg, exe_ret, exe_sub, evT, ev_cmp, ev_and, ev_bin, ev_blt, ev_call, evs_cons, evs_nil, ev_var, ev_cst, ev_idx, idx2, seqOf, bind_ok, evCmp, cmp2, truR, tru, q_get_z, q_get_s, q_set_z, q_set_s, at6_0, at6_1, at6_2, at6_3, at6_4, at6_5, set3, L6, ix6_1, ix6_2, ix6_3, ix6_5, bin2, opI, blt2, eqU_int, ↓reduceIte, decide_eq_true_eq, List.set_set, and_self, h1, hb, hs, hs', hc, hc', hn0, hnn, he0, List.length_map, decide_true, decide_false, Bool.false_eq_true, e1]
      exact ⟨r, m', rfl, e2, e3, e4⟩
end
/-- a choice: any number below -/
theorem C_take {g : Pg} {fs : Str → Option Fn} {k s c : Nat} {n : Int} {Q : DQ} {E : DX → Prop} (h : fs "_law_take" = some take) (h2 : fs "_law_mixed" = some mixed) (hk : 2 ≤ k) (hn : n < 2 ^ 64) (q : ∀ r : Int, 0 ≤ r → (r < n ∨ r = 0) → Q (.int r)) : FCall (callN g fs k) (stW s c) "_law_take" [.st, .int n] Q E := by
  intro B m us ns hB I hr nd hb
  obtain ⟨k, rfl⟩ : ∃ k', k = k' + 2 := ⟨k - 2, by omega⟩
  have hns := Rps.sh_nil (ds := [.st, .int n]) hr
  subst hns
  have e0 := hr.len
  match us, e0, hr with
  | [u, v], _, hr =>
    have r1 := hr.nil_cons.1
    have r2 := hr.nil_cons.2.nil_cons.1.int'
    subst r2
    have r3 : u = .ref s := by cases r1; rfl
    subst r3
    obtain ⟨r, m', e1, e2, e3, e4, e5⟩ := run_take (k := k) h h2 hn I
    rw [e1]
    refine ⟨.int r, [], .int r, .nil, (fun _ z => nomatch z), q r e4 e5, ?_, e3⟩
    rcases e2 with rfl | ⟨l, rfl⟩
    · exact FrO.refl
    · obtain ⟨zs, a, b, e, f, q, hc, hs, _⟩ := I
      exact ⟨by simp, fun i us (n : i ≠ s) _ z => by rw [List.getElem?_set_ne (Ne.symm n)]; exact z, tpk_set hs⟩
end LL
end Py
/-! Helper defs of the laws as mini terms. Printed by genLL.py. -/
namespace Py.LL
open PySem
def edge : Fn := ⟨3, 4, (.cons (.ifs (.cmp .le (.var 2) (.var 1))
  (.cons (.ret (.var 1))
  .nil)
  .nil)
  (.cons (.asg 3 (.call "_law_take" (.cons (.var 0) (.cons (.cst (.int 9)) .nil))))
  (.cons (.ifs (.cmp .eq (.var 3) (.cst (.int 0)))
  (.cons (.ret (.var 1))
  .nil)
  .nil)
  (.cons (.ifs (.cmp .eq (.var 3) (.cst (.int 1)))
  (.cons (.ret (.var 2))
  .nil)
  .nil)
  (.cons (.ifs (.cmp .eq (.var 3) (.cst (.int 2)))
  (.cons (.ret (.idx (.lst (.cons (.bin .add (.var 1) (.cst (.int 1))) (.cons (.bin .sub (.var 2) (.cst (.int 1))) .nil))) (.call "_law_take" (.cons (.var 0) (.cons (.cst (.int 2)) .nil)))))
  .nil)
  .nil)
  (.cons (.ret (.bin .add (.var 1) (.call "_law_take" (.cons (.var 0) (.cons (.bin .add (.bin .sub (.var 2) (.var 1)) (.cst (.int 1))) .nil)))))
  .nil))))))⟩
def small : Fn := ⟨4, 4, (.cons (.ifs (.cmp .eq (.call "_law_take" (.cons (.var 0) (.cons (.cst (.int 8)) .nil))) (.cst (.int 7)))
  (.cons (.ret (.call "_law_edge" (.cons (.var 0) (.cons (.var 1) (.cons (.var 3) .nil)))))
  .nil)
  .nil)
  (.cons (.ret (.call "_law_edge" (.cons (.var 0) (.cons (.var 1) (.cons (.var 2) .nil)))))
  .nil))⟩
def pick : Fn := ⟨2, 2, (.cons (.ret (.idx (.var 1) (.call "_law_take" (.cons (.var 0) (.cons (.blt .len (.cons (.var 1) .nil)) .nil)))))
  .nil)⟩
def same : Fn := ⟨2, 3, (.cons (.ifs (.or (.cmp .is (.var 0) (.cst .non)) (.cmp .is (.var 1) (.cst .non)))
  (.cons (.ret (.and (.cmp .is (.var 0) (.cst .non)) (.cmp .is (.var 1) (.cst .non))))
  .nil)
  .nil)
  (.cons (.ifs (.or (.isi (.var 0) ["bool"]) (.isi (.var 1) ["bool"]))
  (.cons (.ret (.and (.isi (.var 0) ["bool"]) (.and (.isi (.var 1) ["bool"]) (.cmp .eq (.var 0) (.var 1)))))
  .nil)
  .nil)
  (.cons (.ifs (.or (.isi (.var 0) ["int"]) (.isi (.var 1) ["int"]))
  (.cons (.ret (.and (.isi (.var 0) ["int"]) (.and (.isi (.var 1) ["int"]) (.cmp .eq (.var 0) (.var 1)))))
  .nil)
  .nil)
  (.cons (.ifs (.or (.isi (.var 0) ["str"]) (.isi (.var 1) ["str"]))
  (.cons (.ret (.and (.isi (.var 0) ["str"]) (.and (.isi (.var 1) ["str"]) (.cmp .eq (.var 0) (.var 1)))))
  .nil)
  .nil)
  (.cons (.ifs (.or (.cmp .ne (.isi (.var 0) ["list"]) (.isi (.var 1) ["list"])) (.cmp .ne (.isi (.var 0) ["tuple"]) (.isi (.var 1) ["tuple"])))
  (.cons (.ret (.cst (.bl false)))
  .nil)
  .nil)
  (.cons (.ifs (.or (.not (.isi (.var 0) ["list", "tuple"])) (.cmp .ne (.blt .len (.cons (.var 0) .nil)) (.blt .len (.cons (.var 1) .nil))))
  (.cons (.ret (.cst (.bl false)))
  .nil)
  .nil)
  (.cons (.fors (.nm 2) (.rng (.blt .len (.cons (.var 0) .nil)))
  (.cons (.ifs (.not (.call "_law_same" (.cons (.idx (.var 0) (.var 2)) (.cons (.idx (.var 1) (.var 2)) .nil))))
  (.cons (.ret (.cst (.bl false)))
  .nil)
  .nil)
  .nil))
  (.cons (.ret (.cst (.bl true)))
  .nil))))))))⟩
def copy : Fn := ⟨1, 2, (.cons (.ifs (.isi (.var 0) ["list"])
  (.cons (.ret (.lc (.call "_law_copy" (.cons (.var 1) .nil)) (.nm 1) (.seq (.var 0)) (.cst (.bl true)) [1]))
  .nil)
  .nil)
  (.cons (.ifs (.isi (.var 0) ["tuple"])
  (.cons (.ret (.blt .tuple (.cons (.lc (.call "_law_copy" (.cons (.var 1) .nil)) (.nm 1) (.seq (.var 0)) (.cst (.bl true)) [1]) .nil)))
  .nil)
  .nil)
  (.cons (.ret (.var 0))
  .nil)))⟩
def lists : Fn := ⟨2, 4, (.cons (.asg 2 (.lst .nil))
  (.cons (.ifs (.and (.cmp .gt (.var 1) (.cst (.int 0))) (.isi (.var 0) ["list"]))
  (.cons (.expr (.bm .append (.var 2) (.cons (.var 0) .nil)))
  .nil)
  .nil)
  (.cons (.ifs (.and (.cmp .gt (.var 1) (.cst (.int 0))) (.isi (.var 0) ["list", "tuple"]))
  (.cons (.fors (.nm 3) (.seq (.var 0))
  (.cons (.asg 2 (.bin .add (.var 2) (.call "_law_lists" (.cons (.var 3) (.cons (.bin .sub (.var 1) (.cst (.int 1))) .nil)))))
  .nil))
  .nil)
  .nil)
  (.cons (.ret (.var 2))
  .nil))))⟩
def apart : Fn := ⟨1, 5, (.cons (.asg 1 (.call "_law_lists" (.cons (.var 0) (.cons (.cst (.int 20)) .nil))))
  (.cons (.asg 2 (.lc (.blt .len (.cons (.var 4) .nil)) (.nm 4) (.seq (.var 1)) (.cst (.bl true)) [4]))
  (.cons (.fors (.nm 3) (.rng (.blt .len (.cons (.var 1) .nil)))
  (.cons (.asg 4 (.idx (.var 1) (.var 3)))
  (.cons (.expr (.bm .append (.var 4) (.cons (.cst (.int 99)) .nil)))
  .nil)))
  (.cons (.ret (.cmp .eq (.lc (.bin .sub (.blt .len (.cons (.var 4) .nil)) (.cst (.int 1))) (.nm 4) (.seq (.var 1)) (.cst (.bl true)) [4]) (.var 2)))
  .nil))))⟩
def not_number : Fn := ⟨3, 4, (.cons (.asg 3 (.lst (.cons (.bin .sub (.var 1) (.cst (.int 1))) (.cons (.bin .add (.var 2) (.cst (.int 1))) (.cons (.bin .sub (.bin .sub (.var 1) (.cst (.int 2))) (.call "_law_take" (.cons (.var 0) (.cons (.cst (.int 1000)) .nil)))) (.cons (.bin .add (.bin .add (.var 2) (.cst (.int 2))) (.call "_law_take" (.cons (.var 0) (.cons (.cst (.int 1000)) .nil)))) (.cons (.bin .add (.var 2) (.bin .pow (.cst (.int 10)) (.cst (.int 30)))) .nil)))))))
  (.cons (.asg 3 (.bin .add (.var 3) (.lst (.cons (.bin .sub (.var 1) (.bin .pow (.cst (.int 10)) (.cst (.int 30)))) (.cons (.cst (.bl true)) (.cons (.cst (.bl false)) (.cons (.cst .non) (.cons (.blt .str (.cons (.var 1) .nil)) (.cons (.cst (.str "")) (.cons (.lst (.cons (.var 1) .nil)) (.cons (.tup (.cons (.var 1) .nil)) (.cons (.lst .nil) (.cons (.tup .nil) .nil)))))))))))))
  (.cons (.ret (.idx (.var 3) (.call "_law_take" (.cons (.var 0) (.cons (.blt .len (.cons (.var 3) .nil)) .nil)))))
  .nil)))⟩
def not_list : Fn := ⟨3, 4, (.cons (.asg 3 (.lst (.cons (.blt .tuple (.cons (.var 1) .nil)) (.cons (.blt .tuple (.cons (.var 1) .nil)) (.cons (.cst (.bl true)) (.cons (.cst (.int 0)) (.cons (.blt .len (.cons (.var 1) .nil)) (.cons (.cst (.str "")) (.cons (.cst (.str "01")) (.cons (.tup .nil) .nil))))))))))
  (.cons (.ifs (.var 2)
  (.cons (.expr (.bm .append (.var 3) (.cons (.cst .non) .nil)))
  .nil)
  .nil)
  (.cons (.ret (.idx (.var 3) (.call "_law_take" (.cons (.var 0) (.cons (.blt .len (.cons (.var 3) .nil)) .nil)))))
  .nil)))⟩
def misshaped : Fn := ⟨2, 4, (.cons (.asg 2 (.call "_law_take" (.cons (.var 0) (.cons (.cst (.int 3)) .nil))))
  (.cons (.ifs (.cmp .eq (.var 2) (.cst (.int 0)))
  (.cons (.ret (.call "_law_not_list" (.cons (.var 0) (.cons (.var 1) (.cons (.cst (.bl false)) .nil)))))
  .nil)
  .nil)
  (.cons (.ifs (.and (.cmp .eq (.var 2) (.cst (.int 1))) (.cmp .gt (.blt .len (.cons (.var 1) .nil)) (.cst (.int 0))))
  (.cons (.asg 3 (.call "_law_take" (.cons (.var 0) (.cons (.blt .len (.cons (.var 1) .nil)) .nil))))
  (.cons (.ret (.bin .add (.blt .list (.cons (.slc (.var 1) (.cst .non) (.var 3) false true) .nil)) (.blt .list (.cons (.slc (.var 1) (.bin .add (.var 3) (.cst (.int 1))) (.cst .non) true false) .nil))))
  .nil))
  .nil)
  (.cons (.asg 3 (.call "_law_take" (.cons (.var 0) (.cons (.bin .add (.blt .len (.cons (.var 1) .nil)) (.cst (.int 1))) .nil))))
  (.cons (.ret (.bin .add (.bin .add (.blt .list (.cons (.slc (.var 1) (.cst .non) (.var 3) false true) .nil)) (.lst (.cons (.cst (.int 0)) .nil))) (.blt .list (.cons (.slc (.var 1) (.var 3) (.cst .non) true false) .nil))))
  .nil)))))⟩
def gcd : Fn := ⟨2, 4, (.cons (.fors (.nm 2) (.rng (.cst (.int 64)))
  (.cons (.ifs (.cmp .eq (.var 1) (.cst (.int 0)))
  (.cons (.ret (.var 0))
  .nil)
  .nil)
  (.cons (.asg 3 (.bin .mod (.blt .int (.cons (.var 0) .nil)) (.var 1)))
  (.cons (.asg 0 (.var 1))
  (.cons (.asg 1 (.var 3))
  .nil)))))
  (.cons (.ret (.var 0))
  .nil))⟩
def share : Fn := ⟨2, 3, (.cons (.asg 2 (.call "_law_gcd" (.cons (.var 0) (.cons (.var 1) .nil))))
  (.cons (.ret (.tup (.cons (.bin .fdiv (.var 0) (.var 2)) (.cons (.bin .fdiv (.var 1) (.var 2)) .nil))))
  .nil))⟩
def store : Fn := ⟨1, 3, (.cons (.asg 1 (.bin .add (.blt .len (.cons (.var 0) .nil)) (.cst (.int 7))))
  (.cons (.fors (.nm 2) (.seq (.var 0))
  (.cons (.asg 1 (.bin .mod (.blt .int (.cons (.bin .add (.bin .mul (.var 1) (.cst (.int 1000003))) (.var 2)) .nil)) (.cst (.int 2305843009213693951))))
  .nil))
  (.cons (.ret (.lst (.cons (.blt .list (.cons (.var 0) .nil)) (.cons (.cst (.int 0)) (.cons (.cst (.int 0)) (.cons (.cst (.int 0)) (.cons (.var 1) (.cons (.cst (.int 0)) .nil))))))))
  .nil)))⟩
def is_whole : Fn := ⟨1, 1, (.cons (.ret (.and (.isi (.var 0) ["int"]) (.not (.isi (.var 0) ["bool"]))))
  .nil)⟩
def check_number : Fn := ⟨4, 4, (.cons (.ifs (.and (.call "is_whole" (.cons (.var 0) .nil)) (.chn .le .le (.var 1) (.var 0) (.var 2)))
  (.cons (.ret (.var 0))
  .nil)
  .nil)
  (.cons (.raise "BadNumber" (.cons (.var 3) .nil))
  .nil))⟩
end Py.LL
set_option maxHeartbeats 4000000
namespace Py.LL
open PySem
theorem sl1 : (1 : Nat) ≤ SL := by decide
theorem sl2 : (2 : Nat) ≤ SL := by decide
theorem sl3 : (3 : Nat) ≤ SL := by decide
section
variable {g : Pg} {fs : Str → Option Fn} {k s c : Nat} {Q : DQ} {E : DX → Prop}
theorem at2_0 {A : Type} {a b : A} : L2.atI [a, b] 0 = some a := rfl
theorem at2_1 {A : Type} {a b : A} : L2.atI [a, b] 1 = some b := rfl
theorem C_edge {lo hi : Int} (h : fs "_law_edge" = some edge) (ht : fs "_law_take" = some take) (hm : fs "_law_mixed" = some mixed) (hk : 3 ≤ k) (hb : hi - lo + 1 < 2 ^ 64) (q : ∀ r : Int, lo ≤ r → (r ≤ hi ∨ r = lo) → Q (.int r)) : FCall (callN g fs k) (stW s c) "_law_edge" [.st, .int lo, .int hi] Q E := by
  obtain ⟨k, rfl⟩ : ∃ k', k = k' + 1 := ⟨k - 1, by omega⟩
  (refine call_of (cons := fun _ => false) FCall.sound (d := edge) (by assumption) rfl ?_; simp only [edge, Nat.sub_self, Nat.reduceSub, q_map_n, q_map_c, q_rep_z, List.replicate, q_app_n, q_app_c])
  (rw [qpSs_cons]; simp_arith [Bool.and_true, Bool.true_and, Bool.and_false, Bool.false_and, Bool.not_true, Bool.not_false, Bool.or_true, Bool.true_or, Bool.or_false, Bool.false_or, decide_true, decide_false, and_true, true_and, qpSs_nil, List.length_map, List.length_cons, List.length_nil, Nat.zero_add, Nat.reduceAdd])
  refine ⟨fun h1 => ?_, fun h1 => ?_⟩
  · (rw [qpSs_cons]; simp_arith [Bool.and_true, Bool.true_and, Bool.and_false, Bool.false_and, Bool.not_true, Bool.not_false, Bool.or_true, Bool.true_or, Bool.or_false, Bool.false_or, decide_true, decide_false, and_true, true_and, qpSs_nil, List.length_map, List.length_cons, List.length_nil, Nat.zero_add, Nat.reduceAdd])
    exact q lo (Int.le_refl _) (.inr rfl)
  (rw [qpSs_cons]; simp_arith [Bool.and_true, Bool.true_and, Bool.and_false, Bool.false_and, Bool.not_true, Bool.not_false, Bool.or_true, Bool.true_or, Bool.or_false, Bool.false_or, decide_true, decide_false, and_true, true_and, qpSs_nil, List.length_map, List.length_cons, List.length_nil, Nat.zero_add, Nat.reduceAdd])
  refine C_take ht hm (by omega) (by decide) fun w w1 w2 => ?_
  simp_arith [Bool.and_true, Bool.true_and, Bool.and_false, Bool.false_and, Bool.not_true, Bool.not_false, Bool.or_true, Bool.true_or, Bool.or_false, Bool.false_or, decide_true, decide_false, and_true, true_and, qpSs_nil, List.length_map, List.length_cons, List.length_nil, Nat.zero_add, Nat.reduceAdd]
  (rw [qpSs_cons]; simp_arith [Bool.and_true, Bool.true_and, Bool.and_false, Bool.false_and, Bool.not_true, Bool.not_false, Bool.or_true, Bool.true_or, Bool.or_false, Bool.false_or, decide_true, decide_false, and_true, true_and, qpSs_nil, List.length_map, List.length_cons, List.length_nil, Nat.zero_add, Nat.reduceAdd])
  refine ⟨fun h2 => ?_, fun h2 => ?_⟩
  · (rw [qpSs_cons]; simp_arith [Bool.and_true, Bool.true_and, Bool.and_false, Bool.false_and, Bool.not_true, Bool.not_false, Bool.or_true, Bool.true_or, Bool.or_false, Bool.false_or, decide_true, decide_false, and_true, true_and, qpSs_nil, List.length_map, List.length_cons, List.length_nil, Nat.zero_add, Nat.reduceAdd])
    exact q lo (Int.le_refl _) (.inr rfl)
  (rw [qpSs_cons]; simp_arith [Bool.and_true, Bool.true_and, Bool.and_false, Bool.false_and, Bool.not_true, Bool.not_false, Bool.or_true, Bool.true_or, Bool.or_false, Bool.false_or, decide_true, decide_false, and_true, true_and, qpSs_nil, List.length_map, List.length_cons, List.length_nil, Nat.zero_add, Nat.reduceAdd])
  refine ⟨fun h3 => ?_, fun h3 => ?_⟩
  · (rw [qpSs_cons]; simp_arith [Bool.and_true, Bool.true_and, Bool.and_false, Bool.false_and, Bool.not_true, Bool.not_false, Bool.or_true, Bool.true_or, Bool.or_false, Bool.false_or, decide_true, decide_false, and_true, true_and, qpSs_nil, List.length_map, List.length_cons, List.length_nil, Nat.zero_add, Nat.reduceAdd])
    exact q hi (by omega) (.inl (Int.le_refl _))
  (rw [qpSs_cons]; simp_arith [Bool.and_true, Bool.true_and, Bool.and_false, Bool.false_and, Bool.not_true, Bool.not_false, Bool.or_true, Bool.true_or, Bool.or_false, Bool.false_or, decide_true, decide_false, and_true, true_and, qpSs_nil, List.length_map, List.length_cons, List.length_nil, Nat.zero_add, Nat.reduceAdd])
  refine ⟨fun h4 => ?_, fun h4 => ?_⟩
  · (rw [qpSs_cons]; simp_arith [Bool.and_true, Bool.true_and, Bool.and_false, Bool.false_and, Bool.not_true, Bool.not_false, Bool.or_true, Bool.true_or, Bool.or_false, Bool.false_or, decide_true, decide_false, and_true, true_and, qpSs_nil, List.length_map, List.length_cons, List.length_nil, Nat.zero_add, Nat.reduceAdd, sl2])
    refine C_take ht hm (by omega) (by decide) fun v v1 v2 => ?_
    simp_arith [Bool.and_true, Bool.true_and, Bool.and_false, Bool.false_and, Bool.not_true, Bool.not_false, Bool.or_true, Bool.true_or, Bool.or_false, Bool.false_or, decide_true, decide_false, and_true, true_and, qpSs_nil, List.length_map, List.length_cons, List.length_nil, Nat.zero_add, Nat.reduceAdd]
    obtain rfl | rfl : v = 0 ∨ v = 1 := by omega
    · simp_arith [Bool.and_true, Bool.true_and, Bool.and_false, Bool.false_and, Bool.not_true, Bool.not_false, Bool.or_true, Bool.true_or, Bool.or_false, Bool.false_or, decide_true, decide_false, and_true, true_and, qpSs_nil, List.length_map, List.length_cons, List.length_nil, Nat.zero_add, Nat.reduceAdd, at2_0]
      exact q _ (by omega) (by omega)
    · simp_arith [Bool.and_true, Bool.true_and, Bool.and_false, Bool.false_and, Bool.not_true, Bool.not_false, Bool.or_true, Bool.true_or, Bool.or_false, Bool.false_or, decide_true, decide_false, and_true, true_and, qpSs_nil, List.length_map, List.length_cons, List.length_nil, Nat.zero_add, Nat.reduceAdd, at2_1]
      exact q _ (by omega) (by omega)
  (rw [qpSs_cons]; simp_arith [Bool.and_true, Bool.true_and, Bool.and_false, Bool.false_and, Bool.not_true, Bool.not_false, Bool.or_true, Bool.true_or, Bool.or_false, Bool.false_or, decide_true, decide_false, and_true, true_and, qpSs_nil, List.length_map, List.length_cons, List.length_nil, Nat.zero_add, Nat.reduceAdd])
  refine C_take ht hm (by omega) (by omega) fun v v1 v2 => ?_
  simp_arith [Bool.and_true, Bool.true_and, Bool.and_false, Bool.false_and, Bool.not_true, Bool.not_false, Bool.or_true, Bool.true_or, Bool.or_false, Bool.false_or, decide_true, decide_false, and_true, true_and, qpSs_nil, List.length_map, List.length_cons, List.length_nil, Nat.zero_add, Nat.reduceAdd]
  exact q _ (by omega) (by omega)
theorem C_small {lo mi hi : Int} (h : fs "_law_small" = some small) (he : fs "_law_edge" = some edge) (ht : fs "_law_take" = some take) (hm : fs "_law_mixed" = some mixed) (hk : 4 ≤ k) (hb : hi - lo + 1 < 2 ^ 64) (hb2 : mi ≤ hi) (q : ∀ r : Int, lo ≤ r → (r ≤ hi ∨ r = lo) → Q (.int r)) : FCall (callN g fs k) (stW s c) "_law_small" [.st, .int lo, .int mi, .int hi] Q E := by
  obtain ⟨k, rfl⟩ : ∃ k', k = k' + 1 := ⟨k - 1, by omega⟩
  (refine call_of (cons := fun _ => false) FCall.sound (d := small) (by assumption) rfl ?_; simp only [small, Nat.sub_self, Nat.reduceSub, q_map_n, q_map_c, q_rep_z, List.replicate, q_app_n, q_app_c])
  (rw [qpSs_cons]; simp_arith [Bool.and_true, Bool.true_and, Bool.and_false, Bool.false_and, Bool.not_true, Bool.not_false, Bool.or_true, Bool.true_or, Bool.or_false, Bool.false_or, decide_true, decide_false, and_true, true_and, qpSs_nil, List.length_map, List.length_cons, List.length_nil, Nat.zero_add, Nat.reduceAdd])
  refine C_take ht hm (by omega) (by decide) fun w w1 w2 => ?_
  simp_arith [Bool.and_true, Bool.true_and, Bool.and_false, Bool.false_and, Bool.not_true, Bool.not_false, Bool.or_true, Bool.true_or, Bool.or_false, Bool.false_or, decide_true, decide_false, and_true, true_and, qpSs_nil, List.length_map, List.length_cons, List.length_nil, Nat.zero_add, Nat.reduceAdd]
  refine ⟨fun h1 => ?_, fun h1 => ?_⟩
  · (rw [qpSs_cons]; simp_arith [Bool.and_true, Bool.true_and, Bool.and_false, Bool.false_and, Bool.not_true, Bool.not_false, Bool.or_true, Bool.true_or, Bool.or_false, Bool.false_or, decide_true, decide_false, and_true, true_and, qpSs_nil, List.length_map, List.length_cons, List.length_nil, Nat.zero_add, Nat.reduceAdd])
    exact C_edge he ht hm (by omega) hb q
  (rw [qpSs_cons]; simp_arith [Bool.and_true, Bool.true_and, Bool.and_false, Bool.false_and, Bool.not_true, Bool.not_false, Bool.or_true, Bool.true_or, Bool.or_false, Bool.false_or, decide_true, decide_false, and_true, true_and, qpSs_nil, List.length_map, List.length_cons, List.length_nil, Nat.zero_add, Nat.reduceAdd])
  exact C_edge he ht hm (by omega) (by omega) fun r r1 r2 => q r r1 (by omega)
theorem atI_lt {A : Type} {xs : List A} {i : Int} (h : 0 ≤ i) (l : i < xs.length) : ∃ x, L2.atI xs i = some x ∧ x ∈ xs := by
  obtain ⟨n, rfl⟩ : ∃ n : Nat, i = n := ⟨i.toNat, by omega⟩
  have hn : n < xs.length := by omega
  refine ⟨xs[n], ?_, List.getElem_mem _⟩
  unfold L2.atI L2.ixN
  rw [if_pos h, if_pos l]
  simp [hn]
theorem C_pick {xs : List D} (h : fs "_law_pick" = some pick) (ht : fs "_law_take" = some take) (hm : fs "_law_mixed" = some mixed) (hk : 3 ≤ k) (hl : xs.length < 2 ^ 64) (h0 : xs ≠ []) (hs : shs xs = xs) (q : ∀ x ∈ xs, Q x) : FCall (callN g fs k) (stW s c) "_law_pick" [.st, .lst false xs] Q E := by
  obtain ⟨k, rfl⟩ : ∃ k', k = k' + 1 := ⟨k - 1, by omega⟩
  (refine call_of (cons := fun _ => false) FCall.sound (d := pick) (by assumption) rfl ?_; simp only [pick, Nat.sub_self, Nat.reduceSub, q_map_n, q_map_c, q_rep_z, List.replicate, q_app_n, q_app_c])
  (rw [qpSs_cons]; simp_arith [Bool.and_true, Bool.true_and, Bool.and_false, Bool.false_and, Bool.not_true, Bool.not_false, Bool.or_true, Bool.true_or, Bool.or_false, Bool.false_or, decide_true, decide_false, and_true, true_and, qpSs_nil, List.length_map, List.length_cons, List.length_nil, Nat.zero_add, Nat.reduceAdd, hs])
  have : 0 < xs.length := List.length_pos_iff.mpr h0
  refine C_take ht hm (by omega) (by omega) fun w w1 w2 => ?_
  simp_arith [Bool.and_true, Bool.true_and, Bool.and_false, Bool.false_and, Bool.not_true, Bool.not_false, Bool.or_true, Bool.true_or, Bool.or_false, Bool.false_or, decide_true, decide_false, and_true, true_and, qpSs_nil, List.length_map, List.length_cons, List.length_nil, Nat.zero_add, Nat.reduceAdd]
  obtain ⟨x, e1, e2⟩ := atI_lt (xs := xs) w1 (by omega)
  rw [e1]
  simp_arith [Bool.and_true, Bool.true_and, Bool.and_false, Bool.false_and, Bool.not_true, Bool.not_false, Bool.or_true, Bool.true_or, Bool.or_false, Bool.false_or, decide_true, decide_false, and_true, true_and, qpSs_nil, List.length_map, List.length_cons, List.length_nil, Nat.zero_add, Nat.reduceAdd]
  exact q x e2
theorem atI_nat {A : Type} {xs : List A} {n : Nat} (h : n < xs.length) : L2.atI xs (n : Int) = some xs[n] := by
  unfold L2.atI L2.ixN
  rw [if_pos (by omega), if_pos (by omega)]
  simp [h]
inductive F2 {A C : Type} (P : A → C → Prop) : List A → List C → Prop where
  | nil : F2 P [] []
  | cons {a c as cs} (h : P a c) (r : F2 P as cs) : F2 P (a :: as) (c :: cs)
theorem F2.len {A C : Type} {P : A → C → Prop} {as : List A} {cs : List C} (h : F2 P as cs) : cs.length = as.length := by
  induction h with
  | nil => rfl
  | cons _ _ ih => simp [ih]
/-- a comprehension clause: each item gives one of some values -/
theorem lc_dem {P : List D → D → Prop} {tg : Tg} {r : DE} {turn : DE → List D → (List D → Prop) → Prop} : ∀ {items : List (List D)} {acc : List D} {Q : List D → Prop}, acc.length + items.length ≤ SL →
    (∀ x ∈ items, ∃ r1, tgtD tg x r = some r1 ∧ ∀ (acc : List D) (K : List D → Prop), acc.length < SL → (∀ d, P x d → K (acc ++ [d])) → turn r1 acc K) → (∀ ds, F2 P items ds → Q (acc ++ ds)) → lcD tg r turn items acc Q
  | [], acc, Q, _, _, q => by
    have := q [] .nil
    rw [List.append_nil] at this
    exact this
  | x :: items, acc, Q, hl, h, q => by
    obtain ⟨r1, e1, h1⟩ := h x (List.mem_cons_self ..)
    unfold lcD
    rw [e1]
    have hl' : acc.length + (items.length + 1) ≤ SL := hl
    refine h1 acc _ (by omega) fun d hd => ?_
    refine lc_dem (by simp; omega) (fun y hy => h y (List.mem_cons_of_mem _ hy)) fun ds hds => ?_
    have := q (d :: ds) (.cons hd hds)
    rw [List.append_assoc]
    exact this
theorem F2.map {A C : Type} {f : A → C} {P : A → C → Prop} (h : ∀ a c, P a c → c = f a) : ∀ {as : List A} {cs : List C}, F2 P as cs → cs = as.map f
  | _, _, .nil => rfl
  | _, _, .cons a r => by rw [h _ _ a, F2.map h r]; rfl
/-- the same for a list of values that are named, each giving f of it -/
theorem lc_map {f : D → D} {i : Nat} {r : DE} {turn : DE → List D → (List D → Prop) → Prop} {xs : List D} {acc : List D} {Q : List D → Prop} (hl : acc.length + xs.length ≤ SL)
    (h : ∀ x ∈ xs, ∀ (acc : List D) (K : List D → Prop), acc.length < SL → K (acc ++ [f x]) → turn (r.set i (some x)) acc K) (q : Q (acc ++ xs.map f)) : lcD (.nm i) r turn (xs.map fun d => [d]) acc Q := by
  refine lc_dem (P := fun x d => ∃ y, x = [y] ∧ d = f y) (by simpa using hl) (fun x hx => ?_) fun ds hds => ?_
  · obtain ⟨y, hy, rfl⟩ := List.mem_map.mp hx
    exact ⟨_, rfl, fun acc K ha hk => h y hy acc K ha (hk _ ⟨y, rfl, rfl⟩)⟩
  · have : ds = xs.map f := by
      have z : ∀ {xs : List D} {ds : List D}, F2 (fun x d => ∃ y, x = [y] ∧ d = f y) (xs.map fun d => [d]) ds → ds = xs.map f := by
        intro xs
        induction xs with
        | nil => intro ds h; cases h; rfl
        | cons x xs ih =>
          intro ds h
          cases h with
          | cons a r =>
            obtain ⟨y, e1, e2⟩ := a
            cases e1
            rw [e2, ih r]
            rfl
      exact z hds
    rw [this]
    exact q
/-- plain data, at most n deep -/
inductive Pl : Nat → D → Prop where
  | non {n} : Pl n .non
  | bl {n} (b : Bool) : Pl n (.bl b)
  | int {n} (i : Int) : Pl n (.int i)
  | str {n} (z : Str) : Pl n (.str z)
  | lst {n} {xs : List D} (h : ∀ x ∈ xs, Pl n x) (l : xs.length ≤ SL) : Pl (n + 1) (.lst false xs)
  | tup {n} {xs : List D} (h : ∀ x ∈ xs, Pl n x) (l : xs.length ≤ SL) : Pl (n + 1) (.tup xs)
theorem Pl.up {n m : Nat} {d : D} (h : Pl n d) (l : n ≤ m) : Pl m d := by
  induction h generalizing m with
  | non => exact .non
  | bl b => exact .bl b
  | int b => exact .int b
  | str b => exact .str b
  | @lst n xs h hl ih =>
    obtain ⟨m, rfl⟩ : ∃ m', m = m' + 1 := ⟨m - 1, by omega⟩
    exact .lst (fun x hx => ih x hx (by omega)) hl
  | @tup n xs h hl ih =>
    obtain ⟨m, rfl⟩ : ∃ m', m = m' + 1 := ⟨m - 1, by omega⟩
    exact .tup (fun x hx => ih x hx (by omega)) hl
theorem shs_id {xs : List D} (h : ∀ x ∈ xs, x.sh = x) : shs xs = xs := by
  rw [shs_map]
  exact (List.map_congr_left h).trans (List.map_id _)
theorem Pl.sh {n : Nat} {d : D} (h : Pl n d) : d.sh = d := by
  induction h with
  | non => rfl
  | bl b => rfl
  | int b => rfl
  | str b => rfl
  | @lst n xs h hl ih => show D.lst false (shs xs) = _; rw [shs_id ih]
  | @tup n xs h hl ih => show D.tup (shs xs) = _; rw [shs_id ih]
theorem isaT1 : isaT "int" "bool" = false := by decide
theorem ty_bb : isaT "bool" "bool" = true := by decide
theorem ty_nb : isaT "NoneType" "bool" = false := by decide
theorem ty_sb : isaT "str" "bool" = false := by decide
theorem ty_lb : isaT "list" "bool" = false := by decide
theorem ty_tb : isaT "tuple" "bool" = false := by decide
theorem ty_ii : isaT "int" "int" = true := by decide
theorem ty_bi : isaT "bool" "int" = true := by decide
theorem ty_si : isaT "str" "int" = false := by decide
theorem ty_li : isaT "list" "int" = false := by decide
theorem ty_ti : isaT "tuple" "int" = false := by decide
theorem ty_ni : isaT "NoneType" "int" = false := by decide
theorem ty_ss : isaT "str" "str" = true := by decide
theorem ty_ls : isaT "list" "str" = false := by decide
theorem ty_ts : isaT "tuple" "str" = false := by decide
theorem ty_is : isaT "int" "str" = false := by decide
theorem ty_bs : isaT "bool" "str" = false := by decide
theorem ty_ns : isaT "NoneType" "str" = false := by decide
theorem ty_ll : isaT "list" "list" = true := by decide
theorem ty_tl : isaT "tuple" "list" = false := by decide
theorem ty_sl : isaT "str" "list" = false := by decide
theorem ty_il : isaT "int" "list" = false := by decide
theorem ty_bl : isaT "bool" "list" = false := by decide
theorem ty_nl : isaT "NoneType" "list" = false := by decide
theorem ty_lt : isaT "list" "tuple" = false := by decide
theorem ty_tt : isaT "tuple" "tuple" = true := by decide
theorem ty_st : isaT "str" "tuple" = false := by decide
theorem ty_it : isaT "int" "tuple" = false := by decide
theorem ty_bt : isaT "bool" "tuple" = false := by decide
theorem ty_nt : isaT "NoneType" "tuple" = false := by decide
theorem C_same0 (h : fs "_law_same" = some same) {W : Wd} {n k : Nat} {d : D} {Q : DQ} {E : DX → Prop} (hp : Pl 0 d) (hk : 1 ≤ k) (q : Q (.bl true)) : FCall (callN g fs k) W "_law_same" [d, d] Q E := by
  obtain ⟨k, rfl⟩ : ∃ k', k = k' + 1 := ⟨k - 1, by omega⟩
  (refine call_of (cons := fun _ => false) FCall.sound (d := same) (by assumption) rfl ?_; simp only [same, Nat.sub_self, Nat.reduceSub, q_map_n, q_map_c, q_rep_z, List.replicate, q_app_n, q_app_c])
  cases hp with
  | non => (rw [qpSs_cons]; simp_arith [Bool.and_true, Bool.true_and, Bool.and_false, Bool.false_and, Bool.not_true, Bool.not_false, Bool.or_true, Bool.true_or, Bool.or_false, Bool.false_or, decide_true, decide_false, and_true, true_and, qpSs_nil, List.length_map, List.length_cons, List.length_nil, Nat.zero_add, Nat.reduceAdd]); (rw [qpSs_cons]; simp_arith [Bool.and_true, Bool.true_and, Bool.and_false, Bool.false_and, Bool.not_true, Bool.not_false, Bool.or_true, Bool.true_or, Bool.or_false, Bool.false_or, decide_true, decide_false, and_true, true_and, qpSs_nil, List.length_map, List.length_cons, List.length_nil, Nat.zero_add, Nat.reduceAdd]); exact q
  | bl b => (rw [qpSs_cons]; simp_arith [Bool.and_true, Bool.true_and, Bool.and_false, Bool.false_and, Bool.not_true, Bool.not_false, Bool.or_true, Bool.true_or, Bool.or_false, Bool.false_or, decide_true, decide_false, and_true, true_and, qpSs_nil, List.length_map, List.length_cons, List.length_nil, Nat.zero_add, Nat.reduceAdd]); (rw [qpSs_cons]; simp_arith [Bool.and_true, Bool.true_and, Bool.and_false, Bool.false_and, Bool.not_true, Bool.not_false, Bool.or_true, Bool.true_or, Bool.or_false, Bool.false_or, decide_true, decide_false, and_true, true_and, qpSs_nil, List.length_map, List.length_cons, List.length_nil, Nat.zero_add, Nat.reduceAdd, ty_bb, ty_nb, ty_sb, ty_lb, ty_tb, ty_ii, ty_bi, ty_si, ty_li, ty_ti, ty_ni, ty_ss, ty_ls, ty_ts, ty_is, ty_bs, ty_ns, ty_ll, ty_tl, ty_lt, ty_tt, isaT1, beq_self_eq_true, Option.map_some]); (rw [qpSs_cons]; simp_arith [Bool.and_true, Bool.true_and, Bool.and_false, Bool.false_and, Bool.not_true, Bool.not_false, Bool.or_true, Bool.true_or, Bool.or_false, Bool.false_or, decide_true, decide_false, and_true, true_and, qpSs_nil, List.length_map, List.length_cons, List.length_nil, Nat.zero_add, Nat.reduceAdd, ty_bb, ty_nb, ty_sb, ty_lb, ty_tb, ty_ii, ty_bi, ty_si, ty_li, ty_ti, ty_ni, ty_ss, ty_ls, ty_ts, ty_is, ty_bs, ty_ns, ty_ll, ty_tl, ty_lt, ty_tt, isaT1, beq_self_eq_true, Option.map_some]); exact q
  | int b => (rw [qpSs_cons]; simp_arith [Bool.and_true, Bool.true_and, Bool.and_false, Bool.false_and, Bool.not_true, Bool.not_false, Bool.or_true, Bool.true_or, Bool.or_false, Bool.false_or, decide_true, decide_false, and_true, true_and, qpSs_nil, List.length_map, List.length_cons, List.length_nil, Nat.zero_add, Nat.reduceAdd]); (rw [qpSs_cons]; simp_arith [Bool.and_true, Bool.true_and, Bool.and_false, Bool.false_and, Bool.not_true, Bool.not_false, Bool.or_true, Bool.true_or, Bool.or_false, Bool.false_or, decide_true, decide_false, and_true, true_and, qpSs_nil, List.length_map, List.length_cons, List.length_nil, Nat.zero_add, Nat.reduceAdd, ty_bb, ty_nb, ty_sb, ty_lb, ty_tb, ty_ii, ty_bi, ty_si, ty_li, ty_ti, ty_ni, ty_ss, ty_ls, ty_ts, ty_is, ty_bs, ty_ns, ty_ll, ty_tl, ty_lt, ty_tt, isaT1, beq_self_eq_true, Option.map_some]); (rw [qpSs_cons]; simp_arith [Bool.and_true, Bool.true_and, Bool.and_false, Bool.false_and, Bool.not_true, Bool.not_false, Bool.or_true, Bool.true_or, Bool.or_false, Bool.false_or, decide_true, decide_false, and_true, true_and, qpSs_nil, List.length_map, List.length_cons, List.length_nil, Nat.zero_add, Nat.reduceAdd, ty_bb, ty_nb, ty_sb, ty_lb, ty_tb, ty_ii, ty_bi, ty_si, ty_li, ty_ti, ty_ni, ty_ss, ty_ls, ty_ts, ty_is, ty_bs, ty_ns, ty_ll, ty_tl, ty_lt, ty_tt, isaT1, beq_self_eq_true, Option.map_some]); (rw [qpSs_cons]; simp_arith [Bool.and_true, Bool.true_and, Bool.and_false, Bool.false_and, Bool.not_true, Bool.not_false, Bool.or_true, Bool.true_or, Bool.or_false, Bool.false_or, decide_true, decide_false, and_true, true_and, qpSs_nil, List.length_map, List.length_cons, List.length_nil, Nat.zero_add, Nat.reduceAdd, ty_bb, ty_nb, ty_sb, ty_lb, ty_tb, ty_ii, ty_bi, ty_si, ty_li, ty_ti, ty_ni, ty_ss, ty_ls, ty_ts, ty_is, ty_bs, ty_ns, ty_ll, ty_tl, ty_lt, ty_tt, isaT1, beq_self_eq_true, Option.map_some]); exact q
  | str b => (rw [qpSs_cons]; simp_arith [Bool.and_true, Bool.true_and, Bool.and_false, Bool.false_and, Bool.not_true, Bool.not_false, Bool.or_true, Bool.true_or, Bool.or_false, Bool.false_or, decide_true, decide_false, and_true, true_and, qpSs_nil, List.length_map, List.length_cons, List.length_nil, Nat.zero_add, Nat.reduceAdd]); (rw [qpSs_cons]; simp_arith [Bool.and_true, Bool.true_and, Bool.and_false, Bool.false_and, Bool.not_true, Bool.not_false, Bool.or_true, Bool.true_or, Bool.or_false, Bool.false_or, decide_true, decide_false, and_true, true_and, qpSs_nil, List.length_map, List.length_cons, List.length_nil, Nat.zero_add, Nat.reduceAdd, ty_bb, ty_nb, ty_sb, ty_lb, ty_tb, ty_ii, ty_bi, ty_si, ty_li, ty_ti, ty_ni, ty_ss, ty_ls, ty_ts, ty_is, ty_bs, ty_ns, ty_ll, ty_tl, ty_lt, ty_tt, isaT1, beq_self_eq_true, Option.map_some]); (rw [qpSs_cons]; simp_arith [Bool.and_true, Bool.true_and, Bool.and_false, Bool.false_and, Bool.not_true, Bool.not_false, Bool.or_true, Bool.true_or, Bool.or_false, Bool.false_or, decide_true, decide_false, and_true, true_and, qpSs_nil, List.length_map, List.length_cons, List.length_nil, Nat.zero_add, Nat.reduceAdd, ty_bb, ty_nb, ty_sb, ty_lb, ty_tb, ty_ii, ty_bi, ty_si, ty_li, ty_ti, ty_ni, ty_ss, ty_ls, ty_ts, ty_is, ty_bs, ty_ns, ty_ll, ty_tl, ty_lt, ty_tt, isaT1, beq_self_eq_true, Option.map_some]); (rw [qpSs_cons]; simp_arith [Bool.and_true, Bool.true_and, Bool.and_false, Bool.false_and, Bool.not_true, Bool.not_false, Bool.or_true, Bool.true_or, Bool.or_false, Bool.false_or, decide_true, decide_false, and_true, true_and, qpSs_nil, List.length_map, List.length_cons, List.length_nil, Nat.zero_add, Nat.reduceAdd, ty_bb, ty_nb, ty_sb, ty_lb, ty_tb, ty_ii, ty_bi, ty_si, ty_li, ty_ti, ty_ni, ty_ss, ty_ls, ty_ts, ty_is, ty_bs, ty_ns, ty_ll, ty_tl, ty_lt, ty_tt, isaT1, beq_self_eq_true, Option.map_some]); (rw [qpSs_cons]; simp_arith [Bool.and_true, Bool.true_and, Bool.and_false, Bool.false_and, Bool.not_true, Bool.not_false, Bool.or_true, Bool.true_or, Bool.or_false, Bool.false_or, decide_true, decide_false, and_true, true_and, qpSs_nil, List.length_map, List.length_cons, List.length_nil, Nat.zero_add, Nat.reduceAdd, ty_bb, ty_nb, ty_sb, ty_lb, ty_tb, ty_ii, ty_bi, ty_si, ty_li, ty_ti, ty_ni, ty_ss, ty_ls, ty_ts, ty_is, ty_bs, ty_ns, ty_ll, ty_tl, ty_lt, ty_tt, isaT1, beq_self_eq_true, Option.map_some]); exact q
theorem C_same (h : fs "_law_same" = some same) {W : Wd} : ∀ {n k : Nat} {d : D} {Q : DQ} {E : DX → Prop}, Pl n d → n + 1 ≤ k → Q (.bl true) → FCall (callN g fs k) W "_law_same" [d, d] Q E := by
  intro n
  induction n with
  | zero => exact fun hp hk q => C_same0 (n := 0) h hp hk q
  | succ n ih =>
    intro k d Q E hp hk q
    cases hp with
    | non => exact C_same0 (n := 0) h .non (by omega) q
    | bl b => exact C_same0 (n := 0) h (.bl b) (by omega) q
    | int b => exact C_same0 (n := 0) h (.int b) (by omega) q
    | str b => exact C_same0 (n := 0) h (.str b) (by omega) q
    | @lst _ xs hx hl =>
      obtain ⟨k, rfl⟩ : ∃ k', k = k' + 1 := ⟨k - 1, by omega⟩
      (refine call_of (cons := fun _ => false) FCall.sound (d := same) (by assumption) rfl ?_; simp only [same, Nat.sub_self, Nat.reduceSub, q_map_n, q_map_c, q_rep_z, List.replicate, q_app_n, q_app_c])
      have hsh := shs_id fun x z => (hx x z).sh
      (rw [qpSs_cons]; simp_arith [Bool.and_true, Bool.true_and, Bool.and_false, Bool.false_and, Bool.not_true, Bool.not_false, Bool.or_true, Bool.true_or, Bool.or_false, Bool.false_or, decide_true, decide_false, and_true, true_and, qpSs_nil, List.length_map, List.length_cons, List.length_nil, Nat.zero_add, Nat.reduceAdd]); (rw [qpSs_cons]; simp_arith [Bool.and_true, Bool.true_and, Bool.and_false, Bool.false_and, Bool.not_true, Bool.not_false, Bool.or_true, Bool.true_or, Bool.or_false, Bool.false_or, decide_true, decide_false, and_true, true_and, qpSs_nil, List.length_map, List.length_cons, List.length_nil, Nat.zero_add, Nat.reduceAdd, ty_bb, ty_nb, ty_sb, ty_lb, ty_tb, ty_ii, ty_bi, ty_si, ty_li, ty_ti, ty_ni, ty_ss, ty_ls, ty_ts, ty_is, ty_bs, ty_ns, ty_ll, ty_tl, ty_lt, ty_tt, isaT1, beq_self_eq_true, Option.map_some]); (rw [qpSs_cons]; simp_arith [Bool.and_true, Bool.true_and, Bool.and_false, Bool.false_and, Bool.not_true, Bool.not_false, Bool.or_true, Bool.true_or, Bool.or_false, Bool.false_or, decide_true, decide_false, and_true, true_and, qpSs_nil, List.length_map, List.length_cons, List.length_nil, Nat.zero_add, Nat.reduceAdd, ty_bb, ty_nb, ty_sb, ty_lb, ty_tb, ty_ii, ty_bi, ty_si, ty_li, ty_ti, ty_ni, ty_ss, ty_ls, ty_ts, ty_is, ty_bs, ty_ns, ty_ll, ty_tl, ty_lt, ty_tt, isaT1, beq_self_eq_true, Option.map_some]); (rw [qpSs_cons]; simp_arith [Bool.and_true, Bool.true_and, Bool.and_false, Bool.false_and, Bool.not_true, Bool.not_false, Bool.or_true, Bool.true_or, Bool.or_false, Bool.false_or, decide_true, decide_false, and_true, true_and, qpSs_nil, List.length_map, List.length_cons, List.length_nil, Nat.zero_add, Nat.reduceAdd, ty_bb, ty_nb, ty_sb, ty_lb, ty_tb, ty_ii, ty_bi, ty_si, ty_li, ty_ti, ty_ni, ty_ss, ty_ls, ty_ts, ty_is, ty_bs, ty_ns, ty_ll, ty_tl, ty_lt, ty_tt, isaT1, beq_self_eq_true, Option.map_some]); (rw [qpSs_cons]; simp_arith [Bool.and_true, Bool.true_and, Bool.and_false, Bool.false_and, Bool.not_true, Bool.not_false, Bool.or_true, Bool.true_or, Bool.or_false, Bool.false_or, decide_true, decide_false, and_true, true_and, qpSs_nil, List.length_map, List.length_cons, List.length_nil, Nat.zero_add, Nat.reduceAdd, ty_bb, ty_nb, ty_sb, ty_lb, ty_tb, ty_ii, ty_bi, ty_si, ty_li, ty_ti, ty_ni, ty_ss, ty_ls, ty_ts, ty_is, ty_bs, ty_ns, ty_ll, ty_tl, ty_lt, ty_tt, isaT1, beq_self_eq_true, Option.map_some, hsh]); (rw [qpSs_cons]; simp_arith [Bool.and_true, Bool.true_and, Bool.and_false, Bool.false_and, Bool.not_true, Bool.not_false, Bool.or_true, Bool.true_or, Bool.or_false, Bool.false_or, decide_true, decide_false, and_true, true_and, qpSs_nil, List.length_map, List.length_cons, List.length_nil, Nat.zero_add, Nat.reduceAdd, ty_bb, ty_nb, ty_sb, ty_lb, ty_tb, ty_ii, ty_bi, ty_si, ty_li, ty_ti, ty_ni, ty_ss, ty_ls, ty_ts, ty_is, ty_bs, ty_ns, ty_ll, ty_tl, ty_lt, ty_tt, isaT1, beq_self_eq_true, Option.map_some, hsh]); (rw [qpSs_cons]; simp_arith [Bool.and_true, Bool.true_and, Bool.and_false, Bool.false_and, Bool.not_true, Bool.not_false, Bool.or_true, Bool.true_or, Bool.or_false, Bool.false_or, decide_true, decide_false, and_true, true_and, qpSs_nil, List.length_map, List.length_cons, List.length_nil, Nat.zero_add, Nat.reduceAdd, ty_bb, ty_nb, ty_sb, ty_lb, ty_tb, ty_ii, ty_bi, ty_si, ty_li, ty_ti, ty_ni, ty_ss, ty_ls, ty_ts, ty_is, ty_bs, ty_ns, ty_ll, ty_tl, ty_lt, ty_tt, isaT1, beq_self_eq_true, Option.map_some, hsh])
      refine ⟨by simp only [SL] at hl; omega, ?_⟩
      have key : ∀ (n j : Nat) (o : Option D), j + n = xs.length → forD (.nm 2) (fun r1 K1 => pSs g (FCall (callN g fs k) W) (fun _ => false) (.cons (.ifs (.not (.call "_law_same" (.cons (.idx (.var 0) (.var 2)) (.cons (.idx (.var 1) (.var 2)) .nil))))
          (.cons (.ret (.cst (.bl false))) .nil) .nil) .nil) r1 K1) (rngD j n) [some (.lst false xs), some (.lst false xs), o] { bodyK Q E with nx := fun r1 => pSs g (FCall (callN g fs k) W) (fun _ => false) (.cons (.ret (.cst (.bl true))) .nil) r1 (bodyK Q E) } := by
        intro n
        induction n with
        | zero =>
          intro j o hj
          simp_arith [Bool.and_true, Bool.true_and, Bool.and_false, Bool.false_and, Bool.not_true, Bool.not_false, Bool.or_true, Bool.true_or, Bool.or_false, Bool.false_or, decide_true, decide_false, and_true, true_and, qpSs_nil, List.length_map, List.length_cons, List.length_nil, Nat.zero_add, Nat.reduceAdd]
          (rw [qpSs_cons]; simp_arith [Bool.and_true, Bool.true_and, Bool.and_false, Bool.false_and, Bool.not_true, Bool.not_false, Bool.or_true, Bool.true_or, Bool.or_false, Bool.false_or, decide_true, decide_false, and_true, true_and, qpSs_nil, List.length_map, List.length_cons, List.length_nil, Nat.zero_add, Nat.reduceAdd])
          exact q
        | succ n ihn =>
          intro j o hj
          simp_arith [Bool.and_true, Bool.true_and, Bool.and_false, Bool.false_and, Bool.not_true, Bool.not_false, Bool.or_true, Bool.true_or, Bool.or_false, Bool.false_or, decide_true, decide_false, and_true, true_and, qpSs_nil, List.length_map, List.length_cons, List.length_nil, Nat.zero_add, Nat.reduceAdd]
          (rw [qpSs_cons]; simp_arith [Bool.and_true, Bool.true_and, Bool.and_false, Bool.false_and, Bool.not_true, Bool.not_false, Bool.or_true, Bool.true_or, Bool.or_false, Bool.false_or, decide_true, decide_false, and_true, true_and, qpSs_nil, List.length_map, List.length_cons, List.length_nil, Nat.zero_add, Nat.reduceAdd, hsh])
          have hj' : j < xs.length := by omega
          rw [atI_nat hj']
          simp_arith [Bool.and_true, Bool.true_and, Bool.and_false, Bool.false_and, Bool.not_true, Bool.not_false, Bool.or_true, Bool.true_or, Bool.or_false, Bool.false_or, decide_true, decide_false, and_true, true_and, qpSs_nil, List.length_map, List.length_cons, List.length_nil, Nat.zero_add, Nat.reduceAdd]
          have hp := hx _ (List.getElem_mem hj')
          rw [hp.sh]
          refine ih hp (by omega) ?_
          simp_arith [Bool.and_true, Bool.true_and, Bool.and_false, Bool.false_and, Bool.not_true, Bool.not_false, Bool.or_true, Bool.true_or, Bool.or_false, Bool.false_or, decide_true, decide_false, and_true, true_and, qpSs_nil, List.length_map, List.length_cons, List.length_nil, Nat.zero_add, Nat.reduceAdd]
          have e : ((j : Int) + 1) = ((j + 1 : Nat) : Int) := by omega
          rw [e]
          exact ihn (j + 1) _ (by omega)
      have := key xs.length 0 none (by omega)
      simp_arith [q_set_z] at this
      exact this
    | @tup _ xs hx hl =>
      obtain ⟨k, rfl⟩ : ∃ k', k = k' + 1 := ⟨k - 1, by omega⟩
      (refine call_of (cons := fun _ => false) FCall.sound (d := same) (by assumption) rfl ?_; simp only [same, Nat.sub_self, Nat.reduceSub, q_map_n, q_map_c, q_rep_z, List.replicate, q_app_n, q_app_c])
      have hsh := shs_id fun x z => (hx x z).sh
      (rw [qpSs_cons]; simp_arith [Bool.and_true, Bool.true_and, Bool.and_false, Bool.false_and, Bool.not_true, Bool.not_false, Bool.or_true, Bool.true_or, Bool.or_false, Bool.false_or, decide_true, decide_false, and_true, true_and, qpSs_nil, List.length_map, List.length_cons, List.length_nil, Nat.zero_add, Nat.reduceAdd]); (rw [qpSs_cons]; simp_arith [Bool.and_true, Bool.true_and, Bool.and_false, Bool.false_and, Bool.not_true, Bool.not_false, Bool.or_true, Bool.true_or, Bool.or_false, Bool.false_or, decide_true, decide_false, and_true, true_and, qpSs_nil, List.length_map, List.length_cons, List.length_nil, Nat.zero_add, Nat.reduceAdd, ty_bb, ty_nb, ty_sb, ty_lb, ty_tb, ty_ii, ty_bi, ty_si, ty_li, ty_ti, ty_ni, ty_ss, ty_ls, ty_ts, ty_is, ty_bs, ty_ns, ty_ll, ty_tl, ty_lt, ty_tt, isaT1, beq_self_eq_true, Option.map_some]); (rw [qpSs_cons]; simp_arith [Bool.and_true, Bool.true_and, Bool.and_false, Bool.false_and, Bool.not_true, Bool.not_false, Bool.or_true, Bool.true_or, Bool.or_false, Bool.false_or, decide_true, decide_false, and_true, true_and, qpSs_nil, List.length_map, List.length_cons, List.length_nil, Nat.zero_add, Nat.reduceAdd, ty_bb, ty_nb, ty_sb, ty_lb, ty_tb, ty_ii, ty_bi, ty_si, ty_li, ty_ti, ty_ni, ty_ss, ty_ls, ty_ts, ty_is, ty_bs, ty_ns, ty_ll, ty_tl, ty_lt, ty_tt, isaT1, beq_self_eq_true, Option.map_some]); (rw [qpSs_cons]; simp_arith [Bool.and_true, Bool.true_and, Bool.and_false, Bool.false_and, Bool.not_true, Bool.not_false, Bool.or_true, Bool.true_or, Bool.or_false, Bool.false_or, decide_true, decide_false, and_true, true_and, qpSs_nil, List.length_map, List.length_cons, List.length_nil, Nat.zero_add, Nat.reduceAdd, ty_bb, ty_nb, ty_sb, ty_lb, ty_tb, ty_ii, ty_bi, ty_si, ty_li, ty_ti, ty_ni, ty_ss, ty_ls, ty_ts, ty_is, ty_bs, ty_ns, ty_ll, ty_tl, ty_lt, ty_tt, isaT1, beq_self_eq_true, Option.map_some]); (rw [qpSs_cons]; simp_arith [Bool.and_true, Bool.true_and, Bool.and_false, Bool.false_and, Bool.not_true, Bool.not_false, Bool.or_true, Bool.true_or, Bool.or_false, Bool.false_or, decide_true, decide_false, and_true, true_and, qpSs_nil, List.length_map, List.length_cons, List.length_nil, Nat.zero_add, Nat.reduceAdd, ty_bb, ty_nb, ty_sb, ty_lb, ty_tb, ty_ii, ty_bi, ty_si, ty_li, ty_ti, ty_ni, ty_ss, ty_ls, ty_ts, ty_is, ty_bs, ty_ns, ty_ll, ty_tl, ty_lt, ty_tt, isaT1, beq_self_eq_true, Option.map_some, hsh]); (rw [qpSs_cons]; simp_arith [Bool.and_true, Bool.true_and, Bool.and_false, Bool.false_and, Bool.not_true, Bool.not_false, Bool.or_true, Bool.true_or, Bool.or_false, Bool.false_or, decide_true, decide_false, and_true, true_and, qpSs_nil, List.length_map, List.length_cons, List.length_nil, Nat.zero_add, Nat.reduceAdd, ty_bb, ty_nb, ty_sb, ty_lb, ty_tb, ty_ii, ty_bi, ty_si, ty_li, ty_ti, ty_ni, ty_ss, ty_ls, ty_ts, ty_is, ty_bs, ty_ns, ty_ll, ty_tl, ty_lt, ty_tt, isaT1, beq_self_eq_true, Option.map_some, hsh]); (rw [qpSs_cons]; simp_arith [Bool.and_true, Bool.true_and, Bool.and_false, Bool.false_and, Bool.not_true, Bool.not_false, Bool.or_true, Bool.true_or, Bool.or_false, Bool.false_or, decide_true, decide_false, and_true, true_and, qpSs_nil, List.length_map, List.length_cons, List.length_nil, Nat.zero_add, Nat.reduceAdd, ty_bb, ty_nb, ty_sb, ty_lb, ty_tb, ty_ii, ty_bi, ty_si, ty_li, ty_ti, ty_ni, ty_ss, ty_ls, ty_ts, ty_is, ty_bs, ty_ns, ty_ll, ty_tl, ty_lt, ty_tt, isaT1, beq_self_eq_true, Option.map_some, hsh])
      refine ⟨by simp only [SL] at hl; omega, ?_⟩
      have key : ∀ (n j : Nat) (o : Option D), j + n = xs.length → forD (.nm 2) (fun r1 K1 => pSs g (FCall (callN g fs k) W) (fun _ => false) (.cons (.ifs (.not (.call "_law_same" (.cons (.idx (.var 0) (.var 2)) (.cons (.idx (.var 1) (.var 2)) .nil))))
          (.cons (.ret (.cst (.bl false))) .nil) .nil) .nil) r1 K1) (rngD j n) [some (.tup xs), some (.tup xs), o] { bodyK Q E with nx := fun r1 => pSs g (FCall (callN g fs k) W) (fun _ => false) (.cons (.ret (.cst (.bl true))) .nil) r1 (bodyK Q E) } := by
        intro n
        induction n with
        | zero =>
          intro j o hj
          simp_arith [Bool.and_true, Bool.true_and, Bool.and_false, Bool.false_and, Bool.not_true, Bool.not_false, Bool.or_true, Bool.true_or, Bool.or_false, Bool.false_or, decide_true, decide_false, and_true, true_and, qpSs_nil, List.length_map, List.length_cons, List.length_nil, Nat.zero_add, Nat.reduceAdd]
          (rw [qpSs_cons]; simp_arith [Bool.and_true, Bool.true_and, Bool.and_false, Bool.false_and, Bool.not_true, Bool.not_false, Bool.or_true, Bool.true_or, Bool.or_false, Bool.false_or, decide_true, decide_false, and_true, true_and, qpSs_nil, List.length_map, List.length_cons, List.length_nil, Nat.zero_add, Nat.reduceAdd])
          exact q
        | succ n ihn =>
          intro j o hj
          simp_arith [Bool.and_true, Bool.true_and, Bool.and_false, Bool.false_and, Bool.not_true, Bool.not_false, Bool.or_true, Bool.true_or, Bool.or_false, Bool.false_or, decide_true, decide_false, and_true, true_and, qpSs_nil, List.length_map, List.length_cons, List.length_nil, Nat.zero_add, Nat.reduceAdd]
          (rw [qpSs_cons]; simp_arith [Bool.and_true, Bool.true_and, Bool.and_false, Bool.false_and, Bool.not_true, Bool.not_false, Bool.or_true, Bool.true_or, Bool.or_false, Bool.false_or, decide_true, decide_false, and_true, true_and, qpSs_nil, List.length_map, List.length_cons, List.length_nil, Nat.zero_add, Nat.reduceAdd, hsh])
          have hj' : j < xs.length := by omega
          rw [atI_nat hj']
          simp_arith [Bool.and_true, Bool.true_and, Bool.and_false, Bool.false_and, Bool.not_true, Bool.not_false, Bool.or_true, Bool.true_or, Bool.or_false, Bool.false_or, decide_true, decide_false, and_true, true_and, qpSs_nil, List.length_map, List.length_cons, List.length_nil, Nat.zero_add, Nat.reduceAdd]
          have hp := hx _ (List.getElem_mem hj')
          rw [hp.sh]
          refine ih hp (by omega) ?_
          simp_arith [Bool.and_true, Bool.true_and, Bool.and_false, Bool.false_and, Bool.not_true, Bool.not_false, Bool.or_true, Bool.true_or, Bool.or_false, Bool.false_or, decide_true, decide_false, and_true, true_and, qpSs_nil, List.length_map, List.length_cons, List.length_nil, Nat.zero_add, Nat.reduceAdd]
          have e : ((j : Int) + 1) = ((j + 1 : Nat) : Int) := by omega
          rw [e]
          exact ihn (j + 1) _ (by omega)
      have := key xs.length 0 none (by omega)
      simp_arith [q_set_z] at this
      exact this
mutual
/-- a copy -/
def cp : D → D
  | .non => .non | .bl b => .bl b | .int i => .int i | .str z => .str z | .st => .st
  | .lst _ xs => .lst true (cps xs)
  | .tup xs => .tup (cps xs)
def cps : List D → List D
  | [] => []
  | d :: ds => cp d :: cps ds
end
theorem cps_map : ∀ xs : List D, cps xs = xs.map cp
  | [] => rfl
  | x :: xs => congrArg (cp x :: ·) (cps_map xs)
theorem C_copy (h : fs "_law_copy" = some copy) {W : Wd} : ∀ {n k : Nat} {d : D} {Q : DQ} {E : DX → Prop}, Pl n d → n + 1 ≤ k → Q (cp d) → FCall (callN g fs k) W "_law_copy" [d] Q E := by
  intro n
  induction n with
  | zero =>
    intro k d Q E hp hk q
    obtain ⟨k, rfl⟩ : ∃ k', k = k' + 1 := ⟨k - 1, by omega⟩
    (refine call_of (cons := fun _ => false) FCall.sound (d := copy) (by assumption) rfl ?_; simp only [copy, Nat.sub_self, Nat.reduceSub, q_map_n, q_map_c, q_rep_z, List.replicate, q_app_n, q_app_c])
    cases hp <;> (rw [qpSs_cons]; simp_arith [Bool.and_true, Bool.true_and, Bool.and_false, Bool.false_and, Bool.not_true, Bool.not_false, Bool.or_true, Bool.true_or, Bool.or_false, Bool.false_or, decide_true, decide_false, and_true, true_and, qpSs_nil, List.length_map, List.length_cons, List.length_nil, Nat.zero_add, Nat.reduceAdd, ty_bb, ty_nb, ty_sb, ty_lb, ty_tb, ty_ii, ty_bi, ty_si, ty_li, ty_ti, ty_ni, ty_ss, ty_ls, ty_ts, ty_is, ty_bs, ty_ns, ty_ll, ty_tl, ty_lt, ty_tt, ty_sl, ty_il, ty_bl, ty_nl, ty_st, ty_it, ty_bt, ty_nt, isaT1, beq_self_eq_true, Option.map_some]) <;> (rw [qpSs_cons]; simp_arith [Bool.and_true, Bool.true_and, Bool.and_false, Bool.false_and, Bool.not_true, Bool.not_false, Bool.or_true, Bool.true_or, Bool.or_false, Bool.false_or, decide_true, decide_false, and_true, true_and, qpSs_nil, List.length_map, List.length_cons, List.length_nil, Nat.zero_add, Nat.reduceAdd, ty_bb, ty_nb, ty_sb, ty_lb, ty_tb, ty_ii, ty_bi, ty_si, ty_li, ty_ti, ty_ni, ty_ss, ty_ls, ty_ts, ty_is, ty_bs, ty_ns, ty_ll, ty_tl, ty_lt, ty_tt, ty_sl, ty_il, ty_bl, ty_nl, ty_st, ty_it, ty_bt, ty_nt, isaT1, beq_self_eq_true, Option.map_some]) <;> (rw [qpSs_cons]; simp_arith [Bool.and_true, Bool.true_and, Bool.and_false, Bool.false_and, Bool.not_true, Bool.not_false, Bool.or_true, Bool.true_or, Bool.or_false, Bool.false_or, decide_true, decide_false, and_true, true_and, qpSs_nil, List.length_map, List.length_cons, List.length_nil, Nat.zero_add, Nat.reduceAdd, ty_bb, ty_nb, ty_sb, ty_lb, ty_tb, ty_ii, ty_bi, ty_si, ty_li, ty_ti, ty_ni, ty_ss, ty_ls, ty_ts, ty_is, ty_bs, ty_ns, ty_ll, ty_tl, ty_lt, ty_tt, ty_sl, ty_il, ty_bl, ty_nl, ty_st, ty_it, ty_bt, ty_nt, isaT1, beq_self_eq_true, Option.map_some]) <;> exact q
  | succ n ih =>
    intro k d Q E hp hk q
    obtain ⟨k, rfl⟩ : ∃ k', k = k' + 1 := ⟨k - 1, by omega⟩
    (refine call_of (cons := fun _ => false) FCall.sound (d := copy) (by assumption) rfl ?_; simp only [copy, Nat.sub_self, Nat.reduceSub, q_map_n, q_map_c, q_rep_z, List.replicate, q_app_n, q_app_c])
    cases hp with
    | non => (rw [qpSs_cons]; simp_arith [Bool.and_true, Bool.true_and, Bool.and_false, Bool.false_and, Bool.not_true, Bool.not_false, Bool.or_true, Bool.true_or, Bool.or_false, Bool.false_or, decide_true, decide_false, and_true, true_and, qpSs_nil, List.length_map, List.length_cons, List.length_nil, Nat.zero_add, Nat.reduceAdd, ty_bb, ty_nb, ty_sb, ty_lb, ty_tb, ty_ii, ty_bi, ty_si, ty_li, ty_ti, ty_ni, ty_ss, ty_ls, ty_ts, ty_is, ty_bs, ty_ns, ty_ll, ty_tl, ty_lt, ty_tt, ty_sl, ty_il, ty_bl, ty_nl, ty_st, ty_it, ty_bt, ty_nt, isaT1, beq_self_eq_true, Option.map_some]); (rw [qpSs_cons]; simp_arith [Bool.and_true, Bool.true_and, Bool.and_false, Bool.false_and, Bool.not_true, Bool.not_false, Bool.or_true, Bool.true_or, Bool.or_false, Bool.false_or, decide_true, decide_false, and_true, true_and, qpSs_nil, List.length_map, List.length_cons, List.length_nil, Nat.zero_add, Nat.reduceAdd, ty_bb, ty_nb, ty_sb, ty_lb, ty_tb, ty_ii, ty_bi, ty_si, ty_li, ty_ti, ty_ni, ty_ss, ty_ls, ty_ts, ty_is, ty_bs, ty_ns, ty_ll, ty_tl, ty_lt, ty_tt, ty_sl, ty_il, ty_bl, ty_nl, ty_st, ty_it, ty_bt, ty_nt, isaT1, beq_self_eq_true, Option.map_some]); (rw [qpSs_cons]; simp_arith [Bool.and_true, Bool.true_and, Bool.and_false, Bool.false_and, Bool.not_true, Bool.not_false, Bool.or_true, Bool.true_or, Bool.or_false, Bool.false_or, decide_true, decide_false, and_true, true_and, qpSs_nil, List.length_map, List.length_cons, List.length_nil, Nat.zero_add, Nat.reduceAdd, ty_bb, ty_nb, ty_sb, ty_lb, ty_tb, ty_ii, ty_bi, ty_si, ty_li, ty_ti, ty_ni, ty_ss, ty_ls, ty_ts, ty_is, ty_bs, ty_ns, ty_ll, ty_tl, ty_lt, ty_tt, ty_sl, ty_il, ty_bl, ty_nl, ty_st, ty_it, ty_bt, ty_nt, isaT1, beq_self_eq_true, Option.map_some]); exact q
    | bl b => (rw [qpSs_cons]; simp_arith [Bool.and_true, Bool.true_and, Bool.and_false, Bool.false_and, Bool.not_true, Bool.not_false, Bool.or_true, Bool.true_or, Bool.or_false, Bool.false_or, decide_true, decide_false, and_true, true_and, qpSs_nil, List.length_map, List.length_cons, List.length_nil, Nat.zero_add, Nat.reduceAdd, ty_bb, ty_nb, ty_sb, ty_lb, ty_tb, ty_ii, ty_bi, ty_si, ty_li, ty_ti, ty_ni, ty_ss, ty_ls, ty_ts, ty_is, ty_bs, ty_ns, ty_ll, ty_tl, ty_lt, ty_tt, ty_sl, ty_il, ty_bl, ty_nl, ty_st, ty_it, ty_bt, ty_nt, isaT1, beq_self_eq_true, Option.map_some]); (rw [qpSs_cons]; simp_arith [Bool.and_true, Bool.true_and, Bool.and_false, Bool.false_and, Bool.not_true, Bool.not_false, Bool.or_true, Bool.true_or, Bool.or_false, Bool.false_or, decide_true, decide_false, and_true, true_and, qpSs_nil, List.length_map, List.length_cons, List.length_nil, Nat.zero_add, Nat.reduceAdd, ty_bb, ty_nb, ty_sb, ty_lb, ty_tb, ty_ii, ty_bi, ty_si, ty_li, ty_ti, ty_ni, ty_ss, ty_ls, ty_ts, ty_is, ty_bs, ty_ns, ty_ll, ty_tl, ty_lt, ty_tt, ty_sl, ty_il, ty_bl, ty_nl, ty_st, ty_it, ty_bt, ty_nt, isaT1, beq_self_eq_true, Option.map_some]); (rw [qpSs_cons]; simp_arith [Bool.and_true, Bool.true_and, Bool.and_false, Bool.false_and, Bool.not_true, Bool.not_false, Bool.or_true, Bool.true_or, Bool.or_false, Bool.false_or, decide_true, decide_false, and_true, true_and, qpSs_nil, List.length_map, List.length_cons, List.length_nil, Nat.zero_add, Nat.reduceAdd, ty_bb, ty_nb, ty_sb, ty_lb, ty_tb, ty_ii, ty_bi, ty_si, ty_li, ty_ti, ty_ni, ty_ss, ty_ls, ty_ts, ty_is, ty_bs, ty_ns, ty_ll, ty_tl, ty_lt, ty_tt, ty_sl, ty_il, ty_bl, ty_nl, ty_st, ty_it, ty_bt, ty_nt, isaT1, beq_self_eq_true, Option.map_some]); exact q
    | int b => (rw [qpSs_cons]; simp_arith [Bool.and_true, Bool.true_and, Bool.and_false, Bool.false_and, Bool.not_true, Bool.not_false, Bool.or_true, Bool.true_or, Bool.or_false, Bool.false_or, decide_true, decide_false, and_true, true_and, qpSs_nil, List.length_map, List.length_cons, List.length_nil, Nat.zero_add, Nat.reduceAdd, ty_bb, ty_nb, ty_sb, ty_lb, ty_tb, ty_ii, ty_bi, ty_si, ty_li, ty_ti, ty_ni, ty_ss, ty_ls, ty_ts, ty_is, ty_bs, ty_ns, ty_ll, ty_tl, ty_lt, ty_tt, ty_sl, ty_il, ty_bl, ty_nl, ty_st, ty_it, ty_bt, ty_nt, isaT1, beq_self_eq_true, Option.map_some]); (rw [qpSs_cons]; simp_arith [Bool.and_true, Bool.true_and, Bool.and_false, Bool.false_and, Bool.not_true, Bool.not_false, Bool.or_true, Bool.true_or, Bool.or_false, Bool.false_or, decide_true, decide_false, and_true, true_and, qpSs_nil, List.length_map, List.length_cons, List.length_nil, Nat.zero_add, Nat.reduceAdd, ty_bb, ty_nb, ty_sb, ty_lb, ty_tb, ty_ii, ty_bi, ty_si, ty_li, ty_ti, ty_ni, ty_ss, ty_ls, ty_ts, ty_is, ty_bs, ty_ns, ty_ll, ty_tl, ty_lt, ty_tt, ty_sl, ty_il, ty_bl, ty_nl, ty_st, ty_it, ty_bt, ty_nt, isaT1, beq_self_eq_true, Option.map_some]); (rw [qpSs_cons]; simp_arith [Bool.and_true, Bool.true_and, Bool.and_false, Bool.false_and, Bool.not_true, Bool.not_false, Bool.or_true, Bool.true_or, Bool.or_false, Bool.false_or, decide_true, decide_false, and_true, true_and, qpSs_nil, List.length_map, List.length_cons, List.length_nil, Nat.zero_add, Nat.reduceAdd, ty_bb, ty_nb, ty_sb, ty_lb, ty_tb, ty_ii, ty_bi, ty_si, ty_li, ty_ti, ty_ni, ty_ss, ty_ls, ty_ts, ty_is, ty_bs, ty_ns, ty_ll, ty_tl, ty_lt, ty_tt, ty_sl, ty_il, ty_bl, ty_nl, ty_st, ty_it, ty_bt, ty_nt, isaT1, beq_self_eq_true, Option.map_some]); exact q
    | str b => (rw [qpSs_cons]; simp_arith [Bool.and_true, Bool.true_and, Bool.and_false, Bool.false_and, Bool.not_true, Bool.not_false, Bool.or_true, Bool.true_or, Bool.or_false, Bool.false_or, decide_true, decide_false, and_true, true_and, qpSs_nil, List.length_map, List.length_cons, List.length_nil, Nat.zero_add, Nat.reduceAdd, ty_bb, ty_nb, ty_sb, ty_lb, ty_tb, ty_ii, ty_bi, ty_si, ty_li, ty_ti, ty_ni, ty_ss, ty_ls, ty_ts, ty_is, ty_bs, ty_ns, ty_ll, ty_tl, ty_lt, ty_tt, ty_sl, ty_il, ty_bl, ty_nl, ty_st, ty_it, ty_bt, ty_nt, isaT1, beq_self_eq_true, Option.map_some]); (rw [qpSs_cons]; simp_arith [Bool.and_true, Bool.true_and, Bool.and_false, Bool.false_and, Bool.not_true, Bool.not_false, Bool.or_true, Bool.true_or, Bool.or_false, Bool.false_or, decide_true, decide_false, and_true, true_and, qpSs_nil, List.length_map, List.length_cons, List.length_nil, Nat.zero_add, Nat.reduceAdd, ty_bb, ty_nb, ty_sb, ty_lb, ty_tb, ty_ii, ty_bi, ty_si, ty_li, ty_ti, ty_ni, ty_ss, ty_ls, ty_ts, ty_is, ty_bs, ty_ns, ty_ll, ty_tl, ty_lt, ty_tt, ty_sl, ty_il, ty_bl, ty_nl, ty_st, ty_it, ty_bt, ty_nt, isaT1, beq_self_eq_true, Option.map_some]); (rw [qpSs_cons]; simp_arith [Bool.and_true, Bool.true_and, Bool.and_false, Bool.false_and, Bool.not_true, Bool.not_false, Bool.or_true, Bool.true_or, Bool.or_false, Bool.false_or, decide_true, decide_false, and_true, true_and, qpSs_nil, List.length_map, List.length_cons, List.length_nil, Nat.zero_add, Nat.reduceAdd, ty_bb, ty_nb, ty_sb, ty_lb, ty_tb, ty_ii, ty_bi, ty_si, ty_li, ty_ti, ty_ni, ty_ss, ty_ls, ty_ts, ty_is, ty_bs, ty_ns, ty_ll, ty_tl, ty_lt, ty_tt, ty_sl, ty_il, ty_bl, ty_nl, ty_st, ty_it, ty_bt, ty_nt, isaT1, beq_self_eq_true, Option.map_some]); exact q
    | @lst _ xs hx hl =>
      have hsh := shs_id fun x z => (hx x z).sh
      (rw [qpSs_cons]; simp_arith [Bool.and_true, Bool.true_and, Bool.and_false, Bool.false_and, Bool.not_true, Bool.not_false, Bool.or_true, Bool.true_or, Bool.or_false, Bool.false_or, decide_true, decide_false, and_true, true_and, qpSs_nil, List.length_map, List.length_cons, List.length_nil, Nat.zero_add, Nat.reduceAdd, ty_bb, ty_nb, ty_sb, ty_lb, ty_tb, ty_ii, ty_bi, ty_si, ty_li, ty_ti, ty_ni, ty_ss, ty_ls, ty_ts, ty_is, ty_bs, ty_ns, ty_ll, ty_tl, ty_lt, ty_tt, ty_sl, ty_il, ty_bl, ty_nl, ty_st, ty_it, ty_bt, ty_nt, isaT1, beq_self_eq_true, Option.map_some])
      (rw [qpSs_cons]; simp_arith [Bool.and_true, Bool.true_and, Bool.and_false, Bool.false_and, Bool.not_true, Bool.not_false, Bool.or_true, Bool.true_or, Bool.or_false, Bool.false_or, decide_true, decide_false, and_true, true_and, qpSs_nil, List.length_map, List.length_cons, List.length_nil, Nat.zero_add, Nat.reduceAdd, ty_bb, ty_nb, ty_sb, ty_lb, ty_tb, ty_ii, ty_bi, ty_si, ty_li, ty_ti, ty_ni, ty_ss, ty_ls, ty_ts, ty_is, ty_bs, ty_ns, ty_ll, ty_tl, ty_lt, ty_tt, ty_sl, ty_il, ty_bl, ty_nl, ty_st, ty_it, ty_bt, ty_nt, isaT1, beq_self_eq_true, Option.map_some, hsh])
      refine lc_map (f := cp) (by simpa using hl) (fun x hxx acc K ha hK => ?_) ?_
      · have hp := hx x hxx
        simp_arith [Bool.and_true, Bool.true_and, Bool.and_false, Bool.false_and, Bool.not_true, Bool.not_false, Bool.or_true, Bool.true_or, Bool.or_false, Bool.false_or, decide_true, decide_false, and_true, true_and, qpSs_nil, List.length_map, List.length_cons, List.length_nil, Nat.zero_add, Nat.reduceAdd, hp.sh]
        exact ih hp (by omega) ⟨ha, hK⟩
      · rw [List.nil_append, ← cps_map]
        exact q
    | @tup _ xs hx hl =>
      have hsh := shs_id fun x z => (hx x z).sh
      (rw [qpSs_cons]; simp_arith [Bool.and_true, Bool.true_and, Bool.and_false, Bool.false_and, Bool.not_true, Bool.not_false, Bool.or_true, Bool.true_or, Bool.or_false, Bool.false_or, decide_true, decide_false, and_true, true_and, qpSs_nil, List.length_map, List.length_cons, List.length_nil, Nat.zero_add, Nat.reduceAdd, ty_bb, ty_nb, ty_sb, ty_lb, ty_tb, ty_ii, ty_bi, ty_si, ty_li, ty_ti, ty_ni, ty_ss, ty_ls, ty_ts, ty_is, ty_bs, ty_ns, ty_ll, ty_tl, ty_lt, ty_tt, ty_sl, ty_il, ty_bl, ty_nl, ty_st, ty_it, ty_bt, ty_nt, isaT1, beq_self_eq_true, Option.map_some]); (rw [qpSs_cons]; simp_arith [Bool.and_true, Bool.true_and, Bool.and_false, Bool.false_and, Bool.not_true, Bool.not_false, Bool.or_true, Bool.true_or, Bool.or_false, Bool.false_or, decide_true, decide_false, and_true, true_and, qpSs_nil, List.length_map, List.length_cons, List.length_nil, Nat.zero_add, Nat.reduceAdd, ty_bb, ty_nb, ty_sb, ty_lb, ty_tb, ty_ii, ty_bi, ty_si, ty_li, ty_ti, ty_ni, ty_ss, ty_ls, ty_ts, ty_is, ty_bs, ty_ns, ty_ll, ty_tl, ty_lt, ty_tt, ty_sl, ty_il, ty_bl, ty_nl, ty_st, ty_it, ty_bt, ty_nt, isaT1, beq_self_eq_true, Option.map_some])
      (rw [qpSs_cons]; simp_arith [Bool.and_true, Bool.true_and, Bool.and_false, Bool.false_and, Bool.not_true, Bool.not_false, Bool.or_true, Bool.true_or, Bool.or_false, Bool.false_or, decide_true, decide_false, and_true, true_and, qpSs_nil, List.length_map, List.length_cons, List.length_nil, Nat.zero_add, Nat.reduceAdd, ty_bb, ty_nb, ty_sb, ty_lb, ty_tb, ty_ii, ty_bi, ty_si, ty_li, ty_ti, ty_ni, ty_ss, ty_ls, ty_ts, ty_is, ty_bs, ty_ns, ty_ll, ty_tl, ty_lt, ty_tt, ty_sl, ty_il, ty_bl, ty_nl, ty_st, ty_it, ty_bt, ty_nt, isaT1, beq_self_eq_true, Option.map_some, hsh])
      refine lc_map (f := cp) (by simpa using hl) (fun x hxx acc K ha hK => ?_) ?_
      · have hp := hx x hxx
        simp_arith [Bool.and_true, Bool.true_and, Bool.and_false, Bool.false_and, Bool.not_true, Bool.not_false, Bool.or_true, Bool.true_or, Bool.or_false, Bool.false_or, decide_true, decide_false, and_true, true_and, qpSs_nil, List.length_map, List.length_cons, List.length_nil, Nat.zero_add, Nat.reduceAdd, hp.sh]
        exact ih hp (by omega) ⟨ha, hK⟩
      · simp_arith [Bool.and_true, Bool.true_and, Bool.and_false, Bool.false_and, Bool.not_true, Bool.not_false, Bool.or_true, Bool.true_or, Bool.or_false, Bool.false_or, decide_true, decide_false, and_true, true_and, qpSs_nil, List.length_map, List.length_cons, List.length_nil, Nat.zero_add, Nat.reduceAdd]
        rw [← cps_map]
        exact q
end
end Py.LL
set_option maxHeartbeats 4000000
namespace Py.LL
open PySem
section
variable {g : Pg} {fs : Str → Option Fn} {k s c : Nat} {Q : DQ} {E : DX → Prop}
theorem lc_flat {A : Type} {g f : A → List D} {N : Nat} {tg : Tg} {r : DE} {turn : DE → List D → (List D → Prop) → Prop} : ∀ {rows : List A} {acc : List D} {Q : List D → Prop}, acc.length + rows.length * N ≤ SL →
    (∀ x ∈ rows, (f x).length ≤ N ∧ ∃ r1, tgtD tg (g x) r = some r1 ∧ ∀ (acc : List D) (K : List D → Prop), acc.length + N ≤ SL → K (acc ++ f x) → turn r1 acc K) → Q (acc ++ rows.flatMap f) → lcD tg r turn (rows.map g) acc Q
  | [], acc, Q, _, _, q => by
    rw [List.flatMap_nil, List.append_nil] at q
    exact q
  | x :: rows, acc, Q, hl, h, q => by
    obtain ⟨hN, r1, e1, h1⟩ := h x (List.mem_cons_self ..)
    rw [List.length_cons, Nat.succ_mul] at hl
    show oQ (tgtD tg (g x) r) _
    rw [e1]
    refine h1 acc _ (by omega) (lc_flat (by rw [List.length_append]; omega) (fun y hy => h y (List.mem_cons_of_mem _ hy)) ?_)
    rw [List.append_assoc, ← List.flatMap_cons]
    exact q
theorem rngD_map (lo : Int) (n : Nat) : rngD lo n = (List.range n).map fun (j : Nat) => [D.int (lo + j)] := by
  induction n generalizing lo with
  | zero => rfl
  | succ n ih =>
    show [D.int lo] :: rngD (lo + 1) n = _
    rw [ih, List.range_succ_eq_map, List.map_cons, List.map_map]
    congr 1
    · simp
    · apply List.map_congr_left
      intro j _
      simp only [Function.comp]
      congr 2
      omega
theorem for_ind {A : Type} {g : A → List D} {tg : Tg} {body : DE → DK → Prop} {K : DK} {Inv : List A → DE → Prop} (hs : ∀ x xs ρ, Inv (x :: xs) ρ → ∃ ρ1, tgtD tg (g x) ρ = some ρ1 ∧ ∀ K' : DE → Prop, (∀ ρ', Inv xs ρ' → K' ρ') → body ρ1 { nx := K', ct := K', br := K.nx, rt := K.rt, ex := K.ex }) (he : ∀ ρ, Inv [] ρ → K.nx ρ) : ∀ (xs : List A) (ρ : DE), Inv xs ρ → forD tg body (xs.map g) ρ K
  | [], ρ, h => he ρ h
  | x :: xs, ρ, h => by
    obtain ⟨ρ1, e1, h1⟩ := hs x xs ρ h
    show oQ (tgtD tg (g x) ρ) _
    rw [e1]
    exact h1 _ fun ρ' h' => for_ind hs he xs ρ' h'
theorem for_rng {tg : Tg} {body : DE → DK → Prop} {K : DK} {Inv : Nat → DE → Prop} {n : Nat} {lo : Int} (hs : ∀ j, j < n → ∀ ρ, Inv j ρ → ∃ ρ1, tgtD tg [.int (lo + j)] ρ = some ρ1 ∧ ∀ K' : DE → Prop, (∀ ρ', Inv (j + 1) ρ' → K' ρ') → body ρ1 { nx := K', ct := K', br := K.nx, rt := K.rt, ex := K.ex }) (he : ∀ ρ, Inv n ρ → K.nx ρ) {ρ : DE} (h0 : Inv 0 ρ) : forD tg body (rngD lo n) ρ K := by
  rw [rngD_map, List.range_eq_range']
  have key : ∀ (m j : Nat) (ρ : DE), j + m = n → Inv j ρ → forD tg body ((List.range' j m).map fun (j : Nat) => [D.int (lo + j)]) ρ K := by
    intro m
    induction m with
    | zero => intro j ρ e h; exact he ρ (by rw [← e]; exact h)
    | succ m ih =>
      intro j ρ e h
      obtain ⟨ρ1, e1, h1⟩ := hs j (by omega) ρ h
      show oQ (tgtD tg [.int (lo + j)] ρ) _
      rw [e1]
      exact h1 _ fun ρ' h' => ih (j + 1) ρ' (by omega) h'
  exact key n 0 ρ (by omega) h0
theorem pow30 : opI .pow 10 30 = some 1000000000000000000000000000000 := by rfl
/-- no number that is allowed -/
def NotIn (lo hi : Int) : D → Prop
  | .int i => i < lo ∨ hi < i
  | .st => False
  | _ => True
theorem owns_ints : ∀ is : List Int, owns (is.map D.int) = true
  | [] => rfl
  | i :: is => by show (true && owns (is.map D.int)) = true; rw [owns_ints is]; rfl
theorem shs_ints : ∀ is : List Int, shs (is.map D.int) = is.map D.int
  | [] => rfl
  | i :: is => congrArg (D.int i :: ·) (shs_ints is)
theorem Pl.ints {n : Nat} {is : List Int} (h : is.length ≤ SL) : Pl (n + 1) (.lst false (is.map D.int)) := .lst (fun x hx => by obtain ⟨i, _, rfl⟩ := List.mem_map.mp hx; exact .int i) (by simpa using h)
theorem Pl.tints {n : Nat} {is : List Int} (h : is.length ≤ SL) : Pl (n + 1) (.tup (is.map D.int)) := .tup (fun x hx => by obtain ⟨i, _, rfl⟩ := List.mem_map.mp hx; exact .int i) (by simpa using h)
theorem C_not_number {lo hi : Int} (h : fs "_law_not_number" = some not_number) (ht : fs "_law_take" = some take) (hm : fs "_law_mixed" = some mixed) (hk : 3 ≤ k) (hl : lo.natAbs.log2 < 1920) (hlh : lo ≤ hi + 1) (q : ∀ d, Pl 1 d → NotIn lo hi d → Q d) : FCall (callN g fs k) (stW s c) "_law_not_number" [.st, .int lo, .int hi] Q E := by
  obtain ⟨k, rfl⟩ : ∃ k', k = k' + 1 := ⟨k - 1, by omega⟩
  (refine call_of (cons := fun _ => false) FCall.sound (d := not_number) (by assumption) rfl ?_; simp only [not_number, Nat.sub_self, Nat.reduceSub, q_map_n, q_map_c, q_rep_z, List.replicate, q_app_n, q_app_c])
  (rw [qpSs_cons]; simp_arith [Bool.and_true, Bool.true_and, Bool.and_false, Bool.false_and, Bool.not_true, Bool.not_false, Bool.or_true, Bool.true_or, Bool.or_false, Bool.false_or, decide_true, decide_false, and_true, true_and, qpSs_nil, List.length_map, List.length_cons, List.length_nil, Nat.zero_add, Nat.reduceAdd])
  refine C_take ht hm (by omega) (by decide) fun v v1 v2 => ?_
  simp_arith [Bool.and_true, Bool.true_and, Bool.and_false, Bool.false_and, Bool.not_true, Bool.not_false, Bool.or_true, Bool.true_or, Bool.or_false, Bool.false_or, decide_true, decide_false, and_true, true_and, qpSs_nil, List.length_map, List.length_cons, List.length_nil, Nat.zero_add, Nat.reduceAdd]
  refine C_take ht hm (by omega) (by decide) fun w w1 w2 => ?_
  simp_arith [Bool.and_true, Bool.true_and, Bool.and_false, Bool.false_and, Bool.not_true, Bool.not_false, Bool.or_true, Bool.true_or, Bool.or_false, Bool.false_or, decide_true, decide_false, and_true, true_and, qpSs_nil, List.length_map, List.length_cons, List.length_nil, Nat.zero_add, Nat.reduceAdd, pow30]
  refine ⟨by decide, ?_⟩
  (rw [qpSs_cons]; simp_arith [Bool.and_true, Bool.true_and, Bool.and_false, Bool.false_and, Bool.not_true, Bool.not_false, Bool.or_true, Bool.true_or, Bool.or_false, Bool.false_or, decide_true, decide_false, and_true, true_and, qpSs_nil, List.length_map, List.length_cons, List.length_nil, Nat.zero_add, Nat.reduceAdd, pow30])
  refine ⟨hl, ?_⟩
  refine ⟨by decide, by decide, by decide, by decide, by decide, by decide, ?_⟩
  (rw [qpSs_cons]; simp_arith [Bool.and_true, Bool.true_and, Bool.and_false, Bool.false_and, Bool.not_true, Bool.not_false, Bool.or_true, Bool.true_or, Bool.or_false, Bool.false_or, decide_true, decide_false, and_true, true_and, qpSs_nil, List.length_map, List.length_cons, List.length_nil, Nat.zero_add, Nat.reduceAdd])
  refine C_take ht hm (by omega) (by decide) fun z z1 z2 => ?_
  simp_arith [Bool.and_true, Bool.true_and, Bool.and_false, Bool.false_and, Bool.not_true, Bool.not_false, Bool.or_true, Bool.true_or, Bool.or_false, Bool.false_or, decide_true, decide_false, and_true, true_and, qpSs_nil, List.length_map, List.length_cons, List.length_nil, Nat.zero_add, Nat.reduceAdd]
  obtain ⟨x, e1, e2⟩ := atI_lt (xs := [D.int (lo - 1), D.int (hi + 1), D.int (lo - 2 - v), D.int (hi + 2 + w), D.int (hi + 1000000000000000000000000000000), D.int (lo - 1000000000000000000000000000000), D.bl true, D.bl false, D.non, D.str (toString lo), D.str "", D.lst false [D.int lo], D.tup [D.int lo], D.lst false [], D.tup []]) z1 (by simp only [List.length_cons, List.length_nil]; omega)
  rw [e1]
  simp_arith [Bool.and_true, Bool.true_and, Bool.and_false, Bool.false_and, Bool.not_true, Bool.not_false, Bool.or_true, Bool.true_or, Bool.or_false, Bool.false_or, decide_true, decide_false, and_true, true_and, qpSs_nil, List.length_map, List.length_cons, List.length_nil, Nat.zero_add, Nat.reduceAdd]
  have L1 : ∀ x ∈ [D.int lo], Pl 0 x := fun x hx => by rw [List.mem_singleton.mp hx]; exact .int lo
  have L0 : ∀ x ∈ ([] : List D), Pl 0 x := fun x hx => by cases hx
  simp only [List.mem_cons, List.not_mem_nil, or_false] at e2
  rcases e2 with rfl | rfl | rfl | rfl | rfl | rfl | rfl | rfl | rfl | rfl | rfl | rfl | rfl | rfl | rfl
  · exact q _ (.int _) (.inl (by omega))
  · exact q _ (.int _) (.inr (by omega))
  · exact q _ (.int _) (.inl (by omega))
  · exact q _ (.int _) (.inr (by omega))
  · exact q _ (.int _) (.inr (by omega))
  · exact q _ (.int _) (.inl (by omega))
  · exact q _ (.bl _) trivial
  · exact q _ (.bl _) trivial
  · exact q _ .non trivial
  · exact q _ (.str _) trivial
  · exact q _ (.str _) trivial
  · exact q _ (.lst L1 (by simp [SL])) trivial
  · exact q _ (.tup L1 (by simp [SL])) trivial
  · exact q _ (.lst L0 (by decide)) trivial
  · exact q _ (.tup L0 (by decide)) trivial
/-- no list -/
def NotL : D → Prop
  | .lst _ _ => False
  | .st => False
  | _ => True
theorem C_not_list {is : List Int} {b : Bool} (h : fs "_law_not_list" = some not_list) (ht : fs "_law_take" = some take) (hm : fs "_law_mixed" = some mixed) (hk : 3 ≤ k) (hl : is.length ≤ SL) (q : ∀ d, Pl 1 d → NotL d → (b = false → d ≠ .non) → Q d) : FCall (callN g fs k) (stW s c) "_law_not_list" [.st, .lst false (is.map D.int), .bl b] Q E := by
  obtain ⟨k, rfl⟩ : ∃ k', k = k' + 1 := ⟨k - 1, by omega⟩
  (refine call_of (cons := fun _ => false) FCall.sound (d := not_list) (by assumption) rfl ?_; simp only [not_list, Nat.sub_self, Nat.reduceSub, q_map_n, q_map_c, q_rep_z, List.replicate, q_app_n, q_app_c])
  (rw [qpSs_cons]; simp_arith [Bool.and_true, Bool.true_and, Bool.and_false, Bool.false_and, Bool.not_true, Bool.not_false, Bool.or_true, Bool.true_or, Bool.or_false, Bool.false_or, decide_true, decide_false, and_true, true_and, qpSs_nil, List.length_map, List.length_cons, List.length_nil, Nat.zero_add, Nat.reduceAdd, shs_ints, owns_ints])
  refine ⟨by decide, by decide, ?_⟩
  (rw [qpSs_cons]; simp_arith [Bool.and_true, Bool.true_and, Bool.and_false, Bool.false_and, Bool.not_true, Bool.not_false, Bool.or_true, Bool.true_or, Bool.or_false, Bool.false_or, decide_true, decide_false, and_true, true_and, qpSs_nil, List.length_map, List.length_cons, List.length_nil, Nat.zero_add, Nat.reduceAdd, shs_ints, owns_ints])
  have fin : ∀ {xs : List D} {r : DE} {z : Int}, 0 ≤ z → z < xs.length → (∀ x ∈ xs, Q x) → oQ (L2.atI xs z) Q := fun {xs r z} a b c => by
    obtain ⟨x, e1, e2⟩ := atI_lt (xs := xs) a b
    rw [e1]
    exact c x e2
  have L0 : ∀ x ∈ ([] : List D), Pl 0 x := fun x hx => by cases hx
  have all : ∀ x ∈ [D.tup (is.map D.int), D.tup (is.map D.int), D.bl true, D.int 0, D.int is.length, D.str "", D.str "01", D.tup []], Q x := fun x e2 => by
    simp only [List.mem_cons, List.not_mem_nil, or_false] at e2
    rcases e2 with rfl | rfl | rfl | rfl | rfl | rfl | rfl | rfl
    · exact q _ (.tints hl) trivial (fun _ z => nomatch z)
    · exact q _ (.tints hl) trivial (fun _ z => nomatch z)
    · exact q _ (.bl _) trivial (fun _ z => nomatch z)
    · exact q _ (.int _) trivial (fun _ z => nomatch z)
    · exact q _ (.int _) trivial (fun _ z => nomatch z)
    · exact q _ (.str _) trivial (fun _ z => nomatch z)
    · exact q _ (.str _) trivial (fun _ z => nomatch z)
    · exact q _ (.tup L0 (by decide)) trivial (fun _ z => nomatch z)
  cases b with
  | false =>
    simp_arith [Bool.and_true, Bool.true_and, Bool.and_false, Bool.false_and, Bool.not_true, Bool.not_false, Bool.or_true, Bool.true_or, Bool.or_false, Bool.false_or, decide_true, decide_false, and_true, true_and, qpSs_nil, List.length_map, List.length_cons, List.length_nil, Nat.zero_add, Nat.reduceAdd]
    (rw [qpSs_cons]; simp_arith [Bool.and_true, Bool.true_and, Bool.and_false, Bool.false_and, Bool.not_true, Bool.not_false, Bool.or_true, Bool.true_or, Bool.or_false, Bool.false_or, decide_true, decide_false, and_true, true_and, qpSs_nil, List.length_map, List.length_cons, List.length_nil, Nat.zero_add, Nat.reduceAdd, shs_ints, owns_ints])
    refine C_take ht hm (by omega) (by decide) fun z z1 z2 => ?_
    simp_arith [Bool.and_true, Bool.true_and, Bool.and_false, Bool.false_and, Bool.not_true, Bool.not_false, Bool.or_true, Bool.true_or, Bool.or_false, Bool.false_or, decide_true, decide_false, and_true, true_and, qpSs_nil, List.length_map, List.length_cons, List.length_nil, Nat.zero_add, Nat.reduceAdd, shs_ints, owns_ints]
    exact fin (r := []) z1 (by simp only [List.length_cons, List.length_nil]; omega) all
  | true =>
    simp_arith [Bool.and_true, Bool.true_and, Bool.and_false, Bool.false_and, Bool.not_true, Bool.not_false, Bool.or_true, Bool.true_or, Bool.or_false, Bool.false_or, decide_true, decide_false, and_true, true_and, qpSs_nil, List.length_map, List.length_cons, List.length_nil, Nat.zero_add, Nat.reduceAdd]
    (rw [qpSs_cons]; simp_arith [Bool.and_true, Bool.true_and, Bool.and_false, Bool.false_and, Bool.not_true, Bool.not_false, Bool.or_true, Bool.true_or, Bool.or_false, Bool.false_or, decide_true, decide_false, and_true, true_and, qpSs_nil, List.length_map, List.length_cons, List.length_nil, Nat.zero_add, Nat.reduceAdd, shs_ints, owns_ints])
    refine ⟨by decide, ?_⟩
    (rw [qpSs_cons]; simp_arith [Bool.and_true, Bool.true_and, Bool.and_false, Bool.false_and, Bool.not_true, Bool.not_false, Bool.or_true, Bool.true_or, Bool.or_false, Bool.false_or, decide_true, decide_false, and_true, true_and, qpSs_nil, List.length_map, List.length_cons, List.length_nil, Nat.zero_add, Nat.reduceAdd, shs_ints, owns_ints])
    refine C_take ht hm (by omega) (by decide) fun z z1 z2 => ?_
    simp_arith [Bool.and_true, Bool.true_and, Bool.and_false, Bool.false_and, Bool.not_true, Bool.not_false, Bool.or_true, Bool.true_or, Bool.or_false, Bool.false_or, decide_true, decide_false, and_true, true_and, qpSs_nil, List.length_map, List.length_cons, List.length_nil, Nat.zero_add, Nat.reduceAdd, shs_ints, owns_ints]
    refine fin (r := []) z1 (by simp only [List.length_cons, List.length_nil]; omega) fun x hx => ?_
    rcases List.mem_append.mp (show x ∈ [D.tup (is.map D.int), D.tup (is.map D.int), D.bl true, D.int 0, D.int is.length, D.str "", D.str "01", D.tup []] ++ [D.non] from hx) with hx | hx
    · exact all x hx
    · rw [List.mem_singleton.mp hx]
      exact q _ .non trivial (fun z => nomatch z)
theorem cutD_ints {is : List Int} {l h : Option Int} : cutD (is.map D.int) l h = ((is.drop (HT.sIx is.length 0 l)).take (HT.sIx is.length is.length h - HT.sIx is.length 0 l)).map D.int := by
  unfold cutD
  rw [List.length_map, List.map_take, List.map_drop]
theorem sIx_i {n d : Nat} {i : Int} (h : 0 ≤ i) : HT.sIx n d (some i) = min i.toNat n := by
  show (if i < 0 then (i + (n : Int)).toNat else min i.toNat n) = min i.toNat n
  rw [if_neg (by omega)]
theorem C_misshaped {is : List Int} (h : fs "_law_misshaped" = some misshaped) (hn : fs "_law_not_list" = some not_list) (ht : fs "_law_take" = some take) (hm : fs "_law_mixed" = some mixed) (hk : 4 ≤ k) (hl : is.length < SL) (q1 : ∀ d, Pl 1 d → NotL d → d ≠ .non → Q d) (q2 : ∀ js : List Int, js.length ≠ is.length → js.length ≤ is.length + 1 → Q (.lst true (js.map D.int))) : FCall (callN g fs k) (stW s c) "_law_misshaped" [.st, .lst false (is.map D.int)] Q E := by
  obtain ⟨k, rfl⟩ : ∃ k', k = k' + 1 := ⟨k - 1, by omega⟩
  have hl' : is.length < 16777216 := hl
  (refine call_of (cons := fun _ => false) FCall.sound (d := misshaped) (by assumption) rfl ?_; simp only [misshaped, Nat.sub_self, Nat.reduceSub, q_map_n, q_map_c, q_rep_z, List.replicate, q_app_n, q_app_c])
  (rw [qpSs_cons]; simp_arith [Bool.and_true, Bool.true_and, Bool.and_false, Bool.false_and, Bool.not_true, Bool.not_false, Bool.or_true, Bool.true_or, Bool.or_false, Bool.false_or, decide_true, decide_false, and_true, true_and, qpSs_nil, List.length_map, List.length_cons, List.length_nil, Nat.zero_add, Nat.reduceAdd])
  refine C_take ht hm (by omega) (by decide) fun w w1 w2 => ?_
  simp_arith [Bool.and_true, Bool.true_and, Bool.and_false, Bool.false_and, Bool.not_true, Bool.not_false, Bool.or_true, Bool.true_or, Bool.or_false, Bool.false_or, decide_true, decide_false, and_true, true_and, qpSs_nil, List.length_map, List.length_cons, List.length_nil, Nat.zero_add, Nat.reduceAdd]
  (rw [qpSs_cons]; simp_arith [Bool.and_true, Bool.true_and, Bool.and_false, Bool.false_and, Bool.not_true, Bool.not_false, Bool.or_true, Bool.true_or, Bool.or_false, Bool.false_or, decide_true, decide_false, and_true, true_and, qpSs_nil, List.length_map, List.length_cons, List.length_nil, Nat.zero_add, Nat.reduceAdd, shs_ints, owns_ints])
  refine ⟨fun h1 => ?_, fun h1 => ?_⟩
  · (rw [qpSs_cons]; simp_arith [Bool.and_true, Bool.true_and, Bool.and_false, Bool.false_and, Bool.not_true, Bool.not_false, Bool.or_true, Bool.true_or, Bool.or_false, Bool.false_or, decide_true, decide_false, and_true, true_and, qpSs_nil, List.length_map, List.length_cons, List.length_nil, Nat.zero_add, Nat.reduceAdd, shs_ints, owns_ints])
    exact C_not_list hn ht hm (by omega) (by omega) fun d d1 d2 d3 => q1 d d1 d2 (d3 rfl)
  have tail : ∀ (v : Int), pSs g (FCall (callN g fs k) (stW s c)) (fun _ => false) (.cons (.asg 3 (.call "_law_take" (.cons (.var 0) (.cons (.bin .add (.blt .len (.cons (.var 1) .nil)) (.cst (.int 1))) .nil))))
      (.cons (.ret (.bin .add (.bin .add (.blt .list (.cons (.slc (.var 1) (.cst .non) (.var 3) false true) .nil)) (.lst (.cons (.cst (.int 0)) .nil))) (.blt .list (.cons (.slc (.var 1) (.var 3) (.cst .non) true false) .nil)))) .nil))
      [some .st, some (.lst false (is.map D.int)), some (.int v), none] (bodyK Q E) := fun v => by
    (rw [qpSs_cons]; simp_arith [Bool.and_true, Bool.true_and, Bool.and_false, Bool.false_and, Bool.not_true, Bool.not_false, Bool.or_true, Bool.true_or, Bool.or_false, Bool.false_or, decide_true, decide_false, and_true, true_and, qpSs_nil, List.length_map, List.length_cons, List.length_nil, Nat.zero_add, Nat.reduceAdd, shs_ints, owns_ints])
    refine C_take ht hm (by omega) (by omega) fun z z1 z2 => ?_
    simp_arith [Bool.and_true, Bool.true_and, Bool.and_false, Bool.false_and, Bool.not_true, Bool.not_false, Bool.or_true, Bool.true_or, Bool.or_false, Bool.false_or, decide_true, decide_false, and_true, true_and, qpSs_nil, List.length_map, List.length_cons, List.length_nil, Nat.zero_add, Nat.reduceAdd, shs_ints, owns_ints]
    (rw [qpSs_cons]; simp_arith [Bool.and_true, Bool.true_and, Bool.and_false, Bool.false_and, Bool.not_true, Bool.not_false, Bool.or_true, Bool.true_or, Bool.or_false, Bool.false_or, decide_true, decide_false, and_true, true_and, qpSs_nil, List.length_map, List.length_cons, List.length_nil, Nat.zero_add, Nat.reduceAdd, shs_ints, owns_ints, cutD_ints])
    have e1 : HT.sIx is.length is.length (some z) = z.toNat := by rw [sIx_i z1]; omega
    have e2 : HT.sIx is.length 0 (some z) = z.toNat := by rw [sIx_i (by omega)]; omega
    rw [HT.sIx_none, HT.sIx_none, e1, e2]
    refine ⟨by decide, by simp only [List.length_take, List.length_drop, SL]; omega, by simp only [List.length_append, List.length_map, List.length_take, List.length_drop, List.length_cons, List.length_nil, SL]; omega, ?_⟩
    rw [show [D.int 0] = [(0 : Int)].map D.int from rfl, ← List.map_append, ← List.map_append]
    exact q2 _ (by simp only [List.length_append, List.length_take, List.length_drop, List.length_cons, List.length_nil]; omega) (by simp only [List.length_append, List.length_take, List.length_drop, List.length_cons, List.length_nil]; omega)
  (rw [qpSs_cons]; simp_arith [Bool.and_true, Bool.true_and, Bool.and_false, Bool.false_and, Bool.not_true, Bool.not_false, Bool.or_true, Bool.true_or, Bool.or_false, Bool.false_or, decide_true, decide_false, and_true, true_and, qpSs_nil, List.length_map, List.length_cons, List.length_nil, Nat.zero_add, Nat.reduceAdd, shs_ints, owns_ints])
  refine ⟨fun h2 => ?_, fun h2 => ⟨fun h3 => absurd h3 h2, fun _ => tail w⟩⟩
  refine ⟨fun h3 => ?_, fun h3 => tail w⟩
  (rw [qpSs_cons]; simp_arith [Bool.and_true, Bool.true_and, Bool.and_false, Bool.false_and, Bool.not_true, Bool.not_false, Bool.or_true, Bool.true_or, Bool.or_false, Bool.false_or, decide_true, decide_false, and_true, true_and, qpSs_nil, List.length_map, List.length_cons, List.length_nil, Nat.zero_add, Nat.reduceAdd, shs_ints, owns_ints])
  refine C_take ht hm (by omega) (by omega) fun z z1 z2 => ?_
  simp_arith [Bool.and_true, Bool.true_and, Bool.and_false, Bool.false_and, Bool.not_true, Bool.not_false, Bool.or_true, Bool.true_or, Bool.or_false, Bool.false_or, decide_true, decide_false, and_true, true_and, qpSs_nil, List.length_map, List.length_cons, List.length_nil, Nat.zero_add, Nat.reduceAdd, shs_ints, owns_ints]
  (rw [qpSs_cons]; simp_arith [Bool.and_true, Bool.true_and, Bool.and_false, Bool.false_and, Bool.not_true, Bool.not_false, Bool.or_true, Bool.true_or, Bool.or_false, Bool.false_or, decide_true, decide_false, and_true, true_and, qpSs_nil, List.length_map, List.length_cons, List.length_nil, Nat.zero_add, Nat.reduceAdd, shs_ints, owns_ints, cutD_ints])
  have e1 : HT.sIx is.length is.length (some z) = z.toNat := by rw [sIx_i z1]; omega
  have e2 : HT.sIx is.length 0 (some (z + 1)) = z.toNat + 1 := by rw [sIx_i (by omega)]; omega
  rw [HT.sIx_none, HT.sIx_none, e1, e2]
  refine ⟨by simp only [List.length_take, List.length_drop, SL]; omega, ?_⟩
  rw [← List.map_append]
  exact q2 _ (by simp only [List.length_append, List.length_take, List.length_drop]; omega) (by simp only [List.length_append, List.length_take, List.length_drop]; omega)
/-- the greatest common measure, by 64 turns -/
theorem gcd_run (h : fs "_law_gcd" = some gcd) {W : Wd} {a b : Nat} (hk : 1 ≤ k) (ha : 0 < a) (hb : b < 64) (q : Q (.int (Nat.gcd a b))) : FCall (callN g fs k) W "_law_gcd" [.int a, .int b] Q E := by
  obtain ⟨k, rfl⟩ : ∃ k', k = k' + 1 := ⟨k - 1, by omega⟩
  (refine call_of (cons := fun _ => false) FCall.sound (d := gcd) (by assumption) rfl ?_; simp only [gcd, Nat.sub_self, Nat.reduceSub, q_map_n, q_map_c, q_rep_z, List.replicate, q_app_n, q_app_c])
  (rw [qpSs_cons]; simp_arith [Bool.and_true, Bool.true_and, Bool.and_false, Bool.false_and, Bool.not_true, Bool.not_false, Bool.or_true, Bool.true_or, Bool.or_false, Bool.false_or, decide_true, decide_false, and_true, true_and, qpSs_nil, List.length_map, List.length_cons, List.length_nil, Nat.zero_add, Nat.reduceAdd])
  refine ⟨by decide, ?_⟩
  have key : ∀ (n a b j : Nat) (o o2 : Option D), 0 < a → b < n → Q (.int (Nat.gcd a b)) → forD (.nm 2) (fun r1 K1 => pSs g (FCall (callN g fs k) W) (fun _ => false) (.cons (.ifs (.cmp .eq (.var 1) (.cst (.int 0)))
      (.cons (.ret (.var 0)) .nil) .nil)
      (.cons (.asg 3 (.bin .mod (.blt .int (.cons (.var 0) .nil)) (.var 1)))
      (.cons (.asg 0 (.var 1))
      (.cons (.asg 1 (.var 3))
      .nil)))) r1 K1) (rngD j n) [some (.int a), some (.int b), o, o2] { bodyK Q E with nx := fun r1 => pSs g (FCall (callN g fs k) W) (fun _ => false) (.cons (.ret (.var 0)) .nil) r1 (bodyK Q E) } := by
    intro n
    induction n with
    | zero => intro a b j o o2 ha hb; omega
    | succ n ih =>
      intro a b j o o2 ha hb hq
      simp_arith [Bool.and_true, Bool.true_and, Bool.and_false, Bool.false_and, Bool.not_true, Bool.not_false, Bool.or_true, Bool.true_or, Bool.or_false, Bool.false_or, decide_true, decide_false, and_true, true_and, qpSs_nil, List.length_map, List.length_cons, List.length_nil, Nat.zero_add, Nat.reduceAdd]
      (rw [qpSs_cons]; simp_arith [Bool.and_true, Bool.true_and, Bool.and_false, Bool.false_and, Bool.not_true, Bool.not_false, Bool.or_true, Bool.true_or, Bool.or_false, Bool.false_or, decide_true, decide_false, and_true, true_and, qpSs_nil, List.length_map, List.length_cons, List.length_nil, Nat.zero_add, Nat.reduceAdd])
      refine ⟨fun h0 => ?_, fun h0 => ?_⟩
      · (rw [qpSs_cons]; simp_arith [Bool.and_true, Bool.true_and, Bool.and_false, Bool.false_and, Bool.not_true, Bool.not_false, Bool.or_true, Bool.true_or, Bool.or_false, Bool.false_or, decide_true, decide_false, and_true, true_and, qpSs_nil, List.length_map, List.length_cons, List.length_nil, Nat.zero_add, Nat.reduceAdd])
        obtain rfl : b = 0 := by omega
        rw [Nat.gcd_zero_right] at hq
        exact hq
      · have hb0 : 0 < b := by omega
        have e : (0 < (b : Int)) = True := by simp; omega
        (rw [qpSs_cons]; simp_arith [Bool.and_true, Bool.true_and, Bool.and_false, Bool.false_and, Bool.not_true, Bool.not_false, Bool.or_true, Bool.true_or, Bool.or_false, Bool.false_or, decide_true, decide_false, and_true, true_and, qpSs_nil, List.length_map, List.length_cons, List.length_nil, Nat.zero_add, Nat.reduceAdd, e])
        (rw [qpSs_cons]; simp_arith [Bool.and_true, Bool.true_and, Bool.and_false, Bool.false_and, Bool.not_true, Bool.not_false, Bool.or_true, Bool.true_or, Bool.or_false, Bool.false_or, decide_true, decide_false, and_true, true_and, qpSs_nil, List.length_map, List.length_cons, List.length_nil, Nat.zero_add, Nat.reduceAdd])
        (rw [qpSs_cons]; simp_arith [Bool.and_true, Bool.true_and, Bool.and_false, Bool.false_and, Bool.not_true, Bool.not_false, Bool.or_true, Bool.true_or, Bool.or_false, Bool.false_or, decide_true, decide_false, and_true, true_and, qpSs_nil, List.length_map, List.length_cons, List.length_nil, Nat.zero_add, Nat.reduceAdd])
        have e1 : ((a : Int) % (b : Int)) = ((a % b : Nat) : Int) := by simp
        have e2 : ((j : Int) + 1) = ((j + 1 : Nat) : Int) := by omega
        rw [e1, e2]
        have hlt := Nat.mod_lt a hb0
        refine ih b (a % b) (j + 1) _ _ hb0 (by omega) ?_
        rw [Nat.gcd_comm b, ← Nat.gcd_rec, Nat.gcd_comm b]
        exact hq
  exact key 64 a b 0 none none ha hb q
theorem C_share (h : fs "_law_share" = some share) (hg : fs "_law_gcd" = some gcd) {W : Wd} {a b : Nat} (hk : 2 ≤ k) (ha : 0 < a) (hb : b < 64) (ha2 : a < 64) (q : Q (.tup [.int (a / Nat.gcd a b : Nat), .int (b / Nat.gcd a b : Nat)])) : FCall (callN g fs k) W "_law_share" [.int a, .int b] Q E := by
  obtain ⟨k, rfl⟩ : ∃ k', k = k' + 1 := ⟨k - 1, by omega⟩
  have hp : 0 < Nat.gcd a b := Nat.gcd_pos_of_pos_left _ ha
  have hl : Nat.gcd a b ≤ a := Nat.gcd_le_left _ ha
  (refine call_of (cons := fun _ => false) FCall.sound (d := share) (by assumption) rfl ?_; simp only [share, Nat.sub_self, Nat.reduceSub, q_map_n, q_map_c, q_rep_z, List.replicate, q_app_n, q_app_c])
  (rw [qpSs_cons]; simp_arith [Bool.and_true, Bool.true_and, Bool.and_false, Bool.false_and, Bool.not_true, Bool.not_false, Bool.or_true, Bool.true_or, Bool.or_false, Bool.false_or, decide_true, decide_false, and_true, true_and, qpSs_nil, List.length_map, List.length_cons, List.length_nil, Nat.zero_add, Nat.reduceAdd])
  refine gcd_run hg (by omega) ha hb ?_
  simp_arith [Bool.and_true, Bool.true_and, Bool.and_false, Bool.false_and, Bool.not_true, Bool.not_false, Bool.or_true, Bool.true_or, Bool.or_false, Bool.false_or, decide_true, decide_false, and_true, true_and, qpSs_nil, List.length_map, List.length_cons, List.length_nil, Nat.zero_add, Nat.reduceAdd]
  have e : (0 < ((Nat.gcd a b : Nat) : Int) ∧ ((Nat.gcd a b : Nat) : Int) < 2 ^ 64) = True := by simp; omega
  (rw [qpSs_cons]; simp_arith [Bool.and_true, Bool.true_and, Bool.and_false, Bool.false_and, Bool.not_true, Bool.not_false, Bool.or_true, Bool.true_or, Bool.or_false, Bool.false_or, decide_true, decide_false, and_true, true_and, qpSs_nil, List.length_map, List.length_cons, List.length_nil, Nat.zero_add, Nat.reduceAdd, e])
  refine ⟨by decide, ?_⟩
  exact q
end
end Py.LL
set_option maxHeartbeats 4000000
/-! the law's store: how it is made -/
namespace Py.LL
open PySem
section
variable {g : Pg} {fs : Str → Option Fn} {k : Nat}
def seedB : MSs := (.cons (.asg 1 (.bin .mod (.blt .int (.cons (.bin .add (.bin .mul (.var 1) (.cst (.int 1000003))) (.var 2)) .nil)) (.cst (.int 2305843009213693951)))) .nil)
theorem store_eq : store = ⟨1, 3, (.cons (.asg 1 (.bin .add (.blt .len (.cons (.var 0) .nil)) (.cst (.int 7))))
  (.cons (.fors (.nm 2) (.seq (.var 0)) seedB)
  (.cons (.ret (.lst (.cons (.blt .list (.cons (.var 0) .nil)) (.cons (.cst (.int 0)) (.cons (.cst (.int 0)) (.cons (.cst (.int 0)) (.cons (.var 1) (.cons (.cst (.int 0)) .nil))))))))
  .nil)))⟩ := rfl
theorem seed_loop {cl : Cl} {xs : List U} {m : M} (hm : lsOf m 0 = some xs) : ∀ (ys : List Int) (a : Int) (o : Option U), ∃ (b : Int) (o' : Option U), forL (.sq true 0 xs) (.nm 2) (fun r1 m2 => exs g cl seedB r1 m2) ((ys.map U.int).map fun x => [x]) [some (.ref 0), some (.int a), o] m = .ok (.nx, [some (.ref 0), some (.int b), o']) m
  | [], a, o => ⟨a, o, by
    show (if (IT.sq true 0 xs).ok m = true then _ else _) = _
    rw [if_pos (by simp [IT.ok, hm])]⟩
  | y :: ys, a, o => by
    have e1 : ∀ i : Int, mulOk i 1000003 = true := fun i => mulOk_r (by decide)
    obtain ⟨b, o', h⟩ := seed_loop (cl := cl) hm ys ((a * 1000003 + y) % 2305843009213693951) (some (.int y))
    refine ⟨b, o', ?_⟩
    show (if (IT.sq true 0 xs).ok m = true then _ else _) = _
    rw [if_pos (by simp [IT.ok, hm])]
    simp only [asgT, bind_ok, seedB, exs_cons, exs_nil, exe_asg, ev_bin, ev_blt, evs_cons, evs_nil, ev_var, ev_cst, q_get_z, q_get_s, q_set_z, q_set_s, bin2, opI, e1, blt2, ↓reduceIte, show (0 : Int) < 2305843009213693951 by decide]
    exact h
theorem run_store (h : fs "_law_store" = some store) (ns : List Int) : ∃ seed : Int, callN g fs (k + 1) "_law_store" [.ref 0] [.fls (ns.map U.int)] = .ok (.ref 2) [.fls (ns.map U.int), .lst (ns.map U.int), .lst [.ref 1, .int 0, .int 0, .int 0, .int seed, .int 0]] := by
  obtain ⟨b, o', hl⟩ := seed_loop (g := g) (cl := callN g fs k) (xs := ns.map U.int) (m := [.fls (ns.map U.int)]) rfl ns (ns.length + 7) none
  refine ⟨b, ?_⟩
  unfold callN
  rw [h]
  have hs : seqOf [MO.fls (ns.map U.int)] 0 = some (ns.map U.int) := rfl
  have hls : lsOf [MO.fls (ns.map U.int)] 0 = some (ns.map U.int) := rfl
  simp only [store_eq, List.length_cons, List.length_nil, Nat.zero_add, ↓reduceIte, List.map_cons, List.map_nil, List.replicate, Nat.reduceSub, q_app_c, q_app_n, exs_cons, exs_nil, exe_asg, exe_fors, evi_seq, ev_bin, ev_blt, evs_cons, evs_nil, ev_var, ev_cst, bind_ok, q_get_z, q_get_s, q_set_z, q_set_s, bin2, opI, blt2, hs, hls, List.length_map, IT.items, hl, exe_ret, ev_lst, alloc]
  rfl
end
end Py.LL
set_option maxHeartbeats 4000000
/-! no list stands at two places: the law's own look -/
namespace Py.LL
open PySem
/-- all that is old stays -/
def Ext (m m' : M) : Prop := ∀ (i : Nat) (o : MO), m[i]? = some o → m'[i]? = some o
theorem Ext.refl {m : M} : Ext m m := fun _ _ h => h
theorem Ext.trans {m m1 m2 : M} (a : Ext m m1) (b : Ext m1 m2) : Ext m m2 := fun i o h => b i o (a i o h)
theorem Ext.app {m : M} {l : M} : Ext m (m ++ l) := fun i o h => by rw [List.getElem?_append_left (get_lt h)]; exact h
theorem Ext.rp {s : Nat} {B : Nat → Prop} {m m' : M} {u : U} {d : D} {ns : List Nat} (e : Ext m m') (h : Rp s B m u d ns) : Rp s B m' u d ns := h.mv (fun i us n z => ⟨n, e i _ z⟩) (fun i us z => tpOf_of z fun o q => e i o q) fun i us _ z => e i _ z
theorem Ext.rps {s : Nat} {B : Nat → Prop} {m m' : M} {us : List U} {ds : List D} {ns : List Nat} (e : Ext m m') (h : Rps s B m us ds ns) : Rps s B m' us ds ns := h.mv (fun i us n z => ⟨n, e i _ z⟩) (fun i us z => tpOf_of z fun o q => e i o q) fun i us _ z => e i _ z
/-- a tree of our own, at most n deep -/
inductive OwD : Nat → D → Prop where
  | non {n} : OwD n .non
  | bl {n} (b : Bool) : OwD n (.bl b)
  | int {n} (i : Int) : OwD n (.int i)
  | str {n} (z : Str) : OwD n (.str z)
  | lst {n} {xs : List D} (h : ∀ x ∈ xs, OwD n x) (l : xs.length < SL) : OwD (n + 1) (.lst true xs)
  | tup {n} {xs : List D} (h : ∀ x ∈ xs, OwD n x) : OwD (n + 1) (.tup xs)
def listsB : MSs := (.cons (.asg 2 (.bin .add (.var 2) (.call "_law_lists" (.cons (.var 3) (.cons (.bin .sub (.var 1) (.cst (.int 1))) .nil))))) .nil)
theorem lists_eq : lists = ⟨2, 4, (.cons (.asg 2 (.lst .nil))
  (.cons (.ifs (.and (.cmp .gt (.var 1) (.cst (.int 0))) (.isi (.var 0) ["list"]))
  (.cons (.expr (.bm .append (.var 2) (.cons (.var 0) .nil)))
  .nil)
  .nil)
  (.cons (.ifs (.and (.cmp .gt (.var 1) (.cst (.int 0))) (.isi (.var 0) ["list", "tuple"]))
  (.cons (.fors (.nm 3) (.seq (.var 0)) listsB) .nil)
  .nil)
  (.cons (.ret (.var 2))
  .nil))))⟩ := rfl
section
variable {g : Pg} {fs : Str → Option Fn} {s : Nat} {B : Nat → Prop}
/-- what a call of it gives -/
def ListsOk (cl : Cl) (s : Nat) (B : Nat → Prop) (j : Int) (n : Nat) : Prop := ∀ (m : M) (u : U) (d : D) (ns : List Nat), OwD n d → Rp s B m u d ns → ns.length ≤ SL → ∃ p m', cl "_law_lists" [u, .int j] m = .ok (.ref p) m' ∧ m'[p]? = some (.lst (ns.map U.ref)) ∧ Ext m m' ∧ m.length ≤ p
theorem lists_loop {cl : Cl} {n : Nat} {j : Int} {u : U} {t : IT} (H : ListsOk cl s B (j - 1) n) : ∀ {us : List U} {ds : List D} {ns : List Nat} {m : M} {p : Nat} {acc : List Nat} {o : Option U}, Rps s B m us ds ns → (∀ x ∈ ds, OwD n x) → m[p]? = some (.lst (acc.map U.ref)) → acc.length + ns.length ≤ SL → (∀ m', Ext m m' → t.ok m' = true) →
    ∃ p' m' o', forL t (.nm 3) (fun r1 m2 => exs g cl listsB r1 m2) (us.map fun x => [x]) [some u, some (.int j), some (.ref p), o] m = .ok (.nx, [some u, some (.int j), some (.ref p'), o']) m' ∧ m'[p']? = some (.lst ((acc ++ ns).map U.ref)) ∧ Ext m m' ∧ p ≤ p'
  | _, _, _, m, p, acc, o, .nil, _, hp, _, hok => by
    refine ⟨p, m, o, ?_, by rw [List.append_nil]; exact hp, Ext.refl, Nat.le_refl _⟩
    show (if t.ok m = true then _ else _) = _
    rw [if_pos (hok m Ext.refl)]
  | _, _, _, m, p, acc, o, .cons (u := v) (d := d) (us := us) (ds := ds) (ns := n1) (ns' := n2) h r, hd, hp, hl, hok => by
    rw [List.length_append] at hl
    obtain ⟨p1, m1, e1, e2, e3, _⟩ := H m v d n1 (hd d (List.mem_cons_self ..)) h (by omega)
    have hp1 := e3 _ _ hp
    have e4 : Ext m1 (m1 ++ [MO.lst ((acc ++ n1).map U.ref)]) := Ext.app
    obtain ⟨p', m', o', f1, f2, f3, f4⟩ := lists_loop (t := t) (u := u) H (o := some v) (m := m1 ++ [MO.lst ((acc ++ n1).map U.ref)]) (p := m1.length) (acc := acc ++ n1) ((e3.trans e4).rps r) (fun x hx => hd x (List.mem_cons_of_mem _ hx)) (by simp) (by rw [List.length_append]; omega) fun m2 z => hok m2 ((e3.trans e4).trans z)
    refine ⟨p', m', o', ?_, by rw [← List.append_assoc]; exact f2, (e3.trans e4).trans f3, Nat.le_trans (Nat.le_of_lt (get_lt hp1)) f4⟩
    show (if t.ok m = true then _ else _) = _
    rw [if_pos (hok m Ext.refl)]
    have hle : (acc.map U.ref).length + (n1.map U.ref).length ≤ SL := by rw [List.length_map, List.length_map]; omega
    simp only [asgT, bind_ok, listsB, exs_cons, exs_nil, exe_asg, ev_bin, ev_call, evs_cons, evs_nil, ev_var, ev_cst, q_get_z, q_get_s, q_set_z, q_set_s, bin2, opI, e1, hp1, e2, alloc, if_pos hle]
    rw [← List.map_append]
    exact f1
theorem lists_scal {k : Nat} {j : Int} {m : M} {u : U} {t : String} (h : fs "_law_lists" = some lists) (ht : ∀ m', tyOf u m' = some t) (h1 : tyOk t ["list"] = false) (h2 : tyOk t ["list", "tuple"] = false) : ∃ p m', callN g fs (k + 1) "_law_lists" [u, .int j] m = .ok (.ref p) m' ∧ m'[p]? = some (.lst (([] : List Nat).map U.ref)) ∧ Ext m m' ∧ m.length ≤ p := by
  refine ⟨m.length, m ++ [.lst []], ?_, by simp, Ext.app, Nat.le_refl _⟩
  unfold callN
  rw [h]
  by_cases hj : 0 < j
  · simp only [lists_eq, List.length_cons, List.length_nil, Nat.zero_add, ↓reduceIte, List.map_cons, List.map_nil, List.replicate, Nat.reduceSub, q_app_c, q_app_n, exs_cons, exs_nil, exe_asg, exe_ifs, exe_ret, evT, ev_lst, evs_nil, evs_cons, ev_and, ev_cmp, ev_isi, ev_var, ev_cst, bind_ok, evCmp, cmp2, truR, tru, alloc, q_get_z, q_get_s, q_set_z, q_set_s, show (0 : Nat) ≤ SL by decide, Nat.reduceAdd, hj, decide_true, ht, h1, h2, Bool.false_eq_true]
  · simp only [lists_eq, List.length_cons, List.length_nil, Nat.zero_add, ↓reduceIte, List.map_cons, List.map_nil, List.replicate, Nat.reduceSub, q_app_c, q_app_n, exs_cons, exs_nil, exe_asg, exe_ifs, exe_ret, evT, ev_lst, evs_nil, evs_cons, ev_and, ev_cmp, ev_isi, ev_var, ev_cst, bind_ok, evCmp, cmp2, truR, tru, alloc, q_get_z, q_get_s, q_set_z, q_set_s, show (0 : Nat) ≤ SL by decide, Nat.reduceAdd, hj, decide_false, Bool.false_eq_true]
theorem run_lists (h : fs "_law_lists" = some lists) : ∀ (n : Nat) (j : Int) (k : Nat), (n : Int) ≤ j → n + 1 ≤ k → ListsOk (callN g fs k) s B j n := by
  intro n
  induction n with
  | zero =>
    intro j k hj hk m u d ns hd hr hl
    obtain ⟨k, rfl⟩ : ∃ k', k = k' + 1 := ⟨k - 1, by omega⟩
    cases hd with
    | non => cases hr; exact lists_scal (t := "NoneType") h (fun _ => rfl) (by decide) (by decide)
    | bl b => cases hr; exact lists_scal (t := "bool") h (fun _ => rfl) (by decide) (by decide)
    | int b => cases hr; exact lists_scal (t := "int") h (fun _ => rfl) (by decide) (by decide)
    | str b => cases hr; exact lists_scal (t := "str") h (fun _ => rfl) (by decide) (by decide)
  | succ n ih =>
    intro j k hj hk m u d ns hd hr hl
    obtain ⟨k, rfl⟩ : ∃ k', k = k' + 1 := ⟨k - 1, by omega⟩
    cases hd with
    | non => cases hr; exact lists_scal (t := "NoneType") h (fun _ => rfl) (by decide) (by decide)
    | bl b => cases hr; exact lists_scal (t := "bool") h (fun _ => rfl) (by decide) (by decide)
    | int b => cases hr; exact lists_scal (t := "int") h (fun _ => rfl) (by decide) (by decide)
    | str b => cases hr; exact lists_scal (t := "str") h (fun _ => rfl) (by decide) (by decide)
    | @lst _ xs hx _ =>
      obtain ⟨a, us, n1, rfl, rfl, ha, r⟩ := hr.lt_inv
      have hH := ih (j - 1) k (by omega) (by omega)
      have hj0 : 0 < j := by omega
      have e1 : Ext m (m ++ [MO.lst []]) := Ext.app
      have hal : a < m.length := get_lt ha
      have e2 : Ext m ((m ++ [MO.lst []]).set m.length (.lst [.ref a])) := fun i o z => by
        rw [List.getElem?_set_ne (Nat.ne_of_gt (get_lt z))]
        exact e1 i o z
      have g1 : (m ++ [MO.lst []])[m.length]? = some (.lst []) := by simp
      have g2 : ((m ++ [MO.lst []]).set m.length (.lst [.ref a]))[m.length]? = some (.lst (([a] : List Nat).map U.ref)) := by rw [List.getElem?_set_self (by simp)]; rfl
      have g3 := e1 _ _ ha
      have g4 := e2 _ _ ha
      have g5 : lsOf ((m ++ [MO.lst []]).set m.length (.lst [.ref a])) a = some us := ls_of g4
      obtain ⟨p', m', o', f1, f2, f3, f4⟩ := lists_loop (g := g) (u := .ref a) (t := .sq true a us) hH (o := none) (e2.rps r) hx g2 (by rw [List.length_cons] at hl; simp only [List.length_cons, List.length_nil]; omega) fun m2 z => by
        simp [IT.ok, ls_of (z _ _ g4)]
      refine ⟨p', m', ?_, f2, e2.trans f3, f4⟩
      unfold callN
      rw [h]
      have ty1 : ∀ m' : M, m'[a]? = some (.lst us) → tyOf (.ref a) m' = some "list" := fun m' z => by simp only [tyOf]; rw [z]
      have y1 := ty1 _ g3
      have y2 := ty1 _ g4
      have t1 : tyOk "list" ["list"] = true := by decide
      have t2 : tyOk "list" ["list", "tuple"] = true := by decide
      simp only [lists_eq, List.length_cons, List.length_nil, Nat.zero_add, ↓reduceIte, List.map_cons, List.map_nil, List.replicate, Nat.reduceSub, q_app_c, q_app_n, exs_cons, exs_nil, exe_asg, exe_ifs, exe_ret, evT, ev_lst, evs_nil, evs_cons, ev_and, ev_cmp, ev_isi, ev_var, ev_cst, bind_ok, evCmp, cmp2, truR, tru, alloc, q_get_z, q_get_s, q_set_z, q_set_s, show (0 : Nat) ≤ SL by decide, Nat.reduceAdd, hj0, decide_true, g1, g3, y1, t1, exe_expr, ev_bm, bmOk, bm2, show (0 : Nat) < SL by decide]
      simp only [List.length_cons, List.length_nil, Nat.zero_add, ↓reduceIte, List.map_cons, List.map_nil, List.replicate, Nat.reduceSub, q_app_c, q_app_n, exs_cons, exs_nil, exe_asg, exe_ifs, exe_ret, evT, ev_lst, evs_nil, evs_cons, ev_and, ev_cmp, ev_isi, ev_var, ev_cst, bind_ok, evCmp, cmp2, truR, tru, alloc, q_get_z, q_get_s, q_set_z, q_set_s, show (0 : Nat) ≤ SL by decide, Nat.reduceAdd, g4, y2, t2, hj0, decide_true, exe_fors, evi_seq, g5, IT.items, f1]
    | @tup _ xs hx =>
      obtain ⟨a, us, rfl, ha, r⟩ := hr.tp
      have hH := ih (j - 1) k (by omega) (by omega)
      have hj0 : 0 < j := by omega
      have e1 : Ext m (m ++ [MO.lst []]) := Ext.app
      have tpx : ∀ {m1 m2 : M}, Ext m1 m2 → tpOf m1 a = some us → tpOf m2 a = some us := fun e z => tpOf_of z fun o q => e _ _ q
      have g4 := tpx e1 ha
      have g5 : lsOf (m ++ [MO.lst []]) a = none := by
        unfold tpOf at g4
        unfold lsOf
        cases z : (m ++ [MO.lst []])[a]? with
        | none => rfl
        | some o => rw [z] at g4; cases o <;> first | rfl | cases g4
      have g1 : (m ++ [MO.lst []])[m.length]? = some (.lst (([] : List Nat).map U.ref)) := by simp
      obtain ⟨p', m', o', f1, f2, f3, f4⟩ := lists_loop (g := g) (u := .ref a) (t := .sq false a us) hH (o := none) (e1.rps r) hx g1 (by simp only [List.length_nil]; omega) fun m2 z => by
        simp [IT.ok, tpx z g4]
      refine ⟨p', m', ?_, f2, e1.trans f3, f4⟩
      unfold callN
      rw [h]
      have ty1 : tyOf (.ref a) (m ++ [MO.lst []]) = some "tuple" := by
        unfold tpOf at g4
        simp only [tyOf]
        cases z : (m ++ [MO.lst []])[a]? with
        | none => rw [z] at g4; cases g4
        | some o => rw [z] at g4; cases o <;> first | rfl | cases g4
      have t1 : tyOk "tuple" ["list"] = false := by decide
      have t2 : tyOk "tuple" ["list", "tuple"] = true := by decide
      simp only [lists_eq, List.length_cons, List.length_nil, Nat.zero_add, ↓reduceIte, List.map_cons, List.map_nil, List.replicate, Nat.reduceSub, q_app_c, q_app_n, exs_cons, exs_nil, exe_asg, exe_ifs, exe_ret, evT, ev_lst, evs_nil, evs_cons, ev_and, ev_cmp, ev_isi, ev_var, ev_cst, bind_ok, evCmp, cmp2, truR, tru, alloc, q_get_z, q_get_s, q_set_z, q_set_s, show (0 : Nat) ≤ SL by decide, Nat.reduceAdd, hj0, decide_true, ty1, t1, t2, Bool.false_eq_true, exe_fors, evi_seq, g4, g5, IT.items, f1]
theorem own_len : ∀ (n : Nat) {m : M} {u : U} {d : D} {ns : List Nat}, OwD n d → Rp s B m u d ns → ∀ a ∈ ns, ∃ us, m[a]? = some (.lst us) ∧ us.length < SL
  | 0, m, u, d, ns, hd, hr, a, ha => by cases hd <;> cases hr <;> cases ha
  | n + 1, m, u, d, ns, hd, hr, a, ha => by
    have all : ∀ {us : List U} {ds : List D} {ns : List Nat}, Rps s B m us ds ns → (∀ x ∈ ds, OwD n x) → ∀ a ∈ ns, ∃ us, m[a]? = some (.lst us) ∧ us.length < SL := by
      intro us ds
      induction ds generalizing us with
      | nil => intro ns h _ a ha; cases h; cases ha
      | cons d ds ih =>
        intro ns h hx a ha
        cases h with
        | cons h r =>
          rcases List.mem_append.mp ha with ha | ha
          · exact own_len n (hx _ (List.mem_cons_self ..)) h a ha
          · exact ih r (fun x hx' => hx x (List.mem_cons_of_mem _ hx')) a ha
    cases hd with
    | non => cases hr; cases ha
    | bl b => cases hr; cases ha
    | int b => cases hr; cases ha
    | str b => cases hr; cases ha
    | @lst _ xs hx hl =>
      obtain ⟨p, us, n1, rfl, rfl, hp, r⟩ := hr.lt_inv
      rcases List.mem_cons.mp ha with rfl | ha
      · exact ⟨us, hp, by rw [r.len]; exact hl⟩
      · exact all r hx a ha
    | @tup _ xs hx =>
      obtain ⟨p, us, rfl, hp, r⟩ := hr.tp
      exact all r hx a ha
def lenAt (m : M) (a : Nat) : Nat := match m[a]? with
  | some (.lst us) => us.length
  | _ => 0
theorem lenAt_of {m : M} {a : Nat} {us : List U} (h : m[a]? = some (.lst us)) : lenAt m a = us.length := by unfold lenAt; rw [h]
theorem set_self {m : M} {a : Nat} {o : MO} (h : m[a]? = some o) : m.set a o = m := by
  apply List.ext_getElem?
  intro i
  by_cases e : a = i
  · subst e; rw [List.getElem?_set_self (get_lt h), h]
  · rw [List.getElem?_set_ne e]
theorem len_loop {turn : Env → M → R Unit} {refs : List U} {p D0 : Nat} {r : Env} {f : Nat → Int} (hturn : ∀ (m : M) (a : Nat) (us : List U) (acc : List Int), m[a]? = some (.lst us) → m[D0]? = some (.lst (acc.map U.int)) → acc.length < SL → turn (r.set 4 (some (.ref a))) m = .ok () (m.set D0 (.lst ((acc ++ [f us.length]).map U.int)))) (hpD : p ≠ D0) :
    ∀ (as : List Nat) (acc : List Int) (m : M), m[D0]? = some (.lst (acc.map U.int)) → lsOf m p = some refs → (∀ a ∈ as, a ≠ D0 ∧ ∃ us, m[a]? = some (.lst us)) → acc.length + as.length ≤ SL → lcL (.sq true p refs) (.nm 4) r turn ((as.map U.ref).map fun x => [x]) m = .ok () (m.set D0 (.lst ((acc ++ as.map fun a => f (lenAt m a)).map U.int)))
  | [], acc, m, h1, h2, _, _ => by
    show (if (IT.sq true p refs).ok m = true then _ else _) = _
    rw [if_pos (by simp [IT.ok, h2]), List.map_nil, List.append_nil, set_self h1]
  | a :: as, acc, m, h1, h2, h3, h4 => by
    rw [List.length_cons] at h4
    obtain ⟨ha, us, hu⟩ := h3 a (List.mem_cons_self ..)
    have hl := get_lt h1
    have ne : ∀ {i : Nat} {x : MO}, i ≠ D0 → (m.set D0 x)[i]? = m[i]? := fun {i x} e => List.getElem?_set_ne (Ne.symm e)
    have hls : lsOf (m.set D0 (.lst ((acc ++ [f us.length]).map U.int))) p = some refs := by unfold lsOf at *; rw [ne hpD]; exact h2
    have ih := len_loop hturn hpD as (acc ++ [f us.length]) (m.set D0 (.lst ((acc ++ [f us.length]).map U.int))) (List.getElem?_set_self hl) hls (fun x hx => ⟨(h3 x (List.mem_cons_of_mem _ hx)).1, by rw [ne (h3 x (List.mem_cons_of_mem _ hx)).1]; exact (h3 x (List.mem_cons_of_mem _ hx)).2⟩) (by simp; omega)
    show (if (IT.sq true p refs).ok m = true then _ else _) = _
    rw [if_pos (by simp [IT.ok, h2])]
    show ((R.ok (r.set 4 (some (.ref a))) m).bind fun r1 m1 => (turn r1 m1).bind fun _ m2 => lcL (.sq true p refs) (.nm 4) r turn ((as.map U.ref).map fun x => [x]) m2) = _
    rw [bind_ok, hturn m a us acc hu h1 (by omega), bind_ok, ih, List.set_set]
    have e : (as.map fun x => f (lenAt (m.set D0 (.lst ((acc ++ [f us.length]).map U.int))) x)) = as.map fun x => f (lenAt m x) := List.map_congr_left fun x hx => by
      unfold lenAt
      rw [ne (h3 x (List.mem_cons_of_mem _ hx)).1]
    rw [e, List.map_cons, lenAt_of hu, List.append_assoc]
    rfl
def app1 (m : M) (a : Nat) : M := match m[a]? with
  | some (.lst us) => m.set a (.lst (us ++ [.int 99]))
  | _ => m
theorem app1_of {m : M} {a : Nat} {us : List U} (h : m[a]? = some (.lst us)) : app1 m a = m.set a (.lst (us ++ [.int 99])) := by unfold app1; rw [h]
theorem app1_ne {m : M} {a i : Nat} (e : i ≠ a) : (app1 m a)[i]? = m[i]? := by
  unfold app1
  split
  · rw [List.getElem?_set_ne (Ne.symm e)]
  · rfl
theorem appL_ne : ∀ (as : List Nat) (m : M) (i : Nat), i ∉ as → (as.foldl app1 m)[i]? = m[i]?
  | [], m, i, _ => rfl
  | a :: as, m, i, h => by
    show (as.foldl app1 (app1 m a))[i]? = _
    rw [appL_ne as _ i (fun z => h (List.mem_cons_of_mem _ z)), app1_ne (fun (e : i = a) => h (by rw [e]; exact List.mem_cons_self ..))]
theorem appL_len (as : List Nat) : ∀ (m : M), (as.foldl app1 m).length = m.length := by
  induction as with
  | nil => intro m; rfl
  | cons a as ih =>
    intro m
    show (as.foldl app1 (app1 m a)).length = _
    rw [ih]
    unfold app1
    split <;> simp
theorem appL_at : ∀ (as : List Nat) (m : M), as.Nodup → (∀ a ∈ as, ∃ us, m[a]? = some (.lst us)) → ∀ a ∈ as, ∃ us, m[a]? = some (.lst us) ∧ (as.foldl app1 m)[a]? = some (.lst (us ++ [.int 99]))
  | [], _, _, _, a, h => by cases h
  | b :: as, m, nd, hh, a, h => by
    have nd' := List.nodup_cons.mp nd
    obtain ⟨ub, hb⟩ := hh b (List.mem_cons_self ..)
    have e1 := app1_of hb
    by_cases e : a = b
    · subst e
      refine ⟨ub, hb, ?_⟩
      show (as.foldl app1 (app1 m a))[a]? = _
      rw [appL_ne as _ a nd'.1, e1, List.getElem?_set_self (get_lt hb)]
    · have ha : a ∈ as := (List.mem_cons.mp h).resolve_left e
      obtain ⟨ua, h1, h2⟩ := appL_at as (app1 m b) nd'.2 (fun x hx => by
        have hx' : x ≠ b := fun z => nd'.1 (z ▸ hx)
        rw [app1_ne hx']
        exact hh x (List.mem_cons_of_mem _ hx)) a ha
      rw [app1_ne e] at h1
      exact ⟨ua, h1, h2⟩
def appB : MSs := (.cons (.asg 4 (.idx (.var 1) (.var 3))) (.cons (.expr (.bm .append (.var 4) (.cons (.cst (.int 99)) .nil))) .nil))
theorem app_loop {cl : Cl} {p n : Nat} {o0 o2 : Option U} : ∀ (as done : List Nat) (m : M) (o3 o4 : Option U), m[p]? = some (.lst ((done ++ as).map U.ref)) → p ∉ as → (∀ a ∈ as, ∃ us, m[a]? = some (.lst us) ∧ us.length < SL) → as.Nodup →
    ∃ o3' o4', forL (.rng 0 n) (.nm 3) (fun r1 m2 => exs g cl appB r1 m2) (rngF done.length as.length) [o0, some (.ref p), o2, o3, o4] m = .ok (.nx, [o0, some (.ref p), o2, o3', o4']) (as.foldl app1 m)
  | [], done, m, o3, o4, hp, _, _, _ => ⟨o3, o4, rfl⟩
  | a :: as, done, m, o3, o4, hp, hpn, hh, nd => by
    have nd' := List.nodup_cons.mp nd
    obtain ⟨us, hu, hl⟩ := hh a (List.mem_cons_self ..)
    have hpa : p ≠ a := fun e => hpn (e ▸ List.mem_cons_self ..)
    have e1 := app1_of hu
    have hp' : (app1 m a)[p]? = some (.lst (((done ++ [a]) ++ as).map U.ref)) := by rw [app1_ne hpa, List.append_assoc]; exact hp
    obtain ⟨o3', o4', ih⟩ := app_loop (cl := cl) (n := n) (o0 := o0) (o2 := o2) as (done ++ [a]) (app1 m a) (some (.int done.length)) (some (.ref a)) hp' (fun z => hpn (List.mem_cons_of_mem _ z)) (fun x hx => by
      rw [app1_ne (fun (z : x = a) => nd'.1 (z ▸ hx))]
      exact hh x (List.mem_cons_of_mem _ hx)) nd'.2
    refine ⟨o3', o4', ?_⟩
    have at1 : L2.atI ((done ++ a :: as).map U.ref) (done.length : Int) = some (.ref a) := by
      rw [atI_nat (by simp)]
      simp
    have sq : seqOf m p = some ((done ++ a :: as).map U.ref) := lsOf_seq (ls_of hp)
    rw [List.length_append, List.length_cons, List.length_nil] at ih
    show forL (.rng 0 n) (.nm 3) _ ([.int done.length] :: rngF (done.length + 1) as.length) _ m = _
    unfold forL
    rw [if_pos (show (IT.rng 0 n).ok m = true from rfl)]
    simp only [asgT, bind_ok, appB, exs_cons, exs_nil, exe_asg, exe_expr, ev_idx, ev_var, ev_cst, ev_bm, evs_cons, evs_nil, q_get_z, q_get_s, q_set_z, q_set_s, idx2, sq, at1, bmOk, bm2, hu, ↓reduceIte, hl]
    rw [← e1]
    exact ih
theorem depth_ints : ∀ is : List Int, PyData.depthAll (is.map PyData.int) ≤ 1
  | [] => by simp [PyData.depthAll]
  | i :: is => by have := depth_ints is; simp only [List.map_cons, PyData.depthAll, PyData.depth]; omega
theorem lay_ints : ∀ is : List Int, PyData.canLayAll0 (is.map PyData.int) = true
  | [] => rfl
  | i :: is => by show (PyData.canLay0 (.int i) && PyData.canLayAll0 (is.map PyData.int)) = true; rw [lay_ints is]; rfl
theorem dat_ints (m : M) (n : Nat) : ∀ is : List Int, (is.map U.int).mapM (datU m n) = some (is.map PyData.int)
  | [] => by simp
  | i :: is => by
    rw [List.map_cons, List.mapM_cons, dat_ints m n is]
    cases n <;> rfl
theorem eq_ints {m : M} {a b : Nat} {is : List Int} (ha : lsOf m a = some (is.map U.int)) (hb : lsOf m b = some (is.map U.int)) : eqU (.ref a) (.ref b) m = some true := by
  unfold eqU
  rw [if_neg (show ¬ scalU (.ref a) (.ref b) = true from fun z => nomatch z)]
  have d : ∀ x, lsOf m x = some (is.map U.int) → datU m 30 (.ref x) = some (.list (is.map PyData.int)) := fun x hx => by
    rw [dat_ls hx, dat_ints]
    rfl
  rw [d a ha, d b hb]
  have sh : SeqAt.shaped (.list (is.map PyData.int)) = true := by
    unfold SeqAt.shaped
    have h1 : PyData.canLay0 (.list (is.map PyData.int)) = true := lay_ints is
    have h2 : PyData.depth (.list (is.map PyData.int)) ≤ 64 := by
      have := depth_ints is
      simp only [PyData.depth]
      omega
    rw [h1]
    simp [h2]
  have ev : PyData.eqv (.list (is.map PyData.int)) (.list (is.map PyData.int)) = true := SeqAt.eqv_refl _ (lay_ints is)
  show (if (SeqAt.shaped _ && SeqAt.shaped _) = true then some _ else none) = _
  rw [sh, ev]
  rfl
theorem lc_lens {cl : Cl} {elt : ME} {f : Nat → Int} {r : Env} {m : M} {p : Nat} {ns : List Nat} (helt : ∀ (m : M) (r : Env) (a : Nat) (us : List U), r[4]? = some (some (.ref a)) → m[a]? = some (.lst us) → ev g cl elt r m = .ok (.int (f us.length)) m)
    (hr1 : r[1]? = some (some (.ref p))) (hr : 4 < r.length) (hps : lsOf m p = some (ns.map U.ref)) (hnl : ∀ a ∈ ns, ∃ us, m[a]? = some (.lst us)) (hN : ns.length ≤ SL) :
    ev g cl (.lc elt (.nm 4) (.seq (.var 1)) (.cst (.bl true)) [4]) r m = .ok (.ref m.length) (m ++ [MO.lst ((ns.map fun a => f (lenAt m a)).map U.int)]) := by
  have hpl := lsOf_lt hps
  have ap : ∀ {i : Nat}, i < m.length → (m ++ [MO.lst []])[i]? = m[i]? := fun {i} h => List.getElem?_append_left h
  have hps' : lsOf (m ++ [MO.lst []]) p = some (ns.map U.ref) := by unfold lsOf at *; rw [ap hpl]; exact hps
  have hlt : ∀ a ∈ ns, a < m.length := fun a ha => let ⟨_, z⟩ := hnl a ha; get_lt z
  have L := len_loop (D0 := m.length) (r := wipeU r [4]) (refs := ns.map U.ref) (p := p) (f := f) (turn := fun r1 m2 => (ev g cl (.cst (.bl true)) r1 m2).bind fun x m3 => (truR x m3).bind fun k m4 => if k = true then (ev g cl elt r1 m4).bind fun u m5 => pushTo m.length u m5 else .ok () m4)
    (fun m' a us acc h1 h2 h3 => by
      have e : ((wipeU r [4]).set 4 (some (.ref a)))[4]? = some (some (.ref a)) := List.getElem?_set_self (by simp [wipeU]; exact hr)
      have e2 := helt m' _ a us e h1
      simp only [ev_cst, bind_ok, truR, tru, ↓reduceIte, e2, pushTo, h2, List.length_map, h3]
      simp) (Nat.ne_of_lt hpl) ns [] (m ++ [MO.lst []]) (by simp) hps' (fun a ha => ⟨Nat.ne_of_lt (hlt a ha), by rw [ap (hlt a ha)]; exact hnl a ha⟩) (by simpa using hN)
  have e1 : (ns.map fun a => f (lenAt (m ++ [MO.lst []]) a)) = ns.map fun a => f (lenAt m a) := List.map_congr_left fun a ha => by
    unfold lenAt
    rw [ap (hlt a ha)]
  have e2 : (m ++ [MO.lst []]).set m.length (.lst ((ns.map fun a => f (lenAt m a)).map U.int)) = m ++ [MO.lst ((ns.map fun a => f (lenAt m a)).map U.int)] := by
    rw [List.set_append_right _ _ (Nat.le_refl _), Nat.sub_self]
    rfl
  rw [List.nil_append, e1, e2] at L
  rw [ev_lc, evi_seq, ev_var, hr1]
  simp only [bind_ok, hps, IT.items]
  rw [L]
  rfl
theorem apart_eq : apart = ⟨1, 5, (.cons (.asg 1 (.call "_law_lists" (.cons (.var 0) (.cons (.cst (.int 20)) .nil))))
  (.cons (.asg 2 (.lc (.blt .len (.cons (.var 4) .nil)) (.nm 4) (.seq (.var 1)) (.cst (.bl true)) [4]))
  (.cons (.fors (.nm 3) (.rng (.blt .len (.cons (.var 1) .nil))) appB)
  (.cons (.ret (.cmp .eq (.lc (.bin .sub (.blt .len (.cons (.var 4) .nil)) (.cst (.int 1))) (.nm 4) (.seq (.var 1)) (.cst (.bl true)) [4]) (.var 2)))
  .nil))))⟩ := rfl
theorem run_apart (h : fs "_law_apart" = some apart) (hl : fs "_law_lists" = some lists) {n k : Nat} (hn : n ≤ 20) (hk : n + 2 ≤ k) {m : M} {u : U} {d : D} {ns : List Nat} (hd : OwD n d) (hr : Rp s B m u d ns) (hN : ns.length ≤ SL) (nd : ns.Nodup) :
    ∃ m', callN g fs k "_law_apart" [u] m = .ok (.bl true) m' ∧ m.length ≤ m'.length ∧ ∀ (i : Nat) (o : MO), i ∉ ns → m[i]? = some o → m'[i]? = some o := by
  obtain ⟨k, rfl⟩ : ∃ k', k = k' + 1 := ⟨k - 1, by omega⟩
  obtain ⟨p, m1, e1, e2, e3, e4⟩ := run_lists (g := g) (s := s) (B := B) hl n 20 k (by omega) (by omega) m u d ns hd hr hN
  have hlen := own_len n hd hr
  have hpl := get_lt e2
  have hnl : ∀ a ∈ ns, ∃ us, m1[a]? = some (.lst us) ∧ us.length < SL := fun a ha => let ⟨us, h1, h2⟩ := hlen a ha; ⟨us, e3 _ _ h1, h2⟩
  have hml : m.length ≤ m1.length := by
    by_cases h0 : m.length = 0
    · omega
    · have : m.length - 1 < m.length := by omega
      have := get_lt (e3 (m.length - 1) _ (List.getElem?_eq_getElem this))
      omega
  have hpn : p ∉ ns := fun z => by
    obtain ⟨us, h1, _⟩ := hlen p z
    exact Nat.lt_irrefl _ (Nat.lt_of_lt_of_le (get_lt h1) e4)
  have hnm : ∀ a ∈ ns, a < m1.length := fun a ha => let ⟨_, h1, _⟩ := hnl a ha; get_lt h1
  have hps : lsOf m1 p = some (ns.map U.ref) := ls_of e2
  have elt1 : ∀ (m : M) (r : Env) (a : Nat) (us : List U), r[4]? = some (some (.ref a)) → m[a]? = some (.lst us) → ev g (callN g fs k) (.blt .len (.cons (.var 4) .nil)) r m = .ok (.int (us.length : Nat)) m := fun m r a us h1 h2 => by
    have sq : seqOf m a = some us := lsOf_seq (ls_of h2)
    simp only [ev_blt, evs_cons, evs_nil, ev_var, h1, bind_ok, blt2, sq]
  have elt2 : ∀ (m : M) (r : Env) (a : Nat) (us : List U), r[4]? = some (some (.ref a)) → m[a]? = some (.lst us) → ev g (callN g fs k) (.bin .sub (.blt .len (.cons (.var 4) .nil)) (.cst (.int 1))) r m = .ok (.int ((us.length : Int) - 1)) m := fun m r a us h1 h2 => by
    rw [ev_bin, elt1 m r a us h1 h2]
    rfl
  have E1 := lc_lens (f := fun (n : Nat) => (n : Int)) (r := [some u, some (.ref p), none, none, none]) elt1 rfl (by simp) hps (fun a ha => let ⟨us, h1, _⟩ := hnl a ha; ⟨us, h1⟩) hN
  obtain ⟨m2, hm2⟩ : ∃ m2, m2 = m1 ++ [MO.lst ((ns.map fun a => ((lenAt m1 a : Nat) : Int)).map U.int)] := ⟨_, rfl⟩
  rw [← hm2] at E1
  have x12 : Ext m1 m2 := hm2 ▸ Ext.app
  have hp2 := x12 _ _ e2
  have hnl2 : ∀ a ∈ ns, ∃ us, m2[a]? = some (.lst us) ∧ us.length < SL := fun a ha => let ⟨us, h1, h2⟩ := hnl a ha; ⟨us, x12 _ _ h1, h2⟩
  obtain ⟨o3, o4, E2⟩ := app_loop (g := g) (cl := callN g fs k) (n := ns.length) (o0 := some u) (o2 := some (.ref m1.length)) ns [] m2 none none (p := p) hp2 hpn hnl2 nd
  obtain ⟨m3, hm3⟩ : ∃ m3, m3 = ns.foldl app1 m2 := ⟨_, rfl⟩
  rw [← hm3] at E2
  have hp3 : m3[p]? = some (.lst (ns.map U.ref)) := by rw [hm3, appL_ne _ _ _ hpn]; exact hp2
  have at3 : ∀ a ∈ ns, ∃ us, m2[a]? = some (.lst us) ∧ m3[a]? = some (.lst (us ++ [.int 99])) := fun a ha => hm3 ▸ appL_at ns m2 nd (fun a ha => let ⟨us, h1, _⟩ := hnl2 a ha; ⟨us, h1⟩) a ha
  have E3 := lc_lens (f := fun (n : Nat) => (n : Int) - 1) (r := [some u, some (.ref p), some (.ref m1.length), o3, o4]) elt2 rfl (by simp) (ls_of hp3) (fun a ha => let ⟨us, _, h2⟩ := at3 a ha; ⟨_, h2⟩) hN
  have hsz : (ns.map fun a => ((lenAt m3 a : Nat) : Int) - 1) = ns.map fun a => ((lenAt m1 a : Nat) : Int) := List.map_congr_left fun a ha => by
    obtain ⟨us, h1, h2⟩ := at3 a ha
    obtain ⟨us1, h3, _⟩ := hnl a ha
    have h4 := x12 _ _ h3
    rw [h4] at h1
    cases h1
    rw [lenAt_of h2, lenAt_of h3, List.length_append]
    simp
  rw [hsz] at E3
  have hD1 : m1.length ∉ ns := fun z => Nat.lt_irrefl _ (hnm _ z)
  have hs1 : m3[m1.length]? = some (.lst ((ns.map fun a => ((lenAt m1 a : Nat) : Int)).map U.int)) := by
    rw [hm3, appL_ne _ _ _ hD1, hm2]
    simp
  have l2 : m2.length = m1.length + 1 := by rw [hm2]; simp
  have l3 : m3.length = m2.length := by rw [hm3, appL_len]
  refine ⟨m3 ++ [MO.lst ((ns.map fun a => ((lenAt m1 a : Nat) : Int)).map U.int)], ?_, by rw [List.length_append]; omega, fun i o hi z => ?_⟩
  · have q1 : eqU (.ref m3.length) (.ref m1.length) (m3 ++ [MO.lst ((ns.map fun a => ((lenAt m1 a : Nat) : Int)).map U.int)]) = some true := eq_ints (is := ns.map fun a => ((lenAt m1 a : Nat) : Int)) (ls_of (by simp)) (ls_of (Ext.app _ _ hs1))
    have sq : seqOf m2 p = some (ns.map U.ref) := lsOf_seq (ls_of hp2)
    have rb : (-(2 ^ 62) ≤ ((ns.length : Nat) : Int) ∧ ((ns.length : Nat) : Int) < 2 ^ 62) := by simp only [SL] at hN; omega
    have S1 : exe g (callN g fs k) (.asg 1 (.call "_law_lists" (.cons (.var 0) (.cons (.cst (.int 20)) .nil)))) [some u, none, none, none, none] m = .ok (.nx, [some u, some (.ref p), none, none, none]) m1 := by
      rw [exe_asg, ev_call, evs_cons, ev_var]
      simp only [q_get_z, bind_ok, evs_cons, evs_nil, ev_cst, e1, q_set_z, q_set_s]
    have S2 : exe g (callN g fs k) (.asg 2 (.lc (.blt .len (.cons (.var 4) .nil)) (.nm 4) (.seq (.var 1)) (.cst (.bl true)) [4])) [some u, some (.ref p), none, none, none] m1 = .ok (.nx, [some u, some (.ref p), some (.ref m1.length), none, none]) m2 := by
      rw [exe_asg, E1, bind_ok]
      simp only [q_set_z, q_set_s]
    have I3 : evi g (callN g fs k) (.rng (.blt .len (.cons (.var 1) .nil))) [some u, some (.ref p), some (.ref m1.length), none, none] m2 = .ok (.rng 0 ns.length) m2 := by
      have hb : ev g (callN g fs k) (.blt .len (.cons (.var 1) .nil)) [some u, some (.ref p), some (.ref m1.length), none, none] m2 = .ok (.int (ns.length : Nat)) m2 := by
        rw [ev_blt, evs_cons, ev_var]
        simp only [q_get_z, q_get_s, bind_ok, evs_nil, blt2, sq, List.length_map]
      rw [evi_rng, hb, bind_ok]
      show (if -(2 ^ 62) ≤ ((ns.length : Nat) : Int) ∧ ((ns.length : Nat) : Int) < 2 ^ 62 then R.ok (IT.rng 0 ((ns.length : Nat) : Int).toNat) m2 else R.stuck) = _
      rw [if_pos rb, Int.toNat_natCast]
    have S3 : exe g (callN g fs k) (.fors (.nm 3) (.rng (.blt .len (.cons (.var 1) .nil))) appB) [some u, some (.ref p), some (.ref m1.length), none, none] m2 = .ok (.nx, [some u, some (.ref p), some (.ref m1.length), o3, o4]) m3 := by
      rw [exe_fors, I3, bind_ok]
      exact E2
    have S4 : exe g (callN g fs k) (.ret (.cmp .eq (.lc (.bin .sub (.blt .len (.cons (.var 4) .nil)) (.cst (.int 1))) (.nm 4) (.seq (.var 1)) (.cst (.bl true)) [4]) (.var 2))) [some u, some (.ref p), some (.ref m1.length), o3, o4] m3 = .ok (.rt (.bl true), [some u, some (.ref p), some (.ref m1.length), o3, o4]) (m3 ++ [MO.lst ((ns.map fun a => ((lenAt m1 a : Nat) : Int)).map U.int)]) := by
      rw [exe_ret, ev_cmp, E3, bind_ok, ev_var]
      simp only [q_get_z, q_get_s, bind_ok, evCmp, cmp2, q1]
    unfold callN
    rw [h, apart_eq]
    show ((exs g (callN g fs k) _ [some u, none, none, none, none] m).bind _) = _
    rw [exs_cons, S1, bind_ok]
    show ((exs g (callN g fs k) _ [some u, some (.ref p), none, none, none] m1).bind _) = _
    rw [exs_cons, S2, bind_ok]
    show ((exs g (callN g fs k) _ [some u, some (.ref p), some (.ref m1.length), none, none] m2).bind _) = _
    rw [exs_cons, S3, bind_ok]
    show ((exs g (callN g fs k) _ [some u, some (.ref p), some (.ref m1.length), o3, o4] m3).bind _) = _
    rw [exs_cons, S4, bind_ok]
    rfl
  · have z1 := e3 _ _ z
    have z2 := x12 _ _ z1
    have z3 : m3[i]? = some o := by rw [hm3, appL_ne _ _ _ hi]; exact z2
    exact Ext.app _ _ z3
end
end Py.LL
set_option maxHeartbeats 0
/-! The head of the law's text: its defs as mini terms, what the top says of them. Printed by genLaw.py. -/
namespace K80
open PySem PySem.Spec PyProof.Rows L2 Py
abbrev row : PySem.W.OpenLaw := PySem.Challenge.rw_mendsontime_k80_deals_and_shares
abbrev R : PySem.W.OpenRow := PySem.W.OpenLaw.row row
def top (i : Nat) : Stmt := PySem.Challenge.pw_mendsontime_k80_deals_and_shares.main.body.getD i (.Pass ⟨0, 0, 0, 0⟩)
def clsBody : Stmt → List Stmt
  | .ClassDef _ _ _ b _ _ _ _ _ _ _ => b
  | _ => []
def cini (i : Nat) : Stmt := (clsBody (top i)).getD 0 (.Pass ⟨0, 0, 0, 0⟩)
def fn_is_whole : Fn := ⟨1, 1, (.cons (.ret (.and (.isi (.var 0) ["int"]) (.not (.isi (.var 0) ["bool"]))))
  .nil)⟩
def dd_is_whole : DD := ⟨"is_whole", defArgs (top 11), defBody (top 11), defScope (top 11), fn_is_whole, ["value"], ["value"]⟩
def fn_check_number : Fn := ⟨4, 4, (.cons (.ifs (.and (.call "is_whole" (.cons (.var 0) .nil)) (.chn .le .le (.var 1) (.var 0) (.var 2)))
  (.cons (.ret (.var 0))
  .nil)
  .nil)
  (.cons (.raise "BadNumber" (.cons (.var 3) .nil))
  .nil))⟩
def dd_check_number : DD := ⟨"check_number", defArgs (top 12), defBody (top 12), defScope (top 12), fn_check_number, ["value", "low", "high", "argument"], ["value", "low", "high", "argument"]⟩
def fn_common_measure : Fn := ⟨2, 4, (.cons (.asg 2 (.var 0))
  (.cons (.asg 3 (.var 1))
  (.cons (.whl (.cmp .ne (.var 3) (.cst (.int 0)))
  (.cons (.par 2 3 (.var 3) (.bin .mod (.var 2) (.var 3)))
  .nil))
  (.cons (.ret (.var 2))
  .nil))))⟩
def dd_common_measure : DD := ⟨"common_measure", defArgs (top 14), defBody (top 14), defScope (top 14), fn_common_measure, ["first", "second", "high", "low"], ["first", "second"]⟩
def fn_lowest_share : Fn := ⟨2, 3, (.cons (.asg 2 (.call "common_measure" (.cons (.var 0) (.cons (.var 1) .nil))))
  (.cons (.ret (.tup (.cons (.bin .fdiv (.var 0) (.var 2)) (.cons (.bin .fdiv (.var 1) (.var 2)) .nil))))
  .nil))⟩
def dd_lowest_share : DD := ⟨"lowest_share", defArgs (top 16), defBody (top 16), defScope (top 16), fn_lowest_share, ["top", "bottom", "measure"], ["top", "bottom"]⟩
def fn_share_of : Fn := ⟨2, 2, (.cons (.expr (.call "check_number" (.cons (.var 0) (.cons (.cst (.int 0)) (.cons (.cst (.int 1000)) (.cons (.cst (.str "letters")) .nil))))))
  (.cons (.expr (.call "check_number" (.cons (.var 1) (.cons (.cst (.int 1)) (.cons (.cst (.int 1000)) (.cons (.cst (.str "signs")) .nil))))))
  (.cons (.ret (.call "lowest_share" (.cons (.var 0) (.cons (.var 1) .nil))))
  .nil)))⟩
def dd_share_of : DD := ⟨"share_of", defArgs (top 17), defBody (top 17), defScope (top 17), fn_share_of, ["letters", "signs"], ["letters", "signs"]⟩
def fn_share_at_most : Fn := ⟨2, 2, (.cons (.ret (.cmp .le (.bin .mul (.idx (.var 0) (.cst (.int 0))) (.idx (.var 1) (.cst (.int 1)))) (.bin .mul (.idx (.var 1) (.cst (.int 0))) (.idx (.var 0) (.cst (.int 1))))))
  .nil)⟩
def dd_share_at_most : DD := ⟨"share_at_most", defArgs (top 18), defBody (top 18), defScope (top 18), fn_share_at_most, ["share", "other"], ["share", "other"]⟩
def fn_check_links : Fn := ⟨2, 2, (.cons (.ifs (.or (.not (.isi (.var 0) ["list"])) (.not (.chn .le .le (.cst (.int 1)) (.blt .len (.cons (.var 0) .nil)) (.glo "MOST_LINKS"))))
  (.cons (.raise "BadShape" (.cons (.var 1) .nil))
  .nil)
  .nil)
  .nil)⟩
def dd_check_links : DD := ⟨"check_links", defArgs (top 23), defBody (top 23), defScope (top 23), fn_check_links, ["value", "argument"], ["value", "argument"]⟩
def fn_check_bursts : Fn := ⟨1, 2, (.cons (.expr (.call "check_links" (.cons (.var 0) (.cons (.cst (.str "bursts")) .nil))))
  (.cons (.fors (.nm 1) (.seq (.var 0))
  (.cons (.expr (.call "check_number" (.cons (.var 1) (.cons (.cst (.int 0)) (.cons (.cst (.int 6)) (.cons (.cst (.str "bursts")) .nil))))))
  .nil))
  .nil))⟩
def dd_check_bursts : DD := ⟨"check_bursts", defArgs (top 24), defBody (top 24), defScope (top 24), fn_check_bursts, ["bursts", "burst"], ["bursts"]⟩
def fn_check_delays : Fn := ⟨2, 4, (.cons (.ifs (.or (.not (.isi (.var 0) ["list"])) (.cmp .ne (.blt .len (.cons (.var 0) .nil)) (.blt .len (.cons (.var 1) .nil))))
  (.cons (.raise "BadShape" (.cons (.cst (.str "delays")) .nil))
  .nil)
  .nil)
  (.cons (.fors (.tp [2, 3]) (.zip (.var 0) (.var 1))
  (.cons (.expr (.call "check_number" (.cons (.var 2) (.cons (.call "least_delay_of" (.cons (.var 3) .nil)) (.cons (.glo "MOST_DELAY") (.cons (.cst (.str "delays")) .nil))))))
  .nil))
  .nil))⟩
def dd_check_delays : DD := ⟨"check_delays", defArgs (top 25), defBody (top 25), defScope (top 25), fn_check_delays, ["delays", "bursts", "delay", "burst"], ["delays", "bursts"]⟩
def fn_least_delay_of : Fn := ⟨1, 1, (.cons (.ret (.blt .max (.cons (.cst (.int 1)) (.cons (.var 0) .nil))))
  .nil)⟩
def dd_least_delay_of : DD := ⟨"least_delay_of", defArgs (top 26), defBody (top 26), defScope (top 26), fn_least_delay_of, ["burst"], ["burst"]⟩
def fn_deals : Fn := ⟨2, 6, (.cons (.expr (.call "check_bursts" (.cons (.var 0) .nil)))
  (.cons (.expr (.call "check_number" (.cons (.var 1) (.cons (.cst (.int 1)) (.cons (.glo "MOST_TOTAL") (.cons (.cst (.str "total")) .nil))))))
  (.cons (.asg 2 (.lst (.cons (.lst .nil) .nil)))
  (.cons (.fors (.nm 3) (.seq (.var 0))
  (.cons (.asg 2 (.lc2 (.bin .add (.var 4) (.lst (.cons (.var 5) .nil))) (.nm 4) (.seq (.var 2)) (.cst (.bl true)) (.nm 5) (.rng2 (.call "least_delay_of" (.cons (.var 3) .nil)) (.bin .add (.glo "MOST_DELAY") (.cst (.int 1)))) (.cmp .le (.bin .add (.blt .sum (.cons (.var 4) .nil)) (.var 5)) (.var 1)) [4, 5] [5]))
  .nil))
  (.cons (.ret (.var 2))
  .nil)))))⟩
def dd_deals : DD := ⟨"deals", defArgs (top 27), defBody (top 27), defScope (top 27), fn_deals, ["bursts", "total", "found", "burst", "begun", "delay"], ["bursts", "total"]⟩
def fn_least_share : Fn := ⟨2, 6, (.cons (.asg 2 (.tup (.cons (.cst (.int 1)) (.cons (.cst (.int 1)) .nil))))
  (.cons (.fors (.tp [3, 4]) (.zip (.var 0) (.var 1))
  (.cons (.asg 5 (.call "share_of" (.cons (.var 4) (.cons (.bin .add (.var 4) (.var 3)) .nil))))
  (.cons (.ifs (.call "share_at_most" (.cons (.var 5) (.cons (.var 2) .nil)))
  (.cons (.asg 2 (.var 5))
  .nil)
  .nil)
  .nil)))
  (.cons (.ret (.var 2))
  .nil)))⟩
def dd_least_share : DD := ⟨"least_share", defArgs (top 28), defBody (top 28), defScope (top 28), fn_least_share, ["bursts", "delays", "least", "burst", "delay", "share"], ["bursts", "delays"]⟩
def fn_deal_share : Fn := ⟨2, 2, (.cons (.expr (.call "check_bursts" (.cons (.var 0) .nil)))
  (.cons (.expr (.call "check_delays" (.cons (.var 1) (.cons (.var 0) .nil))))
  (.cons (.ret (.call "least_share" (.cons (.var 0) (.cons (.var 1) .nil))))
  .nil)))⟩
def dd_deal_share : DD := ⟨"deal_share", defArgs (top 29), defBody (top 29), defScope (top 29), fn_deal_share, ["bursts", "delays"], ["bursts", "delays"]⟩
def fn__law_mixed : Fn := ⟨2, 4, (.cons (.asg 2 (.bin .mod (.blt .int (.cons (.bin .add (.bin .add (.bin .mul (.var 0) (.cst (.int 2862933555777941757))) (.bin .mul (.var 1) (.cst (.int 3202034522624059733)))) (.cst (.int 1442695040888963407))) .nil)) (.cst (.int 2305843009213693951))))
  (.cons (.asg 3 (.bin .mod (.blt .int (.cons (.bin .add (.bin .add (.bin .mul (.var 2) (.var 2)) (.bin .fdiv (.var 2) (.cst (.int 1000003)))) (.var 1)) .nil)) (.cst (.int 1000000000000000003))))
  (.cons (.ret (.bin .mod (.blt .int (.cons (.bin .add (.bin .add (.bin .mul (.var 3) (.var 3)) (.bin .mul (.bin .fdiv (.var 3) (.cst (.int 998244353))) (.cst (.int 48271)))) (.var 2)) .nil)) (.cst (.int 1000000000000000009))))
  .nil)))⟩
def dd__law_mixed : DD := ⟨"_law_mixed", defArgs (top 31), defBody (top 31), defScope (top 31), fn__law_mixed, ["_law_number", "_law_turn", "_law_first", "_law_second"], ["_law_number", "_law_turn"]⟩
def fn__law_store : Fn := ⟨1, 3, (.cons (.asg 1 (.bin .add (.blt .len (.cons (.var 0) .nil)) (.cst (.int 7))))
  (.cons (.fors (.nm 2) (.seq (.var 0))
  (.cons (.asg 1 (.bin .mod (.blt .int (.cons (.bin .add (.bin .mul (.var 1) (.cst (.int 1000003))) (.var 2)) .nil)) (.cst (.int 2305843009213693951))))
  .nil))
  (.cons (.ret (.lst (.cons (.blt .list (.cons (.var 0) .nil)) (.cons (.cst (.int 0)) (.cons (.cst (.int 0)) (.cons (.cst (.int 0)) (.cons (.var 1) (.cons (.cst (.int 0)) .nil))))))))
  .nil)))⟩
def dd__law_store : DD := ⟨"_law_store", defArgs (top 32), defBody (top 32), defScope (top 32), fn__law_store, ["_law_script", "_law_seed", "_law_cell"], ["_law_script"]⟩
def fn__law_take : Fn := ⟨2, 3, (.cons (.ifs (.cmp .lt (.var 1) (.cst (.int 2)))
  (.cons (.ret (.cst (.int 0)))
  .nil)
  .nil)
  (.cons (.ifs (.cmp .gt (.idx (.var 0) (.cst (.int 2))) (.cst (.int 1)))
  (.cons (.asg 2 (.idx (.var 0) (.cst (.int 2))))
  (.cons (.sub (.var 0) (.cst (.int 2)) (.bin .fdiv (.var 2) (.var 1)))
  (.cons (.ret (.bin .mod (.blt .int (.cons (.var 2) .nil)) (.var 1)))
  .nil)))
  .nil)
  (.cons (.ifs (.and (.cmp .eq (.idx (.var 0) (.cst (.int 3))) (.cst (.int 0))) (.cmp .lt (.idx (.var 0) (.cst (.int 1))) (.blt .len (.cons (.idx (.var 0) (.cst (.int 0))) .nil))))
  (.cons (.asg 2 (.blt .abs (.cons (.idx (.idx (.var 0) (.cst (.int 0))) (.idx (.var 0) (.cst (.int 1)))) .nil)))
  (.cons (.sub (.var 0) (.cst (.int 1)) (.bin .add (.idx (.var 0) (.cst (.int 1))) (.cst (.int 1))))
  (.cons (.ifs (.cmp .ge (.var 2) (.bin .pow (.cst (.int 10)) (.cst (.int 18))))
  (.cons (.sub (.var 0) (.cst (.int 2)) (.bin .fdiv (.var 2) (.var 1)))
  (.cons (.ret (.bin .mod (.blt .int (.cons (.var 2) .nil)) (.var 1)))
  .nil))
  .nil)
  (.cons (.sub (.var 0) (.cst (.int 3)) (.cst (.int 4)))
  .nil))))
  .nil)
  (.cons (.ifs (.cmp .gt (.idx (.var 0) (.cst (.int 3))) (.cst (.int 0)))
  (.cons (.sub (.var 0) (.cst (.int 3)) (.bin .sub (.idx (.var 0) (.cst (.int 3))) (.cst (.int 1))))
  (.cons (.ret (.bin .mod (.blt .int (.cons (.call "_law_mixed" (.cons (.bin .add (.bin .mul (.idx (.idx (.var 0) (.cst (.int 0))) (.bin .sub (.idx (.var 0) (.cst (.int 1))) (.cst (.int 1)))) (.cst (.int 1000))) (.idx (.var 0) (.cst (.int 1)))) (.cons (.idx (.var 0) (.cst (.int 3))) .nil))) .nil)) (.var 1)))
  .nil))
  .nil)
  (.cons (.sub (.var 0) (.cst (.int 5)) (.bin .add (.idx (.var 0) (.cst (.int 5))) (.cst (.int 1))))
  (.cons (.ret (.bin .mod (.blt .int (.cons (.call "_law_mixed" (.cons (.idx (.var 0) (.cst (.int 4))) (.cons (.bin .add (.cst (.int 1000)) (.idx (.var 0) (.cst (.int 5)))) .nil))) .nil)) (.var 1)))
  .nil))))))⟩
def dd__law_take : DD := ⟨"_law_take", defArgs (top 33), defBody (top 33), defScope (top 33), fn__law_take, ["_law_store_here", "_law_many", "_law_number"], ["_law_store_here", "_law_many"]⟩
def fn__law_edge : Fn := ⟨3, 4, (.cons (.ifs (.cmp .le (.var 2) (.var 1))
  (.cons (.ret (.var 1))
  .nil)
  .nil)
  (.cons (.asg 3 (.call "_law_take" (.cons (.var 0) (.cons (.cst (.int 9)) .nil))))
  (.cons (.ifs (.cmp .eq (.var 3) (.cst (.int 0)))
  (.cons (.ret (.var 1))
  .nil)
  .nil)
  (.cons (.ifs (.cmp .eq (.var 3) (.cst (.int 1)))
  (.cons (.ret (.var 2))
  .nil)
  .nil)
  (.cons (.ifs (.cmp .eq (.var 3) (.cst (.int 2)))
  (.cons (.ret (.idx (.lst (.cons (.bin .add (.var 1) (.cst (.int 1))) (.cons (.bin .sub (.var 2) (.cst (.int 1))) .nil))) (.call "_law_take" (.cons (.var 0) (.cons (.cst (.int 2)) .nil)))))
  .nil)
  .nil)
  (.cons (.ret (.bin .add (.var 1) (.call "_law_take" (.cons (.var 0) (.cons (.bin .add (.bin .sub (.var 2) (.var 1)) (.cst (.int 1))) .nil)))))
  .nil))))))⟩
def dd__law_edge : DD := ⟨"_law_edge", defArgs (top 34), defBody (top 34), defScope (top 34), fn__law_edge, ["_law_store_here", "_law_low", "_law_high", "_law_way"], ["_law_store_here", "_law_low", "_law_high"]⟩
def fn__law_small : Fn := ⟨4, 4, (.cons (.ifs (.cmp .eq (.call "_law_take" (.cons (.var 0) (.cons (.cst (.int 8)) .nil))) (.cst (.int 7)))
  (.cons (.ret (.call "_law_edge" (.cons (.var 0) (.cons (.var 1) (.cons (.var 3) .nil)))))
  .nil)
  .nil)
  (.cons (.ret (.call "_law_edge" (.cons (.var 0) (.cons (.var 1) (.cons (.var 2) .nil)))))
  .nil))⟩
def dd__law_small : DD := ⟨"_law_small", defArgs (top 35), defBody (top 35), defScope (top 35), fn__law_small, ["_law_store_here", "_law_low", "_law_usual", "_law_high"], ["_law_store_here", "_law_low", "_law_usual", "_law_high"]⟩
def fn__law_pick : Fn := ⟨2, 2, (.cons (.ret (.idx (.var 1) (.call "_law_take" (.cons (.var 0) (.cons (.blt .len (.cons (.var 1) .nil)) .nil)))))
  .nil)⟩
def dd__law_pick : DD := ⟨"_law_pick", defArgs (top 36), defBody (top 36), defScope (top 36), fn__law_pick, ["_law_store_here", "_law_choices"], ["_law_store_here", "_law_choices"]⟩
def fn__law_same : Fn := ⟨2, 3, (.cons (.ifs (.or (.cmp .is (.var 0) (.cst .non)) (.cmp .is (.var 1) (.cst .non)))
  (.cons (.ret (.and (.cmp .is (.var 0) (.cst .non)) (.cmp .is (.var 1) (.cst .non))))
  .nil)
  .nil)
  (.cons (.ifs (.or (.isi (.var 0) ["bool"]) (.isi (.var 1) ["bool"]))
  (.cons (.ret (.and (.isi (.var 0) ["bool"]) (.and (.isi (.var 1) ["bool"]) (.cmp .eq (.var 0) (.var 1)))))
  .nil)
  .nil)
  (.cons (.ifs (.or (.isi (.var 0) ["int"]) (.isi (.var 1) ["int"]))
  (.cons (.ret (.and (.isi (.var 0) ["int"]) (.and (.isi (.var 1) ["int"]) (.cmp .eq (.var 0) (.var 1)))))
  .nil)
  .nil)
  (.cons (.ifs (.or (.isi (.var 0) ["str"]) (.isi (.var 1) ["str"]))
  (.cons (.ret (.and (.isi (.var 0) ["str"]) (.and (.isi (.var 1) ["str"]) (.cmp .eq (.var 0) (.var 1)))))
  .nil)
  .nil)
  (.cons (.ifs (.or (.cmp .ne (.isi (.var 0) ["list"]) (.isi (.var 1) ["list"])) (.cmp .ne (.isi (.var 0) ["tuple"]) (.isi (.var 1) ["tuple"])))
  (.cons (.ret (.cst (.bl false)))
  .nil)
  .nil)
  (.cons (.ifs (.or (.not (.isi (.var 0) ["list", "tuple"])) (.cmp .ne (.blt .len (.cons (.var 0) .nil)) (.blt .len (.cons (.var 1) .nil))))
  (.cons (.ret (.cst (.bl false)))
  .nil)
  .nil)
  (.cons (.fors (.nm 2) (.rng (.blt .len (.cons (.var 0) .nil)))
  (.cons (.ifs (.not (.call "_law_same" (.cons (.idx (.var 0) (.var 2)) (.cons (.idx (.var 1) (.var 2)) .nil))))
  (.cons (.ret (.cst (.bl false)))
  .nil)
  .nil)
  .nil))
  (.cons (.ret (.cst (.bl true)))
  .nil))))))))⟩
def dd__law_same : DD := ⟨"_law_same", defArgs (top 37), defBody (top 37), defScope (top 37), fn__law_same, ["_law_left", "_law_right", "_law_k"], ["_law_left", "_law_right"]⟩
def fn__law_copy : Fn := ⟨1, 2, (.cons (.ifs (.isi (.var 0) ["list"])
  (.cons (.ret (.lc (.call "_law_copy" (.cons (.var 1) .nil)) (.nm 1) (.seq (.var 0)) (.cst (.bl true)) [1]))
  .nil)
  .nil)
  (.cons (.ifs (.isi (.var 0) ["tuple"])
  (.cons (.ret (.blt .tuple (.cons (.lc (.call "_law_copy" (.cons (.var 1) .nil)) (.nm 1) (.seq (.var 0)) (.cst (.bl true)) [1]) .nil)))
  .nil)
  .nil)
  (.cons (.ret (.var 0))
  .nil)))⟩
def dd__law_copy : DD := ⟨"_law_copy", defArgs (top 38), defBody (top 38), defScope (top 38), fn__law_copy, ["_law_value", "_law_part"], ["_law_value"]⟩
def fn__law_lists : Fn := ⟨2, 4, (.cons (.asg 2 (.lst .nil))
  (.cons (.ifs (.and (.cmp .gt (.var 1) (.cst (.int 0))) (.isi (.var 0) ["list"]))
  (.cons (.expr (.bm .append (.var 2) (.cons (.var 0) .nil)))
  .nil)
  .nil)
  (.cons (.ifs (.and (.cmp .gt (.var 1) (.cst (.int 0))) (.isi (.var 0) ["list", "tuple"]))
  (.cons (.fors (.nm 3) (.seq (.var 0))
  (.cons (.asg 2 (.bin .add (.var 2) (.call "_law_lists" (.cons (.var 3) (.cons (.bin .sub (.var 1) (.cst (.int 1))) .nil)))))
  .nil))
  .nil)
  .nil)
  (.cons (.ret (.var 2))
  .nil))))⟩
def dd__law_lists : DD := ⟨"_law_lists", defArgs (top 39), defBody (top 39), defScope (top 39), fn__law_lists, ["_law_value", "_law_depth", "_law_found", "_law_part"], ["_law_value", "_law_depth"]⟩
def fn__law_apart : Fn := ⟨1, 5, (.cons (.asg 1 (.call "_law_lists" (.cons (.var 0) (.cons (.cst (.int 20)) .nil))))
  (.cons (.asg 2 (.lc (.blt .len (.cons (.var 4) .nil)) (.nm 4) (.seq (.var 1)) (.cst (.bl true)) [4]))
  (.cons (.fors (.nm 3) (.rng (.blt .len (.cons (.var 1) .nil)))
  (.cons (.asg 4 (.idx (.var 1) (.var 3)))
  (.cons (.expr (.bm .append (.var 4) (.cons (.cst (.int 99)) .nil)))
  .nil)))
  (.cons (.ret (.cmp .eq (.lc (.bin .sub (.blt .len (.cons (.var 4) .nil)) (.cst (.int 1))) (.nm 4) (.seq (.var 1)) (.cst (.bl true)) [4]) (.var 2)))
  .nil))))⟩
def dd__law_apart : DD := ⟨"_law_apart", defArgs (top 40), defBody (top 40), defScope (top 40), fn__law_apart, ["_law_value", "_law_found", "_law_sizes", "_law_k", "_law_row"], ["_law_value"]⟩
def fn__law_not_number : Fn := ⟨3, 4, (.cons (.asg 3 (.lst (.cons (.bin .sub (.var 1) (.cst (.int 1))) (.cons (.bin .add (.var 2) (.cst (.int 1))) (.cons (.bin .sub (.bin .sub (.var 1) (.cst (.int 2))) (.call "_law_take" (.cons (.var 0) (.cons (.cst (.int 1000)) .nil)))) (.cons (.bin .add (.bin .add (.var 2) (.cst (.int 2))) (.call "_law_take" (.cons (.var 0) (.cons (.cst (.int 1000)) .nil)))) (.cons (.bin .add (.var 2) (.bin .pow (.cst (.int 10)) (.cst (.int 30)))) .nil)))))))
  (.cons (.asg 3 (.bin .add (.var 3) (.lst (.cons (.bin .sub (.var 1) (.bin .pow (.cst (.int 10)) (.cst (.int 30)))) (.cons (.cst (.bl true)) (.cons (.cst (.bl false)) (.cons (.cst .non) (.cons (.blt .str (.cons (.var 1) .nil)) (.cons (.cst (.str "")) (.cons (.lst (.cons (.var 1) .nil)) (.cons (.tup (.cons (.var 1) .nil)) (.cons (.lst .nil) (.cons (.tup .nil) .nil)))))))))))))
  (.cons (.ret (.idx (.var 3) (.call "_law_take" (.cons (.var 0) (.cons (.blt .len (.cons (.var 3) .nil)) .nil)))))
  .nil)))⟩
def dd__law_not_number : DD := ⟨"_law_not_number", defArgs (top 41), defBody (top 41), defScope (top 41), fn__law_not_number, ["_law_store_here", "_law_low", "_law_high", "_law_found"], ["_law_store_here", "_law_low", "_law_high"]⟩
def fn__law_not_list : Fn := ⟨3, 4, (.cons (.asg 3 (.lst (.cons (.blt .tuple (.cons (.var 1) .nil)) (.cons (.blt .tuple (.cons (.var 1) .nil)) (.cons (.cst (.bl true)) (.cons (.cst (.int 0)) (.cons (.blt .len (.cons (.var 1) .nil)) (.cons (.cst (.str "")) (.cons (.cst (.str "01")) (.cons (.tup .nil) .nil))))))))))
  (.cons (.ifs (.var 2)
  (.cons (.expr (.bm .append (.var 3) (.cons (.cst .non) .nil)))
  .nil)
  .nil)
  (.cons (.ret (.idx (.var 3) (.call "_law_take" (.cons (.var 0) (.cons (.blt .len (.cons (.var 3) .nil)) .nil)))))
  .nil)))⟩
def dd__law_not_list : DD := ⟨"_law_not_list", defArgs (top 42), defBody (top 42), defScope (top 42), fn__law_not_list, ["_law_store_here", "_law_row", "_law_none", "_law_found"], ["_law_store_here", "_law_row", "_law_none"]⟩
def fn__law_misshaped : Fn := ⟨2, 4, (.cons (.asg 2 (.call "_law_take" (.cons (.var 0) (.cons (.cst (.int 3)) .nil))))
  (.cons (.ifs (.cmp .eq (.var 2) (.cst (.int 0)))
  (.cons (.ret (.call "_law_not_list" (.cons (.var 0) (.cons (.var 1) (.cons (.cst (.bl false)) .nil)))))
  .nil)
  .nil)
  (.cons (.ifs (.and (.cmp .eq (.var 2) (.cst (.int 1))) (.cmp .gt (.blt .len (.cons (.var 1) .nil)) (.cst (.int 0))))
  (.cons (.asg 3 (.call "_law_take" (.cons (.var 0) (.cons (.blt .len (.cons (.var 1) .nil)) .nil))))
  (.cons (.ret (.bin .add (.blt .list (.cons (.slc (.var 1) (.cst .non) (.var 3) false true) .nil)) (.blt .list (.cons (.slc (.var 1) (.bin .add (.var 3) (.cst (.int 1))) (.cst .non) true false) .nil))))
  .nil))
  .nil)
  (.cons (.asg 3 (.call "_law_take" (.cons (.var 0) (.cons (.bin .add (.blt .len (.cons (.var 1) .nil)) (.cst (.int 1))) .nil))))
  (.cons (.ret (.bin .add (.bin .add (.blt .list (.cons (.slc (.var 1) (.cst .non) (.var 3) false true) .nil)) (.lst (.cons (.cst (.int 0)) .nil))) (.blt .list (.cons (.slc (.var 1) (.var 3) (.cst .non) true false) .nil))))
  .nil)))))⟩
def dd__law_misshaped : DD := ⟨"_law_misshaped", defArgs (top 43), defBody (top 43), defScope (top 43), fn__law_misshaped, ["_law_store_here", "_law_row", "_law_way", "_law_at"], ["_law_store_here", "_law_row"]⟩
def fn__law_gcd : Fn := ⟨2, 4, (.cons (.fors (.nm 2) (.rng (.cst (.int 64)))
  (.cons (.ifs (.cmp .eq (.var 1) (.cst (.int 0)))
  (.cons (.ret (.var 0))
  .nil)
  .nil)
  (.cons (.asg 3 (.bin .mod (.blt .int (.cons (.var 0) .nil)) (.var 1)))
  (.cons (.asg 0 (.var 1))
  (.cons (.asg 1 (.var 3))
  .nil)))))
  (.cons (.ret (.var 0))
  .nil))⟩
def dd__law_gcd : DD := ⟨"_law_gcd", defArgs (top 45), defBody (top 45), defScope (top 45), fn__law_gcd, ["_law_one", "_law_two", "_law_k", "_law_rest"], ["_law_one", "_law_two"]⟩
def fn__law_share : Fn := ⟨2, 3, (.cons (.asg 2 (.call "_law_gcd" (.cons (.var 0) (.cons (.var 1) .nil))))
  (.cons (.ret (.tup (.cons (.bin .fdiv (.var 0) (.var 2)) (.cons (.bin .fdiv (.var 1) (.var 2)) .nil))))
  .nil))⟩
def dd__law_share : DD := ⟨"_law_share", defArgs (top 46), defBody (top 46), defScope (top 46), fn__law_share, ["_law_top", "_law_bottom", "_law_common"], ["_law_top", "_law_bottom"]⟩
def fn__law_bursts : Fn := ⟨1, 2, (.cons (.ret (.lc (.call "_law_small" (.cons (.var 0) (.cons (.cst (.int 0)) (.cons (.cst (.int 2)) (.cons (.cst (.int 6)) .nil))))) (.nm 1) (.rng (.bin .add (.cst (.int 1)) (.call "_law_take" (.cons (.var 0) (.cons (.cst (.int 3)) .nil))))) (.cst (.bl true)) [1]))
  .nil)⟩
def dd__law_bursts : DD := ⟨"_law_bursts", defArgs (top 47), defBody (top 47), defScope (top 47), fn__law_bursts, ["_law_store_here", "_law_k"], ["_law_store_here"]⟩
def fn__law_delays : Fn := ⟨2, 3, (.cons (.ret (.lc (.call "_law_edge" (.cons (.var 0) (.cons (.blt .max (.cons (.cst (.int 1)) (.cons (.var 2) .nil))) (.cons (.cst (.int 6)) .nil)))) (.nm 2) (.seq (.var 1)) (.cst (.bl true)) [2]))
  .nil)⟩
def dd__law_delays : DD := ⟨"_law_delays", defArgs (top 48), defBody (top 48), defScope (top 48), fn__law_delays, ["_law_store_here", "_law_bursts_here", "_law_burst"], ["_law_store_here", "_law_bursts_here"]⟩
def fn__law_not_bursts : Fn := ⟨2, 5, (.cons (.asg 2 (.call "_law_take" (.cons (.var 0) (.cons (.cst (.int 6)) .nil))))
  (.cons (.ifs (.cmp .eq (.var 2) (.cst (.int 0)))
  (.cons (.ret (.tup (.cons (.call "_law_not_list" (.cons (.var 0) (.cons (.var 1) (.cons (.cst (.bl true)) .nil)))) (.cons (.cst (.str "BadShape")) .nil))))
  .nil)
  .nil)
  (.cons (.ifs (.cmp .eq (.var 2) (.cst (.int 1)))
  (.cons (.ret (.tup (.cons (.lst .nil) (.cons (.cst (.str "BadShape")) .nil))))
  .nil)
  .nil)
  (.cons (.ifs (.cmp .eq (.var 2) (.cst (.int 2)))
  (.cons (.ret (.tup (.cons (.bin .add (.blt .list (.cons (.var 1) .nil)) (.lc (.cst (.int 7)) (.nm 4) (.rng (.bin .sub (.cst (.int 4)) (.blt .len (.cons (.var 1) .nil)))) (.cst (.bl true)) [4])) (.cons (.cst (.str "BadShape")) .nil))))
  .nil)
  .nil)
  (.cons (.asg 3 (.blt .list (.cons (.var 1) .nil)))
  (.cons (.sub (.var 3) (.call "_law_take" (.cons (.var 0) (.cons (.blt .len (.cons (.var 3) .nil)) .nil))) (.call "_law_not_number" (.cons (.var 0) (.cons (.cst (.int 0)) (.cons (.cst (.int 6)) .nil)))))
  (.cons (.ret (.tup (.cons (.var 3) (.cons (.cst (.str "BadNumber")) .nil))))
  .nil)))))))⟩
def dd__law_not_bursts : DD := ⟨"_law_not_bursts", defArgs (top 49), defBody (top 49), defScope (top 49), fn__law_not_bursts, ["_law_store_here", "_law_bursts_here", "_law_way", "_law_found", "_law_k"], ["_law_store_here", "_law_bursts_here"]⟩
def fn__law_not_delays : Fn := ⟨3, 6, (.cons (.asg 3 (.call "_law_take" (.cons (.var 0) (.cons (.cst (.int 4)) .nil))))
  (.cons (.ifs (.cmp .eq (.var 3) (.cst (.int 0)))
  (.cons (.ret (.tup (.cons (.call "_law_misshaped" (.cons (.var 0) (.cons (.var 2) .nil))) (.cons (.cst (.str "BadShape")) .nil))))
  .nil)
  .nil)
  (.cons (.asg 4 (.blt .list (.cons (.var 2) .nil)))
  (.cons (.asg 5 (.call "_law_take" (.cons (.var 0) (.cons (.blt .len (.cons (.var 4) .nil)) .nil))))
  (.cons (.sub (.var 4) (.var 5) (.call "_law_not_number" (.cons (.var 0) (.cons (.blt .max (.cons (.cst (.int 1)) (.cons (.idx (.var 1) (.var 5)) .nil))) (.cons (.cst (.int 6)) .nil)))))
  (.cons (.ifs (.cmp .eq (.var 3) (.cst (.int 1)))
  (.cons (.ret (.tup (.cons (.bin .add (.var 4) (.lst (.cons (.cst (.int 0)) .nil))) (.cons (.cst (.str "BadShape")) .nil))))
  .nil)
  .nil)
  (.cons (.ret (.tup (.cons (.var 4) (.cons (.cst (.str "BadNumber")) .nil))))
  .nil)))))))⟩
def dd__law_not_delays : DD := ⟨"_law_not_delays", defArgs (top 50), defBody (top 50), defScope (top 50), fn__law_not_delays, ["_law_store_here", "_law_bursts_here", "_law_delays_here", "_law_way", "_law_found", "_law_at"], ["_law_store_here", "_law_bursts_here", "_law_delays_here"]⟩
def fn__law_deals_told : Fn := ⟨2, 5, (.cons (.asg 2 (.call "_law_copy" (.cons (.var 0) .nil)))
  (.cons (.tryK (.cons (.asg 4 (.tup (.cons (.cst (.str "told")) (.cons (.call "deals" (.cons (.var 2) (.cons (.var 1) .nil))) .nil))))
  .nil) 3 "MendError" "_law_kind")
  (.cons (.ifs (.not (.call "_law_same" (.cons (.var 2) (.cons (.var 0) .nil))))
  (.cons (.ret (.tup (.cons (.cst (.str "changed")) .nil)))
  .nil)
  .nil)
  (.cons (.ifs (.isi (.var 2) ["list"])
  (.cons (.expr (.bm .append (.var 2) (.cons (.cst (.int 1)) .nil)))
  .nil)
  .nil)
  (.cons (.ret (.var 4))
  .nil)))))⟩
def dd__law_deals_told : DD := ⟨"_law_deals_told", defArgs (top 51), defBody (top 51), defScope (top 51), fn__law_deals_told, ["_law_bursts_here", "_law_total", "_law_handed", "e", "_law_told"], ["_law_bursts_here", "_law_total"]⟩
def fn__law_share_told : Fn := ⟨2, 6, (.cons (.asg 2 (.call "_law_copy" (.cons (.var 0) .nil)))
  (.cons (.asg 3 (.call "_law_copy" (.cons (.var 1) .nil)))
  (.cons (.tryK (.cons (.asg 5 (.tup (.cons (.cst (.str "told")) (.cons (.call "deal_share" (.cons (.var 2) (.cons (.var 3) .nil))) .nil))))
  .nil) 4 "MendError" "_law_kind")
  (.cons (.ifs (.or (.not (.call "_law_same" (.cons (.var 2) (.cons (.var 0) .nil)))) (.not (.call "_law_same" (.cons (.var 3) (.cons (.var 1) .nil)))))
  (.cons (.ret (.tup (.cons (.cst (.str "changed")) .nil)))
  .nil)
  .nil)
  (.cons (.ret (.var 5))
  .nil)))))⟩
def dd__law_share_told : DD := ⟨"_law_share_told", defArgs (top 52), defBody (top 52), defScope (top 52), fn__law_share_told, ["_law_bursts_here", "_law_delays_here", "_law_handed", "_law_shown", "e", "_law_told"], ["_law_bursts_here", "_law_delays_here"]⟩
def fn__law_every : Fn := ⟨2, 9, (.cons (.asg 2 (.lst (.cons (.lst .nil) .nil)))
  (.cons (.fors (.nm 3) (.seq (.var 0))
  (.cons (.asg 6 (.lst .nil))
  (.cons (.fors (.nm 5) (.seq (.var 2))
  (.cons (.asg 6 (.bin .add (.var 6) (.lc (.bin .add (.var 5) (.lst (.cons (.var 7) .nil))) (.nm 7) (.rng2 (.cst (.int 1)) (.cst (.int 7))) (.cst (.bl true)) [7])))
  .nil))
  (.cons (.asg 2 (.blt .list (.cons (.var 6) .nil)))
  .nil))))
  (.cons (.asg 4 (.lst .nil))
  (.cons (.fors (.nm 5) (.seq (.var 2))
  (.cons (.ifs (.and (.cmp .le (.blt .sum (.cons (.var 5) .nil)) (.var 1)) (.cmp .eq (.blt .len (.cons (.lc (.var 8) (.nm 8) (.rng (.blt .len (.cons (.var 5) .nil))) (.cmp .lt (.idx (.var 5) (.var 8)) (.idx (.var 0) (.var 8))) [8]) .nil)) (.cst (.int 0))))
  (.cons (.expr (.bm .append (.var 4) (.cons (.var 5) .nil)))
  .nil)
  .nil)
  .nil))
  (.cons (.ret (.var 4))
  .nil)))))⟩
def dd__law_every : DD := ⟨"_law_every", defArgs (top 53), defBody (top 53), defScope (top 53), fn__law_every, ["_law_bursts_here", "_law_total", "_law_tried", "_law_burst", "_law_found", "_law_row", "_law_longer", "_law_late", "_law_k"], ["_law_bursts_here", "_law_total"]⟩
def fn__law_least : Fn := ⟨2, 4, (.cons (.asg 2 (.cst (.int 0)))
  (.cons (.fors (.nm 3) (.rng2 (.cst (.int 1)) (.blt .len (.cons (.var 0) .nil)))
  (.cons (.ifs (.cmp .lt (.bin .mul (.idx (.var 1) (.var 3)) (.bin .add (.idx (.var 1) (.var 2)) (.idx (.var 0) (.var 2)))) (.bin .mul (.idx (.var 1) (.var 2)) (.bin .add (.idx (.var 1) (.var 3)) (.idx (.var 0) (.var 3)))))
  (.cons (.asg 2 (.var 3))
  .nil)
  .nil)
  .nil))
  (.cons (.ret (.call "_law_share" (.cons (.idx (.var 1) (.var 2)) (.cons (.bin .add (.idx (.var 1) (.var 2)) (.idx (.var 0) (.var 2))) .nil))))
  .nil)))⟩
def dd__law_least : DD := ⟨"_law_least", defArgs (top 54), defBody (top 54), defScope (top 54), fn__law_least, ["_law_bursts_here", "_law_delays_here", "_law_best", "_law_k"], ["_law_bursts_here", "_law_delays_here"]⟩
def fn__law_look : Fn := ⟨3, 7, (.cons (.asg 3 (.call "_law_every" (.cons (.var 1) (.cons (.var 2) .nil))))
  (.cons (.asg 4 (.call "_law_deals_told" (.cons (.var 1) (.cons (.var 2) .nil))))
  (.cons (.ifs (.not (.call "_law_same" (.cons (.var 4) (.cons (.tup (.cons (.cst (.str "told")) (.cons (.var 3) .nil))) .nil))))
  (.cons (.ret (.cst (.bl false)))
  .nil)
  .nil)
  (.cons (.ifs (.not (.call "_law_apart" (.cons (.idx (.var 4) (.cst (.int 1))) .nil)))
  (.cons (.ret (.cst (.bl false)))
  .nil)
  .nil)
  (.cons (.asg 5 (.lst (.cons (.call "_law_delays" (.cons (.var 0) (.cons (.var 1) .nil))) .nil)))
  (.cons (.ifs (.cmp .gt (.blt .len (.cons (.var 3) .nil)) (.cst (.int 0)))
  (.cons (.asg 5 (.bin .add (.var 5) (.lst (.cons (.idx (.var 3) (.cst (.int 0))) (.cons (.idx (.var 3) (.neg (.cst (.int 1)))) (.cons (.call "_law_pick" (.cons (.var 0) (.cons (.var 3) .nil))) (.cons (.call "_law_pick" (.cons (.var 0) (.cons (.var 3) .nil))) .nil)))))))
  .nil)
  .nil)
  (.cons (.fors (.nm 6) (.seq (.var 5))
  (.cons (.ifs (.not (.call "_law_same" (.cons (.call "_law_share_told" (.cons (.var 1) (.cons (.var 6) .nil))) (.cons (.tup (.cons (.cst (.str "told")) (.cons (.call "_law_least" (.cons (.var 1) (.cons (.var 6) .nil))) .nil))) .nil))))
  (.cons (.ret (.cst (.bl false)))
  .nil)
  .nil)
  .nil))
  (.cons (.ret (.call "_law_same" (.cons (.call "_law_deals_told" (.cons (.var 1) (.cons (.var 2) .nil))) (.cons (.tup (.cons (.cst (.str "told")) (.cons (.var 3) .nil))) .nil))))
  .nil))))))))⟩
def dd__law_look : DD := ⟨"_law_look", defArgs (top 55), defBody (top 55), defScope (top 55), fn__law_look, ["_law_store_here", "_law_bursts_here", "_law_total", "_law_due", "_law_told", "_law_asked", "_law_delays_here"], ["_law_store_here", "_law_bursts_here", "_law_total"]⟩
def fn__law_refused : Fn := ⟨3, 9, (.cons (.asg 3 (.call "_law_delays" (.cons (.var 0) (.cons (.var 1) .nil))))
  (.cons (.asgT [5, 6] (.call "_law_not_bursts" (.cons (.var 0) (.cons (.var 1) .nil))))
  (.cons (.asgT [7, 8] (.call "_law_not_delays" (.cons (.var 0) (.cons (.var 1) (.cons (.var 3) .nil)))))
  (.cons (.asg 4 (.call "_law_not_number" (.cons (.var 0) (.cons (.cst (.int 1)) (.cons (.cst (.int 18)) .nil)))))
  (.cons (.ifs (.not (.call "_law_same" (.cons (.call "_law_deals_told" (.cons (.var 5) (.cons (.idx (.lst (.cons (.var 2) (.cons (.var 4) .nil))) (.call "_law_take" (.cons (.var 0) (.cons (.cst (.int 2)) .nil)))) .nil))) (.cons (.tup (.cons (.var 6) (.cons (.cst (.str "bursts")) .nil))) .nil))))
  (.cons (.ret (.cst (.bl false)))
  .nil)
  .nil)
  (.cons (.ifs (.not (.call "_law_same" (.cons (.call "_law_deals_told" (.cons (.var 1) (.cons (.var 4) .nil))) (.cons (.tup (.cons (.cst (.str "BadNumber")) (.cons (.cst (.str "total")) .nil))) .nil))))
  (.cons (.ret (.cst (.bl false)))
  .nil)
  .nil)
  (.cons (.ifs (.not (.call "_law_same" (.cons (.call "_law_share_told" (.cons (.var 5) (.cons (.idx (.lst (.cons (.var 3) (.cons (.var 7) .nil))) (.call "_law_take" (.cons (.var 0) (.cons (.cst (.int 2)) .nil)))) .nil))) (.cons (.tup (.cons (.var 6) (.cons (.cst (.str "bursts")) .nil))) .nil))))
  (.cons (.ret (.cst (.bl false)))
  .nil)
  .nil)
  (.cons (.ret (.call "_law_same" (.cons (.call "_law_share_told" (.cons (.var 1) (.cons (.var 7) .nil))) (.cons (.tup (.cons (.var 8) (.cons (.cst (.str "delays")) .nil))) .nil))))
  .nil))))))))⟩
def dd__law_refused : DD := ⟨"_law_refused", defArgs (top 56), defBody (top 56), defScope (top 56), fn__law_refused, ["_law_store_here", "_law_bursts_here", "_law_total", "_law_delays_here", "_law_many", "_law_bad", "_law_name", "_law_worse", "_law_other"], ["_law_store_here", "_law_bursts_here", "_law_total"]⟩
def fn_law : Fn := ⟨1, 9, (.cons (.asg 1 (.call "_law_store" (.cons (.var 0) .nil)))
  (.cons (.asg 2 (.call "_law_bursts" (.cons (.var 1) .nil)))
  (.cons (.asg 3 (.call "_law_edge" (.cons (.var 1) (.cons (.cst (.int 1)) (.cons (.cst (.int 18)) .nil)))))
  (.cons (.ifs (.not (.call "_law_look" (.cons (.var 1) (.cons (.var 2) (.cons (.var 3) .nil)))))
  (.cons (.ret (.cst (.bl false)))
  .nil)
  .nil)
  (.cons (.ifs (.not (.call "_law_refused" (.cons (.var 1) (.cons (.var 2) (.cons (.var 3) .nil)))))
  (.cons (.ret (.cst (.bl false)))
  .nil)
  .nil)
  (.cons (.asg 4 (.blt .list (.cons (.var 2) .nil)))
  (.cons (.asg 5 (.call "_law_take" (.cons (.var 1) (.cons (.blt .len (.cons (.var 4) .nil)) .nil))))
  (.cons (.sub (.var 4) (.var 5) (.call "_law_edge" (.cons (.var 1) (.cons (.cst (.int 0)) (.cons (.cst (.int 6)) .nil)))))
  (.cons (.asg 6 (.call "_law_edge" (.cons (.var 1) (.cons (.cst (.int 1)) (.cons (.cst (.int 18)) .nil)))))
  (.cons (.ifs (.or (.not (.call "_law_look" (.cons (.var 1) (.cons (.var 4) (.cons (.var 6) .nil))))) (.not (.call "_law_look" (.cons (.var 1) (.cons (.var 2) (.cons (.var 6) .nil))))))
  (.cons (.ret (.cst (.bl false)))
  .nil)
  .nil)
  (.cons (.asg 7 (.call "_law_every" (.cons (.var 2) (.cons (.var 3) .nil))))
  (.cons (.ifs (.not (.call "_law_same" (.cons (.callk "deals" ["bursts", "total"] (.cons (.blt .list (.cons (.var 2) .nil)) (.cons (.var 3) .nil))) (.cons (.var 7) .nil))))
  (.cons (.ret (.cst (.bl false)))
  .nil)
  .nil)
  (.cons (.asg 8 (.call "_law_delays" (.cons (.var 1) (.cons (.var 4) .nil))))
  (.cons (.ret (.call "_law_same" (.cons (.callk "deal_share" ["bursts", "delays"] (.cons (.var 4) (.cons (.var 8) .nil))) (.cons (.call "_law_least" (.cons (.var 4) (.cons (.var 8) .nil))) .nil))))
  .nil))))))))))))))⟩
def dd_law : DD := ⟨"law", defArgs (top 57), defBody (top 57), defScope (top 57), fn_law, ["_law_script", "_law_store_here", "_law_bursts_here", "_law_total", "_law_near", "_law_at", "_law_other", "_law_due", "_law_delays_here"], ["_law_script"]⟩
def in_BadNumber : IniD := ⟨"BadNumber", "argument", "BadNumber.__init__", defArgs (cini 2), defBody (cini 2), defScope (cini 2)⟩
def in_BadShape : IniD := ⟨"BadShape", "argument", "BadShape.__init__", defArgs (cini 3), defBody (cini 3), defScope (cini 3)⟩
def dd_kind : DD := ⟨"_law_kind", defArgs (top 44), defBody (top 44), defScope (top 44), ⟨0, 0, .nil⟩, [], []⟩
def dds : List DD := [dd_is_whole, dd_check_number, dd_common_measure, dd_lowest_share, dd_share_of, dd_share_at_most, dd_check_links, dd_check_bursts, dd_check_delays, dd_least_delay_of, dd_deals, dd_least_share, dd_deal_share, dd__law_mixed, dd__law_store, dd__law_take, dd__law_edge, dd__law_small, dd__law_pick, dd__law_same, dd__law_copy, dd__law_lists, dd__law_apart, dd__law_not_number, dd__law_not_list, dd__law_misshaped, dd__law_gcd, dd__law_share, dd__law_bursts, dd__law_delays, dd__law_not_bursts, dd__law_not_delays, dd__law_deals_told, dd__law_share_told, dd__law_every, dd__law_least, dd__law_look, dd__law_refused, dd_law]
def inis : List IniD := [in_BadNumber, in_BadShape]
def tx : TX := { file := PySem.Challenge.pw_mendsontime_k80_deals_and_shares.main.file, base := "MendError", glo := [("MOST_LINKS", .int 3), ("MOST_DELAY", .int 6), ("MOST_TOTAL", .int 18)], inis := inis, dds := dds, kws := [("deal_share", ["bursts", "delays"]), ("deals", ["bursts", "total"])], kind := dd_kind, tbl := [("BadNumber", some "argument"), ("BadShape", some "argument"), ("BadElement", some "argument"), ("BadText", some "line"), ("TooLarge", some "bound"), ("Clash", some "moment"), ("NoInverse", none), ("NotMade", none), ("Ended", none)], en := "_law_error", ln := "_law_found" }
theorem bn_is_whole : BN dd_is_whole.params dd_is_whole.name dd_is_whole.ps dd_is_whole.body dd_is_whole.scope := fun _ _ _ _ _ _ us hl => match us, hl with | [_], _ => rfl
theorem bn_check_number : BN dd_check_number.params dd_check_number.name dd_check_number.ps dd_check_number.body dd_check_number.scope := fun _ _ _ _ _ _ us hl => match us, hl with | [_, _, _, _], _ => rfl
theorem bn_common_measure : BN dd_common_measure.params dd_common_measure.name dd_common_measure.ps dd_common_measure.body dd_common_measure.scope := fun _ _ _ _ _ _ us hl => match us, hl with | [_, _], _ => rfl
theorem bn_lowest_share : BN dd_lowest_share.params dd_lowest_share.name dd_lowest_share.ps dd_lowest_share.body dd_lowest_share.scope := fun _ _ _ _ _ _ us hl => match us, hl with | [_, _], _ => rfl
theorem bn_share_of : BN dd_share_of.params dd_share_of.name dd_share_of.ps dd_share_of.body dd_share_of.scope := fun _ _ _ _ _ _ us hl => match us, hl with | [_, _], _ => rfl
theorem bn_share_at_most : BN dd_share_at_most.params dd_share_at_most.name dd_share_at_most.ps dd_share_at_most.body dd_share_at_most.scope := fun _ _ _ _ _ _ us hl => match us, hl with | [_, _], _ => rfl
theorem bn_check_links : BN dd_check_links.params dd_check_links.name dd_check_links.ps dd_check_links.body dd_check_links.scope := fun _ _ _ _ _ _ us hl => match us, hl with | [_, _], _ => rfl
theorem bn_check_bursts : BN dd_check_bursts.params dd_check_bursts.name dd_check_bursts.ps dd_check_bursts.body dd_check_bursts.scope := fun _ _ _ _ _ _ us hl => match us, hl with | [_], _ => rfl
theorem bn_check_delays : BN dd_check_delays.params dd_check_delays.name dd_check_delays.ps dd_check_delays.body dd_check_delays.scope := fun _ _ _ _ _ _ us hl => match us, hl with | [_, _], _ => rfl
theorem bn_least_delay_of : BN dd_least_delay_of.params dd_least_delay_of.name dd_least_delay_of.ps dd_least_delay_of.body dd_least_delay_of.scope := fun _ _ _ _ _ _ us hl => match us, hl with | [_], _ => rfl
theorem bn_deals : BN dd_deals.params dd_deals.name dd_deals.ps dd_deals.body dd_deals.scope := fun _ _ _ _ _ _ us hl => match us, hl with | [_, _], _ => rfl
theorem bn_least_share : BN dd_least_share.params dd_least_share.name dd_least_share.ps dd_least_share.body dd_least_share.scope := fun _ _ _ _ _ _ us hl => match us, hl with | [_, _], _ => rfl
theorem bn_deal_share : BN dd_deal_share.params dd_deal_share.name dd_deal_share.ps dd_deal_share.body dd_deal_share.scope := fun _ _ _ _ _ _ us hl => match us, hl with | [_, _], _ => rfl
theorem bn__law_mixed : BN dd__law_mixed.params dd__law_mixed.name dd__law_mixed.ps dd__law_mixed.body dd__law_mixed.scope := fun _ _ _ _ _ _ us hl => match us, hl with | [_, _], _ => rfl
theorem bn__law_store : BN dd__law_store.params dd__law_store.name dd__law_store.ps dd__law_store.body dd__law_store.scope := fun _ _ _ _ _ _ us hl => match us, hl with | [_], _ => rfl
theorem bn__law_take : BN dd__law_take.params dd__law_take.name dd__law_take.ps dd__law_take.body dd__law_take.scope := fun _ _ _ _ _ _ us hl => match us, hl with | [_, _], _ => rfl
theorem bn__law_edge : BN dd__law_edge.params dd__law_edge.name dd__law_edge.ps dd__law_edge.body dd__law_edge.scope := fun _ _ _ _ _ _ us hl => match us, hl with | [_, _, _], _ => rfl
theorem bn__law_small : BN dd__law_small.params dd__law_small.name dd__law_small.ps dd__law_small.body dd__law_small.scope := fun _ _ _ _ _ _ us hl => match us, hl with | [_, _, _, _], _ => rfl
theorem bn__law_pick : BN dd__law_pick.params dd__law_pick.name dd__law_pick.ps dd__law_pick.body dd__law_pick.scope := fun _ _ _ _ _ _ us hl => match us, hl with | [_, _], _ => rfl
theorem bn__law_same : BN dd__law_same.params dd__law_same.name dd__law_same.ps dd__law_same.body dd__law_same.scope := fun _ _ _ _ _ _ us hl => match us, hl with | [_, _], _ => rfl
theorem bn__law_copy : BN dd__law_copy.params dd__law_copy.name dd__law_copy.ps dd__law_copy.body dd__law_copy.scope := fun _ _ _ _ _ _ us hl => match us, hl with | [_], _ => rfl
theorem bn__law_lists : BN dd__law_lists.params dd__law_lists.name dd__law_lists.ps dd__law_lists.body dd__law_lists.scope := fun _ _ _ _ _ _ us hl => match us, hl with | [_, _], _ => rfl
theorem bn__law_apart : BN dd__law_apart.params dd__law_apart.name dd__law_apart.ps dd__law_apart.body dd__law_apart.scope := fun _ _ _ _ _ _ us hl => match us, hl with | [_], _ => rfl
theorem bn__law_not_number : BN dd__law_not_number.params dd__law_not_number.name dd__law_not_number.ps dd__law_not_number.body dd__law_not_number.scope := fun _ _ _ _ _ _ us hl => match us, hl with | [_, _, _], _ => rfl
theorem bn__law_not_list : BN dd__law_not_list.params dd__law_not_list.name dd__law_not_list.ps dd__law_not_list.body dd__law_not_list.scope := fun _ _ _ _ _ _ us hl => match us, hl with | [_, _, _], _ => rfl
theorem bn__law_misshaped : BN dd__law_misshaped.params dd__law_misshaped.name dd__law_misshaped.ps dd__law_misshaped.body dd__law_misshaped.scope := fun _ _ _ _ _ _ us hl => match us, hl with | [_, _], _ => rfl
theorem bn__law_gcd : BN dd__law_gcd.params dd__law_gcd.name dd__law_gcd.ps dd__law_gcd.body dd__law_gcd.scope := fun _ _ _ _ _ _ us hl => match us, hl with | [_, _], _ => rfl
theorem bn__law_share : BN dd__law_share.params dd__law_share.name dd__law_share.ps dd__law_share.body dd__law_share.scope := fun _ _ _ _ _ _ us hl => match us, hl with | [_, _], _ => rfl
theorem bn__law_bursts : BN dd__law_bursts.params dd__law_bursts.name dd__law_bursts.ps dd__law_bursts.body dd__law_bursts.scope := fun _ _ _ _ _ _ us hl => match us, hl with | [_], _ => rfl
theorem bn__law_delays : BN dd__law_delays.params dd__law_delays.name dd__law_delays.ps dd__law_delays.body dd__law_delays.scope := fun _ _ _ _ _ _ us hl => match us, hl with | [_, _], _ => rfl
theorem bn__law_not_bursts : BN dd__law_not_bursts.params dd__law_not_bursts.name dd__law_not_bursts.ps dd__law_not_bursts.body dd__law_not_bursts.scope := fun _ _ _ _ _ _ us hl => match us, hl with | [_, _], _ => rfl
theorem bn__law_not_delays : BN dd__law_not_delays.params dd__law_not_delays.name dd__law_not_delays.ps dd__law_not_delays.body dd__law_not_delays.scope := fun _ _ _ _ _ _ us hl => match us, hl with | [_, _, _], _ => rfl
theorem bn__law_deals_told : BN dd__law_deals_told.params dd__law_deals_told.name dd__law_deals_told.ps dd__law_deals_told.body dd__law_deals_told.scope := fun _ _ _ _ _ _ us hl => match us, hl with | [_, _], _ => rfl
theorem bn__law_share_told : BN dd__law_share_told.params dd__law_share_told.name dd__law_share_told.ps dd__law_share_told.body dd__law_share_told.scope := fun _ _ _ _ _ _ us hl => match us, hl with | [_, _], _ => rfl
theorem bn__law_every : BN dd__law_every.params dd__law_every.name dd__law_every.ps dd__law_every.body dd__law_every.scope := fun _ _ _ _ _ _ us hl => match us, hl with | [_, _], _ => rfl
theorem bn__law_least : BN dd__law_least.params dd__law_least.name dd__law_least.ps dd__law_least.body dd__law_least.scope := fun _ _ _ _ _ _ us hl => match us, hl with | [_, _], _ => rfl
theorem bn__law_look : BN dd__law_look.params dd__law_look.name dd__law_look.ps dd__law_look.body dd__law_look.scope := fun _ _ _ _ _ _ us hl => match us, hl with | [_, _, _], _ => rfl
theorem bn__law_refused : BN dd__law_refused.params dd__law_refused.name dd__law_refused.ps dd__law_refused.body dd__law_refused.scope := fun _ _ _ _ _ _ us hl => match us, hl with | [_, _, _], _ => rfl
theorem bn_law : BN dd_law.params dd_law.name dd_law.ps dd_law.body dd_law.scope := fun _ _ _ _ _ _ us hl => match us, hl with | [_], _ => rfl
theorem bk_deal_share : BK dd_deal_share.params dd_deal_share.name dd_deal_share.ps dd_deal_share.body dd_deal_share.scope := fun _ _ _ _ _ _ us hl => match us, hl with | [_, _], _ => rfl
theorem bk_deals : BK dd_deals.params dd_deals.name dd_deals.ps dd_deals.body dd_deals.scope := fun _ _ _ _ _ _ us hl => match us, hl with | [_, _], _ => rfl
theorem is_BadNumber : InitS in_BadNumber.scope in_BadNumber.params in_BadNumber.body in_BadNumber.f := ⟨rfl, rfl, rfl, by decide +kernel, by decide +kernel, by decide +kernel, by decide +kernel, ⟨_, rfl, rfl⟩, "argument", by decide +kernel, by decide +kernel, by decide +kernel, fun _ _ _ _ _ _ _ _ _ _ _ _ => rfl, _, _, _, _, _, _, _, _, _, _, _, _, rfl, rfl⟩
theorem is_BadShape : InitS in_BadShape.scope in_BadShape.params in_BadShape.body in_BadShape.f := ⟨rfl, rfl, rfl, by decide +kernel, by decide +kernel, by decide +kernel, by decide +kernel, ⟨_, rfl, rfl⟩, "argument", by decide +kernel, by decide +kernel, by decide +kernel, fun _ _ _ _ _ _ _ _ _ _ _ _ => rfl, _, _, _, _, _, _, _, _, _, _, _, _, rfl, rfl⟩
theorem ddsOk : dds.all (ddB tx) = true := by decide +kernel
theorem kdOk : ∃ (ss nn : List Stmt) (q1 q2 q3 : Pos) (i j : Nat) (p1 p2 p3 p4 p5 p6 p7 p8 p9 p10 p11 p12 p13 p14 p15 p16 p17 p18 p19 p20 p21 : Pos), tx.kind.body = .Assign [.Name tx.ln q1] (.List [] q2) q3 :: ss ∧
    KdIfs tx.en tx.ln (kEnd tx.en tx.ln tx.base nn i j p1 p2 p3 p4 p5 p6 p7 p8 p9 p10 p11 p12 p13 p14 p15 p16 p17 p18 p19 p20 p21) tx.tbl ss :=
  ⟨_, _, _, _, _, _, _, _, _, _, _, _, _, _, _, _, _, _, _, _, _, _, _, _, _, _, _, _, rfl, (.cons (k := 0) (p8 := ⟨0, 0, 0, 0⟩) rfl (.cons (k := 0) (p8 := ⟨0, 0, 0, 0⟩) rfl (.cons (k := 0) (p8 := ⟨0, 0, 0, 0⟩) rfl (.cons (k := 0) (p8 := ⟨0, 0, 0, 0⟩) rfl (.cons (k := 0) (p8 := ⟨0, 0, 0, 0⟩) rfl (.cons (k := 0) (p8 := ⟨0, 0, 0, 0⟩) rfl (.cons (q2 := ⟨0, 0, 0, 0⟩) (p8 := ⟨0, 0, 0, 0⟩) rfl (.cons (q2 := ⟨0, 0, 0, 0⟩) (p8 := ⟨0, 0, 0, 0⟩) rfl (.cons (q2 := ⟨0, 0, 0, 0⟩) (p8 := ⟨0, 0, 0, 0⟩) rfl .nil)))))))))⟩
theorem ok : tx.Ok PySem.Challenge.pw_mendsontime_k80_deals_and_shares where
  dds := ddsOk
  nm := by decide +kernel
  bn := (List.forall_mem_cons.mpr ⟨bn_is_whole, (List.forall_mem_cons.mpr ⟨bn_check_number, (List.forall_mem_cons.mpr ⟨bn_common_measure, (List.forall_mem_cons.mpr ⟨bn_lowest_share, (List.forall_mem_cons.mpr ⟨bn_share_of, (List.forall_mem_cons.mpr ⟨bn_share_at_most, (List.forall_mem_cons.mpr ⟨bn_check_links, (List.forall_mem_cons.mpr ⟨bn_check_bursts, (List.forall_mem_cons.mpr ⟨bn_check_delays, (List.forall_mem_cons.mpr ⟨bn_least_delay_of, (List.forall_mem_cons.mpr ⟨bn_deals, (List.forall_mem_cons.mpr ⟨bn_least_share, (List.forall_mem_cons.mpr ⟨bn_deal_share, (List.forall_mem_cons.mpr ⟨bn__law_mixed, (List.forall_mem_cons.mpr ⟨bn__law_store, (List.forall_mem_cons.mpr ⟨bn__law_take, (List.forall_mem_cons.mpr ⟨bn__law_edge, (List.forall_mem_cons.mpr ⟨bn__law_small, (List.forall_mem_cons.mpr ⟨bn__law_pick, (List.forall_mem_cons.mpr ⟨bn__law_same, (List.forall_mem_cons.mpr ⟨bn__law_copy, (List.forall_mem_cons.mpr ⟨bn__law_lists, (List.forall_mem_cons.mpr ⟨bn__law_apart, (List.forall_mem_cons.mpr ⟨bn__law_not_number, (List.forall_mem_cons.mpr ⟨bn__law_not_list, (List.forall_mem_cons.mpr ⟨bn__law_misshaped, (List.forall_mem_cons.mpr ⟨bn__law_gcd, (List.forall_mem_cons.mpr ⟨bn__law_share, (List.forall_mem_cons.mpr ⟨bn__law_bursts, (List.forall_mem_cons.mpr ⟨bn__law_delays, (List.forall_mem_cons.mpr ⟨bn__law_not_bursts, (List.forall_mem_cons.mpr ⟨bn__law_not_delays, (List.forall_mem_cons.mpr ⟨bn__law_deals_told, (List.forall_mem_cons.mpr ⟨bn__law_share_told, (List.forall_mem_cons.mpr ⟨bn__law_every, (List.forall_mem_cons.mpr ⟨bn__law_least, (List.forall_mem_cons.mpr ⟨bn__law_look, (List.forall_mem_cons.mpr ⟨bn__law_refused, (List.forall_mem_cons.mpr ⟨bn_law, (fun _ h => nomatch h)⟩)⟩)⟩)⟩)⟩)⟩)⟩)⟩)⟩)⟩)⟩)⟩)⟩)⟩)⟩)⟩)⟩)⟩)⟩)⟩)⟩)⟩)⟩)⟩)⟩)⟩)⟩)⟩)⟩)⟩)⟩)⟩)⟩)⟩)⟩)⟩)⟩)⟩)⟩)
  kw := (List.forall_mem_cons.mpr ⟨⟨by decide +kernel, dd_deal_share, by simp [tx, dds], rfl, rfl, bk_deal_share⟩, (List.forall_mem_cons.mpr ⟨⟨by decide +kernel, dd_deals, by simp [tx, dds], rfl, rfl, bk_deals⟩, (fun _ h => nomatch h)⟩)⟩)
  kwn := by decide +kernel
  ini := (List.forall_mem_cons.mpr ⟨is_BadNumber, (List.forall_mem_cons.mpr ⟨is_BadShape, (fun _ h => nomatch h)⟩)⟩)
  glo := by decide +kernel
  file := by decide +kernel
  top := by decide +kernel
  kbn := fun _ _ _ _ _ _ us hl => match us, hl with | [_], _ => rfl
  ksc := by decide +kernel
  kn := ⟨by decide +kernel, by decide +kernel⟩
  kloc := ⟨by decide +kernel, by decide +kernel, by decide +kernel⟩
  kbody := kdOk
  ktbl := ⟨by decide +kernel, by decide +kernel, by decide +kernel⟩
  kini := by decide +kernel
def lo0 : List PySem.Str := ["MendError", "BadNumber", "BadShape", "BadElement", "BadText", "TooLarge", "Clash", "NoInverse", "NotMade", "Ended", "is_whole", "check_number", "common_measure", "lowest_share", "share_of", "share_at_most", "MOST_LINKS", "MOST_DELAY", "MOST_TOTAL", "check_links", "check_bursts", "check_delays", "least_delay_of", "deals", "least_share", "deal_share", "_law_mixed", "_law_store", "_law_take", "_law_edge"]
def lo1 : List PySem.Str := ["_law_small", "_law_pick", "_law_same", "_law_copy", "_law_lists", "_law_apart", "_law_not_number", "_law_not_list", "_law_misshaped", "_law_kind", "_law_gcd", "_law_share", "_law_bursts", "_law_delays", "_law_not_bursts", "_law_not_delays", "_law_deals_told", "_law_share_told", "_law_every", "_law_least", "_law_look", "_law_refused"]
def loose : List PySem.Str := lo0 ++ lo1
abbrev hk : PySem.W.Hook := tx.hook
def ob (s : PySem.W.SharedT) : TX.Al := tx.obsG (HandSHeadRun.getT s)
theorem ob_eq (s : PySem.W.SharedT) : ob s = hk.obs s.abs := TX.obsG_eq (HandSHeadRun.getT_eq s)
theorem run (w : World) : HandSHeadRun.RunEq R (PySem.W.view R.prog [57]) hk ob 4000 loose w := by
  intro os
  kernel_rfl
end K80
set_option maxHeartbeats 4000000
namespace K80
open PySem Py Py.LL
section
variable {W : Wd} {k : Nat} {Q : DQ} {E : DX → Prop}
abbrev FC (W : Wd) (k : Nat) (f : Str) (ds : List D) (Q : DQ) (E : DX → Prop) : Prop := FCall (callN tx.pg tx.fs k) W f ds Q E
theorem lkN : List.lookup (Str.ofString "BadNumber") tx.pg.exc = some (some (Str.ofString "argument")) := rfl
theorem lkS : List.lookup (Str.ofString "BadShape") tx.pg.exc = some (some (Str.ofString "argument")) := rfl
theorem gl1 : List.lookup (Str.ofString "MOST_LINKS") tx.pg.glo = some (.int 3) := rfl
theorem gl2 : List.lookup (Str.ofString "MOST_DELAY") tx.pg.glo = some (.int 6) := rfl
theorem gl3 : List.lookup (Str.ofString "MOST_TOTAL") tx.pg.glo = some (.int 18) := rfl
def bn (a : Str) : DX := ("BadNumber", some ("argument", .str a))
def bs_ (a : Str) : DX := ("BadShape", some ("argument", .str a))
/-- a number that is allowed -/
def OkN (lo hi : Int) (d : D) : Prop := ∃ i, d = .int i ∧ lo ≤ i ∧ i ≤ hi
theorem ok_or {lo hi : Int} {n : Nat} {d : D} (h : Pl n d) : OkN lo hi d ∨ NotIn lo hi d := by
  cases h with
  | int i =>
    by_cases h : lo ≤ i ∧ i ≤ hi
    · exact .inl ⟨i, rfl, h.1, h.2⟩
    · exact .inr (by show i < lo ∨ hi < i; omega)
  | _ => exact .inr trivial
theorem not_ok {lo hi : Int} {d : D} (h : NotIn lo hi d) : ¬ OkN lo hi d := by
  rintro ⟨i, rfl, h1, h2⟩
  have : i < lo ∨ hi < i := h
  omega
def isWh : D → Bool
  | .int _ => true
  | _ => false
theorem C_is_whole {d : D} {n : Nat} (hp : Pl n d) (hk : 1 ≤ k) (q : Q (.bl (isWh d))) : FC W k "is_whole" [d] Q E := by
  obtain ⟨k, rfl⟩ : ∃ k', k = k' + 1 := ⟨k - 1, by omega⟩
  (refine call_of (cons := fun _ => false) FCall.sound (d := fn_is_whole) rfl rfl ?_; simp only [fn_is_whole, Nat.sub_self, Nat.reduceSub, q_map_n, q_map_c, q_rep_z, List.replicate, q_app_n, q_app_c])
  cases hp <;> (((first | rw [qpSs_cons] | (dsimp only; rw [qpSs_cons])); simp_arith [Bool.and_true, Bool.true_and, Bool.and_false, Bool.false_and, Bool.not_true, Bool.not_false, Bool.or_true, Bool.true_or, Bool.or_false, Bool.false_or, decide_true, decide_false, and_true, true_and, qpSs_nil, List.length_map, List.length_cons, List.length_nil, Nat.zero_add, Nat.reduceAdd, ty_bb, ty_nb, ty_sb, ty_lb, ty_tb, ty_ii, ty_bi, ty_si, ty_li, ty_ti, ty_ni, ty_ss, ty_ls, ty_ts, ty_is, ty_bs, ty_ns, ty_ll, ty_tl, ty_lt, ty_tt, ty_sl, ty_il, ty_bl, ty_nl, ty_st, ty_it, ty_bt, ty_nt, isaT1, beq_self_eq_true, Option.map_some]); exact q)
theorem C_check_number {d : D} {n : Nat} {lo hi : Int} {a : Str} (hp : Pl n d) (hk : 2 ≤ k) (q : OkN lo hi d → Q d) (e : NotIn lo hi d → E (bn a)) : FC W k "check_number" [d, .int lo, .int hi, .str a] Q E := by
  obtain ⟨k, rfl⟩ : ∃ k', k = k' + 1 := ⟨k - 1, by omega⟩
  (refine call_of (cons := fun _ => false) FCall.sound (d := fn_check_number) rfl rfl ?_; simp only [fn_check_number, Nat.sub_self, Nat.reduceSub, q_map_n, q_map_c, q_rep_z, List.replicate, q_app_n, q_app_c])
  have hs := hp.sh
  ((first | rw [qpSs_cons] | (dsimp only; rw [qpSs_cons])); simp_arith [Bool.and_true, Bool.true_and, Bool.and_false, Bool.false_and, Bool.not_true, Bool.not_false, Bool.or_true, Bool.true_or, Bool.or_false, Bool.false_or, decide_true, decide_false, and_true, true_and, qpSs_nil, List.length_map, List.length_cons, List.length_nil, Nat.zero_add, Nat.reduceAdd, hs])
  refine C_is_whole hp (by omega) ?_
  (try simp_arith [Bool.and_true, Bool.true_and, Bool.and_false, Bool.false_and, Bool.not_true, Bool.not_false, Bool.or_true, Bool.true_or, Bool.or_false, Bool.false_or, decide_true, decide_false, and_true, true_and, qpSs_nil, List.length_map, List.length_cons, List.length_nil, Nat.zero_add, Nat.reduceAdd])
  have bad : NotIn lo hi d → E (bn a) := e
  cases hp with
  | int i =>
    (try simp_arith [Bool.and_true, Bool.true_and, Bool.and_false, Bool.false_and, Bool.not_true, Bool.not_false, Bool.or_true, Bool.true_or, Bool.or_false, Bool.false_or, decide_true, decide_false, and_true, true_and, qpSs_nil, List.length_map, List.length_cons, List.length_nil, Nat.zero_add, Nat.reduceAdd, isWh])
    refine ⟨fun h1 => ⟨fun h2 => ?_, fun h2 => ?_⟩, fun h1 => ?_⟩
    · ((first | rw [qpSs_cons] | (dsimp only; rw [qpSs_cons])); simp_arith [Bool.and_true, Bool.true_and, Bool.and_false, Bool.false_and, Bool.not_true, Bool.not_false, Bool.or_true, Bool.true_or, Bool.or_false, Bool.false_or, decide_true, decide_false, and_true, true_and, qpSs_nil, List.length_map, List.length_cons, List.length_nil, Nat.zero_add, Nat.reduceAdd])
      exact q ⟨i, rfl, h1, h2⟩
    · ((first | rw [qpSs_cons] | (dsimp only; rw [qpSs_cons])); simp_arith [Bool.and_true, Bool.true_and, Bool.and_false, Bool.false_and, Bool.not_true, Bool.not_false, Bool.or_true, Bool.true_or, Bool.or_false, Bool.false_or, decide_true, decide_false, and_true, true_and, qpSs_nil, List.length_map, List.length_cons, List.length_nil, Nat.zero_add, Nat.reduceAdd, lkN])
      exact e (.inr (by omega))
    · ((first | rw [qpSs_cons] | (dsimp only; rw [qpSs_cons])); simp_arith [Bool.and_true, Bool.true_and, Bool.and_false, Bool.false_and, Bool.not_true, Bool.not_false, Bool.or_true, Bool.true_or, Bool.or_false, Bool.false_or, decide_true, decide_false, and_true, true_and, qpSs_nil, List.length_map, List.length_cons, List.length_nil, Nat.zero_add, Nat.reduceAdd, lkN])
      exact e (.inl (by omega))
  | _ =>
    (try simp_arith [Bool.and_true, Bool.true_and, Bool.and_false, Bool.false_and, Bool.not_true, Bool.not_false, Bool.or_true, Bool.true_or, Bool.or_false, Bool.false_or, decide_true, decide_false, and_true, true_and, qpSs_nil, List.length_map, List.length_cons, List.length_nil, Nat.zero_add, Nat.reduceAdd, isWh])
    ((first | rw [qpSs_cons] | (dsimp only; rw [qpSs_cons])); simp_arith [Bool.and_true, Bool.true_and, Bool.and_false, Bool.false_and, Bool.not_true, Bool.not_false, Bool.or_true, Bool.true_or, Bool.or_false, Bool.false_or, decide_true, decide_false, and_true, true_and, qpSs_nil, List.length_map, List.length_cons, List.length_nil, Nat.zero_add, Nat.reduceAdd, lkN])
    exact e trivial
theorem C_common_measure {a b : Nat} (hk : 1 ≤ k) (ha : 0 < a) (hb : b < 1000) (q : Q (.int (Nat.gcd a b : Nat))) : FC W k "common_measure" [.int a, .int b] Q E := by
  obtain ⟨k, rfl⟩ : ∃ k', k = k' + 1 := ⟨k - 1, by omega⟩
  (refine call_of (cons := fun _ => false) FCall.sound (d := fn_common_measure) rfl rfl ?_; simp only [fn_common_measure, Nat.sub_self, Nat.reduceSub, q_map_n, q_map_c, q_rep_z, List.replicate, q_app_n, q_app_c])
  ((first | rw [qpSs_cons] | (dsimp only; rw [qpSs_cons])); simp_arith [Bool.and_true, Bool.true_and, Bool.and_false, Bool.false_and, Bool.not_true, Bool.not_false, Bool.or_true, Bool.true_or, Bool.or_false, Bool.false_or, decide_true, decide_false, and_true, true_and, qpSs_nil, List.length_map, List.length_cons, List.length_nil, Nat.zero_add, Nat.reduceAdd])
  ((first | rw [qpSs_cons] | (dsimp only; rw [qpSs_cons])); simp_arith [Bool.and_true, Bool.true_and, Bool.and_false, Bool.false_and, Bool.not_true, Bool.not_false, Bool.or_true, Bool.true_or, Bool.or_false, Bool.false_or, decide_true, decide_false, and_true, true_and, qpSs_nil, List.length_map, List.length_cons, List.length_nil, Nat.zero_add, Nat.reduceAdd])
  ((first | rw [qpSs_cons] | (dsimp only; rw [qpSs_cons])); simp_arith [Bool.and_true, Bool.true_and, Bool.and_false, Bool.false_and, Bool.not_true, Bool.not_false, Bool.or_true, Bool.true_or, Bool.or_false, Bool.false_or, decide_true, decide_false, and_true, true_and, qpSs_nil, List.length_map, List.length_cons, List.length_nil, Nat.zero_add, Nat.reduceAdd])
  refine ⟨fun n r => ∃ c d : Nat, r = [some (.int a), some (.int b), some (.int c), some (.int d)] ∧ 0 < c ∧ d ≤ n ∧ Nat.gcd c d = Nat.gcd a b, b, by simp only [WF]; omega, ⟨a, b, rfl, ha, Nat.le_refl _, rfl⟩, ?_⟩
  rintro n r ⟨c, d, rfl, hc, hd, hg⟩
  (try simp_arith [Bool.and_true, Bool.true_and, Bool.and_false, Bool.false_and, Bool.not_true, Bool.not_false, Bool.or_true, Bool.true_or, Bool.or_false, Bool.false_or, decide_true, decide_false, and_true, true_and, qpSs_nil, List.length_map, List.length_cons, List.length_nil, Nat.zero_add, Nat.reduceAdd, Option.map_some])
  refine ⟨fun h0 => ?_, fun h0 => ?_⟩
  · ((first | rw [qpSs_cons] | (dsimp only; rw [qpSs_cons])); simp_arith [Bool.and_true, Bool.true_and, Bool.and_false, Bool.false_and, Bool.not_true, Bool.not_false, Bool.or_true, Bool.true_or, Bool.or_false, Bool.false_or, decide_true, decide_false, and_true, true_and, qpSs_nil, List.length_map, List.length_cons, List.length_nil, Nat.zero_add, Nat.reduceAdd])
    obtain rfl : d = 0 := by omega
    rw [Nat.gcd_zero_right] at hg
    rw [hg]
    exact q
  · have hd0 : 0 < d := by omega
    have e : (0 < (d : Int)) = True := by simp; omega
    refine ⟨n - 1, by omega, ?_⟩
    ((first | rw [qpSs_cons] | (dsimp only; rw [qpSs_cons])); simp_arith [Bool.and_true, Bool.true_and, Bool.and_false, Bool.false_and, Bool.not_true, Bool.not_false, Bool.or_true, Bool.true_or, Bool.or_false, Bool.false_or, decide_true, decide_false, and_true, true_and, qpSs_nil, List.length_map, List.length_cons, List.length_nil, Nat.zero_add, Nat.reduceAdd, e])
    refine ⟨d, c % d, by simp, hd0, ?_, ?_⟩
    · have := Nat.mod_lt c hd0; omega
    · rw [Nat.gcd_comm d, ← Nat.gcd_rec, Nat.gcd_comm d]; exact hg
theorem C_lowest_share {a b : Nat} (hk : 2 ≤ k) (ha : 0 < a) (ha2 : a < 1000) (hb : b < 1000) (q : Q (.tup [.int (a / Nat.gcd a b : Nat), .int (b / Nat.gcd a b : Nat)])) : FC W k "lowest_share" [.int a, .int b] Q E := by
  obtain ⟨k, rfl⟩ : ∃ k', k = k' + 1 := ⟨k - 1, by omega⟩
  have hp : 0 < Nat.gcd a b := Nat.gcd_pos_of_pos_left _ ha
  have hl : Nat.gcd a b ≤ a := Nat.gcd_le_left _ ha
  (refine call_of (cons := fun _ => false) FCall.sound (d := fn_lowest_share) rfl rfl ?_; simp only [fn_lowest_share, Nat.sub_self, Nat.reduceSub, q_map_n, q_map_c, q_rep_z, List.replicate, q_app_n, q_app_c])
  ((first | rw [qpSs_cons] | (dsimp only; rw [qpSs_cons])); simp_arith [Bool.and_true, Bool.true_and, Bool.and_false, Bool.false_and, Bool.not_true, Bool.not_false, Bool.or_true, Bool.true_or, Bool.or_false, Bool.false_or, decide_true, decide_false, and_true, true_and, qpSs_nil, List.length_map, List.length_cons, List.length_nil, Nat.zero_add, Nat.reduceAdd])
  refine C_common_measure (by omega) ha hb ?_
  (try simp_arith [Bool.and_true, Bool.true_and, Bool.and_false, Bool.false_and, Bool.not_true, Bool.not_false, Bool.or_true, Bool.true_or, Bool.or_false, Bool.false_or, decide_true, decide_false, and_true, true_and, qpSs_nil, List.length_map, List.length_cons, List.length_nil, Nat.zero_add, Nat.reduceAdd])
  have e : (0 < ((Nat.gcd a b : Nat) : Int) ∧ ((Nat.gcd a b : Nat) : Int) < 2 ^ 64) = True := by simp; omega
  ((first | rw [qpSs_cons] | (dsimp only; rw [qpSs_cons])); simp_arith [Bool.and_true, Bool.true_and, Bool.and_false, Bool.false_and, Bool.not_true, Bool.not_false, Bool.or_true, Bool.true_or, Bool.or_false, Bool.false_or, decide_true, decide_false, and_true, true_and, qpSs_nil, List.length_map, List.length_cons, List.length_nil, Nat.zero_add, Nat.reduceAdd, e])
  exact ⟨by decide, q⟩
theorem C_share_of {a b : Nat} (hk : 3 ≤ k) (ha : 0 < a) (ha2 : a < 1000) (hb : 0 < b) (hb2 : b < 1000) (q : Q (.tup [.int (a / Nat.gcd a b : Nat), .int (b / Nat.gcd a b : Nat)])) : FC W k "share_of" [.int a, .int b] Q E := by
  obtain ⟨k, rfl⟩ : ∃ k', k = k' + 1 := ⟨k - 1, by omega⟩
  (refine call_of (cons := fun _ => false) FCall.sound (d := fn_share_of) rfl rfl ?_; simp only [fn_share_of, Nat.sub_self, Nat.reduceSub, q_map_n, q_map_c, q_rep_z, List.replicate, q_app_n, q_app_c])
  ((first | rw [qpSs_cons] | (dsimp only; rw [qpSs_cons])); simp_arith [Bool.and_true, Bool.true_and, Bool.and_false, Bool.false_and, Bool.not_true, Bool.not_false, Bool.or_true, Bool.true_or, Bool.or_false, Bool.false_or, decide_true, decide_false, and_true, true_and, qpSs_nil, List.length_map, List.length_cons, List.length_nil, Nat.zero_add, Nat.reduceAdd])
  refine C_check_number (n := 0) (.int _) (by omega) (fun _ => ?_) (fun h => absurd h (by show ¬ (_ ∨ _); omega))
  (try simp_arith [Bool.and_true, Bool.true_and, Bool.and_false, Bool.false_and, Bool.not_true, Bool.not_false, Bool.or_true, Bool.true_or, Bool.or_false, Bool.false_or, decide_true, decide_false, and_true, true_and, qpSs_nil, List.length_map, List.length_cons, List.length_nil, Nat.zero_add, Nat.reduceAdd])
  ((first | rw [qpSs_cons] | (dsimp only; rw [qpSs_cons])); simp_arith [Bool.and_true, Bool.true_and, Bool.and_false, Bool.false_and, Bool.not_true, Bool.not_false, Bool.or_true, Bool.true_or, Bool.or_false, Bool.false_or, decide_true, decide_false, and_true, true_and, qpSs_nil, List.length_map, List.length_cons, List.length_nil, Nat.zero_add, Nat.reduceAdd])
  refine C_check_number (n := 0) (.int _) (by omega) (fun _ => ?_) (fun h => absurd h (by show ¬ (_ ∨ _); omega))
  (try simp_arith [Bool.and_true, Bool.true_and, Bool.and_false, Bool.false_and, Bool.not_true, Bool.not_false, Bool.or_true, Bool.true_or, Bool.or_false, Bool.false_or, decide_true, decide_false, and_true, true_and, qpSs_nil, List.length_map, List.length_cons, List.length_nil, Nat.zero_add, Nat.reduceAdd])
  ((first | rw [qpSs_cons] | (dsimp only; rw [qpSs_cons])); simp_arith [Bool.and_true, Bool.true_and, Bool.and_false, Bool.false_and, Bool.not_true, Bool.not_false, Bool.or_true, Bool.true_or, Bool.or_false, Bool.false_or, decide_true, decide_false, and_true, true_and, qpSs_nil, List.length_map, List.length_cons, List.length_nil, Nat.zero_add, Nat.reduceAdd])
  exact C_lowest_share (by omega) ha ha2 hb2 q
theorem C_share_at_most {a b c d : Nat} (hk : 1 ≤ k) (ha : a < 1000) (hb : b < 1000) (hc : c < 1000) (hd : d < 1000) (q : Q (.bl (decide (a * d ≤ c * b)))) : FC W k "share_at_most" [.tup [.int a, .int b], .tup [.int c, .int d]] Q E := by
  obtain ⟨k, rfl⟩ : ∃ k', k = k' + 1 := ⟨k - 1, by omega⟩
  (refine call_of (cons := fun _ => false) FCall.sound (d := fn_share_at_most) rfl rfl ?_; simp only [fn_share_at_most, Nat.sub_self, Nat.reduceSub, q_map_n, q_map_c, q_rep_z, List.replicate, q_app_n, q_app_c])
  have e1 : mulOk (a : Int) (d : Int) = true := mulOk_r (by omega)
  have e2 : mulOk (c : Int) (b : Int) = true := mulOk_r (by omega)
  ((first | rw [qpSs_cons] | (dsimp only; rw [qpSs_cons])); simp_arith [Bool.and_true, Bool.true_and, Bool.and_false, Bool.false_and, Bool.not_true, Bool.not_false, Bool.or_true, Bool.true_or, Bool.or_false, Bool.false_or, decide_true, decide_false, and_true, true_and, qpSs_nil, List.length_map, List.length_cons, List.length_nil, Nat.zero_add, Nat.reduceAdd, at2_0, at2_1, e1, e2, ↓reduceIte])
  have : decide ((a : Int) * d ≤ c * b) = decide (a * d ≤ c * b) := by
    rw [decide_eq_decide, ← Int.natCast_mul, ← Int.natCast_mul]
    exact Int.ofNat_le
  rw [this]
  exact q
theorem C_check_links {d : D} {n : Nat} {a : Str} (hp : Pl n d) (hk : 1 ≤ k) (q : (∃ xs, d = .lst false xs ∧ 1 ≤ xs.length ∧ xs.length ≤ 3) → Q .non) (e : (¬ ∃ xs, d = .lst false xs ∧ 1 ≤ xs.length ∧ xs.length ≤ 3) → E (bs_ a)) : FC W k "check_links" [d, .str a] Q E := by
  obtain ⟨k, rfl⟩ : ∃ k', k = k' + 1 := ⟨k - 1, by omega⟩
  (refine call_of (cons := fun _ => false) FCall.sound (d := fn_check_links) rfl rfl ?_; simp only [fn_check_links, Nat.sub_self, Nat.reduceSub, q_map_n, q_map_c, q_rep_z, List.replicate, q_app_n, q_app_c])
  have hs := hp.sh
  cases hp with
  | @lst n xs hx hl =>
    have hsh := shs_id fun x z => (hx x z).sh
    ((first | rw [qpSs_cons] | (dsimp only; rw [qpSs_cons])); simp_arith [Bool.and_true, Bool.true_and, Bool.and_false, Bool.false_and, Bool.not_true, Bool.not_false, Bool.or_true, Bool.true_or, Bool.or_false, Bool.false_or, decide_true, decide_false, and_true, true_and, qpSs_nil, List.length_map, List.length_cons, List.length_nil, Nat.zero_add, Nat.reduceAdd, ty_bb, ty_nb, ty_sb, ty_lb, ty_tb, ty_ii, ty_bi, ty_si, ty_li, ty_ti, ty_ni, ty_ss, ty_ls, ty_ts, ty_is, ty_bs, ty_ns, ty_ll, ty_tl, ty_lt, ty_tt, ty_sl, ty_il, ty_bl, ty_nl, ty_st, ty_it, ty_bt, ty_nt, isaT1, beq_self_eq_true, Option.map_some, hsh, gl1, lkS])
    refine ⟨fun h1 => ⟨fun h2 => ?_, fun h2 => ?_⟩, fun h1 => ?_⟩
    · exact q ⟨xs, rfl, by omega, by omega⟩
    · ((first | rw [qpSs_cons] | (dsimp only; rw [qpSs_cons])); simp_arith [Bool.and_true, Bool.true_and, Bool.and_false, Bool.false_and, Bool.not_true, Bool.not_false, Bool.or_true, Bool.true_or, Bool.or_false, Bool.false_or, decide_true, decide_false, and_true, true_and, qpSs_nil, List.length_map, List.length_cons, List.length_nil, Nat.zero_add, Nat.reduceAdd, lkS])
      exact e (by rintro ⟨ys, h3, h4, h5⟩; cases h3; omega)
    · ((first | rw [qpSs_cons] | (dsimp only; rw [qpSs_cons])); simp_arith [Bool.and_true, Bool.true_and, Bool.and_false, Bool.false_and, Bool.not_true, Bool.not_false, Bool.or_true, Bool.true_or, Bool.or_false, Bool.false_or, decide_true, decide_false, and_true, true_and, qpSs_nil, List.length_map, List.length_cons, List.length_nil, Nat.zero_add, Nat.reduceAdd, lkS])
      exact e (by rintro ⟨ys, h3, h4, h5⟩; cases h3; omega)
  | _ =>
    ((first | rw [qpSs_cons] | (dsimp only; rw [qpSs_cons])); simp_arith [Bool.and_true, Bool.true_and, Bool.and_false, Bool.false_and, Bool.not_true, Bool.not_false, Bool.or_true, Bool.true_or, Bool.or_false, Bool.false_or, decide_true, decide_false, and_true, true_and, qpSs_nil, List.length_map, List.length_cons, List.length_nil, Nat.zero_add, Nat.reduceAdd, ty_bb, ty_nb, ty_sb, ty_lb, ty_tb, ty_ii, ty_bi, ty_si, ty_li, ty_ti, ty_ni, ty_ss, ty_ls, ty_ts, ty_is, ty_bs, ty_ns, ty_ll, ty_tl, ty_lt, ty_tt, ty_sl, ty_il, ty_bl, ty_nl, ty_st, ty_it, ty_bt, ty_nt, isaT1, beq_self_eq_true, Option.map_some, lkS])
    ((first | rw [qpSs_cons] | (dsimp only; rw [qpSs_cons])); simp_arith [Bool.and_true, Bool.true_and, Bool.and_false, Bool.false_and, Bool.not_true, Bool.not_false, Bool.or_true, Bool.true_or, Bool.or_false, Bool.false_or, decide_true, decide_false, and_true, true_and, qpSs_nil, List.length_map, List.length_cons, List.length_nil, Nat.zero_add, Nat.reduceAdd, lkS])
    exact e (by rintro ⟨ys, h3, h4, h5⟩; cases h3)
def iN (l : List Nat) : List D := l.map fun (n : Nat) => D.int (n : Int)
theorem iN_ints (l : List Nat) : iN l = (l.map fun (n : Nat) => (n : Int)).map D.int := by unfold iN; rw [List.map_map]; rfl
theorem shs_iN (l : List Nat) : shs (iN l) = iN l := by rw [iN_ints, shs_ints]
theorem owns_iN (l : List Nat) : owns (iN l) = true := by rw [iN_ints, owns_ints]
theorem iN_len (l : List Nat) : (iN l).length = l.length := by unfold iN; simp
theorem natsD {hi : Int} : ∀ {xs : List D}, (∀ x ∈ xs, OkN 0 hi x) → ∃ bs : List Nat, xs = iN bs ∧ ∀ b ∈ bs, (b : Int) ≤ hi
  | [], _ => ⟨[], rfl, fun _ h => by cases h⟩
  | x :: xs, h => by
    obtain ⟨i, rfl, h1, h2⟩ := h x (List.mem_cons_self ..)
    obtain ⟨is, rfl, h3⟩ := natsD fun y hy => h y (List.mem_cons_of_mem _ hy)
    obtain ⟨n, rfl⟩ : ∃ n : Nat, i = n := ⟨i.toNat, by omega⟩
    exact ⟨n :: is, rfl, fun j hj => (List.mem_cons.mp hj).elim (fun e => e ▸ h2) (h3 j)⟩
def BsOk (bs : List Nat) : Prop := 1 ≤ bs.length ∧ bs.length ≤ 3 ∧ ∀ b ∈ bs, b ≤ 6
/-- bursts that are allowed -/
def GoodB (d : D) : Prop := ∃ bs, d = .lst false (iN bs) ∧ BsOk bs
theorem goodB_of {xs : List D} (l1 : 1 ≤ xs.length) (l2 : xs.length ≤ 3) (h : ∀ x ∈ xs, OkN 0 6 x) : GoodB (.lst false xs) := by
  obtain ⟨bs, rfl, hb⟩ := natsD h
  rw [iN_len] at l1 l2
  exact ⟨bs, rfl, l1, l2, fun b hb' => by have := hb b hb'; omega⟩
/-- a list of links -/
def Lk (d : D) : Prop := ∃ xs, d = .lst false xs ∧ 1 ≤ xs.length ∧ xs.length ≤ 3
theorem C_check_bursts {d : D} {n : Nat} (hp : Pl n d) (hk : 3 ≤ k) (e1 : ¬ Lk d → E (bs_ "bursts")) (e2 : Lk d → ∀ xs, d = .lst false xs → (∃ x ∈ xs, NotIn 0 6 x) → E (bn "bursts")) (q : ∀ xs, d = .lst false xs → 1 ≤ xs.length → xs.length ≤ 3 → (∀ x ∈ xs, OkN 0 6 x) → Q .non) : FC W k "check_bursts" [d] Q E := by
  obtain ⟨k, rfl⟩ : ∃ k', k = k' + 1 := ⟨k - 1, by omega⟩
  (refine call_of (cons := fun _ => false) FCall.sound (d := fn_check_bursts) rfl rfl ?_; simp only [fn_check_bursts, Nat.sub_self, Nat.reduceSub, q_map_n, q_map_c, q_rep_z, List.replicate, q_app_n, q_app_c])
  have hs := hp.sh
  ((first | rw [qpSs_cons] | (dsimp only; rw [qpSs_cons])); simp_arith [Bool.and_true, Bool.true_and, Bool.and_false, Bool.false_and, Bool.not_true, Bool.not_false, Bool.or_true, Bool.true_or, Bool.or_false, Bool.false_or, decide_true, decide_false, and_true, true_and, qpSs_nil, List.length_map, List.length_cons, List.length_nil, Nat.zero_add, Nat.reduceAdd, hs])
  refine C_check_links hp (by omega) (fun h => ?_) e1
  obtain ⟨xs, rfl, l1, l2⟩ := h
  cases hp with
  | @lst n _ hx hl =>
    have hsh := shs_id fun x z => (hx x z).sh
    (try simp_arith [Bool.and_true, Bool.true_and, Bool.and_false, Bool.false_and, Bool.not_true, Bool.not_false, Bool.or_true, Bool.true_or, Bool.or_false, Bool.false_or, decide_true, decide_false, and_true, true_and, qpSs_nil, List.length_map, List.length_cons, List.length_nil, Nat.zero_add, Nat.reduceAdd])
    ((first | rw [qpSs_cons] | (dsimp only; rw [qpSs_cons])); simp_arith [Bool.and_true, Bool.true_and, Bool.and_false, Bool.false_and, Bool.not_true, Bool.not_false, Bool.or_true, Bool.true_or, Bool.or_false, Bool.false_or, decide_true, decide_false, and_true, true_and, qpSs_nil, List.length_map, List.length_cons, List.length_nil, Nat.zero_add, Nat.reduceAdd, hsh])
    have key : ∀ (ys : List D) (o : Option D), (∀ y ∈ ys, y ∈ xs) → ((∀ y ∈ ys, OkN 0 6 y) → Q .non) → forD (.nm 1) (fun r1 K1 => pSs tx.pg (FC W k) (fun _ => false) (.cons (.expr (.call "check_number" (.cons (.var 1) (.cons (.cst (.int 0)) (.cons (.cst (.int 6)) (.cons (.cst (.str "bursts")) .nil)))))) .nil) r1 K1) (ys.map fun d => [d]) [some (.lst false xs), o] { bodyK Q E with nx := fun _ => Q .non } := by
      intro ys
      induction ys with
      | nil =>
        intro o _ hq
        (try simp_arith [Bool.and_true, Bool.true_and, Bool.and_false, Bool.false_and, Bool.not_true, Bool.not_false, Bool.or_true, Bool.true_or, Bool.or_false, Bool.false_or, decide_true, decide_false, and_true, true_and, qpSs_nil, List.length_map, List.length_cons, List.length_nil, Nat.zero_add, Nat.reduceAdd])
        exact hq (fun y hy => by cases hy)
      | cons y ys ih =>
        intro o hy hq
        have hpy := hx y (hy y (List.mem_cons_self ..))
        (try simp_arith [Bool.and_true, Bool.true_and, Bool.and_false, Bool.false_and, Bool.not_true, Bool.not_false, Bool.or_true, Bool.true_or, Bool.or_false, Bool.false_or, decide_true, decide_false, and_true, true_and, qpSs_nil, List.length_map, List.length_cons, List.length_nil, Nat.zero_add, Nat.reduceAdd])
        ((first | rw [qpSs_cons] | (dsimp only; rw [qpSs_cons])); simp_arith [Bool.and_true, Bool.true_and, Bool.and_false, Bool.false_and, Bool.not_true, Bool.not_false, Bool.or_true, Bool.true_or, Bool.or_false, Bool.false_or, decide_true, decide_false, and_true, true_and, qpSs_nil, List.length_map, List.length_cons, List.length_nil, Nat.zero_add, Nat.reduceAdd, hpy.sh, hsh])
        refine C_check_number hpy (by omega) (fun ok => ?_) (fun bad => e2 ⟨xs, rfl, l1, l2⟩ xs rfl ⟨y, hy y (List.mem_cons_self ..), bad⟩)
        have step := ih (some y) (fun z hz => hy z (List.mem_cons_of_mem _ hz)) fun h => hq fun z hz => (List.mem_cons.mp hz).elim (fun e => e ▸ ok) (h z)
        cases ho : y.own with
        | true => (try simp_arith [Bool.and_true, Bool.true_and, Bool.and_false, Bool.false_and, Bool.not_true, Bool.not_false, Bool.or_true, Bool.true_or, Bool.or_false, Bool.false_or, decide_true, decide_false, and_true, true_and, qpSs_nil, List.length_map, List.length_cons, List.length_nil, Nat.zero_add, Nat.reduceAdd]); exact step
        | false => (try simp_arith [Bool.and_true, Bool.true_and, Bool.and_false, Bool.false_and, Bool.not_true, Bool.not_false, Bool.or_true, Bool.true_or, Bool.or_false, Bool.false_or, decide_true, decide_false, and_true, true_and, qpSs_nil, List.length_map, List.length_cons, List.length_nil, Nat.zero_add, Nat.reduceAdd, hpy.sh, hsh]); exact step
    have := key xs none (fun _ z => z) fun h => q xs rfl l1 l2 h
    cases ho : (D.lst false xs).own with
    | true => cases ho
    | false => exact this
theorem ok_ints {lo hi : Int} : ∀ {xs : List D}, (∀ x ∈ xs, OkN lo hi x) → ∃ is : List Int, xs = is.map D.int ∧ ∀ i ∈ is, lo ≤ i ∧ i ≤ hi
  | [], _ => ⟨[], rfl, fun _ h => by cases h⟩
  | x :: xs, h => by
    obtain ⟨i, rfl, h1⟩ := h x (List.mem_cons_self ..)
    obtain ⟨is, rfl, h2⟩ := ok_ints fun y hy => h y (List.mem_cons_of_mem _ hy)
    exact ⟨i :: is, rfl, fun j hj => (List.mem_cons.mp hj).elim (fun e => e ▸ h1) (h2 j)⟩
def lowD (b : Int) : Int := if b > 1 then b else 1
theorem C_least_delay {b : Int} (hk : 1 ≤ k) (q : Q (.int (lowD b))) : FC W k "least_delay_of" [.int b] Q E := by
  obtain ⟨k, rfl⟩ : ∃ k', k = k' + 1 := ⟨k - 1, by omega⟩
  (refine call_of (cons := fun _ => false) FCall.sound (d := fn_least_delay_of) rfl rfl ?_; simp only [fn_least_delay_of, Nat.sub_self, Nat.reduceSub, q_map_n, q_map_c, q_rep_z, List.replicate, q_app_n, q_app_c])
  ((first | rw [qpSs_cons] | (dsimp only; rw [qpSs_cons])); simp_arith [Bool.and_true, Bool.true_and, Bool.and_false, Bool.false_and, Bool.not_true, Bool.not_false, Bool.or_true, Bool.true_or, Bool.or_false, Bool.false_or, decide_true, decide_false, and_true, true_and, qpSs_nil, List.length_map, List.length_cons, List.length_nil, Nat.zero_add, Nat.reduceAdd])
  exact q
/-- the ways to go on from a row -/
def longer (t b : Int) (r : List Int) : List (List Int) := (List.range (7 - lowD b).toNat).flatMap fun (j : Nat) => if r.sum + (lowD b + j) ≤ t then [r ++ [lowD b + j]] else []
def dealsL (bs : List Int) (t : Int) : List (List Int) := bs.foldl (fun f b => f.flatMap (longer t b)) [[]]
def rowT (r : List Int) : D := .lst true (r.map D.int)
def rowF (r : List Int) : D := .lst false (r.map D.int)
theorem rowT_sh (r : List Int) : (rowT r).sh = rowF r := by show D.lst false (shs _) = _; rw [shs_ints]; rfl
theorem shs_rowT : ∀ rs : List (List Int), shs (rs.map rowT) = rs.map rowF
  | [] => rfl
  | r :: rs => by show (rowT r).sh :: shs (rs.map rowT) = _; rw [rowT_sh, shs_rowT rs]; rfl
theorem shs_rowF : ∀ rs : List (List Int), shs (rs.map rowF) = rs.map rowF
  | [] => rfl
  | r :: rs => by show D.lst false (shs (r.map D.int)) :: shs (rs.map rowF) = _; rw [shs_ints, shs_rowF rs]; rfl
theorem longer_len (t b : Int) (r : List Int) : (longer t b r).length ≤ 6 := by
  unfold longer
  have : ∀ (l : List Nat) (g : Nat → List (List Int)), (∀ j, (g j).length ≤ 1) → (l.flatMap g).length ≤ l.length := by
    intro l g h
    induction l with
    | nil => simp
    | cons x l ih => rw [List.flatMap_cons, List.length_append, List.length_cons]; have := h x; omega
  refine Nat.le_trans (this _ _ fun j => ?_) ?_
  · split <;> simp
  · rw [List.length_range]
    unfold lowD
    split <;> omega
theorem longer_mem {t b : Int} {r x : List Int} (h : x ∈ longer t b r) : x.length = r.length + 1 := by
  unfold longer at h
  obtain ⟨j, _, h⟩ := List.mem_flatMap.mp h
  split at h
  · rw [List.mem_singleton.mp h]; simp
  · cases h
theorem flat_len {A C : Type} {f : A → List C} {N : Nat} (h : ∀ x, (f x).length ≤ N) : ∀ l : List A, (l.flatMap f).length ≤ l.length * N
  | [] => by simp
  | x :: l => by rw [List.flatMap_cons, List.length_append, List.length_cons, Nat.succ_mul]; have := h x; have := flat_len h l; omega
theorem owns_rowT : ∀ rs : List (List Int), owns (rs.map rowT) = true
  | [] => rfl
  | r :: rs => by show ((rowT r).own && owns (rs.map rowT)) = true; rw [owns_rowT rs]; show ((true && owns (r.map D.int)) && true) = true; rw [owns_ints]; rfl
theorem intsD_ints : ∀ is : List Int, intsD (is.map D.int) = some is
  | [] => rfl
  | i :: is => by show (intsD (is.map D.int)).map _ = _; rw [intsD_ints is]; rfl
theorem C_deals {d dt : D} {n m : Nat} (hp : Pl n d) (hpt : Pl m dt) (hk : 4 ≤ k) (e1 : ¬ Lk d → E (bs_ "bursts")) (e2 : Lk d → ∀ xs, d = .lst false xs → (∃ x ∈ xs, NotIn 0 6 x) → E (bn "bursts")) (e3 : GoodB d → NotIn 1 18 dt → E (bn "total"))
    (q : ∀ (bs : List Int) (t : Int), d = .lst false (bs.map D.int) → dt = .int t → 1 ≤ bs.length → bs.length ≤ 3 → (∀ b ∈ bs, 0 ≤ b ∧ b ≤ 6) → 1 ≤ t → t ≤ 18 → Q (.lst true ((dealsL bs t).map rowT))) : FC W k "deals" [d, dt] Q E := by
  obtain ⟨k, rfl⟩ : ∃ k', k = k' + 1 := ⟨k - 1, by omega⟩
  (refine call_of (cons := fun _ => false) FCall.sound (d := fn_deals) rfl rfl ?_; simp only [fn_deals, Nat.sub_self, Nat.reduceSub, q_map_n, q_map_c, q_rep_z, List.replicate, q_app_n, q_app_c])
  ((first | rw [qpSs_cons] | (dsimp only; rw [qpSs_cons])); simp_arith [Bool.and_true, Bool.true_and, Bool.and_false, Bool.false_and, Bool.not_true, Bool.not_false, Bool.or_true, Bool.true_or, Bool.or_false, Bool.false_or, decide_true, decide_false, and_true, true_and, qpSs_nil, List.length_map, List.length_cons, List.length_nil, Nat.zero_add, Nat.reduceAdd, hp.sh])
  refine C_check_bursts hp (by omega) e1 e2 fun xs hd l1 l2 hok => ?_
  subst hd
  have hgb := goodB_of l1 l2 hok
  obtain ⟨bs, rfl, hbs⟩ := ok_ints hok
  rw [List.length_map] at l1 l2
  (try simp_arith [Bool.and_true, Bool.true_and, Bool.and_false, Bool.false_and, Bool.not_true, Bool.not_false, Bool.or_true, Bool.true_or, Bool.or_false, Bool.false_or, decide_true, decide_false, and_true, true_and, qpSs_nil, List.length_map, List.length_cons, List.length_nil, Nat.zero_add, Nat.reduceAdd])
  ((first | rw [qpSs_cons] | (dsimp only; rw [qpSs_cons])); simp_arith [Bool.and_true, Bool.true_and, Bool.and_false, Bool.false_and, Bool.not_true, Bool.not_false, Bool.or_true, Bool.true_or, Bool.or_false, Bool.false_or, decide_true, decide_false, and_true, true_and, qpSs_nil, List.length_map, List.length_cons, List.length_nil, Nat.zero_add, Nat.reduceAdd, hpt.sh, gl3])
  refine C_check_number hpt (by omega) (fun ok => ?_) (e3 hgb)
  obtain ⟨t, rfl, t1, t2⟩ := ok
  (try simp_arith [Bool.and_true, Bool.true_and, Bool.and_false, Bool.false_and, Bool.not_true, Bool.not_false, Bool.or_true, Bool.true_or, Bool.or_false, Bool.false_or, decide_true, decide_false, and_true, true_and, qpSs_nil, List.length_map, List.length_cons, List.length_nil, Nat.zero_add, Nat.reduceAdd])
  ((first | rw [qpSs_cons] | (dsimp only; rw [qpSs_cons])); simp_arith [Bool.and_true, Bool.true_and, Bool.and_false, Bool.false_and, Bool.not_true, Bool.not_false, Bool.or_true, Bool.true_or, Bool.or_false, Bool.false_or, decide_true, decide_false, and_true, true_and, qpSs_nil, List.length_map, List.length_cons, List.length_nil, Nat.zero_add, Nat.reduceAdd])
  refine ⟨by decide, by decide, ?_⟩
  ((first | rw [qpSs_cons] | (dsimp only; rw [qpSs_cons])); simp_arith [Bool.and_true, Bool.true_and, Bool.and_false, Bool.false_and, Bool.not_true, Bool.not_false, Bool.or_true, Bool.true_or, Bool.or_false, Bool.false_or, decide_true, decide_false, and_true, true_and, qpSs_nil, List.length_map, List.length_cons, List.length_nil, Nat.zero_add, Nat.reduceAdd, shs_ints, owns_ints])
  rw [List.map_map]
  refine for_ind (Inv := fun cs r => ∃ (f : List (List Int)) (o : Option D), r = [some (.lst false (bs.map D.int)), some (.int t), some (.lst true (f.map rowT)), o, none, none] ∧ f.length * 6 ^ cs.length ≤ 216 ∧ (∀ x ∈ f, x.length + cs.length ≤ 3) ∧ (∀ x ∈ cs, 0 ≤ x ∧ x ≤ 6) ∧ cs.foldl (fun f b => f.flatMap (longer t b)) f = dealsL bs t) (fun b cs ρ h => ?_) (fun ρ h => ?_) bs _ ⟨[[]], none, rfl, ?_, ?_, hbs, rfl⟩
  · obtain ⟨f, o, rfl, h1, h2, h4, h3⟩ := h
    refine ⟨_, rfl, fun K' hK => ?_⟩
    ((first | rw [qpSs_cons] | (dsimp only; rw [qpSs_cons])); simp_arith [Bool.and_true, Bool.true_and, Bool.and_false, Bool.false_and, Bool.not_true, Bool.not_false, Bool.or_true, Bool.true_or, Bool.or_false, Bool.false_or, decide_true, decide_false, and_true, true_and, qpSs_nil, List.length_map, List.length_cons, List.length_nil, Nat.zero_add, Nat.reduceAdd, shs_rowT, shs_rowF, owns_rowT, Function.comp])
    rw [List.map_map]
    have hl6 : f.length * 6 ≤ 216 := by
      have : 1 ≤ 6 ^ cs.length := Nat.one_le_pow _ _ (by decide)
      rw [List.length_cons, Nat.pow_succ, ← Nat.mul_assoc, Nat.mul_comm _ 6, ← Nat.mul_assoc, Nat.mul_comm 6] at h1
      exact Nat.le_trans (Nat.le_mul_of_pos_right _ this) h1
    refine lc_flat (f := fun r => (longer t b r).map rowT) (N := 6) (by simp only [List.length_nil, SL]; omega) (fun r hr => ⟨by rw [List.length_map]; exact longer_len t b r, _, rfl, fun acc K ha hK => ?_⟩) ?_
    · have hr3 := h2 r hr
      (try simp_arith [Bool.and_true, Bool.true_and, Bool.and_false, Bool.false_and, Bool.not_true, Bool.not_false, Bool.or_true, Bool.true_or, Bool.or_false, Bool.false_or, decide_true, decide_false, and_true, true_and, qpSs_nil, List.length_map, List.length_cons, List.length_nil, Nat.zero_add, Nat.reduceAdd, gl2, Function.comp])
      refine C_least_delay (by omega) ?_
      (try simp_arith [Bool.and_true, Bool.true_and, Bool.and_false, Bool.false_and, Bool.not_true, Bool.not_false, Bool.or_true, Bool.true_or, Bool.or_false, Bool.false_or, decide_true, decide_false, and_true, true_and, qpSs_nil, List.length_map, List.length_cons, List.length_nil, Nat.zero_add, Nat.reduceAdd, gl2])
      have hb : 0 ≤ b ∧ b ≤ 6 := h4 b (List.mem_cons_self ..)
      have lw : 1 ≤ lowD b ∧ lowD b ≤ 6 := by unfold lowD; split <;> omega
      refine ⟨⟨⟨by omega, by omega⟩, by decide⟩, ?_⟩
      simp only [Int.reduceAdd]
      rw [rngD_map]
      refine lc_flat (f := fun (j : Nat) => (if r.sum + (lowD b + j) ≤ t then [r ++ [lowD b + j]] else []).map rowT) (N := 1) (by rw [List.length_range]; omega) (fun j hj => ⟨by split <;> simp, _, rfl, fun acc K ha hK => ?_⟩) ?_
      · (try simp_arith [Bool.and_true, Bool.true_and, Bool.and_false, Bool.false_and, Bool.not_true, Bool.not_false, Bool.or_true, Bool.true_or, Bool.or_false, Bool.false_or, decide_true, decide_false, and_true, true_and, qpSs_nil, List.length_map, List.length_cons, List.length_nil, Nat.zero_add, Nat.reduceAdd, rowF, shs_ints, intsD_ints])
        rw [List.length_cons] at hr3
        refine ⟨fun hc => ?_, fun hc => ?_⟩
        · rw [if_pos hc, List.map_singleton, rowT, List.map_append, List.map_singleton] at hK
          exact ⟨by decide, by simp only [SL]; omega, ha, hK⟩
        · rw [if_neg hc, List.map_nil, List.append_nil] at hK
          exact hK
      · have e : (List.range (7 - lowD b).toNat).flatMap (fun (j : Nat) => (if r.sum + (lowD b + j) ≤ t then [r ++ [lowD b + j]] else []).map rowT) = (longer t b r).map rowT := by
          unfold longer
          rw [List.map_flatMap]
        rw [e]
        exact hK
    · have e : (f.flatMap fun r => (longer t b r).map rowT) = (f.flatMap (longer t b)).map rowT := by rw [List.map_flatMap]
      rw [List.nil_append, e]
      (try simp_arith [Bool.and_true, Bool.true_and, Bool.and_false, Bool.false_and, Bool.not_true, Bool.not_false, Bool.or_true, Bool.true_or, Bool.or_false, Bool.false_or, decide_true, decide_false, and_true, true_and, qpSs_nil, List.length_map, List.length_cons, List.length_nil, Nat.zero_add, Nat.reduceAdd, owns_rowT])
      refine hK _ ⟨f.flatMap (longer t b), _, rfl, ?_, fun x hx => ?_, fun x hx => h4 x (List.mem_cons_of_mem _ hx), h3⟩
      · rw [List.length_cons, Nat.pow_succ] at h1
        refine Nat.le_trans (Nat.mul_le_mul_right _ (flat_len (longer_len t b) f)) ?_
        rw [Nat.mul_assoc, Nat.mul_comm 6]
        exact h1
      · obtain ⟨r, hr, hx⟩ := List.mem_flatMap.mp hx
        have := longer_mem hx
        have := h2 r hr
        rw [List.length_cons] at this
        omega
  · obtain ⟨f, o, rfl, h1, h2, _, h3⟩ := h
    ((first | rw [qpSs_cons] | (dsimp only; rw [qpSs_cons])); simp_arith [Bool.and_true, Bool.true_and, Bool.and_false, Bool.false_and, Bool.not_true, Bool.not_false, Bool.or_true, Bool.true_or, Bool.or_false, Bool.false_or, decide_true, decide_false, and_true, true_and, qpSs_nil, List.length_map, List.length_cons, List.length_nil, Nat.zero_add, Nat.reduceAdd])
    have h3 : f = dealsL bs t := h3
    rw [h3]
    exact q bs t rfl rfl l1 l2 hbs t1 t2
  · have : bs.length = 1 ∨ bs.length = 2 ∨ bs.length = 3 := by omega
    rcases this with e | e | e <;> rw [e] <;> decide
  · intro x hx
    rw [List.mem_singleton.mp hx]
    simp only [List.length_nil]
    omega
theorem tgt_pair {is : List Nat} {a b : D} {r : DE} : tgtD (.tp is) [a, b] r = setD r is [a, b] := by cases a <;> rfl
theorem zipD_map : ∀ xs ys : List D, zipD xs ys = (xs.zip ys).map fun p => [p.1, p.2]
  | [], _ => by cases ‹List D› <;> rfl
  | _ :: _, [] => rfl
  | x :: xs, y :: ys => by show [x, y] :: zipD xs ys = _; rw [zipD_map xs ys]; rfl
theorem C_check_delays {d : D} {n : Nat} {bs : List Nat} (hp : Pl n d) (hk : 3 ≤ k) (hl : bs.length ≤ 3) (hb : ∀ b ∈ bs, b ≤ 6) (e1 : (¬ ∃ xs, d = .lst false xs ∧ xs.length = bs.length) → E (bs_ "delays")) (e2 : ∀ xs, d = .lst false xs → xs.length = bs.length → (∃ p ∈ xs.zip bs, NotIn (lowD p.2) 6 p.1) → E (bn "delays"))
    (q : ∀ xs, d = .lst false xs → xs.length = bs.length → (∀ p ∈ xs.zip bs, OkN (lowD p.2) 6 p.1) → Q .non) : FC W k "check_delays" [d, .lst false (iN bs)] Q E := by
  obtain ⟨k, rfl⟩ : ∃ k', k = k' + 1 := ⟨k - 1, by omega⟩
  (refine call_of (cons := fun _ => false) FCall.sound (d := fn_check_delays) rfl rfl ?_; simp only [fn_check_delays, Nat.sub_self, Nat.reduceSub, q_map_n, q_map_c, q_rep_z, List.replicate, q_app_n, q_app_c])
  have hs := hp.sh
  cases hp with
  | @lst n xs hx hxl =>
    have hsh := shs_id fun x z => (hx x z).sh
    ((first | rw [qpSs_cons] | (dsimp only; rw [qpSs_cons])); simp_arith [Bool.and_true, Bool.true_and, Bool.and_false, Bool.false_and, Bool.not_true, Bool.not_false, Bool.or_true, Bool.true_or, Bool.or_false, Bool.false_or, decide_true, decide_false, and_true, true_and, qpSs_nil, List.length_map, List.length_cons, List.length_nil, Nat.zero_add, Nat.reduceAdd, ty_bb, ty_nb, ty_sb, ty_lb, ty_tb, ty_ii, ty_bi, ty_si, ty_li, ty_ti, ty_ni, ty_ss, ty_ls, ty_ts, ty_is, ty_bs, ty_ns, ty_ll, ty_tl, ty_lt, ty_tt, ty_sl, ty_il, ty_bl, ty_nl, ty_st, ty_it, ty_bt, ty_nt, isaT1, beq_self_eq_true, Option.map_some, hsh, shs_iN, owns_iN, iN_len])
    refine ⟨fun h1 => ?_, fun h1 => ?_⟩
    · have hlen : xs.length = bs.length := by omega
      ((first | rw [qpSs_cons] | (dsimp only; rw [qpSs_cons])); simp_arith [Bool.and_true, Bool.true_and, Bool.and_false, Bool.false_and, Bool.not_true, Bool.not_false, Bool.or_true, Bool.true_or, Bool.or_false, Bool.false_or, decide_true, decide_false, and_true, true_and, qpSs_nil, List.length_map, List.length_cons, List.length_nil, Nat.zero_add, Nat.reduceAdd, ty_bb, ty_nb, ty_sb, ty_lb, ty_tb, ty_ii, ty_bi, ty_si, ty_li, ty_ti, ty_ni, ty_ss, ty_ls, ty_ts, ty_is, ty_bs, ty_ns, ty_ll, ty_tl, ty_lt, ty_tt, ty_sl, ty_il, ty_bl, ty_nl, ty_st, ty_it, ty_bt, ty_nt, isaT1, beq_self_eq_true, Option.map_some, hsh, shs_iN, owns_iN, iN_len])
      have hz : zipD xs (iN bs) = (xs.zip bs).map fun p => [p.1, .int p.2] := by
        rw [zipD_map]
        unfold iN
        rw [List.zip_map_right, List.map_map]
        rfl
      rw [hz]
      have go : forD (.tp [2, 3]) (fun r1 K1 => pSs tx.pg (FC W k) (fun _ => false) (.cons (.expr (.call "check_number" (.cons (.var 2) (.cons (.call "least_delay_of" (.cons (.var 3) .nil)) (.cons (.glo "MOST_DELAY") (.cons (.cst (.str "delays")) .nil)))))) .nil) r1 K1) ((xs.zip bs).map fun p => [p.1, .int p.2]) [some (.lst false xs), some (.lst false (iN bs)), none, none] { nx := fun _ => Q .non, br := fun _ => False, ct := fun _ => False, rt := Q, ex := E } := by
        refine for_ind (Inv := fun ps r => ∃ o1 o2, r = [some (.lst false xs), some (.lst false (iN bs)), o1, o2] ∧ (∀ p ∈ ps, p ∈ xs.zip bs) ∧ ((∀ p ∈ ps, OkN (lowD p.2) 6 p.1) → Q .non)) (fun p ps ρ h => ?_) (fun ρ h => ?_) _ _ ⟨none, none, rfl, fun _ z => z, fun h => q xs rfl hlen h⟩
        · obtain ⟨o1, o2, rfl, h2, h3⟩ := h
          obtain ⟨x, b⟩ := p
          have hin := h2 _ (List.mem_cons_self ..)
          have hxp := hx x (List.of_mem_zip hin).1
          refine ⟨_, by rw [tgt_pair]; rfl, fun K' hK => ?_⟩
          ((first | rw [qpSs_cons] | (dsimp only; rw [qpSs_cons])); simp_arith [Bool.and_true, Bool.true_and, Bool.and_false, Bool.false_and, Bool.not_true, Bool.not_false, Bool.or_true, Bool.true_or, Bool.or_false, Bool.false_or, decide_true, decide_false, and_true, true_and, qpSs_nil, List.length_map, List.length_cons, List.length_nil, Nat.zero_add, Nat.reduceAdd, hsh, shs_iN, hxp.sh, gl2])
          refine C_least_delay (by omega) ?_
          (try simp_arith [Bool.and_true, Bool.true_and, Bool.and_false, Bool.false_and, Bool.not_true, Bool.not_false, Bool.or_true, Bool.true_or, Bool.or_false, Bool.false_or, decide_true, decide_false, and_true, true_and, qpSs_nil, List.length_map, List.length_cons, List.length_nil, Nat.zero_add, Nat.reduceAdd, gl2])
          refine C_check_number hxp (by omega) (fun ok => ?_) (fun bad => e2 xs rfl hlen ⟨_, hin, bad⟩)
          have step := hK [some (.lst false xs), some (.lst false (iN bs)), some x, some (.int b)] ⟨_, _, rfl, fun p hp => h2 p (List.mem_cons_of_mem _ hp), fun h => h3 fun p hp => (List.mem_cons.mp hp).elim (fun e => e ▸ ok) (h p)⟩
          cases ho : x.own with
          | true => (try simp_arith [Bool.and_true, Bool.true_and, Bool.and_false, Bool.false_and, Bool.not_true, Bool.not_false, Bool.or_true, Bool.true_or, Bool.or_false, Bool.false_or, decide_true, decide_false, and_true, true_and, qpSs_nil, List.length_map, List.length_cons, List.length_nil, Nat.zero_add, Nat.reduceAdd]); exact step
          | false => (try simp_arith [Bool.and_true, Bool.true_and, Bool.and_false, Bool.false_and, Bool.not_true, Bool.not_false, Bool.or_true, Bool.true_or, Bool.or_false, Bool.false_or, decide_true, decide_false, and_true, true_and, qpSs_nil, List.length_map, List.length_cons, List.length_nil, Nat.zero_add, Nat.reduceAdd, hxp.sh, hsh, shs_iN]); exact step
        · obtain ⟨o1, o2, rfl, h2, h3⟩ := h
          exact h3 fun p hp => by cases hp
      exact go
    · ((first | rw [qpSs_cons] | (dsimp only; rw [qpSs_cons])); simp_arith [Bool.and_true, Bool.true_and, Bool.and_false, Bool.false_and, Bool.not_true, Bool.not_false, Bool.or_true, Bool.true_or, Bool.or_false, Bool.false_or, decide_true, decide_false, and_true, true_and, qpSs_nil, List.length_map, List.length_cons, List.length_nil, Nat.zero_add, Nat.reduceAdd, lkS])
      exact e1 (by rintro ⟨ys, h3, h4⟩; cases h3; omega)
  | _ =>
    ((first | rw [qpSs_cons] | (dsimp only; rw [qpSs_cons])); simp_arith [Bool.and_true, Bool.true_and, Bool.and_false, Bool.false_and, Bool.not_true, Bool.not_false, Bool.or_true, Bool.true_or, Bool.or_false, Bool.false_or, decide_true, decide_false, and_true, true_and, qpSs_nil, List.length_map, List.length_cons, List.length_nil, Nat.zero_add, Nat.reduceAdd, ty_bb, ty_nb, ty_sb, ty_lb, ty_tb, ty_ii, ty_bi, ty_si, ty_li, ty_ti, ty_ni, ty_ss, ty_ls, ty_ts, ty_is, ty_bs, ty_ns, ty_ll, ty_tl, ty_lt, ty_tt, ty_sl, ty_il, ty_bl, ty_nl, ty_st, ty_it, ty_bt, ty_nt, isaT1, beq_self_eq_true, Option.map_some, lkS])
    ((first | rw [qpSs_cons] | (dsimp only; rw [qpSs_cons])); simp_arith [Bool.and_true, Bool.true_and, Bool.and_false, Bool.false_and, Bool.not_true, Bool.not_false, Bool.or_true, Bool.true_or, Bool.or_false, Bool.false_or, decide_true, decide_false, and_true, true_and, qpSs_nil, List.length_map, List.length_cons, List.length_nil, Nat.zero_add, Nat.reduceAdd, lkS])
    exact e1 (by rintro ⟨ys, h3, h4⟩; cases h3)
/-- a link: burst, delay -/
abbrev Ln := Nat × Nat
def LnOk (p : Ln) : Prop := p.1 ≤ 6 ∧ 1 ≤ p.2 ∧ p.2 ≤ 6
def red (p : Ln) : Nat × Nat := (p.2 / Nat.gcd p.2 (p.2 + p.1), (p.2 + p.1) / Nat.gcd p.2 (p.2 + p.1))
def leL (p q : Ln) : Prop := p.2 * (q.2 + q.1) ≤ q.2 * (p.2 + p.1)
instance : DecidablePred LnOk := fun p => by unfold LnOk; infer_instance
instance (p q : Ln) : Decidable (leL p q) := by unfold leL; infer_instance
theorem red_tab : ∀ a ∈ List.range 7, ∀ b ∈ List.range 7, ∀ c ∈ List.range 7, ∀ d ∈ List.range 7, 1 ≤ b → 1 ≤ d → (((red (a, b)).1 * (red (c, d)).2 ≤ (red (c, d)).1 * (red (a, b)).2 ↔ leL (a, b) (c, d)) ∧ (leL (a, b) (c, d) → leL (c, d) (a, b) → red (a, b) = red (c, d))) := by decide +kernel
theorem red_le {p q : Ln} (hp : LnOk p) (hq : LnOk q) : (red p).1 * (red q).2 ≤ (red q).1 * (red p).2 ↔ leL p q := by
  obtain ⟨a, b⟩ := p
  obtain ⟨c, d⟩ := q
  obtain ⟨h1, h2, h3⟩ := hp
  obtain ⟨g1, g2, g3⟩ := hq
  exact (red_tab a (List.mem_range.mpr (by dsimp only at h1; omega)) b (List.mem_range.mpr (by dsimp only at h3; omega)) c (List.mem_range.mpr (by dsimp only at g1; omega)) d (List.mem_range.mpr (by dsimp only at g3; omega)) h2 g2).1
theorem red_eq {p q : Ln} (hp : LnOk p) (hq : LnOk q) (e1 : leL p q) (e2 : leL q p) : red p = red q := by
  obtain ⟨a, b⟩ := p
  obtain ⟨c, d⟩ := q
  obtain ⟨h1, h2, h3⟩ := hp
  obtain ⟨g1, g2, g3⟩ := hq
  exact (red_tab a (List.mem_range.mpr (by dsimp only at h1; omega)) b (List.mem_range.mpr (by dsimp only at h3; omega)) c (List.mem_range.mpr (by dsimp only at g1; omega)) d (List.mem_range.mpr (by dsimp only at g3; omega)) h2 g2).2 e1 e2
theorem red_lt {p : Ln} (hp : LnOk p) : (red p).1 < 1000 ∧ (red p).2 < 1000 ∧ (red p).1 ≤ (red p).2 := by
  obtain ⟨h1, h2, h3⟩ := hp
  have := Nat.div_le_self p.2 (Nat.gcd p.2 (p.2 + p.1))
  have := Nat.div_le_self (p.2 + p.1) (Nat.gcd p.2 (p.2 + p.1))
  exact ⟨by simp only [red]; omega, by simp only [red]; omega, Nat.div_le_div_right (by omega)⟩
theorem leL_refl (p : Ln) : leL p p := Nat.le_refl _
theorem leL_trans {p q r : Ln} (hp : LnOk p) (hq : LnOk q) (hr : LnOk r) (h1 : leL p q) (h2 : leL q r) : leL p r := by
  unfold leL at *
  have hq2 : 0 < q.2 + q.1 := by have := hq.2.1; omega
  refine Nat.le_of_mul_le_mul_right ?_ hq2
  calc p.2 * (r.2 + r.1) * (q.2 + q.1) = (p.2 * (q.2 + q.1)) * (r.2 + r.1) := by rw [Nat.mul_assoc, Nat.mul_comm (r.2 + r.1), ← Nat.mul_assoc]
    _ ≤ (q.2 * (p.2 + p.1)) * (r.2 + r.1) := Nat.mul_le_mul_right _ h1
    _ = (q.2 * (r.2 + r.1)) * (p.2 + p.1) := by rw [Nat.mul_assoc, Nat.mul_comm (p.2 + p.1), ← Nat.mul_assoc]
    _ ≤ (r.2 * (q.2 + q.1)) * (p.2 + p.1) := Nat.mul_le_mul_right _ h2
    _ = r.2 * (p.2 + p.1) * (q.2 + q.1) := by rw [Nat.mul_assoc, Nat.mul_comm (q.2 + q.1), ← Nat.mul_assoc]
/-- the share of a least link -/
def Least (ps : List Ln) (s : Nat × Nat) : Prop := ∃ m ∈ ps, s = red m ∧ ∀ p ∈ ps, leL m p
theorem Least.uniq {ps : List Ln} {s t : Nat × Nat} (h : ∀ p ∈ ps, LnOk p) (a : Least ps s) (b : Least ps t) : s = t := by
  obtain ⟨m, m1, rfl, m2⟩ := a
  obtain ⟨l, l1, rfl, l2⟩ := b
  exact red_eq (h m m1) (h l l1) (m2 l l1) (l2 m m1)
def tupN (s : Nat × Nat) : D := .tup [.int (s.1 : Nat), .int (s.2 : Nat)]
theorem zip_links : ∀ ps : List Ln, zipD (iN (ps.map (·.1))) (iN (ps.map (·.2))) = ps.map fun p => [.int (p.1 : Nat), .int (p.2 : Nat)]
  | [] => rfl
  | p :: ps => congrArg (_ :: ·) (zip_links ps)
theorem C_least_share {ps : List Ln} (hk : 4 ≤ k) (h : ∀ p ∈ ps, LnOk p) (h0 : ps ≠ []) (q : ∀ s, Least ps s → Q (tupN s)) : FC W k "least_share" [.lst false (iN (ps.map (·.1))), .lst false (iN (ps.map (·.2)))] Q E := by
  obtain ⟨k, rfl⟩ : ∃ k', k = k' + 1 := ⟨k - 1, by omega⟩
  (refine call_of (cons := fun _ => false) FCall.sound (d := fn_least_share) rfl rfl ?_; simp only [fn_least_share, Nat.sub_self, Nat.reduceSub, q_map_n, q_map_c, q_rep_z, List.replicate, q_app_n, q_app_c])
  ((first | rw [qpSs_cons] | (dsimp only; rw [qpSs_cons])); simp_arith [Bool.and_true, Bool.true_and, Bool.and_false, Bool.false_and, Bool.not_true, Bool.not_false, Bool.or_true, Bool.true_or, Bool.or_false, Bool.false_or, decide_true, decide_false, and_true, true_and, qpSs_nil, List.length_map, List.length_cons, List.length_nil, Nat.zero_add, Nat.reduceAdd])
  refine ⟨by decide, ?_⟩
  ((first | rw [qpSs_cons] | (dsimp only; rw [qpSs_cons])); simp_arith [Bool.and_true, Bool.true_and, Bool.and_false, Bool.false_and, Bool.not_true, Bool.not_false, Bool.or_true, Bool.true_or, Bool.or_false, Bool.false_or, decide_true, decide_false, and_true, true_and, qpSs_nil, List.length_map, List.length_cons, List.length_nil, Nat.zero_add, Nat.reduceAdd, shs_iN, owns_iN])
  rw [zip_links]
  refine for_ind (Inv := fun rest r => ∃ (done : List Ln) (s : Nat × Nat) (o1 o2 o3 : Option D), r = [some (.lst false (iN (ps.map (·.1)))), some (.lst false (iN (ps.map (·.2)))), some (tupN s), o1, o2, o3] ∧ done ++ rest = ps ∧ ((done = [] ∧ s = (1, 1)) ∨ Least done s)) (fun p rest ρ hh => ?_) (fun ρ hh => ?_) ps _ ⟨[], (1, 1), none, none, none, rfl, rfl, .inl ⟨rfl, rfl⟩⟩
  · obtain ⟨done, s, o1, o2, o3, rfl, hd, hs⟩ := hh
    have hp : LnOk p := h p (hd ▸ List.mem_append_right _ (List.mem_cons_self ..))
    have hdn : ∀ x ∈ done, LnOk x := fun x hx => h x (hd ▸ List.mem_append_left _ hx)
    have hs2 : s.1 < 1000 ∧ s.2 < 1000 := by
      rcases hs with ⟨_, rfl⟩ | ⟨m, m1, rfl, _⟩
      · decide
      · exact ⟨(red_lt (hdn m m1)).1, (red_lt (hdn m m1)).2.1⟩
    refine ⟨_, by rw [tgt_pair]; rfl, fun K' hK => ?_⟩
    ((first | rw [qpSs_cons] | (dsimp only; rw [qpSs_cons])); simp_arith [Bool.and_true, Bool.true_and, Bool.and_false, Bool.false_and, Bool.not_true, Bool.not_false, Bool.or_true, Bool.true_or, Bool.or_false, Bool.false_or, decide_true, decide_false, and_true, true_and, qpSs_nil, List.length_map, List.length_cons, List.length_nil, Nat.zero_add, Nat.reduceAdd, shs_iN, owns_iN])
    have e : ((p.2 : Int) + (p.1 : Int)) = ((p.2 + p.1 : Nat) : Int) := by simp
    rw [e]
    obtain ⟨h1, h2, h3⟩ := hp
    refine C_share_of (by omega) (by omega) (by omega) (by omega) (by omega) ?_
    (try simp_arith [Bool.and_true, Bool.true_and, Bool.and_false, Bool.false_and, Bool.not_true, Bool.not_false, Bool.or_true, Bool.true_or, Bool.or_false, Bool.false_or, decide_true, decide_false, and_true, true_and, qpSs_nil, List.length_map, List.length_cons, List.length_nil, Nat.zero_add, Nat.reduceAdd, shs_iN, owns_iN])
    ((first | rw [qpSs_cons] | (dsimp only; rw [qpSs_cons])); simp_arith [Bool.and_true, Bool.true_and, Bool.and_false, Bool.false_and, Bool.not_true, Bool.not_false, Bool.or_true, Bool.true_or, Bool.or_false, Bool.false_or, decide_true, decide_false, and_true, true_and, qpSs_nil, List.length_map, List.length_cons, List.length_nil, Nat.zero_add, Nat.reduceAdd, shs_iN, owns_iN, tupN])
    have hp : LnOk p := ⟨h1, h2, h3⟩
    obtain ⟨r1, r2, r3⟩ := red_lt hp
    refine C_share_at_most (by omega) r1 r2 hs2.1 hs2.2 ?_
    (try simp_arith [Bool.and_true, Bool.true_and, Bool.and_false, Bool.false_and, Bool.not_true, Bool.not_false, Bool.or_true, Bool.true_or, Bool.or_false, Bool.false_or, decide_true, decide_false, and_true, true_and, qpSs_nil, List.length_map, List.length_cons, List.length_nil, Nat.zero_add, Nat.reduceAdd])
    refine ⟨fun hc => ?_, fun hc => ?_⟩
    · ((first | rw [qpSs_cons] | (dsimp only; rw [qpSs_cons])); simp_arith [Bool.and_true, Bool.true_and, Bool.and_false, Bool.false_and, Bool.not_true, Bool.not_false, Bool.or_true, Bool.true_or, Bool.or_false, Bool.false_or, decide_true, decide_false, and_true, true_and, qpSs_nil, List.length_map, List.length_cons, List.length_nil, Nat.zero_add, Nat.reduceAdd])
      refine hK _ ⟨done ++ [p], red p, _, _, _, rfl, by rw [List.append_assoc]; exact hd, .inr ⟨p, by simp, rfl, fun x hx => ?_⟩⟩
      rcases List.mem_append.mp hx with hx | hx
      · rcases hs with ⟨rfl, _⟩ | ⟨m, m1, rfl, m2⟩
        · cases hx
        · exact leL_trans hp (hdn m m1) (hdn x hx) ((red_le hp (hdn m m1)).mp hc) (m2 x hx)
      · rw [List.mem_singleton.mp hx]
        exact leL_refl p
    · refine hK _ ⟨done ++ [p], s, _, _, _, rfl, by rw [List.append_assoc]; exact hd, .inr ?_⟩
      rcases hs with ⟨rfl, rfl⟩ | ⟨m, m1, rfl, m2⟩
      · refine absurd ?_ hc
        show (red p).1 * 1 ≤ 1 * (red p).2
        omega
      · refine ⟨m, by simp [m1], rfl, fun x hx => ?_⟩
        rcases List.mem_append.mp hx with hx | hx
        · exact m2 x hx
        · rw [List.mem_singleton.mp hx]
          have : ¬ leL p m := fun z => hc ((red_le hp (hdn m m1)).mpr z)
          exact Nat.le_of_lt (Nat.not_le.mp this)
  · obtain ⟨done, s, o1, o2, o3, rfl, hd, hs⟩ := hh
    rw [List.append_nil] at hd
    subst hd
    ((first | rw [qpSs_cons] | (dsimp only; rw [qpSs_cons])); simp_arith [Bool.and_true, Bool.true_and, Bool.and_false, Bool.false_and, Bool.not_true, Bool.not_false, Bool.or_true, Bool.true_or, Bool.or_false, Bool.false_or, decide_true, decide_false, and_true, true_and, qpSs_nil, List.length_map, List.length_cons, List.length_nil, Nat.zero_add, Nat.reduceAdd, tupN])
    rcases hs with ⟨z, _⟩ | hs
    · exact absurd z h0
    · exact q s hs
theorem lowD_nat (b : Nat) : 1 ≤ lowD b ∧ (b : Int) ≤ lowD b := by unfold lowD; split <;> omega
theorem links_of : ∀ {xs : List D} {bs : List Nat}, xs.length = bs.length → (∀ b ∈ bs, b ≤ 6) → (∀ p ∈ xs.zip bs, OkN (lowD p.2) 6 p.1) → ∃ ps : List Ln, bs = ps.map (·.1) ∧ xs = iN (ps.map (·.2)) ∧ (∀ p ∈ ps, LnOk p ∧ p.1 ≤ p.2)
  | [], [], _, _, _ => ⟨[], rfl, rfl, fun _ h => by cases h⟩
  | x :: xs, b :: bs, hl, hb, h => by
    obtain ⟨ps, rfl, rfl, h3⟩ := links_of (xs := xs) (bs := bs) (by simpa using hl) (fun c hc => hb c (List.mem_cons_of_mem _ hc)) fun p hp => h p (List.mem_cons_of_mem _ hp)
    obtain ⟨i, e, h1, h2⟩ := h (x, b) (List.mem_cons_self ..)
    have lw := lowD_nat b
    dsimp only at e h1
    obtain ⟨n, rfl⟩ : ∃ n : Nat, i = n := ⟨i.toNat, by omega⟩
    have hb6 := hb b (List.mem_cons_self ..)
    subst e
    refine ⟨(b, n) :: ps, rfl, rfl, fun p hp => ?_⟩
    rcases List.mem_cons.mp hp with rfl | hp
    · exact ⟨⟨hb6, by show 1 ≤ n; omega, by show n ≤ 6; omega⟩, by show b ≤ n; omega⟩
    · exact h3 p hp
theorem C_deal_share {d dd : D} {n m : Nat} (hp : Pl n d) (hpd : Pl m dd) (hk : 5 ≤ k) (e1 : ¬ Lk d → E (bs_ "bursts")) (e2 : Lk d → ∀ xs, d = .lst false xs → (∃ x ∈ xs, NotIn 0 6 x) → E (bn "bursts"))
    (e3 : ∀ bs, d = .lst false (iN bs) → BsOk bs → (¬ ∃ xs, dd = .lst false xs ∧ xs.length = bs.length) → E (bs_ "delays")) (e4 : ∀ bs xs, d = .lst false (iN bs) → BsOk bs → dd = .lst false xs → xs.length = bs.length → (∃ p ∈ xs.zip bs, NotIn (lowD p.2) 6 p.1) → E (bn "delays"))
    (q : ∀ (ps : List Ln) (s : Nat × Nat), d = .lst false (iN (ps.map (·.1))) → dd = .lst false (iN (ps.map (·.2))) → BsOk (ps.map (·.1)) → (∀ p ∈ ps, LnOk p ∧ p.1 ≤ p.2) → Least ps s → Q (tupN s)) : FC W k "deal_share" [d, dd] Q E := by
  obtain ⟨k, rfl⟩ : ∃ k', k = k' + 1 := ⟨k - 1, by omega⟩
  (refine call_of (cons := fun _ => false) FCall.sound (d := fn_deal_share) rfl rfl ?_; simp only [fn_deal_share, Nat.sub_self, Nat.reduceSub, q_map_n, q_map_c, q_rep_z, List.replicate, q_app_n, q_app_c])
  ((first | rw [qpSs_cons] | (dsimp only; rw [qpSs_cons])); simp_arith [Bool.and_true, Bool.true_and, Bool.and_false, Bool.false_and, Bool.not_true, Bool.not_false, Bool.or_true, Bool.true_or, Bool.or_false, Bool.false_or, decide_true, decide_false, and_true, true_and, qpSs_nil, List.length_map, List.length_cons, List.length_nil, Nat.zero_add, Nat.reduceAdd, hp.sh])
  refine C_check_bursts hp (by omega) e1 e2 fun xs hd l1 l2 hok => ?_
  obtain ⟨bs, rfl, hbs⟩ := natsD hok
  subst hd
  rw [iN_len] at l1 l2
  have hb6 : ∀ b ∈ bs, b ≤ 6 := fun b hb => by have := hbs b hb; omega
  (try simp_arith [Bool.and_true, Bool.true_and, Bool.and_false, Bool.false_and, Bool.not_true, Bool.not_false, Bool.or_true, Bool.true_or, Bool.or_false, Bool.false_or, decide_true, decide_false, and_true, true_and, qpSs_nil, List.length_map, List.length_cons, List.length_nil, Nat.zero_add, Nat.reduceAdd])
  ((first | rw [qpSs_cons] | (dsimp only; rw [qpSs_cons])); simp_arith [Bool.and_true, Bool.true_and, Bool.and_false, Bool.false_and, Bool.not_true, Bool.not_false, Bool.or_true, Bool.true_or, Bool.or_false, Bool.false_or, decide_true, decide_false, and_true, true_and, qpSs_nil, List.length_map, List.length_cons, List.length_nil, Nat.zero_add, Nat.reduceAdd, hpd.sh, shs_iN])
  refine C_check_delays hpd (by omega) l2 hb6 (e3 bs rfl ⟨l1, l2, hb6⟩) (fun xs h1 h2 h3 => e4 bs xs rfl ⟨l1, l2, hb6⟩ h1 h2 h3) fun xs h1 h2 h3 => ?_
  subst h1
  obtain ⟨ps, rfl, rfl, h5⟩ := links_of h2 hb6 h3
  (try simp_arith [Bool.and_true, Bool.true_and, Bool.and_false, Bool.false_and, Bool.not_true, Bool.not_false, Bool.or_true, Bool.true_or, Bool.or_false, Bool.false_or, decide_true, decide_false, and_true, true_and, qpSs_nil, List.length_map, List.length_cons, List.length_nil, Nat.zero_add, Nat.reduceAdd])
  ((first | rw [qpSs_cons] | (dsimp only; rw [qpSs_cons])); simp_arith [Bool.and_true, Bool.true_and, Bool.and_false, Bool.false_and, Bool.not_true, Bool.not_false, Bool.or_true, Bool.true_or, Bool.or_false, Bool.false_or, decide_true, decide_false, and_true, true_and, qpSs_nil, List.length_map, List.length_cons, List.length_nil, Nat.zero_add, Nat.reduceAdd, shs_iN])
  refine C_least_share (by omega) (fun p hp => (h5 p hp).1) (fun z => by subst z; simp at l1) fun s hs => ?_
  exact q ps s rfl rfl ⟨l1, l2, hb6⟩ h5 hs
end
end K80
set_option maxHeartbeats 4000000
namespace K80
open PySem Py Py.LL
section
variable {k s c : Nat} {Q : DQ} {E : DX → Prop}
theorem f_take : tx.fs "_law_take" = some take := rfl
theorem f_mixed : tx.fs "_law_mixed" = some mixed := rfl
theorem f_edge : tx.fs "_law_edge" = some edge := rfl
theorem f_small : tx.fs "_law_small" = some small := rfl
theorem f_pick : tx.fs "_law_pick" = some pick := rfl
theorem f_same : tx.fs "_law_same" = some same := rfl
theorem f_copy : tx.fs "_law_copy" = some copy := rfl
theorem f_nn : tx.fs "_law_not_number" = some not_number := rfl
theorem f_nl : tx.fs "_law_not_list" = some not_list := rfl
theorem f_ms : tx.fs "_law_misshaped" = some misshaped := rfl
theorem f_gcd : tx.fs "_law_gcd" = some gcd := rfl
theorem f_share : tx.fs "_law_share" = some LL.share := rfl
theorem F2.ints {P : Int → Prop} : ∀ {items : List (List D)} {ds : List D}, F2 (fun _ d => ∃ i, d = D.int i ∧ P i) items ds → ∃ is : List Int, ds = is.map D.int ∧ ∀ i ∈ is, P i
  | _, _, .nil => ⟨[], rfl, fun _ h => by cases h⟩
  | _, _, .cons ⟨i, e, h⟩ r => by
    obtain ⟨is, rfl, h2⟩ := F2.ints r
    subst e
    exact ⟨i :: is, rfl, fun j hj => (List.mem_cons.mp hj).elim (fun e => e ▸ h) (h2 j)⟩
theorem nats_of : ∀ {is : List Int}, (∀ i ∈ is, 0 ≤ i) → ∃ bs : List Nat, is.map D.int = iN bs ∧ is = bs.map (fun (n : Nat) => (n : Int))
  | [], _ => ⟨[], rfl, rfl⟩
  | i :: is, h => by
    obtain ⟨bs, e, e2⟩ := nats_of fun j hj => h j (List.mem_cons_of_mem _ hj)
    have hi := h i (List.mem_cons_self ..)
    obtain ⟨n, rfl⟩ : ∃ n : Nat, i = n := ⟨i.toNat, by omega⟩
    exact ⟨n :: bs, by rw [List.map_cons, e]; rfl, by rw [e2]; rfl⟩
theorem C_bursts (hk : 6 ≤ k) (q : ∀ bs, BsOk bs → Q (.lst true (iN bs))) : FC (stW s c) k "_law_bursts" [.st] Q E := by
  obtain ⟨k, rfl⟩ : ∃ k', k = k' + 1 := ⟨k - 1, by omega⟩
  (refine call_of (cons := fun _ => false) FCall.sound (d := fn__law_bursts) rfl rfl ?_; simp only [fn__law_bursts, Nat.sub_self, Nat.reduceSub, q_map_n, q_map_c, q_rep_z, List.replicate, q_app_n, q_app_c])
  ((first | rw [qpSs_cons] | (dsimp only; rw [qpSs_cons])); simp_arith [Bool.and_true, Bool.true_and, Bool.and_false, Bool.false_and, Bool.not_true, Bool.not_false, Bool.or_true, Bool.true_or, Bool.or_false, Bool.false_or, decide_true, decide_false, and_true, true_and, qpSs_nil, List.length_map, List.length_cons, List.length_nil, Nat.zero_add, Nat.reduceAdd])
  refine C_take f_take f_mixed (by omega) (by decide) fun v v1 v2 => ?_
  (try simp_arith [Bool.and_true, Bool.true_and, Bool.and_false, Bool.false_and, Bool.not_true, Bool.not_false, Bool.or_true, Bool.true_or, Bool.or_false, Bool.false_or, decide_true, decide_false, and_true, true_and, qpSs_nil, List.length_map, List.length_cons, List.length_nil, Nat.zero_add, Nat.reduceAdd])
  refine ⟨⟨by omega, by omega⟩, ?_⟩
  rw [rngD_map]
  refine lc_dem (P := fun _ d => ∃ i, d = D.int i ∧ (0 ≤ i ∧ i ≤ 6)) (by simp only [List.length_nil, List.length_map, List.length_range, SL]; omega) (fun x hx => ?_) fun ds hds => ?_
  · obtain ⟨j, _, rfl⟩ := List.mem_map.mp hx
    refine ⟨_, rfl, fun acc K ha hK => ?_⟩
    (try simp_arith [Bool.and_true, Bool.true_and, Bool.and_false, Bool.false_and, Bool.not_true, Bool.not_false, Bool.or_true, Bool.true_or, Bool.or_false, Bool.false_or, decide_true, decide_false, and_true, true_and, qpSs_nil, List.length_map, List.length_cons, List.length_nil, Nat.zero_add, Nat.reduceAdd])
    exact C_small f_small f_edge f_take f_mixed (by omega) (by decide) (by decide) fun r r1 r2 => ⟨ha, hK _ ⟨r, rfl, r1, by omega⟩⟩
  · have hlen := hds.len
    obtain ⟨is, rfl, h2⟩ := F2.ints hds
    obtain ⟨bs, e, e2⟩ := nats_of fun i hi => (h2 i hi).1
    simp only [List.length_map, List.length_range] at hlen
    rw [List.nil_append, e]
    have : is.length = bs.length := by rw [e2, List.length_map]
    refine q bs ⟨by omega, by omega, fun b hb => ?_⟩
    have := h2 (b : Int) (by rw [e2]; exact List.mem_map.mpr ⟨b, hb, rfl⟩)
    omega
theorem C_delays {bs : List Nat} (hk : 5 ≤ k) (hb : BsOk bs) (q : ∀ ps : List Ln, bs = ps.map (·.1) → (∀ p ∈ ps, LnOk p ∧ p.1 ≤ p.2) → Q (.lst true (iN (ps.map (·.2))))) : FC (stW s c) k "_law_delays" [.st, .lst false (iN bs)] Q E := by
  obtain ⟨k, rfl⟩ : ∃ k', k = k' + 1 := ⟨k - 1, by omega⟩
  (refine call_of (cons := fun _ => false) FCall.sound (d := fn__law_delays) rfl rfl ?_; simp only [fn__law_delays, Nat.sub_self, Nat.reduceSub, q_map_n, q_map_c, q_rep_z, List.replicate, q_app_n, q_app_c])
  ((first | rw [qpSs_cons] | (dsimp only; rw [qpSs_cons])); simp_arith [Bool.and_true, Bool.true_and, Bool.and_false, Bool.false_and, Bool.not_true, Bool.not_false, Bool.or_true, Bool.true_or, Bool.or_false, Bool.false_or, decide_true, decide_false, and_true, true_and, qpSs_nil, List.length_map, List.length_cons, List.length_nil, Nat.zero_add, Nat.reduceAdd, shs_iN])
  refine lc_dem (P := fun x d => ∃ b : Nat, x = [D.int b] ∧ OkN (lowD b) 6 d) (by simp only [List.length_nil, List.length_map, iN_len, SL]; have := hb.2.1; omega) (fun x hx => ?_) fun ds hds => ?_
  · obtain ⟨y, hy, rfl⟩ := List.mem_map.mp hx
    obtain ⟨b, hb1, rfl⟩ := List.mem_map.mp hy
    have hb6 := hb.2.2 b hb1
    refine ⟨_, rfl, fun acc K ha hK => ?_⟩
    (try simp_arith [Bool.and_true, Bool.true_and, Bool.and_false, Bool.false_and, Bool.not_true, Bool.not_false, Bool.or_true, Bool.true_or, Bool.or_false, Bool.false_or, decide_true, decide_false, and_true, true_and, qpSs_nil, List.length_map, List.length_cons, List.length_nil, Nat.zero_add, Nat.reduceAdd])
    have lw : (1 : Int) ≤ lowD b ∧ lowD b ≤ 6 := by unfold lowD; split <;> omega
    refine C_edge f_edge f_take f_mixed (by omega) (show _ - lowD b + 1 < _ by omega) fun r (r1 : lowD b ≤ r) (r2 : r ≤ 6 ∨ r = lowD b) => ⟨ha, hK _ ⟨b, rfl, r, rfl, r1, by omega⟩⟩
  · rw [List.nil_append]
    have key : ∀ {bs : List Nat} {ds : List D}, F2 (fun x d => ∃ b : Nat, x = [D.int b] ∧ OkN (lowD b) 6 d) ((iN bs).map fun d => [d]) ds → ds.length = bs.length ∧ ∀ p ∈ ds.zip bs, OkN (lowD p.2) 6 p.1 := by
      intro bs
      induction bs with
      | nil => intro ds h; cases h; exact ⟨rfl, fun p hp => by cases hp⟩
      | cons b bs ih =>
        intro ds h
        cases h with
        | @cons _ d _ ds a r =>
          obtain ⟨b', e, h1⟩ := a
          obtain ⟨i1, i2⟩ := ih r
          refine ⟨by simp [i1], fun p hp => ?_⟩
          rcases List.mem_cons.mp (show p ∈ (d, b) :: ds.zip bs from hp) with rfl | hp
          · have e2 : b = b' := by
              have := List.cons.inj e
              have := D.int.inj this.1
              omega
            subst e2
            exact h1
          · exact i2 p hp
    obtain ⟨h1, h2⟩ := key hds
    obtain ⟨ps, e1, e2, h5⟩ := links_of h1 hb.2.2 h2
    rw [e2]
    exact q ps e1 h5
theorem pl_iN {n : Nat} {bs : List Nat} (h : bs.length ≤ SL) : Pl (n + 1) (.lst false (iN bs)) := by
  rw [iN_ints]
  exact Pl.ints (by simpa using h)
theorem notLk_of {d : D} (h : NotL d) : ¬ Lk d := by
  rintro ⟨xs, rfl, _⟩
  exact h
theorem ixN_nat' {n : Nat} {i : Int} (h : 0 ≤ i) (l : i < n) : L2.ixN n i = some i.toNat := by
  unfold L2.ixN
  rw [if_pos h, if_pos l]
theorem C_not_bursts {bs : List Nat} (hk : 5 ≤ k) (hb : BsOk bs) (q1 : ∀ d, Pl 2 d.sh → ¬ Lk d.sh → Q (.tup [d, .str "BadShape"])) (q2 : ∀ xs, (∀ x ∈ xs, Pl 1 x) → 1 ≤ xs.length → xs.length ≤ 3 → (∃ x ∈ xs, NotIn 0 6 x) → Q (.tup [.lst true xs, .str "BadNumber"])) : FC (stW s c) k "_law_not_bursts" [.st, .lst false (iN bs)] Q E := by
  obtain ⟨k, rfl⟩ : ∃ k', k = k' + 1 := ⟨k - 1, by omega⟩
  have hl := hb.2.1
  have h1 := hb.1
  (refine call_of (cons := fun _ => false) FCall.sound (d := fn__law_not_bursts) rfl rfl ?_; simp only [fn__law_not_bursts, Nat.sub_self, Nat.reduceSub, q_map_n, q_map_c, q_rep_z, List.replicate, q_app_n, q_app_c])
  ((first | rw [qpSs_cons] | (dsimp only; rw [qpSs_cons])); simp_arith [Bool.and_true, Bool.true_and, Bool.and_false, Bool.false_and, Bool.not_true, Bool.not_false, Bool.or_true, Bool.true_or, Bool.or_false, Bool.false_or, decide_true, decide_false, and_true, true_and, qpSs_nil, List.length_map, List.length_cons, List.length_nil, Nat.zero_add, Nat.reduceAdd])
  refine C_take f_take f_mixed (by omega) (by decide) fun v v1 v2 => ?_
  (try simp_arith [Bool.and_true, Bool.true_and, Bool.and_false, Bool.false_and, Bool.not_true, Bool.not_false, Bool.or_true, Bool.true_or, Bool.or_false, Bool.false_or, decide_true, decide_false, and_true, true_and, qpSs_nil, List.length_map, List.length_cons, List.length_nil, Nat.zero_add, Nat.reduceAdd])
  ((first | rw [qpSs_cons] | (dsimp only; rw [qpSs_cons])); simp_arith [Bool.and_true, Bool.true_and, Bool.and_false, Bool.false_and, Bool.not_true, Bool.not_false, Bool.or_true, Bool.true_or, Bool.or_false, Bool.false_or, decide_true, decide_false, and_true, true_and, qpSs_nil, List.length_map, List.length_cons, List.length_nil, Nat.zero_add, Nat.reduceAdd])
  refine ⟨fun w0 => ?_, fun w0 => ?_⟩
  · ((first | rw [qpSs_cons] | (dsimp only; rw [qpSs_cons])); simp_arith [Bool.and_true, Bool.true_and, Bool.and_false, Bool.false_and, Bool.not_true, Bool.not_false, Bool.or_true, Bool.true_or, Bool.or_false, Bool.false_or, decide_true, decide_false, and_true, true_and, qpSs_nil, List.length_map, List.length_cons, List.length_nil, Nat.zero_add, Nat.reduceAdd, shs_iN, owns_iN])
    rw [iN_ints]
    refine C_not_list f_nl f_take f_mixed (by omega) (by rw [List.length_map]; simp only [SL]; omega) fun d d1 d2 _ => ?_
    (try simp_arith [Bool.and_true, Bool.true_and, Bool.and_false, Bool.false_and, Bool.not_true, Bool.not_false, Bool.or_true, Bool.true_or, Bool.or_false, Bool.false_or, decide_true, decide_false, and_true, true_and, qpSs_nil, List.length_map, List.length_cons, List.length_nil, Nat.zero_add, Nat.reduceAdd])
    exact ⟨by decide, q1 d (by rw [d1.sh]; exact d1.up (by omega)) (by rw [d1.sh]; exact notLk_of d2)⟩
  ((first | rw [qpSs_cons] | (dsimp only; rw [qpSs_cons])); simp_arith [Bool.and_true, Bool.true_and, Bool.and_false, Bool.false_and, Bool.not_true, Bool.not_false, Bool.or_true, Bool.true_or, Bool.or_false, Bool.false_or, decide_true, decide_false, and_true, true_and, qpSs_nil, List.length_map, List.length_cons, List.length_nil, Nat.zero_add, Nat.reduceAdd])
  refine ⟨fun w1 => ?_, fun w1 => ?_⟩
  · ((first | rw [qpSs_cons] | (dsimp only; rw [qpSs_cons])); simp_arith [Bool.and_true, Bool.true_and, Bool.and_false, Bool.false_and, Bool.not_true, Bool.not_false, Bool.or_true, Bool.true_or, Bool.or_false, Bool.false_or, decide_true, decide_false, and_true, true_and, qpSs_nil, List.length_map, List.length_cons, List.length_nil, Nat.zero_add, Nat.reduceAdd, shs_iN, owns_iN])
    refine ⟨by decide, by decide, q1 _ (.lst (fun x hx => by cases hx) (by decide)) ?_⟩
    rintro ⟨xs, e, l1, l2⟩
    cases e
    exact absurd l1 (by decide)
  ((first | rw [qpSs_cons] | (dsimp only; rw [qpSs_cons])); simp_arith [Bool.and_true, Bool.true_and, Bool.and_false, Bool.false_and, Bool.not_true, Bool.not_false, Bool.or_true, Bool.true_or, Bool.or_false, Bool.false_or, decide_true, decide_false, and_true, true_and, qpSs_nil, List.length_map, List.length_cons, List.length_nil, Nat.zero_add, Nat.reduceAdd])
  refine ⟨fun w2 => ?_, fun w2 => ?_⟩
  · ((first | rw [qpSs_cons] | (dsimp only; rw [qpSs_cons])); simp_arith [Bool.and_true, Bool.true_and, Bool.and_false, Bool.false_and, Bool.not_true, Bool.not_false, Bool.or_true, Bool.true_or, Bool.or_false, Bool.false_or, decide_true, decide_false, and_true, true_and, qpSs_nil, List.length_map, List.length_cons, List.length_nil, Nat.zero_add, Nat.reduceAdd, shs_iN, owns_iN, iN_len])
    refine ⟨⟨by omega, by omega⟩, ?_⟩
    rw [rngD_map]
    refine lc_dem (P := fun _ d => d = D.int 7) (by simp only [List.length_nil, List.length_map, List.length_range, SL]; omega) (fun x hx => ?_) fun ds hds => ?_
    · obtain ⟨j, _, rfl⟩ := List.mem_map.mp hx
      refine ⟨_, rfl, fun acc K ha hK => ?_⟩
      (try simp_arith [Bool.and_true, Bool.true_and, Bool.and_false, Bool.false_and, Bool.not_true, Bool.not_false, Bool.or_true, Bool.true_or, Bool.or_false, Bool.false_or, decide_true, decide_false, and_true, true_and, qpSs_nil, List.length_map, List.length_cons, List.length_nil, Nat.zero_add, Nat.reduceAdd])
      exact ⟨ha, hK _ rfl⟩
    · have hlen := hds.len
      simp only [List.length_map, List.length_range] at hlen
      have hall : ∀ x ∈ ds, x = D.int 7 := by
        have : ∀ {items : List (List D)} {ds : List D}, F2 (fun _ d => d = D.int 7) items ds → ∀ x ∈ ds, x = D.int 7 := by
          intro items ds h
          induction h with
          | nil => intro x hx; cases hx
          | cons a r ih => intro x hx; exact (List.mem_cons.mp hx).elim (fun e => e ▸ a) (ih x)
        exact this hds
      rw [List.nil_append]
      have hsd : shs ds = ds := shs_id fun x hx => by rw [hall x hx]; rfl
      (try simp_arith [Bool.and_true, Bool.true_and, Bool.and_false, Bool.false_and, Bool.not_true, Bool.not_false, Bool.or_true, Bool.true_or, Bool.or_false, Bool.false_or, decide_true, decide_false, and_true, true_and, qpSs_nil, List.length_map, List.length_cons, List.length_nil, Nat.zero_add, Nat.reduceAdd, List.length_append, iN_len])
      refine ⟨by simp only [SL]; omega, by decide, q1 _ ?_ ?_⟩
      · show Pl 2 (.lst false (shs (iN bs ++ ds)))
        have e : shs (iN bs ++ ds) = iN bs ++ ds := by rw [shs_map, List.map_append, ← shs_map, ← shs_map, shs_iN, hsd]
        rw [e]
        refine .lst (fun x hx => ?_) (by rw [List.length_append, iN_len]; simp only [SL]; omega)
        rcases List.mem_append.mp hx with hx | hx
        · obtain ⟨n, _, rfl⟩ := List.mem_map.mp hx
          exact .int _
        · rw [hall x hx]; exact .int _
      · rintro ⟨xs, e, l1, l2⟩
        have e : D.lst false (shs (iN bs ++ ds)) = D.lst false xs := e
        cases e
        rw [shs_len, List.length_append, iN_len] at l2
        omega
  ((first | rw [qpSs_cons] | (dsimp only; rw [qpSs_cons])); simp_arith [Bool.and_true, Bool.true_and, Bool.and_false, Bool.false_and, Bool.not_true, Bool.not_false, Bool.or_true, Bool.true_or, Bool.or_false, Bool.false_or, decide_true, decide_false, and_true, true_and, qpSs_nil, List.length_map, List.length_cons, List.length_nil, Nat.zero_add, Nat.reduceAdd, shs_iN, owns_iN])
  ((first | rw [qpSs_cons] | (dsimp only; rw [qpSs_cons])); simp_arith [Bool.and_true, Bool.true_and, Bool.and_false, Bool.false_and, Bool.not_true, Bool.not_false, Bool.or_true, Bool.true_or, Bool.or_false, Bool.false_or, decide_true, decide_false, and_true, true_and, qpSs_nil, List.length_map, List.length_cons, List.length_nil, Nat.zero_add, Nat.reduceAdd, shs_iN, owns_iN])
  refine C_not_number f_nn f_take f_mixed (by omega) (by decide) (by decide) fun d d1 d2 => ?_
  have ld : (iN bs).length = bs.length := iN_len bs
  cases ho : d.own <;>
  · (try simp_arith [Bool.and_true, Bool.true_and, Bool.and_false, Bool.false_and, Bool.not_true, Bool.not_false, Bool.or_true, Bool.true_or, Bool.or_false, Bool.false_or, decide_true, decide_false, and_true, true_and, qpSs_nil, List.length_map, List.length_cons, List.length_nil, Nat.zero_add, Nat.reduceAdd, shs_iN, owns_iN, iN_len, ho])
    refine C_take f_take f_mixed (by omega) (by omega) fun z z1 z2 => ?_
    (try simp_arith [Bool.and_true, Bool.true_and, Bool.and_false, Bool.false_and, Bool.not_true, Bool.not_false, Bool.or_true, Bool.true_or, Bool.or_false, Bool.false_or, decide_true, decide_false, and_true, true_and, qpSs_nil, List.length_map, List.length_cons, List.length_nil, Nat.zero_add, Nat.reduceAdd, shs_iN, owns_iN, iN_len])
    rw [ixN_nat' z1 (by omega)]
    (try simp_arith [Bool.and_true, Bool.true_and, Bool.and_false, Bool.false_and, Bool.not_true, Bool.not_false, Bool.or_true, Bool.true_or, Bool.or_false, Bool.false_or, decide_true, decide_false, and_true, true_and, qpSs_nil, List.length_map, List.length_cons, List.length_nil, Nat.zero_add, Nat.reduceAdd])
    ((first | rw [qpSs_cons] | (dsimp only; rw [qpSs_cons])); simp_arith [Bool.and_true, Bool.true_and, Bool.and_false, Bool.false_and, Bool.not_true, Bool.not_false, Bool.or_true, Bool.true_or, Bool.or_false, Bool.false_or, decide_true, decide_false, and_true, true_and, qpSs_nil, List.length_map, List.length_cons, List.length_nil, Nat.zero_add, Nat.reduceAdd])
    refine ⟨by decide, q2 _ (fun x hx => ?_) (by rw [List.length_set, ld]; exact h1) (by rw [List.length_set, ld]; exact hl) ⟨d, List.mem_iff_getElem?.mpr ⟨z.toNat, List.getElem?_set_self (by rw [ld]; omega)⟩, d2⟩⟩
    rcases List.mem_or_eq_of_mem_set hx with hx | rfl
    · obtain ⟨n, _, rfl⟩ := List.mem_map.mp hx
      exact .int _
    · exact d1
/-- delays that are not allowed beside these bursts -/
theorem C_not_delays {ps : List Ln} (hk : 6 ≤ k) (hb : BsOk (ps.map (·.1))) (hp : ∀ p ∈ ps, LnOk p ∧ p.1 ≤ p.2) (q1 : ∀ d, Pl 2 d.sh → (¬ ∃ xs, d.sh = .lst false xs ∧ xs.length = ps.length) → Q (.tup [d, .str "BadShape"])) (q2 : ∀ xs, (∀ x ∈ xs, Pl 1 x) → xs.length = ps.length → (∃ p : D × Nat, p ∈ xs.zip (ps.map (·.1)) ∧ NotIn (lowD p.2) 6 p.1) → Q (.tup [.lst true xs, .str "BadNumber"])) : FC (stW s c) k "_law_not_delays" [.st, .lst false (iN (ps.map (·.1))), .lst false (iN (ps.map (·.2)))] Q E := by
  obtain ⟨k, rfl⟩ : ∃ k', k = k' + 1 := ⟨k - 1, by omega⟩
  have hl : ps.length ≤ 3 := by simpa using hb.2.1
  have h1 : 1 ≤ ps.length := by simpa using hb.1
  (refine call_of (cons := fun _ => false) FCall.sound (d := fn__law_not_delays) rfl rfl ?_; simp only [fn__law_not_delays, Nat.sub_self, Nat.reduceSub, q_map_n, q_map_c, q_rep_z, List.replicate, q_app_n, q_app_c])
  ((first | rw [qpSs_cons] | (dsimp only; rw [qpSs_cons])); simp_arith [Bool.and_true, Bool.true_and, Bool.and_false, Bool.false_and, Bool.not_true, Bool.not_false, Bool.or_true, Bool.true_or, Bool.or_false, Bool.false_or, decide_true, decide_false, and_true, true_and, qpSs_nil, List.length_map, List.length_cons, List.length_nil, Nat.zero_add, Nat.reduceAdd])
  refine C_take f_take f_mixed (by omega) (by decide) fun v v1 v2 => ?_
  (try simp_arith [Bool.and_true, Bool.true_and, Bool.and_false, Bool.false_and, Bool.not_true, Bool.not_false, Bool.or_true, Bool.true_or, Bool.or_false, Bool.false_or, decide_true, decide_false, and_true, true_and, qpSs_nil, List.length_map, List.length_cons, List.length_nil, Nat.zero_add, Nat.reduceAdd])
  ((first | rw [qpSs_cons] | (dsimp only; rw [qpSs_cons])); simp_arith [Bool.and_true, Bool.true_and, Bool.and_false, Bool.false_and, Bool.not_true, Bool.not_false, Bool.or_true, Bool.true_or, Bool.or_false, Bool.false_or, decide_true, decide_false, and_true, true_and, qpSs_nil, List.length_map, List.length_cons, List.length_nil, Nat.zero_add, Nat.reduceAdd])
  refine ⟨fun w0 => ?_, fun w0 => ?_⟩
  · ((first | rw [qpSs_cons] | (dsimp only; rw [qpSs_cons])); simp_arith [Bool.and_true, Bool.true_and, Bool.and_false, Bool.false_and, Bool.not_true, Bool.not_false, Bool.or_true, Bool.true_or, Bool.or_false, Bool.false_or, decide_true, decide_false, and_true, true_and, qpSs_nil, List.length_map, List.length_cons, List.length_nil, Nat.zero_add, Nat.reduceAdd, shs_iN, owns_iN])
    rw [iN_ints (ps.map (·.2))]
    refine C_misshaped f_ms f_nl f_take f_mixed (by omega) (by simp only [List.length_map, SL]; omega) (fun d d1 d2 _ => ?_) (fun js j1 j2 => ?_)
    · (try simp_arith [Bool.and_true, Bool.true_and, Bool.and_false, Bool.false_and, Bool.not_true, Bool.not_false, Bool.or_true, Bool.true_or, Bool.or_false, Bool.false_or, decide_true, decide_false, and_true, true_and, qpSs_nil, List.length_map, List.length_cons, List.length_nil, Nat.zero_add, Nat.reduceAdd])
      refine ⟨by decide, q1 d (by rw [d1.sh]; exact d1.up (by omega)) ?_⟩
      rw [d1.sh]
      rintro ⟨xs, rfl, _⟩
      exact d2
    · (try simp_arith [Bool.and_true, Bool.true_and, Bool.and_false, Bool.false_and, Bool.not_true, Bool.not_false, Bool.or_true, Bool.true_or, Bool.or_false, Bool.false_or, decide_true, decide_false, and_true, true_and, qpSs_nil, List.length_map, List.length_cons, List.length_nil, Nat.zero_add, Nat.reduceAdd])
      refine ⟨by decide, q1 _ ?_ ?_⟩
      · show Pl 2 (.lst false (shs _))
        rw [shs_ints]
        exact Pl.ints (by simp only [List.length_map] at j2; simp only [SL]; omega)
      · rintro ⟨xs, e, l1⟩
        have e : D.lst false (shs (js.map D.int)) = D.lst false xs := e
        cases e
        rw [shs_len, List.length_map] at l1
        simp only [List.length_map] at j1
        exact j1 l1
  have ld : (iN (ps.map (·.2))).length = ps.length := by rw [iN_len, List.length_map]
  ((first | rw [qpSs_cons] | (dsimp only; rw [qpSs_cons])); simp_arith [Bool.and_true, Bool.true_and, Bool.and_false, Bool.false_and, Bool.not_true, Bool.not_false, Bool.or_true, Bool.true_or, Bool.or_false, Bool.false_or, decide_true, decide_false, and_true, true_and, qpSs_nil, List.length_map, List.length_cons, List.length_nil, Nat.zero_add, Nat.reduceAdd, shs_iN, owns_iN])
  ((first | rw [qpSs_cons] | (dsimp only; rw [qpSs_cons])); simp_arith [Bool.and_true, Bool.true_and, Bool.and_false, Bool.false_and, Bool.not_true, Bool.not_false, Bool.or_true, Bool.true_or, Bool.or_false, Bool.false_or, decide_true, decide_false, and_true, true_and, qpSs_nil, List.length_map, List.length_cons, List.length_nil, Nat.zero_add, Nat.reduceAdd, shs_iN, owns_iN, ld])
  refine C_take f_take f_mixed (by omega) (by omega) fun z z1 z2 => ?_
  (try simp_arith [Bool.and_true, Bool.true_and, Bool.and_false, Bool.false_and, Bool.not_true, Bool.not_false, Bool.or_true, Bool.true_or, Bool.or_false, Bool.false_or, decide_true, decide_false, and_true, true_and, qpSs_nil, List.length_map, List.length_cons, List.length_nil, Nat.zero_add, Nat.reduceAdd, shs_iN, owns_iN])
  obtain ⟨n, rfl⟩ : ∃ n : Nat, z = n := ⟨z.toNat, by omega⟩
  have hn : n < ps.length := by omega
  have hpn := hp _ (List.getElem_mem hn)
  have e1 : L2.atI (iN (ps.map (·.1))) (n : Int) = some (.int (ps[n].1 : Nat)) := by
    rw [atI_nat (by rw [iN_len, List.length_map]; exact hn)]
    simp [iN]
  ((first | rw [qpSs_cons] | (dsimp only; rw [qpSs_cons])); simp_arith [Bool.and_true, Bool.true_and, Bool.and_false, Bool.false_and, Bool.not_true, Bool.not_false, Bool.or_true, Bool.true_or, Bool.or_false, Bool.false_or, decide_true, decide_false, and_true, true_and, qpSs_nil, List.length_map, List.length_cons, List.length_nil, Nat.zero_add, Nat.reduceAdd, shs_iN, owns_iN, e1])
  have lw : (if ((ps[n].1 : Nat) : Int) > 1 then ((ps[n].1 : Nat) : Int) else 1) = lowD ps[n].1 := rfl
  rw [lw]
  have lw2 : (1 : Int) ≤ lowD ps[n].1 ∧ lowD ps[n].1 ≤ 6 := by have := hpn.1.1; unfold lowD; split <;> omega
  refine C_not_number f_nn f_take f_mixed (by omega) ?_ (by omega) fun d d1 d2 => ?_
  · have : (lowD (ps[n].1 : Nat)).natAbs ≤ 6 := by omega
    have h2 : ∀ m : Nat, m ≤ 6 → m.log2 < 1920 := by decide
    exact h2 _ this
  have hx : ∀ x ∈ (iN (ps.map (·.2))).set n d, Pl 1 x := fun x hx => by
    rcases List.mem_or_eq_of_mem_set hx with hx | rfl
    · obtain ⟨n, _, rfl⟩ := List.mem_map.mp hx
      exact .int _
    · exact d1
  have hzip : ∃ p : D × Nat, p ∈ ((iN (ps.map (·.2))).set n d).zip (ps.map (·.1)) ∧ NotIn (lowD p.2) 6 p.1 := by
    refine ⟨(d, ps[n].1), List.mem_iff_getElem?.mpr ⟨n, ?_⟩, d2⟩
    rw [List.getElem?_zip_eq_some]
    exact ⟨List.getElem?_set_self (by rw [ld]; exact hn), by simp [hn]⟩
  cases ho : d.own <;>
  · (try simp_arith [Bool.and_true, Bool.true_and, Bool.and_false, Bool.false_and, Bool.not_true, Bool.not_false, Bool.or_true, Bool.true_or, Bool.or_false, Bool.false_or, decide_true, decide_false, and_true, true_and, qpSs_nil, List.length_map, List.length_cons, List.length_nil, Nat.zero_add, Nat.reduceAdd, shs_iN, owns_iN, iN_len, ho])
    rw [ixN_nat' (by omega) (by omega)]
    (try simp_arith [Bool.and_true, Bool.true_and, Bool.and_false, Bool.false_and, Bool.not_true, Bool.not_false, Bool.or_true, Bool.true_or, Bool.or_false, Bool.false_or, decide_true, decide_false, and_true, true_and, qpSs_nil, List.length_map, List.length_cons, List.length_nil, Nat.zero_add, Nat.reduceAdd, Int.toNat_natCast])
    ((first | rw [qpSs_cons] | (dsimp only; rw [qpSs_cons])); simp_arith [Bool.and_true, Bool.true_and, Bool.and_false, Bool.false_and, Bool.not_true, Bool.not_false, Bool.or_true, Bool.true_or, Bool.or_false, Bool.false_or, decide_true, decide_false, and_true, true_and, qpSs_nil, List.length_map, List.length_cons, List.length_nil, Nat.zero_add, Nat.reduceAdd])
    refine ⟨fun w1 => ?_, fun w1 => ?_⟩
    · have hsx : shs ((iN (ps.map (·.2))).set n d) = (iN (ps.map (·.2))).set n d := shs_id fun x h => (hx x h).sh
      ((first | rw [qpSs_cons] | (dsimp only; rw [qpSs_cons])); simp_arith [Bool.and_true, Bool.true_and, Bool.and_false, Bool.false_and, Bool.not_true, Bool.not_false, Bool.or_true, Bool.true_or, Bool.or_false, Bool.false_or, decide_true, decide_false, and_true, true_and, qpSs_nil, List.length_map, List.length_cons, List.length_nil, Nat.zero_add, Nat.reduceAdd, hsx])
      refine ⟨by decide, by rw [List.length_set, ld]; simp only [SL]; omega, by decide, q1 _ ?_ ?_⟩
      · show Pl 2 (.lst false (shs ((iN (ps.map (·.2))).set n d ++ [D.int 0])))
        have e : shs ((iN (ps.map (·.2))).set n d ++ [D.int 0]) = (iN (ps.map (·.2))).set n d ++ [D.int 0] := by rw [shs_map, List.map_append, ← shs_map, hsx]; rfl
        rw [e]
        refine .lst (fun x h => ?_) (by rw [List.length_append, List.length_set, ld]; simp only [SL, List.length_cons, List.length_nil]; omega)
        rcases List.mem_append.mp h with h | h
        · exact hx x h
        · rw [List.mem_singleton.mp h]; exact .int 0
      · rintro ⟨xs, e, l1⟩
        have e : D.lst false (shs ((iN (ps.map (·.2))).set n d ++ [D.int 0])) = D.lst false xs := e
        cases e
        rw [shs_len, List.length_append, List.length_set, ld] at l1
        simp only [List.length_cons, List.length_nil] at l1
        omega
    · ((first | rw [qpSs_cons] | (dsimp only; rw [qpSs_cons])); simp_arith [Bool.and_true, Bool.true_and, Bool.and_false, Bool.false_and, Bool.not_true, Bool.not_false, Bool.or_true, Bool.true_or, Bool.or_false, Bool.false_or, decide_true, decide_false, and_true, true_and, qpSs_nil, List.length_map, List.length_cons, List.length_nil, Nat.zero_add, Nat.reduceAdd])
      exact ⟨by decide, q2 _ hx (by rw [List.length_set, ld]) hzip⟩
mutual
theorem cp_own : ∀ d : D, (cp d).own = true
  | .non => rfl | .bl _ => rfl | .int _ => rfl | .str _ => rfl | .st => rfl
  | .lst _ xs => by show (true && owns (cps xs)) = true; rw [cps_own xs]; rfl
  | .tup xs => cps_own xs
theorem cps_own : ∀ xs : List D, owns (cps xs) = true
  | [] => rfl
  | x :: xs => by show ((cp x).own && owns (cps xs)) = true; rw [cp_own x, cps_own xs]; rfl
end
theorem cp_sh {n : Nat} {d : D} (h : Pl n d) : (cp d).sh = d := by
  induction h with
  | non => rfl
  | bl b => rfl
  | int b => rfl
  | str b => rfl
  | @lst n xs h hl ih =>
    show D.lst false (shs (cps xs)) = _
    rw [cps_map, shs_map, List.map_map, (List.map_congr_left ih : xs.map (D.sh ∘ cp) = xs.map id), List.map_id]
  | @tup n xs h hl ih =>
    show D.tup (shs (cps xs)) = _
    rw [cps_map, shs_map, List.map_map, (List.map_congr_left ih : xs.map (D.sh ∘ cp) = xs.map id), List.map_id]
def told (d : D) : D := .tup [.str "told", d]
def err (a b : Str) : D := .tup [.str a, .str b]
theorem C_deals_told {d dt : D} {n m : Nat} (hp : Pl n d) (hpt : Pl m dt) (hk : 5 + n ≤ k) (e1 : ¬ Lk d → Q (err "BadShape" "bursts")) (e2 : Lk d → ∀ xs, d = .lst false xs → (∃ x ∈ xs, NotIn 0 6 x) → Q (err "BadNumber" "bursts")) (e3 : GoodB d → NotIn 1 18 dt → Q (err "BadNumber" "total"))
    (q : ∀ (bs : List Int) (t : Int), d = .lst false (bs.map D.int) → dt = .int t → 1 ≤ bs.length → bs.length ≤ 3 → (∀ b ∈ bs, 0 ≤ b ∧ b ≤ 6) → 1 ≤ t → t ≤ 18 → Q (told (.lst true ((dealsL bs t).map rowT)))) : FC (stW s c) k "_law_deals_told" [d, dt] Q E := by
  obtain ⟨k, rfl⟩ : ∃ k', k = k' + 1 := ⟨k - 1, by omega⟩
  (refine call_of (cons := fun _ => false) FCall.sound (d := fn__law_deals_told) rfl rfl ?_; simp only [fn__law_deals_told, Nat.sub_self, Nat.reduceSub, q_map_n, q_map_c, q_rep_z, List.replicate, q_app_n, q_app_c])
  ((first | rw [qpSs_cons] | (dsimp only; rw [qpSs_cons])); simp_arith [Bool.and_true, Bool.true_and, Bool.and_false, Bool.false_and, Bool.not_true, Bool.not_false, Bool.or_true, Bool.true_or, Bool.or_false, Bool.false_or, decide_true, decide_false, and_true, true_and, qpSs_nil, List.length_map, List.length_cons, List.length_nil, Nat.zero_add, Nat.reduceAdd, hp.sh])
  refine C_copy f_copy hp (by omega) ?_
  (try simp_arith [Bool.and_true, Bool.true_and, Bool.and_false, Bool.false_and, Bool.not_true, Bool.not_false, Bool.or_true, Bool.true_or, Bool.or_false, Bool.false_or, decide_true, decide_false, and_true, true_and, qpSs_nil, List.length_map, List.length_cons, List.length_nil, Nat.zero_add, Nat.reduceAdd, cp_own])
  ((first | rw [qpSs_cons] | (dsimp only; rw [qpSs_cons])); simp_arith [Bool.and_true, Bool.true_and, Bool.and_false, Bool.false_and, Bool.not_true, Bool.not_false, Bool.or_true, Bool.true_or, Bool.or_false, Bool.false_or, decide_true, decide_false, and_true, true_and, qpSs_nil, List.length_map, List.length_cons, List.length_nil, Nat.zero_add, Nat.reduceAdd])
  ((first | rw [qpSs_cons] | (dsimp only; rw [qpSs_cons])); simp_arith [Bool.and_true, Bool.true_and, Bool.and_false, Bool.false_and, Bool.not_true, Bool.not_false, Bool.or_true, Bool.true_or, Bool.or_false, Bool.false_or, decide_true, decide_false, and_true, true_and, qpSs_nil, List.length_map, List.length_cons, List.length_nil, Nat.zero_add, Nat.reduceAdd, cp_sh hp, hp.sh, hpt.sh])
  refine C_deals hp hpt (by omega) (fun h => e1 h) (fun h xs h1 h2 => e2 h xs h1 h2) (fun g h => e3 g h) fun bs t hd ht l1 l2 hb t1 t2 => ?_
  subst hd
  subst ht
  (try simp_arith [Bool.and_true, Bool.true_and, Bool.and_false, Bool.false_and, Bool.not_true, Bool.not_false, Bool.or_true, Bool.true_or, Bool.or_false, Bool.false_or, decide_true, decide_false, and_true, true_and, qpSs_nil, List.length_map, List.length_cons, List.length_nil, Nat.zero_add, Nat.reduceAdd, owns_rowT])
  refine ⟨by decide, ?_⟩
  ((first | rw [qpSs_cons] | (dsimp only; rw [qpSs_cons])); simp_arith [Bool.and_true, Bool.true_and, Bool.and_false, Bool.false_and, Bool.not_true, Bool.not_false, Bool.or_true, Bool.true_or, Bool.or_false, Bool.false_or, decide_true, decide_false, and_true, true_and, qpSs_nil, List.length_map, List.length_cons, List.length_nil, Nat.zero_add, Nat.reduceAdd, cp_sh hp, hp.sh])
  refine C_same f_same hp (by omega) ?_
  (try simp_arith [Bool.and_true, Bool.true_and, Bool.and_false, Bool.false_and, Bool.not_true, Bool.not_false, Bool.or_true, Bool.true_or, Bool.or_false, Bool.false_or, decide_true, decide_false, and_true, true_and, qpSs_nil, List.length_map, List.length_cons, List.length_nil, Nat.zero_add, Nat.reduceAdd])
  ((first | rw [qpSs_cons] | (dsimp only; rw [qpSs_cons])); simp_arith [Bool.and_true, Bool.true_and, Bool.and_false, Bool.false_and, Bool.not_true, Bool.not_false, Bool.or_true, Bool.true_or, Bool.or_false, Bool.false_or, decide_true, decide_false, and_true, true_and, qpSs_nil, List.length_map, List.length_cons, List.length_nil, Nat.zero_add, Nat.reduceAdd, cp, ty_bb, ty_nb, ty_sb, ty_lb, ty_tb, ty_ii, ty_bi, ty_si, ty_li, ty_ti, ty_ni, ty_ss, ty_ls, ty_ts, ty_is, ty_bs, ty_ns, ty_ll, ty_tl, ty_lt, ty_tt, ty_sl, ty_il, ty_bl, ty_nl, ty_st, ty_it, ty_bt, ty_nt, isaT1, beq_self_eq_true, Option.map_some])
  ((first | rw [qpSs_cons] | (dsimp only; rw [qpSs_cons])); simp_arith [Bool.and_true, Bool.true_and, Bool.and_false, Bool.false_and, Bool.not_true, Bool.not_false, Bool.or_true, Bool.true_or, Bool.or_false, Bool.false_or, decide_true, decide_false, and_true, true_and, qpSs_nil, List.length_map, List.length_cons, List.length_nil, Nat.zero_add, Nat.reduceAdd, cp, ty_bb, ty_nb, ty_sb, ty_lb, ty_tb, ty_ii, ty_bi, ty_si, ty_li, ty_ti, ty_ni, ty_ss, ty_ls, ty_ts, ty_is, ty_bs, ty_ns, ty_ll, ty_tl, ty_lt, ty_tt, ty_sl, ty_il, ty_bl, ty_nl, ty_st, ty_it, ty_bt, ty_nt, isaT1, beq_self_eq_true, Option.map_some])
  refine ⟨by rw [cps_map]; simp only [List.length_map, SL]; omega, ?_⟩
  ((first | rw [qpSs_cons] | (dsimp only; rw [qpSs_cons])); simp_arith [Bool.and_true, Bool.true_and, Bool.and_false, Bool.false_and, Bool.not_true, Bool.not_false, Bool.or_true, Bool.true_or, Bool.or_false, Bool.false_or, decide_true, decide_false, and_true, true_and, qpSs_nil, List.length_map, List.length_cons, List.length_nil, Nat.zero_add, Nat.reduceAdd])
  exact q bs t rfl rfl l1 l2 hb t1 t2
theorem C_share_told {d dd : D} {n m : Nat} (hp : Pl n d) (hpd : Pl m dd) (hk : 6 + n + m ≤ k) (e1 : ¬ Lk d → Q (err "BadShape" "bursts")) (e2 : Lk d → ∀ xs, d = .lst false xs → (∃ x ∈ xs, NotIn 0 6 x) → Q (err "BadNumber" "bursts"))
    (e3 : ∀ bs, d = .lst false (iN bs) → BsOk bs → (¬ ∃ xs, dd = .lst false xs ∧ xs.length = bs.length) → Q (err "BadShape" "delays")) (e4 : ∀ bs xs, d = .lst false (iN bs) → BsOk bs → dd = .lst false xs → xs.length = bs.length → (∃ p ∈ xs.zip bs, NotIn (lowD p.2) 6 p.1) → Q (err "BadNumber" "delays"))
    (q : ∀ (ps : List Ln) (s : Nat × Nat), d = .lst false (iN (ps.map (·.1))) → dd = .lst false (iN (ps.map (·.2))) → BsOk (ps.map (·.1)) → (∀ p ∈ ps, LnOk p ∧ p.1 ≤ p.2) → Least ps s → Q (told (tupN s))) : FC (stW s c) k "_law_share_told" [d, dd] Q E := by
  obtain ⟨k, rfl⟩ : ∃ k', k = k' + 1 := ⟨k - 1, by omega⟩
  (refine call_of (cons := fun _ => false) FCall.sound (d := fn__law_share_told) rfl rfl ?_; simp only [fn__law_share_told, Nat.sub_self, Nat.reduceSub, q_map_n, q_map_c, q_rep_z, List.replicate, q_app_n, q_app_c])
  ((first | rw [qpSs_cons] | (dsimp only; rw [qpSs_cons])); simp_arith [Bool.and_true, Bool.true_and, Bool.and_false, Bool.false_and, Bool.not_true, Bool.not_false, Bool.or_true, Bool.true_or, Bool.or_false, Bool.false_or, decide_true, decide_false, and_true, true_and, qpSs_nil, List.length_map, List.length_cons, List.length_nil, Nat.zero_add, Nat.reduceAdd, hp.sh])
  refine C_copy f_copy hp (by omega) ?_
  (try simp_arith [Bool.and_true, Bool.true_and, Bool.and_false, Bool.false_and, Bool.not_true, Bool.not_false, Bool.or_true, Bool.true_or, Bool.or_false, Bool.false_or, decide_true, decide_false, and_true, true_and, qpSs_nil, List.length_map, List.length_cons, List.length_nil, Nat.zero_add, Nat.reduceAdd, cp_own])
  ((first | rw [qpSs_cons] | (dsimp only; rw [qpSs_cons])); simp_arith [Bool.and_true, Bool.true_and, Bool.and_false, Bool.false_and, Bool.not_true, Bool.not_false, Bool.or_true, Bool.true_or, Bool.or_false, Bool.false_or, decide_true, decide_false, and_true, true_and, qpSs_nil, List.length_map, List.length_cons, List.length_nil, Nat.zero_add, Nat.reduceAdd, hpd.sh])
  refine C_copy f_copy hpd (by omega) ?_
  (try simp_arith [Bool.and_true, Bool.true_and, Bool.and_false, Bool.false_and, Bool.not_true, Bool.not_false, Bool.or_true, Bool.true_or, Bool.or_false, Bool.false_or, decide_true, decide_false, and_true, true_and, qpSs_nil, List.length_map, List.length_cons, List.length_nil, Nat.zero_add, Nat.reduceAdd, cp_own])
  ((first | rw [qpSs_cons] | (dsimp only; rw [qpSs_cons])); simp_arith [Bool.and_true, Bool.true_and, Bool.and_false, Bool.false_and, Bool.not_true, Bool.not_false, Bool.or_true, Bool.true_or, Bool.or_false, Bool.false_or, decide_true, decide_false, and_true, true_and, qpSs_nil, List.length_map, List.length_cons, List.length_nil, Nat.zero_add, Nat.reduceAdd])
  ((first | rw [qpSs_cons] | (dsimp only; rw [qpSs_cons])); simp_arith [Bool.and_true, Bool.true_and, Bool.and_false, Bool.false_and, Bool.not_true, Bool.not_false, Bool.or_true, Bool.true_or, Bool.or_false, Bool.false_or, decide_true, decide_false, and_true, true_and, qpSs_nil, List.length_map, List.length_cons, List.length_nil, Nat.zero_add, Nat.reduceAdd, cp_sh hp, cp_sh hpd, hp.sh, hpd.sh])
  refine C_deal_share hp hpd (by omega) (fun h => e1 h) (fun h xs h1 h2 => e2 h xs h1 h2) (fun bs h1 g h2 => e3 bs h1 g h2) (fun bs xs h1 g h2 h3 h4 => e4 bs xs h1 g h2 h3 h4) fun ps s h1 h2 hB h3 h4 => ?_
  (try simp_arith [Bool.and_true, Bool.true_and, Bool.and_false, Bool.false_and, Bool.not_true, Bool.not_false, Bool.or_true, Bool.true_or, Bool.or_false, Bool.false_or, decide_true, decide_false, and_true, true_and, qpSs_nil, List.length_map, List.length_cons, List.length_nil, Nat.zero_add, Nat.reduceAdd, tupN])
  refine ⟨by decide, ?_⟩
  ((first | rw [qpSs_cons] | (dsimp only; rw [qpSs_cons])); simp_arith [Bool.and_true, Bool.true_and, Bool.and_false, Bool.false_and, Bool.not_true, Bool.not_false, Bool.or_true, Bool.true_or, Bool.or_false, Bool.false_or, decide_true, decide_false, and_true, true_and, qpSs_nil, List.length_map, List.length_cons, List.length_nil, Nat.zero_add, Nat.reduceAdd, cp_sh hp, cp_sh hpd, hp.sh, hpd.sh])
  refine C_same f_same hp (by omega) ?_
  (try simp_arith [Bool.and_true, Bool.true_and, Bool.and_false, Bool.false_and, Bool.not_true, Bool.not_false, Bool.or_true, Bool.true_or, Bool.or_false, Bool.false_or, decide_true, decide_false, and_true, true_and, qpSs_nil, List.length_map, List.length_cons, List.length_nil, Nat.zero_add, Nat.reduceAdd, cp_sh hp, cp_sh hpd, hp.sh, hpd.sh])
  refine C_same f_same hpd (by omega) ?_
  (try simp_arith [Bool.and_true, Bool.true_and, Bool.and_false, Bool.false_and, Bool.not_true, Bool.not_false, Bool.or_true, Bool.true_or, Bool.or_false, Bool.false_or, decide_true, decide_false, and_true, true_and, qpSs_nil, List.length_map, List.length_cons, List.length_nil, Nat.zero_add, Nat.reduceAdd])
  ((first | rw [qpSs_cons] | (dsimp only; rw [qpSs_cons])); simp_arith [Bool.and_true, Bool.true_and, Bool.and_false, Bool.false_and, Bool.not_true, Bool.not_false, Bool.or_true, Bool.true_or, Bool.or_false, Bool.false_or, decide_true, decide_false, and_true, true_and, qpSs_nil, List.length_map, List.length_cons, List.length_nil, Nat.zero_add, Nat.reduceAdd])
  exact q ps s h1 h2 hB h3 h4
end
end K80
set_option maxHeartbeats 4000000
namespace K80
open PySem Py Py.LL
def extR (r : List Int) : List (List Int) := (List.range 6).map fun (j : Nat) => r ++ [1 + (j : Int)]
def prodL : Nat → List (List Int)
  | 0 => [[]]
  | n + 1 => (prodL n).flatMap extR
def okR (bs r : List Int) : Bool := (r.zip bs).all fun p => decide (p.2 ≤ p.1)
def goodR (bs : List Int) (t : Int) (r : List Int) : Bool := decide (r.sum ≤ t) && okR bs r
def everyL (bs : List Int) (t : Int) : List (List Int) := (prodL bs.length).filter (goodR bs t)
theorem prodL_len : ∀ {n : Nat} {r : List Int}, r ∈ prodL n → r.length = n
  | 0, r, h => by rw [List.mem_singleton.mp h]; rfl
  | n + 1, r, h => by
    obtain ⟨x, hx, h⟩ := List.mem_flatMap.mp h
    obtain ⟨j, _, rfl⟩ := List.mem_map.mp h
    simp [prodL_len hx]
theorem okR_snoc {bs r : List Int} {b d : Int} (h : r.length = bs.length) : okR (bs ++ [b]) (r ++ [d]) = (okR bs r && decide (b ≤ d)) := by
  unfold okR
  rw [List.zip_append h, List.all_append]
  simp
theorem step_eq {bs r : List Int} {b t : Int} (h : r.length = bs.length) (h1 : 0 ≤ b ∧ b ≤ 6) : (extR r).filter (goodR (bs ++ [b]) t) = if goodR bs t r = true then longer t b r else [] := by
  have e : ∀ d : Int, goodR (bs ++ [b]) t (r ++ [d]) = (decide (r.sum + d ≤ t) && (okR bs r && decide (b ≤ d))) := fun d => by
    unfold goodR
    rw [okR_snoc h, List.sum_append]
    simp
  unfold extR
  rw [List.filter_map]
  have e2 : (goodR (bs ++ [b]) t ∘ fun (j : Nat) => r ++ [1 + (j : Int)]) = fun (j : Nat) => (decide (r.sum + (1 + (j : Int)) ≤ t) && (okR bs r && decide (b ≤ 1 + (j : Int)))) := by
    funext j
    exact e _
  rw [e2]
  unfold goodR longer
  cases ok : okR bs r with
  | false => simp
  | true =>
    simp only [Bool.true_and, Bool.and_true, decide_eq_true_eq]
    have hb : b = 0 ∨ b = 1 ∨ b = 2 ∨ b = 3 ∨ b = 4 ∨ b = 5 ∨ b = 6 := by omega
    have R6 : List.range 6 = [0, 1, 2, 3, 4, 5] := rfl
    have R5 : List.range 5 = [0, 1, 2, 3, 4] := rfl
    have R4 : List.range 4 = [0, 1, 2, 3] := rfl
    have R3 : List.range 3 = [0, 1, 2] := rfl
    have R2 : List.range 2 = [0, 1] := rfl
    have R1 : List.range 1 = [0] := rfl
    by_cases hS : r.sum ≤ t
    · rw [if_pos hS, R6]
      have mf : ∀ (l : List Nat) (p : Nat → Bool) (f : Nat → List Int), (l.filter p).map f = l.flatMap fun j => if p j = true then [f j] else [] := by
        intro l p f
        induction l with
        | nil => rfl
        | cons x l ih => rw [List.filter_cons, List.flatMap_cons, ← ih]; split <;> simp [*]
      rw [mf]
      rcases hb with rfl | rfl | rfl | rfl | rfl | rfl | rfl
      · rw [show lowD 0 = 1 from rfl, show ((7 : Int) - 1).toNat = 6 from rfl, R6]; simp
      · rw [show lowD 1 = 1 from rfl, show ((7 : Int) - 1).toNat = 6 from rfl, R6]; simp
      · rw [show lowD 2 = 2 from rfl, show ((7 : Int) - 2).toNat = 5 from rfl, R5]; simp
      · rw [show lowD 3 = 3 from rfl, show ((7 : Int) - 3).toNat = 4 from rfl, R4]; simp
      · rw [show lowD 4 = 4 from rfl, show ((7 : Int) - 4).toNat = 3 from rfl, R3]; simp
      · rw [show lowD 5 = 5 from rfl, show ((7 : Int) - 5).toNat = 2 from rfl, R2]; simp
      · rw [show lowD 6 = 6 from rfl, show ((7 : Int) - 6).toNat = 1 from rfl, R1]; simp
    · rw [if_neg hS]
      rw [List.map_eq_nil_iff, List.filter_eq_nil_iff]
      intro j _
      simp
      omega
theorem deals_every {bs : List Int} {t : Int} (h : ∀ b ∈ bs, 0 ≤ b ∧ b ≤ 6) (ht : 0 ≤ t) : dealsL bs t = everyL bs t := by
  have key : ∀ (l : List Int), (∀ b ∈ l, 0 ≤ b ∧ b ≤ 6) → dealsL l.reverse t = everyL l.reverse t := by
    intro l
    induction l with
    | nil =>
      intro _
      show [[]] = List.filter (goodR [] t) [[]]
      have : goodR [] t [] = true := by unfold goodR; simp [okR, ht]
      simp [this]
    | cons b l ih =>
      intro hl
      have ih := ih fun x hx => hl x (List.mem_cons_of_mem _ hx)
      rw [List.reverse_cons]
      unfold dealsL at *
      rw [List.foldl_append, List.foldl_cons, List.foldl_nil, ih]
      unfold everyL
      rw [List.length_append, List.length_cons, List.length_nil]
      show _ = ((prodL l.reverse.length).flatMap extR).filter _
      rw [List.filter_flatMap]
      have : ∀ (xs : List (List Int)), (∀ x ∈ xs, x.length = l.reverse.length) → (xs.filter (goodR l.reverse t)).flatMap (longer t b) = xs.flatMap fun x => (extR x).filter (goodR (l.reverse ++ [b]) t) := by
        intro xs
        induction xs with
        | nil => intro _; rfl
        | cons x xs ihx =>
          intro hx
          rw [List.flatMap_cons, step_eq (hx x (List.mem_cons_self ..)) (hl b (List.mem_cons_self ..)), ← ihx fun y hy => hx y (List.mem_cons_of_mem _ hy), List.filter_cons]
          split <;> rename_i hg <;> simp [hg]
      exact this _ fun x hx => prodL_len hx
  have := key bs.reverse fun b hb => h b (List.mem_reverse.mp hb)
  rw [List.reverse_reverse] at this
  exact this
theorem okR_iff {bs r : List Int} (h : r.length = bs.length) : okR bs r = true ↔ ∀ j, j < r.length → bs.getD j 0 ≤ r.getD j 0 := by
  unfold okR
  rw [List.all_eq_true]
  constructor
  · intro hh j hj
    have := hh (r[j], bs[j]'(h ▸ hj)) (List.mem_iff_getElem?.mpr ⟨j, by rw [List.getElem?_zip_eq_some]; simp [hj, h ▸ hj]⟩)
    simp only [decide_eq_true_eq] at this
    rw [List.getD_eq_getElem?_getD, List.getD_eq_getElem?_getD, List.getElem?_eq_getElem hj, List.getElem?_eq_getElem (h ▸ hj)]
    exact this
  · intro hh p hp
    obtain ⟨j, hj⟩ := List.mem_iff_getElem?.mp hp
    rw [List.getElem?_zip_eq_some] at hj
    have hl := get_lt hj.1
    have := hh j hl
    rw [List.getD_eq_getElem?_getD, List.getD_eq_getElem?_getD, hj.1, hj.2] at this
    simp only [decide_eq_true_eq]
    exact this
theorem flat_nil {A : Type} {l : List Nat} {p : Nat → Prop} [DecidablePred p] {f : Nat → A} : (l.flatMap fun j => if p j then [f j] else []).length = 0 ↔ ∀ j ∈ l, ¬ p j := by
  induction l with
  | nil => simp
  | cons x l ih =>
    rw [List.flatMap_cons, List.length_append]
    by_cases hp : p x
    · simp [hp]
    · rw [if_neg hp, List.length_nil, Nat.zero_add, ih]
      simp [hp]
section
variable {W : Wd} {k : Nat} {Q : DQ} {E : DX → Prop}
theorem extR_len (r : List Int) : (extR r).length = 6 := by unfold extR; simp
theorem flat_ext (l : List (List Int)) : (l.flatMap extR).length = 6 * l.length := by
  induction l with
  | nil => rfl
  | cons x l ih => rw [List.flatMap_cons, List.length_append, extR_len, ih, List.length_cons]; omega
theorem prodL_cnt : ∀ n : Nat, (prodL n).length = 6 ^ n
  | 0 => rfl
  | n + 1 => by show ((prodL n).flatMap extR).length = _; rw [flat_ext, prodL_cnt n, Nat.pow_succ, Nat.mul_comm]
theorem C_every {bs : List Int} {t : Int} (hk : 1 ≤ k) (hl : bs.length ≤ 3) (hb : ∀ b ∈ bs, 0 ≤ b ∧ b ≤ 6) (q : Q (.lst true ((everyL bs t).map rowF))) : FC W k "_law_every" [.lst false (bs.map D.int), .int t] Q E := by
  obtain ⟨k, rfl⟩ : ∃ k', k = k' + 1 := ⟨k - 1, by omega⟩
  (refine call_of (cons := fun _ => false) FCall.sound (d := fn__law_every) rfl rfl ?_; simp only [fn__law_every, Nat.sub_self, Nat.reduceSub, q_map_n, q_map_c, q_rep_z, List.replicate, q_app_n, q_app_c])
  ((first | rw [qpSs_cons] | (dsimp only; rw [qpSs_cons])); simp_arith [Bool.and_true, Bool.true_and, Bool.and_false, Bool.false_and, Bool.not_true, Bool.not_false, Bool.or_true, Bool.true_or, Bool.or_false, Bool.false_or, decide_true, decide_false, and_true, true_and, qpSs_nil, List.length_map, List.length_cons, List.length_nil, Nat.zero_add, Nat.reduceAdd])
  refine ⟨by decide, by decide, ?_⟩
  ((first | rw [qpSs_cons] | (dsimp only; rw [qpSs_cons])); simp_arith [Bool.and_true, Bool.true_and, Bool.and_false, Bool.false_and, Bool.not_true, Bool.not_false, Bool.or_true, Bool.true_or, Bool.or_false, Bool.false_or, decide_true, decide_false, and_true, true_and, qpSs_nil, List.length_map, List.length_cons, List.length_nil, Nat.zero_add, Nat.reduceAdd, shs_ints, owns_ints])
  rw [List.map_map]
  refine for_ind (Inv := fun cs r => ∃ (n : Nat) (f : Bool) (xs : List D) (o3 o5 o6 : Option D), r = [some (.lst false (bs.map D.int)), some (.int t), some (.lst f xs), o3, none, o5, o6, none, none] ∧ shs xs = (prodL n).map rowF ∧ n + cs.length = bs.length) (fun b cs ρ h => ?_) (fun ρ h => ?_) bs _ ⟨0, true, _, none, none, none, rfl, rfl, by simp⟩
  · obtain ⟨n, f, xs, o3, o5, o6, rfl, hx, hn⟩ := h
    rw [List.length_cons] at hn
    refine ⟨_, rfl, fun K' hK => ?_⟩
    ((first | rw [qpSs_cons] | (dsimp only; rw [qpSs_cons])); simp_arith [Bool.and_true, Bool.true_and, Bool.and_false, Bool.false_and, Bool.not_true, Bool.not_false, Bool.or_true, Bool.true_or, Bool.or_false, Bool.false_or, decide_true, decide_false, and_true, true_and, qpSs_nil, List.length_map, List.length_cons, List.length_nil, Nat.zero_add, Nat.reduceAdd])
    refine ⟨by decide, ?_⟩
    ((first | rw [qpSs_cons] | (dsimp only; rw [qpSs_cons])); simp_arith [Bool.and_true, Bool.true_and, Bool.and_false, Bool.false_and, Bool.not_true, Bool.not_false, Bool.or_true, Bool.true_or, Bool.or_false, Bool.false_or, decide_true, decide_false, and_true, true_and, qpSs_nil, List.length_map, List.length_cons, List.length_nil, Nat.zero_add, Nat.reduceAdd, hx, shs_rowF])
    rw [List.map_map]
    refine for_ind (Inv := fun rest r => ∃ (done : List (List Int)) (f : Bool) (ys : List D) (o5 : Option D), r = [some (.lst false (bs.map D.int)), some (.int t), some (.lst false ((prodL n).map rowF)), some (.int b), none, o5, some (.lst f ys), none, none] ∧ shs ys = (done.flatMap extR).map rowF ∧ done ++ rest = prodL n) (fun row rest ρ h => ?_) (fun ρ h => ?_) (prodL n) _ ⟨[], true, [], _, rfl, rfl, rfl⟩
    · obtain ⟨done, f2, ys, o5, rfl, hy, hd⟩ := h
      refine ⟨_, rfl, fun K2 hK2 => ?_⟩
      have hdl : done.length + (rest.length + 1) = 6 ^ n := by rw [← prodL_cnt n, ← hd, List.length_append, List.length_cons]
      have h36 : 6 ^ n ≤ 36 := by
        have : n = 0 ∨ n = 1 ∨ n = 2 := by omega
        rcases this with rfl | rfl | rfl <;> decide
      have hrow : row ∈ prodL n := by rw [← hd]; simp
      have hrl := prodL_len hrow
      ((first | rw [qpSs_cons] | (dsimp only; rw [qpSs_cons])); simp_arith [Bool.and_true, Bool.true_and, Bool.and_false, Bool.false_and, Bool.not_true, Bool.not_false, Bool.or_true, Bool.true_or, Bool.or_false, Bool.false_or, decide_true, decide_false, and_true, true_and, qpSs_nil, List.length_map, List.length_cons, List.length_nil, Nat.zero_add, Nat.reduceAdd, hy, shs_rowF, Function.comp, rowF, shs_ints])
      refine ⟨by decide, ?_⟩
      rw [rngD_map, show ((7 : Int) - 1).toNat = 6 from rfl]
      refine lc_flat (f := fun (j : Nat) => [rowT (row ++ [1 + (j : Int)])]) (N := 1) (by decide) (fun j hj => ⟨by simp, _, rfl, fun acc K ha hKK => ?_⟩) ?_
      · (try simp_arith [Bool.and_true, Bool.true_and, Bool.and_false, Bool.false_and, Bool.not_true, Bool.not_false, Bool.or_true, Bool.true_or, Bool.or_false, Bool.false_or, decide_true, decide_false, and_true, true_and, qpSs_nil, List.length_map, List.length_cons, List.length_nil, Nat.zero_add, Nat.reduceAdd, shs_ints])
        refine ⟨by decide, by simp only [List.length_map, SL]; omega, ha, ?_⟩
        rw [rowT, List.map_append, List.map_singleton] at hKK
        exact hKK
      · have e : (List.range 6).flatMap (fun (j : Nat) => [rowT (row ++ [1 + (j : Int)])]) = (extR row).map rowT := by
          unfold extR
          rw [List.map_map]
          rfl
        rw [List.nil_append, e]
        have hsh : shs ((done.flatMap extR).map rowF ++ (extR row).map rowT) = ((done ++ [row]).flatMap extR).map rowF := by
          rw [shs_map, List.map_append, ← shs_map, ← shs_map, shs_rowF, shs_rowT, ← List.map_append, List.flatMap_append, List.flatMap_cons, List.flatMap_nil, List.append_nil]
        have hy2 : shs ys = (done.flatMap extR).map fun r => D.lst false (r.map D.int) := hy
        refine ⟨by simp only [List.length_map, flat_ext, extR_len, SL]; omega, ?_⟩
        cases ho : owns (List.map rowF (done.flatMap extR) ++ (extR row).map rowT) <;>
        · (try simp_arith [Bool.and_true, Bool.true_and, Bool.and_false, Bool.false_and, Bool.not_true, Bool.not_false, Bool.or_true, Bool.true_or, Bool.or_false, Bool.false_or, decide_true, decide_false, and_true, true_and, qpSs_nil, List.length_map, List.length_cons, List.length_nil, Nat.zero_add, Nat.reduceAdd, ho, hy2, shs_ints, shs_rowF])
          exact hK2 _ ⟨done ++ [row], _, _, _, rfl, hsh, by rw [List.append_assoc]; exact hd⟩
    · obtain ⟨done, f2, ys, o5, rfl, hy, hd⟩ := h
      rw [List.append_nil] at hd
      subst hd
      ((first | rw [qpSs_cons] | (dsimp only; rw [qpSs_cons])); simp_arith [Bool.and_true, Bool.true_and, Bool.and_false, Bool.false_and, Bool.not_true, Bool.not_false, Bool.or_true, Bool.true_or, Bool.or_false, Bool.false_or, decide_true, decide_false, and_true, true_and, qpSs_nil, List.length_map, List.length_cons, List.length_nil, Nat.zero_add, Nat.reduceAdd, hy])
      cases ho : owns (List.map rowF ((prodL n).flatMap extR)) <;>
      · (try simp_arith [Bool.and_true, Bool.true_and, Bool.and_false, Bool.false_and, Bool.not_true, Bool.not_false, Bool.or_true, Bool.true_or, Bool.or_false, Bool.false_or, decide_true, decide_false, and_true, true_and, qpSs_nil, List.length_map, List.length_cons, List.length_nil, Nat.zero_add, Nat.reduceAdd, ho])
        exact hK _ ⟨n + 1, _, _, _, _, _, rfl, by rw [shs_rowF]; rfl, by omega⟩
  · obtain ⟨n, f, xs, o3, o5, o6, rfl, hx, hn⟩ := h
    rw [List.length_nil, Nat.add_zero] at hn
    subst hn
    ((first | rw [qpSs_cons] | (dsimp only; rw [qpSs_cons])); simp_arith [Bool.and_true, Bool.true_and, Bool.and_false, Bool.false_and, Bool.not_true, Bool.not_false, Bool.or_true, Bool.true_or, Bool.or_false, Bool.false_or, decide_true, decide_false, and_true, true_and, qpSs_nil, List.length_map, List.length_cons, List.length_nil, Nat.zero_add, Nat.reduceAdd])
    ((first | rw [qpSs_cons] | (dsimp only; rw [qpSs_cons])); simp_arith [Bool.and_true, Bool.true_and, Bool.and_false, Bool.false_and, Bool.not_true, Bool.not_false, Bool.or_true, Bool.true_or, Bool.or_false, Bool.false_or, decide_true, decide_false, and_true, true_and, qpSs_nil, List.length_map, List.length_cons, List.length_nil, Nat.zero_add, Nat.reduceAdd, hx, shs_rowF])
    refine ⟨by decide, ?_⟩
    rw [List.map_map]
    refine for_ind (Inv := fun rest r => ∃ (done : List (List Int)) (o5 : Option D), r = [some (.lst false (bs.map D.int)), some (.int t), some (.lst false ((prodL bs.length).map rowF)), o3, some (.lst true ((done.filter (goodR bs t)).map rowF)), o5, o6, none, none] ∧ done ++ rest = prodL bs.length) (fun row rest ρ h => ?_) (fun ρ h => ?_) (prodL bs.length) _ ⟨[], _, rfl, rfl⟩
    · obtain ⟨done, o5, rfl, hd⟩ := h
      refine ⟨_, rfl, fun K2 hK2 => ?_⟩
      have hrow : row ∈ prodL bs.length := by rw [← hd]; simp
      have hrl := prodL_len hrow
      ((first | rw [qpSs_cons] | (dsimp only; rw [qpSs_cons])); simp_arith [Bool.and_true, Bool.true_and, Bool.and_false, Bool.false_and, Bool.not_true, Bool.not_false, Bool.or_true, Bool.true_or, Bool.or_false, Bool.false_or, decide_true, decide_false, and_true, true_and, qpSs_nil, List.length_map, List.length_cons, List.length_nil, Nat.zero_add, Nat.reduceAdd, rowF, Function.comp, shs_ints, intsD_ints])
      have hdl : done.length + (rest.length + 1) ≤ 216 := by
        have e : done.length + (rest.length + 1) = 6 ^ bs.length := by rw [← prodL_cnt, ← hd, List.length_append, List.length_cons]
        have : bs.length = 0 ∨ bs.length = 1 ∨ bs.length = 2 ∨ bs.length = 3 := by omega
        rw [e]
        rcases this with h | h | h | h <;> rw [h] <;> decide
      have hfl : (done.filter (goodR bs t)).length ≤ done.length := List.length_filter_le _ _
      refine ⟨fun hs => ⟨⟨by omega, by omega⟩, ?_⟩, fun hs => ⟨fun z => absurd z hs, fun _ => ?_⟩⟩
      · rw [rngD_map, Int.toNat_natCast]
        refine lc_flat (f := fun (j : Nat) => if row.getD j 0 < bs.getD j 0 then [D.int (j : Int)] else []) (N := 1) (by simp only [List.length_nil, List.length_range, SL]; omega) (fun j hj => ⟨by split <;> simp, _, rfl, fun acc K ha hKK => ?_⟩) ?_
        · have hj := List.mem_range.mp hj
          have hj2 : j < bs.length := hrl ▸ hj
          have e1 : L2.atI (row.map D.int) (0 + (j : Int)) = some (.int (row.getD j 0)) := by
            rw [Int.zero_add, atI_nat (by simpa using hj)]
            simp [hj]
          have e2 : L2.atI (bs.map D.int) (0 + (j : Int)) = some (.int (bs.getD j 0)) := by
            rw [Int.zero_add, atI_nat (by simpa using hj2)]
            simp [hj2]
          (try simp_arith [Bool.and_true, Bool.true_and, Bool.and_false, Bool.false_and, Bool.not_true, Bool.not_false, Bool.or_true, Bool.true_or, Bool.or_false, Bool.false_or, decide_true, decide_false, and_true, true_and, qpSs_nil, List.length_map, List.length_cons, List.length_nil, Nat.zero_add, Nat.reduceAdd, shs_ints, e1, e2])
          refine ⟨fun hc => ⟨ha, ?_⟩, fun hc => ?_⟩
          · rw [if_pos hc] at hKK
            rw [Int.zero_add]
            exact hKK
          · rw [if_neg hc, List.append_nil] at hKK
            exact hKK
        · rw [List.nil_append]
          (try simp_arith [Bool.and_true, Bool.true_and, Bool.and_false, Bool.false_and, Bool.not_true, Bool.not_false, Bool.or_true, Bool.true_or, Bool.or_false, Bool.false_or, decide_true, decide_false, and_true, true_and, qpSs_nil, List.length_map, List.length_cons, List.length_nil, Nat.zero_add, Nat.reduceAdd])
          have hz : (((List.range row.length).flatMap fun (j : Nat) => if row.getD j 0 < bs.getD j 0 then [D.int (j : Int)] else []).length = 0) ↔ okR bs row = true := by
            rw [flat_nil, okR_iff hrl]
            exact ⟨fun h j hj => Int.not_lt.mp (h j (List.mem_range.mpr hj)), fun h j hj => Int.not_lt.mpr (h j (List.mem_range.mp hj))⟩
          refine ⟨fun hc => ?_, fun hc => ?_⟩
          · have hok := hz.mp (by omega)
            have hg : goodR bs t row = true := by unfold goodR; rw [hok]; simp [hs]
            ((first | rw [qpSs_cons] | (dsimp only; rw [qpSs_cons])); simp_arith [Bool.and_true, Bool.true_and, Bool.and_false, Bool.false_and, Bool.not_true, Bool.not_false, Bool.or_true, Bool.true_or, Bool.or_false, Bool.false_or, decide_true, decide_false, and_true, true_and, qpSs_nil, List.length_map, List.length_cons, List.length_nil, Nat.zero_add, Nat.reduceAdd, shs_ints])
            refine ⟨by simp only [List.length_map, SL]; omega, ?_⟩
            have e : (done.filter (goodR bs t)).map rowF ++ [D.lst false (row.map D.int)] = ((done ++ [row]).filter (goodR bs t)).map rowF := by
              rw [List.filter_append, List.filter_cons, if_pos hg, List.filter_nil, List.map_append]
              rfl
            have e' : (done.filter (goodR bs t)).map (fun r => D.lst false (r.map D.int)) ++ [D.lst false (row.map D.int)] = ((done ++ [row]).filter (goodR bs t)).map rowF := e
            first | rw [e] | rw [e']
            exact hK2 _ ⟨done ++ [row], _, rfl, by rw [List.append_assoc]; exact hd⟩
          · have hg : goodR bs t row = false := by
              cases hok : okR bs row with
              | true => exact absurd (by have := hz.mpr hok; omega) hc
              | false => unfold goodR; rw [hok]; simp
            have hfe : (done ++ [row]).filter (goodR bs t) = done.filter (goodR bs t) := by rw [List.filter_append, List.filter_cons, hg]; simp
            exact hK2 _ ⟨done ++ [row], some (rowF row), by rw [hfe]; rfl, by rw [List.append_assoc]; exact hd⟩
      · have hg : goodR bs t row = false := by unfold goodR; simp [hs]
        have hfe : (done ++ [row]).filter (goodR bs t) = done.filter (goodR bs t) := by rw [List.filter_append, List.filter_cons, hg]; simp
        exact hK2 _ ⟨done ++ [row], some (rowF row), by rw [hfe]; rfl, by rw [List.append_assoc]; exact hd⟩
    · obtain ⟨done, o5, rfl, hd⟩ := h
      rw [List.append_nil] at hd
      subst hd
      ((first | rw [qpSs_cons] | (dsimp only; rw [qpSs_cons])); simp_arith [Bool.and_true, Bool.true_and, Bool.and_false, Bool.false_and, Bool.not_true, Bool.not_false, Bool.or_true, Bool.true_or, Bool.or_false, Bool.false_or, decide_true, decide_false, and_true, true_and, qpSs_nil, List.length_map, List.length_cons, List.length_nil, Nat.zero_add, Nat.reduceAdd])
      exact q
theorem at_iN {l : List Nat} {i : Nat} (h : i < l.length) : L2.atI (iN l) (i : Int) = some (.int (l[i] : Nat)) := by
  rw [atI_nat (by rw [iN_len]; exact h)]
  simp [iN]
theorem C_least {ps : List Ln} (hk : 3 ≤ k) (h0 : ps ≠ []) (hl : ps.length ≤ 3) (hp : ∀ p ∈ ps, LnOk p) (q : ∀ s, Least ps s → Q (tupN s)) : FC W k "_law_least" [.lst false (iN (ps.map (·.1))), .lst false (iN (ps.map (·.2)))] Q E := by
  obtain ⟨k, rfl⟩ : ∃ k', k = k' + 1 := ⟨k - 1, by omega⟩
  have h1 : 0 < ps.length := List.length_pos_iff.mpr h0
  have l1 : (iN (ps.map (·.1))).length = ps.length := by rw [iN_len, List.length_map]
  have bnd : ∀ i (h : i < ps.length), ps[i].1 ≤ 6 ∧ 1 ≤ ps[i].2 ∧ ps[i].2 ≤ 6 := fun i h => hp _ (List.getElem_mem h)
  (refine call_of (cons := fun _ => false) FCall.sound (d := fn__law_least) rfl rfl ?_; simp only [fn__law_least, Nat.sub_self, Nat.reduceSub, q_map_n, q_map_c, q_rep_z, List.replicate, q_app_n, q_app_c])
  ((first | rw [qpSs_cons] | (dsimp only; rw [qpSs_cons])); simp_arith [Bool.and_true, Bool.true_and, Bool.and_false, Bool.false_and, Bool.not_true, Bool.not_false, Bool.or_true, Bool.true_or, Bool.or_false, Bool.false_or, decide_true, decide_false, and_true, true_and, qpSs_nil, List.length_map, List.length_cons, List.length_nil, Nat.zero_add, Nat.reduceAdd])
  ((first | rw [qpSs_cons] | (dsimp only; rw [qpSs_cons])); simp_arith [Bool.and_true, Bool.true_and, Bool.and_false, Bool.false_and, Bool.not_true, Bool.not_false, Bool.or_true, Bool.true_or, Bool.or_false, Bool.false_or, decide_true, decide_false, and_true, true_and, qpSs_nil, List.length_map, List.length_cons, List.length_nil, Nat.zero_add, Nat.reduceAdd, l1, shs_iN])
  refine ⟨⟨by decide, by omega⟩, ?_⟩
  refine for_rng (Inv := fun j r => ∃ (bi : Nat) (o : Option D) (hb : bi < ps.length), r = [some (.lst false (iN (ps.map (·.1)))), some (.lst false (iN (ps.map (·.2)))), some (.int bi), o] ∧ ∀ i (hi : i < ps.length), i ≤ j → leL ps[bi] ps[i]) (fun j hj ρ h => ?_) (fun ρ h => ?_) ⟨0, none, h1, rfl, fun i hi hi0 => by
    obtain rfl : i = 0 := (by omega)
    exact leL_refl _⟩
  · obtain ⟨bi, o, hb, rfl, hle⟩ := h
    have hj1 : j + 1 < ps.length := by omega
    refine ⟨_, rfl, fun K' hK => ?_⟩
    have ej : (1 : Int) + (j : Int) = ((j + 1 : Nat) : Int) := by omega
    rw [ej]
    have a1 : L2.atI (iN (ps.map (·.2))) ((j + 1 : Nat) : Int) = some (.int (ps[j + 1].2 : Nat)) := by rw [at_iN (by simpa using hj1)]; simp
    have a2 : L2.atI (iN (ps.map (·.2))) (bi : Int) = some (.int (ps[bi].2 : Nat)) := by rw [at_iN (by simpa using hb)]; simp
    have a3 : L2.atI (iN (ps.map (·.1))) ((j + 1 : Nat) : Int) = some (.int (ps[j + 1].1 : Nat)) := by rw [at_iN (by simpa using hj1)]; simp
    have a4 : L2.atI (iN (ps.map (·.1))) (bi : Int) = some (.int (ps[bi].1 : Nat)) := by rw [at_iN (by simpa using hb)]; simp
    have b1 := bnd (j + 1) hj1
    have b2 := bnd bi hb
    have m1 : mulOk (ps[j + 1].2 : Int) ((ps[bi].2 : Int) + (ps[bi].1 : Int)) = true := mulOk_r (by omega)
    have m2 : mulOk (ps[bi].2 : Int) ((ps[j + 1].2 : Int) + (ps[j + 1].1 : Int)) = true := mulOk_r (by omega)
    ((first | rw [qpSs_cons] | (dsimp only; rw [qpSs_cons])); simp_arith [Bool.and_true, Bool.true_and, Bool.and_false, Bool.false_and, Bool.not_true, Bool.not_false, Bool.or_true, Bool.true_or, Bool.or_false, Bool.false_or, decide_true, decide_false, and_true, true_and, qpSs_nil, List.length_map, List.length_cons, List.length_nil, Nat.zero_add, Nat.reduceAdd, shs_iN, a1, a2, a3, a4, m1, m2, ↓reduceIte])
    have hlt : ((ps[j + 1].2 : Int) * ((ps[bi].2 : Int) + (ps[bi].1 : Int)) < (ps[bi].2 : Int) * ((ps[j + 1].2 : Int) + (ps[j + 1].1 : Int))) ↔ ¬ leL ps[bi] ps[j + 1] := by
      unfold leL
      rw [Nat.not_le, ← Int.ofNat_lt]
      simp
    rw [hlt]
    refine ⟨fun hc => ?_, fun hc => ?_⟩
    · ((first | rw [qpSs_cons] | (dsimp only; rw [qpSs_cons])); simp_arith [Bool.and_true, Bool.true_and, Bool.and_false, Bool.false_and, Bool.not_true, Bool.not_false, Bool.or_true, Bool.true_or, Bool.or_false, Bool.false_or, decide_true, decide_false, and_true, true_and, qpSs_nil, List.length_map, List.length_cons, List.length_nil, Nat.zero_add, Nat.reduceAdd])
      refine hK _ ⟨j + 1, _, hj1, rfl, fun i hi hij => ?_⟩
      by_cases e : i = j + 1
      · subst e; exact leL_refl _
      · exact leL_trans (hp _ (List.getElem_mem hj1)) (hp _ (List.getElem_mem hb)) (hp _ (List.getElem_mem hi)) (Nat.le_of_lt (Nat.not_le.mp hc)) (hle i hi (by omega))
    · refine hK _ ⟨bi, _, hb, rfl, fun i hi hij => ?_⟩
      by_cases e : i = j + 1
      · subst e; exact Decidable.not_not.mp hc
      · exact hle i hi (by omega)
  · obtain ⟨bi, o, hb, rfl, hle⟩ := h
    have a2 : L2.atI (iN (ps.map (·.2))) (bi : Int) = some (.int (ps[bi].2 : Nat)) := by rw [at_iN (by simpa using hb)]; simp
    have a4 : L2.atI (iN (ps.map (·.1))) (bi : Int) = some (.int (ps[bi].1 : Nat)) := by rw [at_iN (by simpa using hb)]; simp
    have b2 := bnd bi hb
    ((first | rw [qpSs_cons] | (dsimp only; rw [qpSs_cons])); simp_arith [Bool.and_true, Bool.true_and, Bool.and_false, Bool.false_and, Bool.not_true, Bool.not_false, Bool.or_true, Bool.true_or, Bool.or_false, Bool.false_or, decide_true, decide_false, and_true, true_and, qpSs_nil, List.length_map, List.length_cons, List.length_nil, Nat.zero_add, Nat.reduceAdd, shs_iN, a2, a4])
    have e : ((ps[bi].2 : Int) + (ps[bi].1 : Int)) = ((ps[bi].2 + ps[bi].1 : Nat) : Int) := by simp
    rw [e]
    refine C_share f_share f_gcd (by omega) (by omega) (by omega) (by omega) ?_
    refine q _ ⟨ps[bi], List.getElem_mem hb, rfl, fun p hpp => ?_⟩
    obtain ⟨i, hi, rfl⟩ := List.mem_iff_getElem.mp hpp
    exact hle i hi (by omega)
end
end K80
set_option maxHeartbeats 4000000
namespace K80
open PySem Py Py.LL
theorem map_inj {A C : Type} {f : A → C} (hf : ∀ x y, f x = f y → x = y) : ∀ {a b : List A}, a.map f = b.map f → a = b
  | [], [], _ => rfl
  | [], _ :: _, h => by cases h
  | _ :: _, [], h => by cases h
  | x :: a, y :: b, h => by
    have h := List.cons.inj h
    rw [hf x y h.1, map_inj hf h.2]
theorem iN_inj {a b : List Nat} (h : iN a = iN b) : a = b := by
  unfold iN at h
  exact map_inj (fun x y e => by have := D.int.inj e; omega) h
theorem links_inj {ps qs : List Ln} (h1 : iN (ps.map (·.1)) = iN (qs.map (·.1))) (h2 : iN (ps.map (·.2)) = iN (qs.map (·.2))) : ps = qs := by
  have e1 := iN_inj h1
  have e2 := iN_inj h2
  have : ∀ (l : List Ln), l = (l.map (·.1)).zip (l.map (·.2)) := fun l => by
    induction l with
    | nil => rfl
    | cons x l ih => rw [List.map_cons, List.map_cons, List.zip_cons_cons, ← ih]
  rw [this ps, this qs, e1, e2]
def iL (bs : List Nat) : List Int := bs.map fun (n : Nat) => (n : Int)
theorem iN_iL (bs : List Nat) : iN bs = (iL bs).map D.int := iN_ints bs
theorem iL_len (bs : List Nat) : (iL bs).length = bs.length := by unfold iL; simp
theorem iL_b {bs : List Nat} (h : BsOk bs) : ∀ b ∈ iL bs, 0 ≤ b ∧ b ≤ 6 := fun b hb => by
  obtain ⟨n, hn, rfl⟩ := List.mem_map.mp hb
  have := h.2.2 n hn
  omega
theorem lk_iN {bs : List Nat} (h : BsOk bs) : Lk (.lst false (iN bs)) := ⟨_, rfl, by rw [iN_len]; exact h.1, by rw [iN_len]; exact h.2.1⟩
theorem no_bad {bs : List Nat} (h : BsOk bs) {xs : List D} (e : D.lst false (iN bs) = .lst false xs) : ¬ ∃ x ∈ xs, NotIn 0 6 x := by
  cases e
  rintro ⟨x, hx, hb⟩
  obtain ⟨n, hn, rfl⟩ := List.mem_map.mp hx
  have := h.2.2 n hn
  have hb : (n : Int) < 0 ∨ 6 < (n : Int) := hb
  omega
theorem no_badD {ps : List Ln} (hp : ∀ p ∈ ps, LnOk p ∧ p.1 ≤ p.2) : ¬ ∃ p : D × Nat, p ∈ (iN (ps.map (·.2))).zip (ps.map (·.1)) ∧ NotIn (lowD p.2) 6 p.1 := by
  rintro ⟨p, hp1, hp2⟩
  obtain ⟨j, hj⟩ := List.mem_iff_getElem?.mp hp1
  rw [List.getElem?_zip_eq_some] at hj
  have hjl : j < ps.length := by have := get_lt hj.2; simpa using this
  obtain ⟨x, b⟩ := p
  have g1 : (iN (ps.map (·.2)))[j]? = some (.int (ps[j].2 : Nat)) := by unfold iN; simp [hjl]
  have g2 : (ps.map (·.1))[j]? = some ps[j].1 := by simp [hjl]
  have := hp _ (List.getElem_mem hjl)
  have a1 := hj.1
  have a2 := hj.2
  dsimp only at a1 a2
  rw [g1] at a1
  rw [g2] at a2
  cases a1
  cases a2
  have hb : ((ps[j].2 : Nat) : Int) < lowD (ps[j].1 : Nat) ∨ 6 < ((ps[j].2 : Nat) : Int) := hp2
  have : lowD (ps[j].1 : Nat) ≤ (ps[j].2 : Nat) := by
    obtain ⟨⟨h1, h2, h3⟩, h4⟩ := this
    unfold lowD
    split <;> omega
  obtain ⟨⟨h1, h2, h3⟩, h4⟩ := ‹LnOk ps[j] ∧ _›
  omega
section
variable {k s c : Nat} {Q : DQ} {E : DX → Prop}
theorem C_deals_good {bs : List Nat} {t : Int} (hk : 6 ≤ k) (h : BsOk bs) (t1 : 1 ≤ t) (t2 : t ≤ 18) (q : Q (told (.lst true ((everyL (iL bs) t).map rowT)))) : FC (stW s c) k "_law_deals_told" [.lst false (iN bs), .int t] Q E := by
  have hl : bs.length ≤ SL := Nat.le_trans h.2.1 (by decide)
  refine C_deals_told (pl_iN (n := 0) hl) (.int (n := 0) t) (by omega) (fun z => absurd (lk_iN h) z) (fun _ xs e z => absurd z (no_bad h e)) (fun _ z => absurd z (by show ¬ (_ ∨ _); omega)) fun bs' t' e1 e2 _ _ _ _ _ => ?_
  cases e2
  have e1 : iN bs = bs'.map D.int := D.lst.inj e1 |>.2
  rw [iN_iL] at e1
  have e3 : iL bs = bs' := map_inj (fun x y e => D.int.inj e) e1
  rw [← e3, deals_every (iL_b h) (by omega)]
  exact q
theorem C_share_good {ps : List Ln} (hk : 8 ≤ k) (h : BsOk (ps.map (·.1))) (hp : ∀ p ∈ ps, LnOk p ∧ p.1 ≤ p.2) (q : ∀ s, Least ps s → Q (told (tupN s))) : FC (stW s c) k "_law_share_told" [.lst false (iN (ps.map (·.1))), .lst false (iN (ps.map (·.2)))] Q E := by
  have hl : (ps.map (·.1)).length ≤ SL := Nat.le_trans h.2.1 (by decide)
  refine C_share_told (pl_iN (n := 0) hl) (pl_iN (n := 0) (by simpa using hl)) (by omega) (fun z => absurd (lk_iN h) z) (fun _ xs e z => absurd z (no_bad h e)) (fun bs e _ z => ?_) (fun bs xs e1 _ e2 l z => ?_) fun ps' s e1 e2 _ _ hl => ?_
  · have e := iN_inj (D.lst.inj e |>.2)
    refine absurd ⟨_, rfl, ?_⟩ z
    rw [iN_len, ← e, List.length_map, List.length_map]
  · cases e2
    have e := iN_inj (D.lst.inj e1 |>.2)
    subst e
    exact absurd z (no_badD hp)
  · have := links_inj (D.lst.inj e1 |>.2) (D.lst.inj e2 |>.2)
    subst this
    exact q s hl
end
theorem prodL_rng : ∀ {n : Nat} {r : List Int}, r ∈ prodL n → ∀ x ∈ r, 1 ≤ x ∧ x ≤ 6
  | 0, r, h, x, hx => by rw [List.mem_singleton.mp h] at hx; cases hx
  | n + 1, r, h, x, hx => by
    obtain ⟨y, hy, h⟩ := List.mem_flatMap.mp h
    obtain ⟨j, hj, rfl⟩ := List.mem_map.mp h
    rcases List.mem_append.mp hx with hx | hx
    · exact prodL_rng hy x hx
    · have := List.mem_range.mp hj
      rw [List.mem_singleton.mp hx]
      omega
def Good (bs : List Nat) (d : D) : Prop := ∃ ps : List Ln, bs = ps.map (·.1) ∧ d = .lst false (iN (ps.map (·.2))) ∧ ∀ p ∈ ps, LnOk p ∧ p.1 ≤ p.2
theorem every_good {bs : List Nat} {t : Int} (h : BsOk bs) {r : List Int} (hr : r ∈ everyL (iL bs) t) : Good bs (rowF r) := by
  obtain ⟨h1, h2⟩ := List.mem_filter.mp hr
  have hlen := prodL_len h1
  have hrng := prodL_rng h1
  unfold goodR at h2
  have hok := (Bool.and_eq_true_iff.mp h2).2
  have hlen2 : r.length = (iL bs).length := hlen
  obtain ⟨ps, e1, e2, e3⟩ := links_of (xs := r.map D.int) (bs := bs) (by rw [List.length_map, hlen, iL_len]) h.2.2 fun p hp => by
    obtain ⟨j, hj⟩ := List.mem_iff_getElem?.mp hp
    rw [List.getElem?_zip_eq_some] at hj
    have hjl : j < r.length := by have := get_lt hj.1; simpa using this
    have hjb := get_lt hj.2
    have hx := hrng _ (List.getElem_mem hjl)
    have hc := (okR_iff hlen2).mp hok j hjl
    have a1 := hj.1
    have a2 := hj.2
    have g1 : (r.map D.int)[j]? = some (.int r[j]) := by simp [hjl]
    rw [g1] at a1
    have e : p.1 = .int r[j] := (Option.some.inj a1).symm
    have e4 : bs[j]? = some p.2 := a2
    have e5 : (iL bs).getD j 0 = (p.2 : Int) := by unfold iL; simp [List.getD_eq_getElem?_getD, e4]
    have e6 : r.getD j 0 = r[j] := by simp [List.getD_eq_getElem?_getD, hjl]
    rw [e5, e6] at hc
    exact ⟨_, e, by unfold lowD; split <;> omega, hx.2⟩
  exact ⟨ps, e1, by unfold rowF; rw [e2], e3⟩
def consA (f : Str) : Bool := decide (f = "_law_apart")
theorem cA1 : consA (Str.ofString "_law_apart") = true := by decide
theorem cA2 : consA (Str.ofString "_law_every") = false := by decide
theorem cA3 : consA (Str.ofString "_law_deals_told") = false := by decide
theorem cA4 : consA (Str.ofString "_law_same") = false := by decide
theorem cA5 : consA (Str.ofString "_law_delays") = false := by decide
theorem pl_rows {bs : List Int} {t : Int} (h : bs.length ≤ 3) : Pl 2 (.lst false ((everyL bs t).map rowF)) := by
  refine .lst (fun x hx => ?_) ?_
  · obtain ⟨r, hr, rfl⟩ := List.mem_map.mp hx
    have := prodL_len (List.mem_filter.mp hr).1
    exact Pl.ints (by simp only [SL]; omega)
  · rw [List.length_map]
    have h1 : (everyL bs t).length ≤ (prodL bs.length).length := List.length_filter_le _ _
    rw [prodL_cnt] at h1
    have : bs.length = 0 ∨ bs.length = 1 ∨ bs.length = 2 ∨ bs.length = 3 := by omega
    rcases this with e | e | e | e <;> rw [e] at h1 <;> simp only [SL] <;> omega
section
variable {k s c : Nat} {Q : DQ} {E : DX → Prop}
theorem ints_ns : ∀ (r : List Int) {s' : Nat} {B : Nat → Prop} {m : M} {us : List U} {ns : List Nat}, Rps s' B m us (r.map D.int) ns → ns = []
  | [], _, _, _, _, _, h => by cases h; rfl
  | i :: r, _, _, _, _, _, h => by
    cases h with
    | cons a b =>
      cases a
      rw [ints_ns r b]
      rfl
theorem rows_ns : ∀ (rs : List (List Int)) {s' : Nat} {B : Nat → Prop} {m : M} {us : List U} {ns : List Nat}, Rps s' B m us (rs.map rowT) ns → ns.length = rs.length
  | [], _, _, _, _, _, h => by cases h; rfl
  | r :: rs, _, _, _, _, _, h => by
    cases h with
    | cons a b =>
      obtain ⟨x, us, n1, _, rfl, _, h2⟩ := Rp.lt_inv (show Rp _ _ _ _ (.lst true (r.map D.int)) _ from a)
      rw [ints_ns r h2, List.length_append, rows_ns rs b]
      simp
      omega
theorem f_apart : tx.fs "_law_apart" = some apart := rfl
theorem f_lists : tx.fs "_law_lists" = some lists := rfl
theorem C_apart {rs : List (List Int)} (hk : 24 ≤ k) (hl : rs.length ≤ 216) (hr : ∀ r ∈ rs, r.length ≤ 3) (q : Q (.bl true)) : FC (stW s c) k "_law_apart" [.lst true (rs.map rowT)] Q E := by
  intro B m us ns hB I hR nd hb
  have hd : OwD 2 (.lst true (rs.map rowT)) := .lst (fun x hx => by
    obtain ⟨r, hr', rfl⟩ := List.mem_map.mp hx
    exact .lst (fun y hy => by obtain ⟨i, _, rfl⟩ := List.mem_map.mp hy; exact .int i) (by have := hr r hr'; rw [List.length_map]; simp only [SL]; omega)) (by rw [List.length_map]; simp only [SL]; omega)
  cases hR with
  | @cons u _ us _ n1 n2 a b =>
    cases b
    rw [List.append_nil] at nd hb a
    rw [List.append_nil]
    obtain ⟨p, us, n3, hu, hns, _, hr2⟩ := a.lt_inv
    have hcnt := rows_ns rs hr2
    obtain ⟨m', e1, e2, e3⟩ := run_apart (k := k) f_apart f_lists (by decide) (by omega) hd a (by rw [hns, List.length_cons, hcnt]; simp only [SL]; omega) nd
    rw [e1]
    have hZ : ∀ x, (x = s ∨ x = c) → x ∉ n1 := fun x hx z => hb x z (hB.z x hx)
    refine ⟨.bl true, [], .bl true, .nil, (fun _ z => nomatch z), q, ⟨e2, fun i us _ hn z => e3 i _ hn z, fun i us z => tpOf_of z fun o z2 => e3 i o (fun hi => ?_) z2⟩, ?_⟩
    · obtain ⟨vs, hv⟩ := a.pl i hi
      unfold tpOf at z
      rw [hv] at z
      cases z
    · obtain ⟨zs, a1, b1, e, f, g, h1, h2, h3⟩ := I
      exact ⟨zs, a1, b1, e, f, g, e3 c _ (hZ c (.inr rfl)) h1, e3 s _ (hZ s (.inl rfl)) h2, h3⟩
theorem C_look {bs : List Nat} {t : Int} (hk : 25 ≤ k) (h : BsOk bs) (t1 : 1 ≤ t) (t2 : t ≤ 18) (q : Q (.bl true)) : FC (stW s c) k "_law_look" [.st, .lst false (iN bs), .int t] Q E := by
  obtain ⟨k, rfl⟩ : ∃ k', k = k' + 1 := ⟨k - 1, by omega⟩
  have hl3 : (iL bs).length ≤ 3 := by rw [iL_len]; exact h.2.1
  refine call_of (cons := consA) FCall.sound (d := fn__law_look) rfl rfl ?_
  simp only [fn__law_look, Nat.sub_self, Nat.reduceSub, q_map_n, q_map_c, q_rep_z, List.replicate, q_app_n, q_app_c]
  ((first | rw [qpSs_cons] | (dsimp only; rw [qpSs_cons])); simp_arith [Bool.and_true, Bool.true_and, Bool.and_false, Bool.false_and, Bool.not_true, Bool.not_false, Bool.or_true, Bool.true_or, Bool.or_false, Bool.false_or, decide_true, decide_false, and_true, true_and, qpSs_nil, List.length_map, List.length_cons, List.length_nil, Nat.zero_add, Nat.reduceAdd, cA2, shs_iN])
  rw [iN_iL]
  refine C_every (by omega) hl3 (iL_b h) ?_
  rw [← iN_iL]
  have step1 : ∀ o : Bool, aft o [1, 2] [some D.st, some (.lst false (iN bs)), some (.int t), none, none, none, none] = [some D.st, some (.lst false (iN bs)), some (.int t), none, none, none, none] := fun o => by
    cases o <;> (try simp_arith [Bool.and_true, Bool.true_and, Bool.and_false, Bool.false_and, Bool.not_true, Bool.not_false, Bool.or_true, Bool.true_or, Bool.or_false, Bool.false_or, decide_true, decide_false, and_true, true_and, qpSs_nil, List.length_map, List.length_cons, List.length_nil, Nat.zero_add, Nat.reduceAdd, shs_iN])
  (try simp_arith [Bool.and_true, Bool.true_and, Bool.and_false, Bool.false_and, Bool.not_true, Bool.not_false, Bool.or_true, Bool.true_or, Bool.or_false, Bool.false_or, decide_true, decide_false, and_true, true_and, qpSs_nil, List.length_map, List.length_cons, List.length_nil, Nat.zero_add, Nat.reduceAdd, step1])
  ((first | rw [qpSs_cons] | (dsimp only; rw [qpSs_cons])); simp_arith [Bool.and_true, Bool.true_and, Bool.and_false, Bool.false_and, Bool.not_true, Bool.not_false, Bool.or_true, Bool.true_or, Bool.or_false, Bool.false_or, decide_true, decide_false, and_true, true_and, qpSs_nil, List.length_map, List.length_cons, List.length_nil, Nat.zero_add, Nat.reduceAdd, cA3, shs_iN])
  refine C_deals_good (by omega) h t1 t2 ?_
  (try simp_arith [Bool.and_true, Bool.true_and, Bool.and_false, Bool.false_and, Bool.not_true, Bool.not_false, Bool.or_true, Bool.true_or, Bool.or_false, Bool.false_or, decide_true, decide_false, and_true, true_and, qpSs_nil, List.length_map, List.length_cons, List.length_nil, Nat.zero_add, Nat.reduceAdd, owns_rowT, told])
  ((first | rw [qpSs_cons] | (dsimp only; rw [qpSs_cons])); simp_arith [Bool.and_true, Bool.true_and, Bool.and_false, Bool.false_and, Bool.not_true, Bool.not_false, Bool.or_true, Bool.true_or, Bool.or_false, Bool.false_or, decide_true, decide_false, and_true, true_and, qpSs_nil, List.length_map, List.length_cons, List.length_nil, Nat.zero_add, Nat.reduceAdd, cA4, owns_rowT, told, shs_rowT, shs_rowF])
  refine ⟨by decide, ?_⟩
  refine C_same f_same (n := 3) (.tup (fun x hx => ?_) (by simp [SL])) (by omega) ?_
  · rcases List.mem_cons.mp hx with rfl | hx
    · exact .str _
    · rw [List.mem_singleton.mp hx]; exact pl_rows hl3
  (try simp_arith [Bool.and_true, Bool.true_and, Bool.and_false, Bool.false_and, Bool.not_true, Bool.not_false, Bool.or_true, Bool.true_or, Bool.or_false, Bool.false_or, decide_true, decide_false, and_true, true_and, qpSs_nil, List.length_map, List.length_cons, List.length_nil, Nat.zero_add, Nat.reduceAdd])
  ((first | rw [qpSs_cons] | (dsimp only; rw [qpSs_cons])); simp_arith [Bool.and_true, Bool.true_and, Bool.and_false, Bool.false_and, Bool.not_true, Bool.not_false, Bool.or_true, Bool.true_or, Bool.or_false, Bool.false_or, decide_true, decide_false, and_true, true_and, qpSs_nil, List.length_map, List.length_cons, List.length_nil, Nat.zero_add, Nat.reduceAdd, cA1, at2_1])
  have hlen : (everyL (iL bs) t).length ≤ 216 := by
    have h1 : (everyL (iL bs) t).length ≤ (prodL (iL bs).length).length := List.length_filter_le _ _
    rw [prodL_cnt] at h1
    have : (iL bs).length = 0 ∨ (iL bs).length = 1 ∨ (iL bs).length = 2 ∨ (iL bs).length = 3 := by omega
    rcases this with e | e | e | e <;> rw [e] at h1 <;> omega
  refine C_apart (by omega) hlen (fun r hr => by rw [prodL_len (List.mem_filter.mp hr).1]; exact hl3) ?_
  (try simp_arith [Bool.and_true, Bool.true_and, Bool.and_false, Bool.false_and, Bool.not_true, Bool.not_false, Bool.or_true, Bool.true_or, Bool.or_false, Bool.false_or, decide_true, decide_false, and_true, true_and, qpSs_nil, List.length_map, List.length_cons, List.length_nil, Nat.zero_add, Nat.reduceAdd])
  ((first | rw [qpSs_cons] | (dsimp only; rw [qpSs_cons])); simp_arith [Bool.and_true, Bool.true_and, Bool.and_false, Bool.false_and, Bool.not_true, Bool.not_false, Bool.or_true, Bool.true_or, Bool.or_false, Bool.false_or, decide_true, decide_false, and_true, true_and, qpSs_nil, List.length_map, List.length_cons, List.length_nil, Nat.zero_add, Nat.reduceAdd, cA5, shs_iN])
  refine C_delays (by omega) h fun ps hps hgood => ?_
  (try simp_arith [Bool.and_true, Bool.true_and, Bool.and_false, Bool.false_and, Bool.not_true, Bool.not_false, Bool.or_true, Bool.true_or, Bool.or_false, Bool.false_or, decide_true, decide_false, and_true, true_and, qpSs_nil, List.length_map, List.length_cons, List.length_nil, Nat.zero_add, Nat.reduceAdd, owns_iN])
  refine ⟨by decide, ?_⟩
  have tail : ∀ (xs : List D) (f : Bool) (o4 : Option D), (∀ x ∈ xs, Good bs x.sh) → (h0 : xs.length ≤ 5) → pSs tx.pg (FC (stW s c) k) consA (.cons (.fors (.nm 6) (.seq (.var 5))
      (.cons (.ifs (.not (.call "_law_same" (.cons (.call "_law_share_told" (.cons (.var 1) (.cons (.var 6) .nil))) (.cons (.tup (.cons (.cst (.str "told")) (.cons (.call "_law_least" (.cons (.var 1) (.cons (.var 6) .nil))) .nil))) .nil))))
      (.cons (.ret (.cst (.bl false))) .nil) .nil) .nil))
      (.cons (.ret (.call "_law_same" (.cons (.call "_law_deals_told" (.cons (.var 1) (.cons (.var 2) .nil))) (.cons (.tup (.cons (.cst (.str "told")) (.cons (.var 3) .nil))) .nil)))) .nil))
      [some .st, some (.lst false (iN bs)), some (.int t), some (.lst f ((everyL (iL bs) t).map rowF)), o4, some (.lst true xs), none] (bodyK Q E) := by
    intro xs f o4 hx h0
    ((first | rw [qpSs_cons] | (dsimp only; rw [qpSs_cons])); simp_arith [Bool.and_true, Bool.true_and, Bool.and_false, Bool.false_and, Bool.not_true, Bool.not_false, Bool.or_true, Bool.true_or, Bool.or_false, Bool.false_or, decide_true, decide_false, and_true, true_and, qpSs_nil, List.length_map, List.length_cons, List.length_nil, Nat.zero_add, Nat.reduceAdd, shs_shs])
    rw [shs_map xs, List.map_map, ← shs_map xs]
    refine for_ind (Inv := fun rest r => ∃ (o6 : Option D), r = [some .st, some (.lst false (iN bs)), some (.int t), some (.lst f ((everyL (iL bs) t).map rowF)), o4, some (.lst false (shs xs)), o6] ∧ ∀ x ∈ rest, Good bs x.sh) (fun x rest ρ hh => ?_) (fun ρ hh => ?_) xs _ ⟨none, rfl, hx⟩
    · obtain ⟨o6, rfl, hg⟩ := hh
      obtain ⟨qs, hqs, he, hqg⟩ := hg x (List.mem_cons_self ..)
      refine ⟨_, rfl, fun K' hK => ?_⟩
      have hqb : BsOk (qs.map (·.1)) := hqs ▸ h
      have hq0 : qs ≠ [] := fun z => by subst z; exact absurd hqb.1 (by decide)
      have hq3 : qs.length ≤ 3 := by have := hqb.2.1; simpa using this
      subst hqs
      ((first | rw [qpSs_cons] | (dsimp only; rw [qpSs_cons])); simp_arith [Bool.and_true, Bool.true_and, Bool.and_false, Bool.false_and, Bool.not_true, Bool.not_false, Bool.or_true, Bool.true_or, Bool.or_false, Bool.false_or, decide_true, decide_false, and_true, true_and, qpSs_nil, List.length_map, List.length_cons, List.length_nil, Nat.zero_add, Nat.reduceAdd, cA4, Function.comp, he, shs_iN])
      refine C_share_good (by omega) hqb hqg fun s1 hs1 => ?_
      (try simp_arith [Bool.and_true, Bool.true_and, Bool.and_false, Bool.false_and, Bool.not_true, Bool.not_false, Bool.or_true, Bool.true_or, Bool.or_false, Bool.false_or, decide_true, decide_false, and_true, true_and, qpSs_nil, List.length_map, List.length_cons, List.length_nil, Nat.zero_add, Nat.reduceAdd, told, shs_iN])
      refine C_least (by omega) hq0 hq3 (fun p hp => (hqg p hp).1) fun s2 hs2 => ?_
      have e12 := Least.uniq (fun p hp => (hqg p hp).1) hs1 hs2
      subst e12
      (try simp_arith [Bool.and_true, Bool.true_and, Bool.and_false, Bool.false_and, Bool.not_true, Bool.not_false, Bool.or_true, Bool.true_or, Bool.or_false, Bool.false_or, decide_true, decide_false, and_true, true_and, qpSs_nil, List.length_map, List.length_cons, List.length_nil, Nat.zero_add, Nat.reduceAdd, tupN])
      refine ⟨by simp [SL], ?_⟩
      refine C_same f_same (n := 2) ?_ (by omega) ?_
      · refine .tup (fun x hx => ?_) (by simp [SL])
        rcases List.mem_cons.mp hx with rfl | hx
        · exact .str _
        · rw [List.mem_singleton.mp hx]
          refine .tup (fun x hx => ?_) (by simp [SL])
          rcases List.mem_cons.mp hx with rfl | hx
          · exact .int _
          · rw [List.mem_singleton.mp hx]; exact .int _
      (try simp_arith [Bool.and_true, Bool.true_and, Bool.and_false, Bool.false_and, Bool.not_true, Bool.not_false, Bool.or_true, Bool.true_or, Bool.or_false, Bool.false_or, decide_true, decide_false, and_true, true_and, qpSs_nil, List.length_map, List.length_cons, List.length_nil, Nat.zero_add, Nat.reduceAdd])
      exact hK _ ⟨_, rfl, fun y hy => hg y (List.mem_cons_of_mem _ hy)⟩
    · obtain ⟨o6, rfl, hg⟩ := hh
      ((first | rw [qpSs_cons] | (dsimp only; rw [qpSs_cons])); simp_arith [Bool.and_true, Bool.true_and, Bool.and_false, Bool.false_and, Bool.not_true, Bool.not_false, Bool.or_true, Bool.true_or, Bool.or_false, Bool.false_or, decide_true, decide_false, and_true, true_and, qpSs_nil, List.length_map, List.length_cons, List.length_nil, Nat.zero_add, Nat.reduceAdd, cA4, shs_iN])
      refine C_deals_good (by omega) h t1 t2 ?_
      (try simp_arith [Bool.and_true, Bool.true_and, Bool.and_false, Bool.false_and, Bool.not_true, Bool.not_false, Bool.or_true, Bool.true_or, Bool.or_false, Bool.false_or, decide_true, decide_false, and_true, true_and, qpSs_nil, List.length_map, List.length_cons, List.length_nil, Nat.zero_add, Nat.reduceAdd, told, shs_rowT, shs_rowF])
      refine ⟨by simp [SL], ?_⟩
      refine C_same f_same (n := 3) (.tup (fun x hx => ?_) (by simp [SL])) (by omega) q
      rcases List.mem_cons.mp hx with rfl | hx
      · exact .str _
      · rw [List.mem_singleton.mp hx]; exact pl_rows hl3
  have good0 : Good bs (D.lst false (iN (ps.map (·.2)))) := ⟨ps, hps, rfl, hgood⟩
  ((first | rw [qpSs_cons] | (dsimp only; rw [qpSs_cons])); simp_arith [Bool.and_true, Bool.true_and, Bool.and_false, Bool.false_and, Bool.not_true, Bool.not_false, Bool.or_true, Bool.true_or, Bool.or_false, Bool.false_or, decide_true, decide_false, and_true, true_and, qpSs_nil, List.length_map, List.length_cons, List.length_nil, Nat.zero_add, Nat.reduceAdd, shs_rowF])
  refine ⟨fun hc => ?_, fun hc => ?_⟩
  · have hpos : 0 < (everyL (iL bs) t).length := by omega
    have hall : ∀ x ∈ (everyL (iL bs) t).map rowF, Good bs x := fun x hx => by
      obtain ⟨r, hr, rfl⟩ := List.mem_map.mp hx
      exact every_good h hr
    have a0 : ∃ x, L2.atI ((everyL (iL bs) t).map rowF) 0 = some x ∧ x ∈ (everyL (iL bs) t).map rowF := atI_lt (Int.le_refl _) (by rw [List.length_map]; omega)
    have a1 : ∃ x, L2.atI ((everyL (iL bs) t).map rowF) (-1) = some x ∧ x ∈ (everyL (iL bs) t).map rowF := by
      have hl : ((everyL (iL bs) t).map rowF).length = (everyL (iL bs) t).length := List.length_map ..
      have hi : ((everyL (iL bs) t).map rowF).length - 1 < ((everyL (iL bs) t).map rowF).length := by omega
      refine ⟨((everyL (iL bs) t).map rowF)[((everyL (iL bs) t).map rowF).length - 1], ?_, List.getElem_mem hi⟩
      unfold L2.atI L2.ixN
      rw [if_neg (by decide), if_pos (by omega)]
      have e : (-1 + (((everyL (iL bs) t).map rowF).length : Int)).toNat = ((everyL (iL bs) t).map rowF).length - 1 := by omega
      rw [e]
      show ((everyL (iL bs) t).map rowF)[((everyL (iL bs) t).map rowF).length - 1]? = _
      rw [List.getElem?_eq_getElem hi]
    obtain ⟨x0, e0, m0⟩ := a0
    obtain ⟨x1, e1, m1⟩ := a1
    have neg1 : (-(1 : Int)) = -1 := rfl
    ((first | rw [qpSs_cons] | (dsimp only; rw [qpSs_cons])); simp_arith [Bool.and_true, Bool.true_and, Bool.and_false, Bool.false_and, Bool.not_true, Bool.not_false, Bool.or_true, Bool.true_or, Bool.or_false, Bool.false_or, decide_true, decide_false, and_true, true_and, qpSs_nil, List.length_map, List.length_cons, List.length_nil, Nat.zero_add, Nat.reduceAdd, shs_rowF, e0, e1, shs_iN])
    refine C_pick f_pick f_take f_mixed (by omega) (by rw [List.length_map]; omega) (by intro z; rw [List.map_eq_nil_iff] at z; rw [z] at hpos; exact absurd hpos (by decide)) (shs_rowF _) fun x2 m2 => ?_
    (try simp_arith [Bool.and_true, Bool.true_and, Bool.and_false, Bool.false_and, Bool.not_true, Bool.not_false, Bool.or_true, Bool.true_or, Bool.or_false, Bool.false_or, decide_true, decide_false, and_true, true_and, qpSs_nil, List.length_map, List.length_cons, List.length_nil, Nat.zero_add, Nat.reduceAdd, shs_rowF])
    refine C_pick f_pick f_take f_mixed (by omega) (by rw [List.length_map]; omega) (by intro z; rw [List.map_eq_nil_iff] at z; rw [z] at hpos; exact absurd hpos (by decide)) (shs_rowF _) fun x3 m3 => ?_
    (try simp_arith [Bool.and_true, Bool.true_and, Bool.and_false, Bool.false_and, Bool.not_true, Bool.not_false, Bool.or_true, Bool.true_or, Bool.or_false, Bool.false_or, decide_true, decide_false, and_true, true_and, qpSs_nil, List.length_map, List.length_cons, List.length_nil, Nat.zero_add, Nat.reduceAdd])
    refine ⟨by simp [SL], by simp [SL], ?_⟩
    have hsh : ∀ x ∈ (everyL (iL bs) t).map rowF, Good bs x.sh := fun x hx => by
      obtain ⟨r, hr, rfl⟩ := List.mem_map.mp hx
      show Good bs (.lst false (shs (r.map D.int)))
      rw [shs_ints]
      exact every_good h hr
    refine tail _ _ _ (fun x hx => ?_) (by simp)
    rcases List.mem_cons.mp hx with rfl | hx
    · show Good bs (.lst false (shs (iN _))); rw [shs_iN]; exact good0
    · simp only [List.mem_cons, List.not_mem_nil, or_false] at hx
      rcases hx with rfl | rfl | rfl | rfl
      · exact hsh _ m0
      · exact hsh _ m1
      · exact hsh _ m2
      · exact hsh _ m3
  · exact tail _ _ _ (fun x hx => by rw [List.mem_singleton.mp hx]; show Good bs (.lst false (shs (iN _))); rw [shs_iN]; exact good0) (by simp)
end
end K80
set_option maxHeartbeats 4000000
namespace K80
open PySem Py Py.LL
def BadB (d : D) (nm : Str) : Prop := (nm = "BadShape" ∧ ¬ Lk d) ∨ (nm = "BadNumber" ∧ Lk d ∧ ∃ xs, d = .lst false xs ∧ ∃ x ∈ xs, NotIn 0 6 x)
def BadD (bs : List Nat) (dd : D) (nm : Str) : Prop := (nm = "BadShape" ∧ ¬ ∃ xs, dd = .lst false xs ∧ xs.length = bs.length) ∨ (nm = "BadNumber" ∧ ∃ xs, dd = .lst false xs ∧ xs.length = bs.length ∧ ∃ p ∈ xs.zip bs, NotIn (lowD p.2) 6 p.1)
theorem bad_not_good {d : D} {nm : Str} (h : BadB d nm) : ¬ GoodB d := by
  rintro ⟨bs, rfl, hb⟩
  rcases h with ⟨_, h⟩ | ⟨_, _, xs, e, h⟩
  · exact h (lk_iN hb)
  · exact no_bad hb e h
section
variable {k s c : Nat} {Q : DQ} {E : DX → Prop}
theorem C_deals_bad {d dt : D} {nm : Str} {n m : Nat} (hk : 5 + n ≤ k) (hp : Pl n d) (hpt : Pl m dt) (h : BadB d nm) (q : Q (err nm "bursts")) : FC (stW s c) k "_law_deals_told" [d, dt] Q E := by
  refine C_deals_told hp hpt hk (fun z => ?_) (fun z xs e1 e2 => ?_) (fun g _ => absurd g (bad_not_good h)) fun bs t e1 _ l1 l2 hb _ _ => ?_
  · rcases h with ⟨rfl, _⟩ | ⟨_, y, _⟩
    · exact q
    · exact absurd y z
  · rcases h with ⟨_, y⟩ | ⟨rfl, _⟩
    · exact absurd z y
    · exact q
  · refine absurd ?_ (bad_not_good h)
    rw [e1]
    exact goodB_of (by simpa using l1) (by simpa using l2) fun x hx => by
      obtain ⟨i, hi, rfl⟩ := List.mem_map.mp hx
      exact ⟨i, rfl, hb i hi⟩
theorem C_share_bad {d dd : D} {nm : Str} {n m : Nat} (hk : 6 + n + m ≤ k) (hp : Pl n d) (hpd : Pl m dd) (h : BadB d nm) (q : Q (err nm "bursts")) : FC (stW s c) k "_law_share_told" [d, dd] Q E := by
  refine C_share_told hp hpd hk (fun z => ?_) (fun z xs e1 e2 => ?_) (fun bs e g _ => absurd ⟨bs, e, g⟩ (bad_not_good h)) (fun bs xs e g _ _ _ => absurd ⟨bs, e, g⟩ (bad_not_good h)) fun ps t e1 e2 hB hok hl => ?_
  · rcases h with ⟨rfl, _⟩ | ⟨_, y, _⟩
    · exact q
    · exact absurd y z
  · rcases h with ⟨_, y⟩ | ⟨rfl, _⟩
    · exact absurd z y
    · exact q
  · exact absurd ⟨_, e1, hB⟩ (bad_not_good h)
theorem C_share_bad2 {bs : List Nat} {dd : D} {nm : Str} {m : Nat} (hk : 7 + m ≤ k) (hb : BsOk bs) (hpd : Pl m dd) (h : BadD bs dd nm) (q : Q (err nm "delays")) : FC (stW s c) k "_law_share_told" [.lst false (iN bs), dd] Q E := by
  have hl : bs.length ≤ SL := Nat.le_trans hb.2.1 (by decide)
  refine C_share_told (pl_iN (n := 0) hl) hpd (by omega) (fun z => absurd (lk_iN hb) z) (fun _ xs e z => absurd z (no_bad hb e)) (fun bs' e _ z => ?_) (fun bs' xs e _ e2 l z => ?_) fun ps t e1 e2 hB hok hl => ?_
  · have := iN_inj (D.lst.inj e |>.2)
    subst this
    rcases h with ⟨rfl, _⟩ | ⟨_, xs, y1, y2, _⟩
    · exact q
    · exact absurd ⟨xs, y1, y2⟩ z
  · have := iN_inj (D.lst.inj e |>.2)
    subst this
    rcases h with ⟨_, y⟩ | ⟨rfl, _⟩
    · exact absurd ⟨xs, e2, l⟩ y
    · exact q
  · have := iN_inj (D.lst.inj e1 |>.2)
    subst this
    subst e2
    rcases h with ⟨_, y⟩ | ⟨_, xs, y1, _, y3⟩
    · exact absurd ⟨_, rfl, by rw [iN_len, List.length_map, List.length_map]⟩ y
    · cases y1
      exact absurd y3 (no_badD hok)
def rest3 : MSs := (.cons (.asg 4 (.call "_law_not_number" (.cons (.var 0) (.cons (.cst (.int 1)) (.cons (.cst (.int 18)) .nil))))) (.cons (.ifs (.not (.call "_law_same" (.cons (.call "_law_deals_told" (.cons (.var 5) (.cons (.idx (.lst (.cons (.var 2) (.cons (.var 4) .nil))) (.call "_law_take" (.cons (.var 0) (.cons (.cst (.int 2)) .nil)))) .nil))) (.cons (.tup (.cons (.var 6) (.cons (.cst (.str "bursts")) .nil))) .nil))))
  (.cons (.ret (.cst (.bl false)))
  .nil)
  .nil) (.cons (.ifs (.not (.call "_law_same" (.cons (.call "_law_deals_told" (.cons (.var 1) (.cons (.var 4) .nil))) (.cons (.tup (.cons (.cst (.str "BadNumber")) (.cons (.cst (.str "total")) .nil))) .nil))))
  (.cons (.ret (.cst (.bl false)))
  .nil)
  .nil) (.cons (.ifs (.not (.call "_law_same" (.cons (.call "_law_share_told" (.cons (.var 5) (.cons (.idx (.lst (.cons (.var 3) (.cons (.var 7) .nil))) (.call "_law_take" (.cons (.var 0) (.cons (.cst (.int 2)) .nil)))) .nil))) (.cons (.tup (.cons (.var 6) (.cons (.cst (.str "bursts")) .nil))) .nil))))
  (.cons (.ret (.cst (.bl false)))
  .nil)
  .nil) (.cons (.ret (.call "_law_same" (.cons (.call "_law_share_told" (.cons (.var 1) (.cons (.var 7) .nil))) (.cons (.tup (.cons (.var 8) (.cons (.cst (.str "delays")) .nil))) .nil)))) .nil)))))
def rest2 : MSs := .cons (.asgT [7, 8] (.call "_law_not_delays" (.cons (.var 0) (.cons (.var 1) (.cons (.var 3) .nil))))) rest3
theorem fn_refused : fn__law_refused = ⟨3, 9, .cons (.asg 3 (.call "_law_delays" (.cons (.var 0) (.cons (.var 1) .nil)))) (.cons (.asgT [5, 6] (.call "_law_not_bursts" (.cons (.var 0) (.cons (.var 1) .nil)))) rest2)⟩ := rfl
theorem C_refused {bs : List Nat} {t : Int} (hk : 20 ≤ k) (h : BsOk bs) (t1 : 1 ≤ t) (t2 : t ≤ 18) (q : Q (.bl true)) : FC (stW s c) k "_law_refused" [.st, .lst false (iN bs), .int t] Q E := by
  obtain ⟨k, rfl⟩ : ∃ k', k = k' + 1 := ⟨k - 1, by omega⟩
  refine call_of (cons := fun _ => false) FCall.sound (d := fn__law_refused) rfl rfl ?_
  simp only [fn_refused, Nat.sub_self, Nat.reduceSub, q_map_n, q_map_c, q_rep_z, List.replicate, q_app_n, q_app_c]
  ((first | rw [qpSs_cons] | (dsimp only; rw [qpSs_cons])); simp_arith [Bool.and_true, Bool.true_and, Bool.and_false, Bool.false_and, Bool.not_true, Bool.not_false, Bool.or_true, Bool.true_or, Bool.or_false, Bool.false_or, decide_true, decide_false, and_true, true_and, qpSs_nil, List.length_map, List.length_cons, List.length_nil, Nat.zero_add, Nat.reduceAdd, shs_iN])
  refine C_delays (by omega) h fun ps hps hg => ?_
  subst hps
  (try simp_arith [Bool.and_true, Bool.true_and, Bool.and_false, Bool.false_and, Bool.not_true, Bool.not_false, Bool.or_true, Bool.true_or, Bool.or_false, Bool.false_or, decide_true, decide_false, and_true, true_and, qpSs_nil, List.length_map, List.length_cons, List.length_nil, Nat.zero_add, Nat.reduceAdd, owns_iN])
  have fin : ∀ (f : Bool) (nm nm2 : Str) (bad worse : D), Pl 2 bad.sh → BadB bad.sh nm → Pl 2 worse.sh → BadD (ps.map (·.1)) worse.sh nm2 → pSs tx.pg (FC (stW s c) k) (fun _ => false) rest3 [some .st, some (.lst false (iN (ps.map (·.1)))), some (.int t), some (.lst f (iN (ps.map (·.2)))), none, some bad, some (.str nm), some worse, some (.str nm2)] (bodyK Q E) := by
    intro f nm nm2 bad worse hp1 hb1 hp2 hb2
    unfold rest3
    ((first | rw [qpSs_cons] | (dsimp only; rw [qpSs_cons])); simp_arith [Bool.and_true, Bool.true_and, Bool.and_false, Bool.false_and, Bool.not_true, Bool.not_false, Bool.or_true, Bool.true_or, Bool.or_false, Bool.false_or, decide_true, decide_false, and_true, true_and, qpSs_nil, List.length_map, List.length_cons, List.length_nil, Nat.zero_add, Nat.reduceAdd])
    refine C_not_number f_nn f_take f_mixed (by omega) (by decide) (by decide) fun many m1 m2 => ?_
    have h3 : ∀ a b : Str, Pl 1 (err a b) := fun a b => .tup (fun x hx => by
      rcases List.mem_cons.mp hx with rfl | hx
      · exact .str _
      · rw [List.mem_singleton.mp hx]; exact .str _) (by simp [SL])
    have e0 : ∀ o : Bool, ∀ r : DE, r = [some .st, some (.lst false (iN (ps.map (·.1)))), some (.int t), some (.lst f (iN (ps.map (·.2)))), none, some bad, some (.str nm), some worse, some (.str nm2)] → aft o [0] r = r := fun o r e => by
      subst e
      cases o <;> (try simp_arith [Bool.and_true, Bool.true_and, Bool.and_false, Bool.false_and, Bool.not_true, Bool.not_false, Bool.or_true, Bool.true_or, Bool.or_false, Bool.false_or, decide_true, decide_false, and_true, true_and, qpSs_nil, List.length_map, List.length_cons, List.length_nil, Nat.zero_add, Nat.reduceAdd])
    rw [e0 _ _ rfl]
    (try simp_arith [Bool.and_true, Bool.true_and, Bool.and_false, Bool.false_and, Bool.not_true, Bool.not_false, Bool.or_true, Bool.true_or, Bool.or_false, Bool.false_or, decide_true, decide_false, and_true, true_and, qpSs_nil, List.length_map, List.length_cons, List.length_nil, Nat.zero_add, Nat.reduceAdd])
    ((first | rw [qpSs_cons] | (dsimp only; rw [qpSs_cons])); simp_arith [Bool.and_true, Bool.true_and, Bool.and_false, Bool.false_and, Bool.not_true, Bool.not_false, Bool.or_true, Bool.true_or, Bool.or_false, Bool.false_or, decide_true, decide_false, and_true, true_and, qpSs_nil, List.length_map, List.length_cons, List.length_nil, Nat.zero_add, Nat.reduceAdd, sh_sh])
    refine ⟨by simp [SL], ?_⟩
    refine C_take f_take f_mixed (by omega) (by decide) fun v v1 v2 => ?_
    (try simp_arith [Bool.and_true, Bool.true_and, Bool.and_false, Bool.false_and, Bool.not_true, Bool.not_false, Bool.or_true, Bool.true_or, Bool.or_false, Bool.false_or, decide_true, decide_false, and_true, true_and, qpSs_nil, List.length_map, List.length_cons, List.length_nil, Nat.zero_add, Nat.reduceAdd, m1.sh, sh_sh])
    have ex : ∃ y, L2.atI [D.int t, many] v = some y ∧ Pl 1 y := by
      obtain rfl | rfl : v = 0 ∨ v = 1 := by omega
      · exact ⟨_, at2_0, .int t⟩
      · exact ⟨_, at2_1, m1⟩
    obtain ⟨y, ey, py⟩ := ex
    rw [ey]
    (try simp_arith [Bool.and_true, Bool.true_and, Bool.and_false, Bool.false_and, Bool.not_true, Bool.not_false, Bool.or_true, Bool.true_or, Bool.or_false, Bool.false_or, decide_true, decide_false, and_true, true_and, qpSs_nil, List.length_map, List.length_cons, List.length_nil, Nat.zero_add, Nat.reduceAdd, py.sh, sh_sh])
    refine C_deals_bad (n := 2) (m := 1) (by omega) hp1 py hb1 ?_
    (try simp_arith [Bool.and_true, Bool.true_and, Bool.and_false, Bool.false_and, Bool.not_true, Bool.not_false, Bool.or_true, Bool.true_or, Bool.or_false, Bool.false_or, decide_true, decide_false, and_true, true_and, qpSs_nil, List.length_map, List.length_cons, List.length_nil, Nat.zero_add, Nat.reduceAdd, err])
    refine ⟨by simp [SL], ?_⟩
    refine C_same f_same (h3 nm "bursts") (by omega) ?_
    (try simp_arith [Bool.and_true, Bool.true_and, Bool.and_false, Bool.false_and, Bool.not_true, Bool.not_false, Bool.or_true, Bool.true_or, Bool.or_false, Bool.false_or, decide_true, decide_false, and_true, true_and, qpSs_nil, List.length_map, List.length_cons, List.length_nil, Nat.zero_add, Nat.reduceAdd])
    ((first | rw [qpSs_cons] | (dsimp only; rw [qpSs_cons])); simp_arith [Bool.and_true, Bool.true_and, Bool.and_false, Bool.false_and, Bool.not_true, Bool.not_false, Bool.or_true, Bool.true_or, Bool.or_false, Bool.false_or, decide_true, decide_false, and_true, true_and, qpSs_nil, List.length_map, List.length_cons, List.length_nil, Nat.zero_add, Nat.reduceAdd, sh_sh, m1.sh, shs_iN])
    have hl : (ps.map (·.1)).length ≤ SL := Nat.le_trans h.2.1 (by decide)
    refine C_deals_told (pl_iN (n := 0) hl) m1 (by omega) (fun z => absurd (lk_iN h) z) (fun _ xs e z => absurd z (no_bad h e)) (fun _ _ => ?_) (fun bs' t' e1 e2 _ _ _ g1 g2 => absurd m2 (by rw [e2]; show ¬ (_ ∨ _); omega))
    (try simp_arith [Bool.and_true, Bool.true_and, Bool.and_false, Bool.false_and, Bool.not_true, Bool.not_false, Bool.or_true, Bool.true_or, Bool.or_false, Bool.false_or, decide_true, decide_false, and_true, true_and, qpSs_nil, List.length_map, List.length_cons, List.length_nil, Nat.zero_add, Nat.reduceAdd, err])
    refine ⟨by simp [SL], ?_⟩
    refine C_same f_same (h3 "BadNumber" "total") (by omega) ?_
    (try simp_arith [Bool.and_true, Bool.true_and, Bool.and_false, Bool.false_and, Bool.not_true, Bool.not_false, Bool.or_true, Bool.true_or, Bool.or_false, Bool.false_or, decide_true, decide_false, and_true, true_and, qpSs_nil, List.length_map, List.length_cons, List.length_nil, Nat.zero_add, Nat.reduceAdd])
    ((first | rw [qpSs_cons] | (dsimp only; rw [qpSs_cons])); simp_arith [Bool.and_true, Bool.true_and, Bool.and_false, Bool.false_and, Bool.not_true, Bool.not_false, Bool.or_true, Bool.true_or, Bool.or_false, Bool.false_or, decide_true, decide_false, and_true, true_and, qpSs_nil, List.length_map, List.length_cons, List.length_nil, Nat.zero_add, Nat.reduceAdd, sh_sh, m1.sh, shs_iN])
    refine ⟨by simp [SL], ?_⟩
    refine C_take f_take f_mixed (by omega) (by decide) fun w w1 w2 => ?_
    (try simp_arith [Bool.and_true, Bool.true_and, Bool.and_false, Bool.false_and, Bool.not_true, Bool.not_false, Bool.or_true, Bool.true_or, Bool.or_false, Bool.false_or, decide_true, decide_false, and_true, true_and, qpSs_nil, List.length_map, List.length_cons, List.length_nil, Nat.zero_add, Nat.reduceAdd, m1.sh, sh_sh, shs_iN])
    have ex2 : ∃ y, L2.atI [D.lst false (iN (ps.map (·.2))), worse.sh] w = some y ∧ Pl 2 y := by
      obtain rfl | rfl : w = 0 ∨ w = 1 := by omega
      · exact ⟨_, at2_0, pl_iN (n := 1) (by simpa using hl)⟩
      · exact ⟨_, at2_1, hp2⟩
    obtain ⟨y2, ey2, py2⟩ := ex2
    rw [ey2]
    (try simp_arith [Bool.and_true, Bool.true_and, Bool.and_false, Bool.false_and, Bool.not_true, Bool.not_false, Bool.or_true, Bool.true_or, Bool.or_false, Bool.false_or, decide_true, decide_false, and_true, true_and, qpSs_nil, List.length_map, List.length_cons, List.length_nil, Nat.zero_add, Nat.reduceAdd, py2.sh, sh_sh])
    refine C_share_bad (n := 2) (m := 2) (by omega) hp1 py2 hb1 ?_
    (try simp_arith [Bool.and_true, Bool.true_and, Bool.and_false, Bool.false_and, Bool.not_true, Bool.not_false, Bool.or_true, Bool.true_or, Bool.or_false, Bool.false_or, decide_true, decide_false, and_true, true_and, qpSs_nil, List.length_map, List.length_cons, List.length_nil, Nat.zero_add, Nat.reduceAdd, err])
    refine ⟨by simp [SL], ?_⟩
    refine C_same f_same (h3 nm "bursts") (by omega) ?_
    (try simp_arith [Bool.and_true, Bool.true_and, Bool.and_false, Bool.false_and, Bool.not_true, Bool.not_false, Bool.or_true, Bool.true_or, Bool.or_false, Bool.false_or, decide_true, decide_false, and_true, true_and, qpSs_nil, List.length_map, List.length_cons, List.length_nil, Nat.zero_add, Nat.reduceAdd])
    ((first | rw [qpSs_cons] | (dsimp only; rw [qpSs_cons])); simp_arith [Bool.and_true, Bool.true_and, Bool.and_false, Bool.false_and, Bool.not_true, Bool.not_false, Bool.or_true, Bool.true_or, Bool.or_false, Bool.false_or, decide_true, decide_false, and_true, true_and, qpSs_nil, List.length_map, List.length_cons, List.length_nil, Nat.zero_add, Nat.reduceAdd, sh_sh, m1.sh, shs_iN])
    refine C_share_bad2 (m := 2) (by omega) h hp2 hb2 ?_
    (try simp_arith [Bool.and_true, Bool.true_and, Bool.and_false, Bool.false_and, Bool.not_true, Bool.not_false, Bool.or_true, Bool.true_or, Bool.or_false, Bool.false_or, decide_true, decide_false, and_true, true_and, qpSs_nil, List.length_map, List.length_cons, List.length_nil, Nat.zero_add, Nat.reduceAdd, err])
    refine ⟨by simp [SL], ?_⟩
    exact C_same f_same (h3 nm2 "delays") (by omega) q
  have env1 : ∀ (o : Bool), aft o [0, 1] [some D.st, some (.lst false (iN (ps.map (·.1)))), some (.int t), some (.lst true (iN (ps.map (·.2)))), none, none, none, none, none] = [some D.st, some (.lst false (iN (ps.map (·.1)))), some (.int t), some (.lst true (iN (ps.map (·.2)))), none, none, none, none, none] := fun o => by
    cases o <;> (try simp_arith [Bool.and_true, Bool.true_and, Bool.and_false, Bool.false_and, Bool.not_true, Bool.not_false, Bool.or_true, Bool.true_or, Bool.or_false, Bool.false_or, decide_true, decide_false, and_true, true_and, qpSs_nil, List.length_map, List.length_cons, List.length_nil, Nat.zero_add, Nat.reduceAdd, shs_iN])
  have env2 : ∀ (o : Bool) (nm : Str) (bad : D), aft o [0, 1, 3] [some D.st, some (.lst false (iN (ps.map (·.1)))), some (.int t), some (.lst true (iN (ps.map (·.2)))), none, some bad, some (.str nm), none, none] = cond o [some D.st, some (.lst false (iN (ps.map (·.1)))), some (.int t), some (.lst true (iN (ps.map (·.2)))), none, some bad, some (.str nm), none, none] [some D.st, some (.lst false (iN (ps.map (·.1)))), some (.int t), some (.lst false (iN (ps.map (·.2)))), none, some bad, some (.str nm), none, none] := fun o nm bad => by
    cases o <;> (try simp_arith [Bool.and_true, Bool.true_and, Bool.and_false, Bool.false_and, Bool.not_true, Bool.not_false, Bool.or_true, Bool.true_or, Bool.or_false, Bool.false_or, decide_true, decide_false, and_true, true_and, qpSs_nil, List.length_map, List.length_cons, List.length_nil, Nat.zero_add, Nat.reduceAdd, shs_iN])
  have go2 : ∀ (nm : Str) (bad : D), Pl 2 bad.sh → BadB bad.sh nm → pSs tx.pg (FC (stW s c) k) (fun _ => false) rest2 [some D.st, some (.lst false (iN (ps.map (·.1)))), some (.int t), some (.lst true (iN (ps.map (·.2)))), none, some bad, some (.str nm), none, none] (bodyK Q E) := by
    intro nm bad hp1 hb1
    unfold rest2
    ((first | rw [qpSs_cons] | (dsimp only; rw [qpSs_cons])); simp_arith [Bool.and_true, Bool.true_and, Bool.and_false, Bool.false_and, Bool.not_true, Bool.not_false, Bool.or_true, Bool.true_or, Bool.or_false, Bool.false_or, decide_true, decide_false, and_true, true_and, qpSs_nil, List.length_map, List.length_cons, List.length_nil, Nat.zero_add, Nat.reduceAdd, shs_iN])
    refine C_not_delays (by omega) h hg (fun d d1 d2 => ?_) (fun xs x1 x2 x3 => ?_)
    · have d2' : ¬ ∃ xs, d.sh = .lst false xs ∧ xs.length = (ps.map (·.1)).length := by rw [List.length_map]; exact d2
      cases ho : d.own <;>
      · (try simp_arith [Bool.and_true, Bool.true_and, Bool.and_false, Bool.false_and, Bool.not_true, Bool.not_false, Bool.or_true, Bool.true_or, Bool.or_false, Bool.false_or, decide_true, decide_false, and_true, true_and, qpSs_nil, List.length_map, List.length_cons, List.length_nil, Nat.zero_add, Nat.reduceAdd, env2, ho])
        exact fin _ nm _ bad d hp1 hb1 d1 (.inl ⟨rfl, d2'⟩)
    · have hsx : shs xs = xs := shs_id fun x z => (x1 x z).sh
      have hb : BadD (ps.map (·.1)) (D.lst true xs).sh "BadNumber" := .inr ⟨rfl, xs, by show D.lst false (shs xs) = _; rw [hsx], by rw [x2, List.length_map], x3⟩
      have hpl : Pl 2 (D.lst true xs).sh := by
        show Pl 2 (.lst false (shs xs))
        rw [hsx]
        exact .lst x1 (by have := h.2.1; rw [List.length_map] at this; simp only [SL]; omega)
      cases ho : owns xs <;>
      · (try simp_arith [Bool.and_true, Bool.true_and, Bool.and_false, Bool.false_and, Bool.not_true, Bool.not_false, Bool.or_true, Bool.true_or, Bool.or_false, Bool.false_or, decide_true, decide_false, and_true, true_and, qpSs_nil, List.length_map, List.length_cons, List.length_nil, Nat.zero_add, Nat.reduceAdd, env2, ho])
        exact fin _ nm _ bad _ hp1 hb1 hpl hb
  ((first | rw [qpSs_cons] | (dsimp only; rw [qpSs_cons])); simp_arith [Bool.and_true, Bool.true_and, Bool.and_false, Bool.false_and, Bool.not_true, Bool.not_false, Bool.or_true, Bool.true_or, Bool.or_false, Bool.false_or, decide_true, decide_false, and_true, true_and, qpSs_nil, List.length_map, List.length_cons, List.length_nil, Nat.zero_add, Nat.reduceAdd, shs_iN])
  refine C_not_bursts (by omega) h (fun d d1 d2 => ?_) (fun xs x1 x2 x3 x4 => ?_)
  · (try simp_arith [Bool.and_true, Bool.true_and, Bool.and_false, Bool.false_and, Bool.not_true, Bool.not_false, Bool.or_true, Bool.true_or, Bool.or_false, Bool.false_or, decide_true, decide_false, and_true, true_and, qpSs_nil, List.length_map, List.length_cons, List.length_nil, Nat.zero_add, Nat.reduceAdd, env1])
    exact go2 _ d d1 (.inl ⟨rfl, d2⟩)
  · have hsx : shs xs = xs := shs_id fun x z => (x1 x z).sh
    have hpl : Pl 2 (D.lst true xs).sh := by
      show Pl 2 (.lst false (shs xs))
      rw [hsx]
      exact .lst x1 (by simp only [SL]; omega)
    have hb : BadB (D.lst true xs).sh "BadNumber" := .inr ⟨rfl, ⟨xs, by show D.lst false (shs xs) = _; rw [hsx], x2, x3⟩, xs, by show D.lst false (shs xs) = _; rw [hsx], x4⟩
    (try simp_arith [Bool.and_true, Bool.true_and, Bool.and_false, Bool.false_and, Bool.not_true, Bool.not_false, Bool.or_true, Bool.true_or, Bool.or_false, Bool.false_or, decide_true, decide_false, and_true, true_and, qpSs_nil, List.length_map, List.length_cons, List.length_nil, Nat.zero_add, Nat.reduceAdd, env1])
    exact go2 _ _ hpl hb
end
end K80
set_option maxHeartbeats 4000000
namespace K80
open PySem Py Py.LL
def lawT : MSs := (.cons (.ifs (.not (.call "_law_same" (.cons (.callk "deals" ["bursts", "total"] (.cons (.blt .list (.cons (.var 2) .nil)) (.cons (.var 3) .nil))) (.cons (.var 7) .nil))))
  (.cons (.ret (.cst (.bl false)))
  .nil)
  .nil) (.cons (.asg 8 (.call "_law_delays" (.cons (.var 1) (.cons (.var 4) .nil)))) (.cons (.ret (.call "_law_same" (.cons (.callk "deal_share" ["bursts", "delays"] (.cons (.var 4) (.cons (.var 8) .nil))) (.cons (.call "_law_least" (.cons (.var 4) (.cons (.var 8) .nil))) .nil)))) .nil)))
def lawR : MSs := (.cons (.asg 2 (.call "_law_bursts" (.cons (.var 1) .nil))) (.cons (.asg 3 (.call "_law_edge" (.cons (.var 1) (.cons (.cst (.int 1)) (.cons (.cst (.int 18)) .nil))))) (.cons (.ifs (.not (.call "_law_look" (.cons (.var 1) (.cons (.var 2) (.cons (.var 3) .nil)))))
  (.cons (.ret (.cst (.bl false)))
  .nil)
  .nil) (.cons (.ifs (.not (.call "_law_refused" (.cons (.var 1) (.cons (.var 2) (.cons (.var 3) .nil)))))
  (.cons (.ret (.cst (.bl false)))
  .nil)
  .nil) (.cons (.asg 4 (.blt .list (.cons (.var 2) .nil))) (.cons (.asg 5 (.call "_law_take" (.cons (.var 1) (.cons (.blt .len (.cons (.var 4) .nil)) .nil)))) (.cons (.sub (.var 4) (.var 5) (.call "_law_edge" (.cons (.var 1) (.cons (.cst (.int 0)) (.cons (.cst (.int 6)) .nil))))) (.cons (.asg 6 (.call "_law_edge" (.cons (.var 1) (.cons (.cst (.int 1)) (.cons (.cst (.int 18)) .nil))))) (.cons (.ifs (.or (.not (.call "_law_look" (.cons (.var 1) (.cons (.var 4) (.cons (.var 6) .nil))))) (.not (.call "_law_look" (.cons (.var 1) (.cons (.var 2) (.cons (.var 6) .nil))))))
  (.cons (.ret (.cst (.bl false)))
  .nil)
  .nil) (.cons (.asg 7 (.call "_law_every" (.cons (.var 2) (.cons (.var 3) .nil)))) lawT))))))))))
theorem fn_law_eq : fn_law = ⟨1, 9, .cons (.asg 1 (.call "_law_store" (.cons (.var 0) .nil))) lawR⟩ := rfl
theorem set_iN {bs : List Nat} {n : Nat} {r : Nat} : (iN bs).set n (.int (r : Int)) = iN (bs.set n r) := by
  unfold iN
  rw [List.map_set]
theorem bsok_set {bs : List Nat} {n r : Nat} (h : BsOk bs) (hr : r ≤ 6) : BsOk (bs.set n r) := ⟨by rw [List.length_set]; exact h.1, by rw [List.length_set]; exact h.2.1, fun b hb => by
  rcases List.mem_or_eq_of_mem_set hb with hb | rfl
  · exact h.2.2 b hb
  · exact hr⟩
section
variable {k s c : Nat} {Q : DQ} {E : DX → Prop}
theorem C_lawR (hk : 30 ≤ k) (q : Q (.bl true)) : pSs tx.pg (FC (stW s c) k) (fun _ => false) lawR [none, some .st, none, none, none, none, none, none, none] (bodyK Q E) := by
  unfold lawR
  ((first | rw [qpSs_cons] | (dsimp only; rw [qpSs_cons])); simp_arith [Bool.and_true, Bool.true_and, Bool.and_false, Bool.false_and, Bool.not_true, Bool.not_false, Bool.or_true, Bool.true_or, Bool.or_false, Bool.false_or, decide_true, decide_false, and_true, true_and, qpSs_nil, List.length_map, List.length_cons, List.length_nil, Nat.zero_add, Nat.reduceAdd])
  refine C_bursts (by omega) fun bs hb => ?_
  (try simp_arith [Bool.and_true, Bool.true_and, Bool.and_false, Bool.false_and, Bool.not_true, Bool.not_false, Bool.or_true, Bool.true_or, Bool.or_false, Bool.false_or, decide_true, decide_false, and_true, true_and, qpSs_nil, List.length_map, List.length_cons, List.length_nil, Nat.zero_add, Nat.reduceAdd, owns_iN])
  ((first | rw [qpSs_cons] | (dsimp only; rw [qpSs_cons])); simp_arith [Bool.and_true, Bool.true_and, Bool.and_false, Bool.false_and, Bool.not_true, Bool.not_false, Bool.or_true, Bool.true_or, Bool.or_false, Bool.false_or, decide_true, decide_false, and_true, true_and, qpSs_nil, List.length_map, List.length_cons, List.length_nil, Nat.zero_add, Nat.reduceAdd, shs_iN])
  refine C_edge f_edge f_take f_mixed (by omega) (by decide) fun t t1 t2 => ?_
  have t18 : t ≤ 18 := by omega
  (try simp_arith [Bool.and_true, Bool.true_and, Bool.and_false, Bool.false_and, Bool.not_true, Bool.not_false, Bool.or_true, Bool.true_or, Bool.or_false, Bool.false_or, decide_true, decide_false, and_true, true_and, qpSs_nil, List.length_map, List.length_cons, List.length_nil, Nat.zero_add, Nat.reduceAdd])
  ((first | rw [qpSs_cons] | (dsimp only; rw [qpSs_cons])); simp_arith [Bool.and_true, Bool.true_and, Bool.and_false, Bool.false_and, Bool.not_true, Bool.not_false, Bool.or_true, Bool.true_or, Bool.or_false, Bool.false_or, decide_true, decide_false, and_true, true_and, qpSs_nil, List.length_map, List.length_cons, List.length_nil, Nat.zero_add, Nat.reduceAdd, shs_iN])
  refine C_look (by omega) hb t1 t18 ?_
  (try simp_arith [Bool.and_true, Bool.true_and, Bool.and_false, Bool.false_and, Bool.not_true, Bool.not_false, Bool.or_true, Bool.true_or, Bool.or_false, Bool.false_or, decide_true, decide_false, and_true, true_and, qpSs_nil, List.length_map, List.length_cons, List.length_nil, Nat.zero_add, Nat.reduceAdd])
  ((first | rw [qpSs_cons] | (dsimp only; rw [qpSs_cons])); simp_arith [Bool.and_true, Bool.true_and, Bool.and_false, Bool.false_and, Bool.not_true, Bool.not_false, Bool.or_true, Bool.true_or, Bool.or_false, Bool.false_or, decide_true, decide_false, and_true, true_and, qpSs_nil, List.length_map, List.length_cons, List.length_nil, Nat.zero_add, Nat.reduceAdd, shs_iN])
  refine C_refused (by omega) hb t1 t18 ?_
  (try simp_arith [Bool.and_true, Bool.true_and, Bool.and_false, Bool.false_and, Bool.not_true, Bool.not_false, Bool.or_true, Bool.true_or, Bool.or_false, Bool.false_or, decide_true, decide_false, and_true, true_and, qpSs_nil, List.length_map, List.length_cons, List.length_nil, Nat.zero_add, Nat.reduceAdd])
  ((first | rw [qpSs_cons] | (dsimp only; rw [qpSs_cons])); simp_arith [Bool.and_true, Bool.true_and, Bool.and_false, Bool.false_and, Bool.not_true, Bool.not_false, Bool.or_true, Bool.true_or, Bool.or_false, Bool.false_or, decide_true, decide_false, and_true, true_and, qpSs_nil, List.length_map, List.length_cons, List.length_nil, Nat.zero_add, Nat.reduceAdd, shs_iN, owns_iN])
  ((first | rw [qpSs_cons] | (dsimp only; rw [qpSs_cons])); simp_arith [Bool.and_true, Bool.true_and, Bool.and_false, Bool.false_and, Bool.not_true, Bool.not_false, Bool.or_true, Bool.true_or, Bool.or_false, Bool.false_or, decide_true, decide_false, and_true, true_and, qpSs_nil, List.length_map, List.length_cons, List.length_nil, Nat.zero_add, Nat.reduceAdd, shs_iN, owns_iN, iN_len])
  refine C_take f_take f_mixed (by omega) (by have := hb.2.1; omega) fun z z1 z2 => ?_
  have hb1 := hb.1
  have hb2 := hb.2.1
  (try simp_arith [Bool.and_true, Bool.true_and, Bool.and_false, Bool.false_and, Bool.not_true, Bool.not_false, Bool.or_true, Bool.true_or, Bool.or_false, Bool.false_or, decide_true, decide_false, and_true, true_and, qpSs_nil, List.length_map, List.length_cons, List.length_nil, Nat.zero_add, Nat.reduceAdd])
  ((first | rw [qpSs_cons] | (dsimp only; rw [qpSs_cons])); simp_arith [Bool.and_true, Bool.true_and, Bool.and_false, Bool.false_and, Bool.not_true, Bool.not_false, Bool.or_true, Bool.true_or, Bool.or_false, Bool.false_or, decide_true, decide_false, and_true, true_and, qpSs_nil, List.length_map, List.length_cons, List.length_nil, Nat.zero_add, Nat.reduceAdd, shs_iN, owns_iN])
  refine C_edge f_edge f_take f_mixed (by omega) (by decide) fun r r1 r2 => ?_
  obtain ⟨r, rfl⟩ : ∃ n : Nat, r = n := ⟨r.toNat, by omega⟩
  (try simp_arith [Bool.and_true, Bool.true_and, Bool.and_false, Bool.false_and, Bool.not_true, Bool.not_false, Bool.or_true, Bool.true_or, Bool.or_false, Bool.false_or, decide_true, decide_false, and_true, true_and, qpSs_nil, List.length_map, List.length_cons, List.length_nil, Nat.zero_add, Nat.reduceAdd, iN_len])
  rw [ixN_nat' z1 (by omega)]
  (try simp_arith [Bool.and_true, Bool.true_and, Bool.and_false, Bool.false_and, Bool.not_true, Bool.not_false, Bool.or_true, Bool.true_or, Bool.or_false, Bool.false_or, decide_true, decide_false, and_true, true_and, qpSs_nil, List.length_map, List.length_cons, List.length_nil, Nat.zero_add, Nat.reduceAdd, set_iN])
  have hn : BsOk (bs.set z.toNat r) := bsok_set hb (by omega)
  generalize bs.set z.toNat r = near at hn
  ((first | rw [qpSs_cons] | (dsimp only; rw [qpSs_cons])); simp_arith [Bool.and_true, Bool.true_and, Bool.and_false, Bool.false_and, Bool.not_true, Bool.not_false, Bool.or_true, Bool.true_or, Bool.or_false, Bool.false_or, decide_true, decide_false, and_true, true_and, qpSs_nil, List.length_map, List.length_cons, List.length_nil, Nat.zero_add, Nat.reduceAdd])
  refine C_edge f_edge f_take f_mixed (by omega) (by decide) fun o o1 o2 => ?_
  have o18 : o ≤ 18 := by omega
  (try simp_arith [Bool.and_true, Bool.true_and, Bool.and_false, Bool.false_and, Bool.not_true, Bool.not_false, Bool.or_true, Bool.true_or, Bool.or_false, Bool.false_or, decide_true, decide_false, and_true, true_and, qpSs_nil, List.length_map, List.length_cons, List.length_nil, Nat.zero_add, Nat.reduceAdd])
  ((first | rw [qpSs_cons] | (dsimp only; rw [qpSs_cons])); simp_arith [Bool.and_true, Bool.true_and, Bool.and_false, Bool.false_and, Bool.not_true, Bool.not_false, Bool.or_true, Bool.true_or, Bool.or_false, Bool.false_or, decide_true, decide_false, and_true, true_and, qpSs_nil, List.length_map, List.length_cons, List.length_nil, Nat.zero_add, Nat.reduceAdd, shs_iN])
  refine C_look (by omega) hn o1 o18 ?_
  (try simp_arith [Bool.and_true, Bool.true_and, Bool.and_false, Bool.false_and, Bool.not_true, Bool.not_false, Bool.or_true, Bool.true_or, Bool.or_false, Bool.false_or, decide_true, decide_false, and_true, true_and, qpSs_nil, List.length_map, List.length_cons, List.length_nil, Nat.zero_add, Nat.reduceAdd, shs_iN])
  refine C_look (by omega) hb o1 o18 ?_
  (try simp_arith [Bool.and_true, Bool.true_and, Bool.and_false, Bool.false_and, Bool.not_true, Bool.not_false, Bool.or_true, Bool.true_or, Bool.or_false, Bool.false_or, decide_true, decide_false, and_true, true_and, qpSs_nil, List.length_map, List.length_cons, List.length_nil, Nat.zero_add, Nat.reduceAdd])
  ((first | rw [qpSs_cons] | (dsimp only; rw [qpSs_cons])); simp_arith [Bool.and_true, Bool.true_and, Bool.and_false, Bool.false_and, Bool.not_true, Bool.not_false, Bool.or_true, Bool.true_or, Bool.or_false, Bool.false_or, decide_true, decide_false, and_true, true_and, qpSs_nil, List.length_map, List.length_cons, List.length_nil, Nat.zero_add, Nat.reduceAdd, shs_iN])
  have hl3 : (iL bs).length ≤ 3 := by rw [iL_len]; exact hb.2.1
  rw [iN_iL]
  refine C_every (by omega) hl3 (iL_b hb) ?_
  rw [← iN_iL]
  have fin : ∀ f : Bool, pSs tx.pg (FC (stW s c) k) (fun _ => false) lawT [none, some .st, some (.lst f (iN bs)), some (.int t), some (.lst true (iN near)), some (.int z), some (.int o), some (.lst true ((everyL (iL bs) t).map rowF)), none] (bodyK Q E) := by
    intro f
    unfold lawT
    ((first | rw [qpSs_cons] | (dsimp only; rw [qpSs_cons])); simp_arith [Bool.and_true, Bool.true_and, Bool.and_false, Bool.false_and, Bool.not_true, Bool.not_false, Bool.or_true, Bool.true_or, Bool.or_false, Bool.false_or, decide_true, decide_false, and_true, true_and, qpSs_nil, List.length_map, List.length_cons, List.length_nil, Nat.zero_add, Nat.reduceAdd, shs_iN, owns_iN])
    have hl : bs.length ≤ SL := Nat.le_trans hb.2.1 (by decide)
    refine C_deals (pl_iN (n := 0) hl) (.int (n := 0) t) (by omega) (fun z => absurd (lk_iN hb) z) (fun _ xs e z => absurd z (no_bad hb e)) (fun _ z => absurd z (by show ¬ (_ ∨ _); omega)) fun bs' t' e1 e2 _ _ _ _ _ => ?_
    cases e2
    have e1 : iN bs = bs'.map D.int := D.lst.inj e1 |>.2
    rw [iN_iL] at e1
    have e3 : iL bs = bs' := map_inj (fun x y e => D.int.inj e) e1
    rw [← e3, deals_every (iL_b hb) (by omega)]
    (try simp_arith [Bool.and_true, Bool.true_and, Bool.and_false, Bool.false_and, Bool.not_true, Bool.not_false, Bool.or_true, Bool.true_or, Bool.or_false, Bool.false_or, decide_true, decide_false, and_true, true_and, qpSs_nil, List.length_map, List.length_cons, List.length_nil, Nat.zero_add, Nat.reduceAdd, shs_rowT, shs_rowF])
    refine C_same f_same (n := 2) (pl_rows hl3) (by omega) ?_
    (try simp_arith [Bool.and_true, Bool.true_and, Bool.and_false, Bool.false_and, Bool.not_true, Bool.not_false, Bool.or_true, Bool.true_or, Bool.or_false, Bool.false_or, decide_true, decide_false, and_true, true_and, qpSs_nil, List.length_map, List.length_cons, List.length_nil, Nat.zero_add, Nat.reduceAdd])
    ((first | rw [qpSs_cons] | (dsimp only; rw [qpSs_cons])); simp_arith [Bool.and_true, Bool.true_and, Bool.and_false, Bool.false_and, Bool.not_true, Bool.not_false, Bool.or_true, Bool.true_or, Bool.or_false, Bool.false_or, decide_true, decide_false, and_true, true_and, qpSs_nil, List.length_map, List.length_cons, List.length_nil, Nat.zero_add, Nat.reduceAdd, shs_iN])
    refine C_delays (by omega) hn fun ps hps hg => ?_
    subst hps
    have env : ∀ o' : Bool, ∀ d : D, (aft o' [1, 4] [none, some D.st, some (.lst f (iN bs)), some (.int t), some (.lst true (iN (ps.map (·.1)))), some (.int z), some (.int o), some (.lst true ((everyL (iL bs) t).map rowF)), none]) = cond o' [none, some D.st, some (.lst f (iN bs)), some (.int t), some (.lst true (iN (ps.map (·.1)))), some (.int z), some (.int o), some (.lst true ((everyL (iL bs) t).map rowF)), none] [none, some D.st, some (.lst f (iN bs)), some (.int t), some (.lst false (iN (ps.map (·.1)))), some (.int z), some (.int o), some (.lst true ((everyL (iL bs) t).map rowF)), none] := fun o' d => by
      cases o' <;> (try simp_arith [Bool.and_true, Bool.true_and, Bool.and_false, Bool.false_and, Bool.not_true, Bool.not_false, Bool.or_true, Bool.true_or, Bool.or_false, Bool.false_or, decide_true, decide_false, and_true, true_and, qpSs_nil, List.length_map, List.length_cons, List.length_nil, Nat.zero_add, Nat.reduceAdd, shs_iN])
    (try simp_arith [Bool.and_true, Bool.true_and, Bool.and_false, Bool.false_and, Bool.not_true, Bool.not_false, Bool.or_true, Bool.true_or, Bool.or_false, Bool.false_or, decide_true, decide_false, and_true, true_and, qpSs_nil, List.length_map, List.length_cons, List.length_nil, Nat.zero_add, Nat.reduceAdd, owns_iN])
    ((first | rw [qpSs_cons] | (dsimp only; rw [qpSs_cons])); simp_arith [Bool.and_true, Bool.true_and, Bool.and_false, Bool.false_and, Bool.not_true, Bool.not_false, Bool.or_true, Bool.true_or, Bool.or_false, Bool.false_or, decide_true, decide_false, and_true, true_and, qpSs_nil, List.length_map, List.length_cons, List.length_nil, Nat.zero_add, Nat.reduceAdd, shs_iN])
    have hlp : (ps.map (·.1)).length ≤ SL := Nat.le_trans hn.2.1 (by decide)
    refine C_deal_share (pl_iN (n := 0) hlp) (pl_iN (n := 0) (by simpa using hlp)) (by omega) (fun z => absurd (lk_iN hn) z) (fun _ xs e z => absurd z (no_bad hn e)) (fun bs e _ z => ?_) (fun bs xs e1 _ e2 l z => ?_) fun ps' s1 e1 e2 _ hg2 hs1 => ?_
    · have e := iN_inj (D.lst.inj e |>.2)
      refine absurd ⟨_, rfl, ?_⟩ z
      rw [iN_len, ← e, List.length_map, List.length_map]
    · cases e2
      have e := iN_inj (D.lst.inj e1 |>.2)
      subst e
      exact absurd z (no_badD hg)
    · have := links_inj (D.lst.inj e1 |>.2) (D.lst.inj e2 |>.2)
      subst this
      (try simp_arith [Bool.and_true, Bool.true_and, Bool.and_false, Bool.false_and, Bool.not_true, Bool.not_false, Bool.or_true, Bool.true_or, Bool.or_false, Bool.false_or, decide_true, decide_false, and_true, true_and, qpSs_nil, List.length_map, List.length_cons, List.length_nil, Nat.zero_add, Nat.reduceAdd, shs_iN])
      refine C_least (by omega) (fun z => by subst z; exact absurd hn.1 (by decide)) (by have := hn.2.1; simpa using this) (fun p hp => (hg p hp).1) fun s2 hs2 => ?_
      have e12 := Least.uniq (fun p hp => (hg p hp).1) hs1 hs2
      subst e12
      (try simp_arith [Bool.and_true, Bool.true_and, Bool.and_false, Bool.false_and, Bool.not_true, Bool.not_false, Bool.or_true, Bool.true_or, Bool.or_false, Bool.false_or, decide_true, decide_false, and_true, true_and, qpSs_nil, List.length_map, List.length_cons, List.length_nil, Nat.zero_add, Nat.reduceAdd, tupN])
      refine C_same f_same (n := 1) (.tup (fun x hx => ?_) (by simp [SL])) (by omega) q
      rcases List.mem_cons.mp hx with rfl | hx
      · exact .int _
      · rw [List.mem_singleton.mp hx]; exact .int _
  cases ho : owns ((everyL (iL bs) t).map rowF) <;>
  · (try simp_arith [Bool.and_true, Bool.true_and, Bool.and_false, Bool.false_and, Bool.not_true, Bool.not_false, Bool.or_true, Bool.true_or, Bool.or_false, Bool.false_or, decide_true, decide_false, and_true, true_and, qpSs_nil, List.length_map, List.length_cons, List.length_nil, Nat.zero_add, Nat.reduceAdd, ho, shs_iN])
    exact fin _
end
end K80
set_option maxHeartbeats 4000000
namespace K80
open PySem Py Py.LL
theorem f_store : tx.fs "_law_store" = some store := rfl
theorem f_law : tx.fs "law" = some fn_law := rfl
theorem mini (ns : List Int) (h : ns.length ≤ 63) : ∃ m', callN tx.pg tx.fs 41 "law" [.ref 0] [.fls (ns.map U.int)] = .ok (.bl true) m' := by
  obtain ⟨seed, hst⟩ := run_store (g := tx.pg) (fs := tx.fs) (k := 39) f_store ns
  have hF : FSound (callN tx.pg tx.fs 40) (FC (stW 2 1) 40) (stW 2 1) := FCall.sound
  let m1 : M := [.fls (ns.map U.int), .lst (ns.map U.int), .lst [.ref 1, .int 0, .int 0, .int 0, .int seed, .int 0]]
  have hB : Bd (stW 2 1) (fun a => a = 2 ∨ a = 1) m1 := ⟨.inl rfl, fun a z => z, fun a z => by
    show a < 3
    rcases z with rfl | rfl <;> decide⟩
  have hI : stI 2 1 m1 := ⟨ns, 0, 0, 0, seed, 0, rfl, rfl, Int.le_refl _, by omega, fun z => absurd rfl z, Int.le_refl _⟩
  have hE : ER (stW 2 1) (fun a => a = 2 ∨ a = 1) (fun _ => []) m1 [some (.ref 0), some (.ref 2), none, none, none, none, none, none, none] [none, some .st, none, none, none, none, none, none, none] := by
    refine ⟨hB, hI, rfl, fun i d q => ?_, fun _ => .nil, (fun _ _ _ a z => nomatch z), (fun _ a z => nomatch z), fun _ _ => rfl⟩
    match i, q with
    | 1, q => cases q; exact ⟨.ref 2, rfl, .st⟩
    | 0, q => cases q
    | 2, q => cases q
    | 3, q => cases q
    | 4, q => cases q
    | 5, q => cases q
    | 6, q => cases q
    | 7, q => cases q
    | 8, q => cases q
    | n + 9, q => cases q
  have z := sSs hF lawR hE (C_lawR (s := 2) (c := 1) (k := 40) (Q := fun d => d = .bl true) (E := fun _ => False) (by decide) rfl)
  unfold callN
  rw [f_law, fn_law_eq]
  simp only [List.length_cons, List.length_nil, Nat.zero_add, ↓reduceIte, List.map_cons, List.map_nil, List.replicate, Nat.reduceSub, q_app_c, q_app_n, exs_cons, exe_asg, ev_call, evs_cons, evs_nil, ev_var, q_get_z, LL.bind_ok, hst, q_set_z, q_set_s]
  cases e : exs tx.pg (callN tx.pg tx.fs 40) lawR [some (.ref 0), some (.ref 2), none, none, none, none, none, none, none] m1 with
  | ok p m' =>
    rw [e] at z
    obtain ⟨fl, r1⟩ := p
    cases fl with
    | rt u =>
      obtain ⟨d, n1, k1, _, _, k4, _⟩ := z
      have k4 : d = .bl true := k4
      subst k4
      cases k1.bl'
      exact ⟨m', rfl⟩
    | nx => obtain ⟨_, _, _, _, _, k⟩ := z; cases k
    | br => obtain ⟨_, _, _, _, _, k⟩ := z; cases k
    | ct => obtain ⟨_, _, _, _, _, k⟩ := z; cases k
  | ex x m' => rw [e] at z; obtain ⟨_, _, k, _⟩ := z; cases k
  | stuck => rw [e] at z; cases z
end K80
set_option maxHeartbeats 0
open PySem PySem.W PySem.Calls PyProof.Rows
theorem PySem.Challenge.cw_mendsontime_k80_deals_and_shares_holds : PySem.Challenge.rw_mendsontime_k80_deals_and_shares.Holds := by
  w_on; o_law
  refine HandSHeadRun.head_any (r := OpenLaw.row PySem.Challenge.rw_mendsontime_k80_deals_and_shares) (q := view (OpenLaw.row PySem.Challenge.rw_mendsontime_k80_deals_and_shares).prog [57]) (H := K80.hk) (ob := K80.ob) (M := 4000) (loose := K80.loose) (d := HandSHeadRun.topDef (OpenLaw.row PySem.Challenge.rw_mendsontime_k80_deals_and_shares).prog 57) (kwd := []) K80.ob_eq
    (by kernel_rfl) (fun s => by kernel_rfl) K80.run (by kernel_rfl) (by kernel_rfl) (by kernel_rfl) (by rfl) (by first | assumption | decide +kernel) (by decide +kernel) ⟨rfl, rfl, rfl, rfl, rfl, by decide +kernel⟩ ?hw ?hc
  case hw => w_witness2
  case hc =>
    refine L2.walk_ofE (l := PySem.Challenge.rw_mendsontime_k80_deals_and_shares) (n := 63) (k := 43) (x := "_law_script") (CX := L2.CX0) rfl (by decide) (by kernel_rfl) ⟨rfl, by decide, by decide⟩ ?F (fun _ _ _ _ z => z)
    intro w mg fa h Y G hmg0
    obtain ⟨K, KX, c⟩ := Y
    have hmg : mg ("law" : PySem.Str) = some (.ref fa) := by
      have e : (HandSHeadRun.topDef (OpenLaw.row PySem.Challenge.rw_mendsontime_k80_deals_and_shares).prog 57).name = ("law" : PySem.Str) := by kernel_rfl
      rw [← e]
      exact hmg0
    obtain ⟨fd, e1, F, hF⟩ := Py.law_fn (w := w) K80.ok KX G c (k := 40) (d := K80.dd_law) (by simp [K80.tx, K80.dds]) rfl K80.mini
    obtain rfl : fa = He.ga K "law" := by
      have e2 : some (PySem.Value.ref fa) = some (.ref (He.ga K "law")) := hmg.symm.trans e1
      exact PySem.Value.ref.inj (Option.some.inj e2)
    exact ⟨K, fd, Py.spLw K, KX, fun s v => L2.FunD.bindsA F K80.bn_law s [v] rfl, fun H a ns hl hO hS => ⟨a, ns, rfl, hl, hO, hS, fun _ => rfl⟩, fun base _ _ => hF base⟩
