import PyProof.Rows.All
import HandS.ForMost
import HandS.TryOnly
import HandS.FStr
import HandS.ExcField
import HandS.ExcInit
import HandS.TupLe
import HandS.TupAny
import HandS.SortInts
import HandS.Style
import HandS.Flow
import HandS.IsInst
import HandS.ExcOwn
import KE.IntTextLaws
import PyProof.MinMaxWalk
import PyProof.WalkInts
import HandS.SortKw
import HandS.WordsExc
import HandS.Nested
import HandS.ExcSuper
import KE.KExcSuper
import KE.KStar
import HandS.Codes
import Wide.All
import OpenK.AllK
import Wide.FinOn
import PySem.Challenge.RW_chiptrue_k49_whole_waves_as_texts
set_option Elab.async false
set_option linter.all false
set_option maxRecDepth 100000
/-! The small interpreter: trees, annotated expressions and statements, what they are worth. -/
namespace Ev
open PySem
abbrev Tx := List Nat
/-- how a mutable thing is held: read only (written part, script), shared and never changed, owned by its one holder -/
inductive Fl where | ro | sh | ow deriving DecidableEq
def Fl.free : Fl → Bool
  | .ro => true | .sh => true | .ow => false
def Fl.wr : Fl → Bool
  | .ro => false | .sh => true | .ow => true
inductive D where
  | non | bl (b : Bool) | int (i : Int) | str (s : Tx)
  | tup (xs : List D) | lst (o : Fl) (xs : List D) | ins (o : Fl) (c : Nat) (ks : List Nat) (vs : List D)
instance : Inhabited D := ⟨.non⟩
/-- whole numbers' line of lengths -/
abbrev LINE : Nat := 16777216

mutual
/-- nothing in it is owned -/
def fro : D → Bool
  | .tup xs => fros xs
  | .lst o xs => (match o with | .ow => false | _ => true) && fros xs
  | .ins o _ _ vs => (match o with | .ow => false | _ => true) && fros vs
  | _ => true
def fros : List D → Bool
  | [] => true
  | d :: ds => fro d && fros ds
end
mutual
def frz : D → D
  | .tup xs => .tup (frzs xs)
  | .lst o xs => .lst (match o with | .ow => .sh | o => o) (frzs xs)
  | .ins o c ks vs => .ins (match o with | .ow => .sh | o => o) c ks (frzs vs)
  | d => d
def frzs : List D → List D
  | [] => []
  | d :: ds => frz d :: frzs ds
end
/-! ### data compared -/
mutual
def eqD : D → D → Bool
  | .non, .non => true
  | .bl a, .bl b => a == b
  | .bl a, .int j => (if a then 1 else 0) == j
  | .int i, .bl b => i == (if b then 1 else 0)
  | .int i, .int j => i == j
  | .str x, .str y => x == y
  | .tup xs, .tup ys => eqDs xs ys
  | .lst _ xs, .lst _ ys => eqDs xs ys
  | _, _ => false
def eqDs : List D → List D → Bool
  | [], [] => true
  | x :: xs, y :: ys => eqD x y && eqDs xs ys
  | _, _ => false
end
mutual
/-- data, of depth n at most -/
def okD : D → Nat → Bool
  | .non, _ => true
  | .bl _, _ => true
  | .int _, _ => true
  | .str s, _ => s.all (fun c => Nat.blt c 1114112)
  | .tup xs, n + 1 => okDs xs n
  | .lst _ xs, n + 1 => okDs xs n
  | _, _ => false
def okDs : List D → Nat → Bool
  | [], _ => true
  | d :: ds, n => okD d n && okDs ds n
end
/-! ### results -/
inductive R (α : Type) where
  | ok (a : α) | exn (c : Nat) (p : D) | bad
namespace R
@[inline] def bind {α β : Type} (r : R α) (f : α → R β) : R β := match r with | .ok a => f a | .exn c p => .exn c p | .bad => .bad
@[inline] def ofO {α : Type} (o : Option α) : R α := match o with | some a => .ok a | none => .bad
@[inline] def guard {α : Type} (b : Bool) (r : R α) : R α := match b with | true => r | false => .bad
end R
/-! ### operators -/
inductive Bop where
  | add | sub | mul | fdiv | mod | pow | shl | shr | band | bor | bxor
  | eq | ne | lt | le | gt | ge | inn | nin | join
  deriving DecidableEq
inductive Uop where
  | neg | not | isN | notN | len | str | int | tuple | list | sorted | minD | sum | all | any | abs
  deriving DecidableEq
/-- a place from either end -/
abbrev ixN (n : Nat) (i : Int) : Option Nat := L2.ixN n i
abbrev atI {α : Type} (xs : List α) (i : Int) : Option α := L2.atI xs i
def cut {α : Type} (xs : List α) (lo hi : Option Int) : List α := (xs.drop (HT.sIx xs.length 0 lo)).take (HT.sIx xs.length xs.length hi - HT.sIx xs.length 0 lo)
def lexLe : List Int → List Int → Bool
  | [], _ => true
  | _ :: _, [] => false
  | x :: xs, y :: ys => if x = y then lexLe xs ys else decide (x ≤ y)
def toInts : List D → Option (List Int)
  | [] => some []
  | .int i :: ds => (match toInts ds with | some r => some (i :: r) | none => none)
  | _ => none
def toTexts : List D → Option (List Tx)
  | [] => some []
  | .str i :: ds => (match toTexts ds with | some r => some (i :: r) | none => none)
  | _ => none
def toBls : List D → Option (List Bool)
  | [] => some []
  | .bl i :: ds => (match toBls ds with | some r => some (i :: r) | none => none)
  | _ => none
/-- numbers and texts: what 'in' is asked of -/
def scalD : D → Bool
  | .int _ => true | .str _ => true | _ => false
def small (i : Int) : Bool := Nat.blt i.natAbs 18446744073709551616
def smallN (i : Int) : Bool := Nat.blt i.natAbs 18446744073709551616
def binD (op : Bop) (x y : D) : Option D := match op, x, y with
  | .add, .int a, .int b => some (.int (a + b))
  | .sub, .int a, .int b => some (.int (a - b))
  | .mul, .int a, .int b => if small a || small b then some (.int (a * b)) else none
  | .fdiv, .int a, .int b => if 0 < b && Nat.blt b.natAbs 1073741824 then some (.int (a / b)) else none
  | .mod, .int a, .int b => if 0 < b then some (.int (a % b)) else none
  | .pow, .int a, .int b => if 0 ≤ b && Nat.ble b.natAbs 1000000 && smallN a then some (.int (a ^ b.toNat)) else none
  | .shl, .int a, .int b => if 0 ≤ b && Nat.ble b.natAbs 1000000 && smallN a then some (.int (a * 2 ^ b.toNat)) else none
  | .shr, .int a, .int b => if 0 ≤ b then some (.int (a / 2 ^ b.toNat)) else none
  | .band, .int a, .int b => some (.int (Builtin.bitAnd a b))
  | .bor, .int a, .int b => some (.int (Builtin.bitOr a b))
  | .bxor, .int a, .int b => some (.int (Builtin.bitXor a b))
  | .eq, a, b => if okD a 64 && okD b 64 then some (.bl (eqD a b)) else none
  | .ne, a, b => if okD a 64 && okD b 64 then some (.bl (!eqD a b)) else none
  | .lt, .int a, .int b => some (.bl (decide (a < b)))
  | .le, .int a, .int b => some (.bl (decide (a ≤ b)))
  | .gt, .int a, .int b => some (.bl (decide (b < a)))
  | .ge, .int a, .int b => some (.bl (decide (b ≤ a)))
  | .le, .tup a, .tup b => (match toInts a, toInts b with | some a, some b => some (.bl (lexLe a b)) | _, _ => none)
  | .add, .str a, .str b => if a.length + b.length ≤ LINE then some (.str (a ++ b)) else none
  | .add, .tup a, .tup b => if fros a && fros b && !a.isEmpty && !b.isEmpty && decide (a.length + b.length ≤ LINE) then some (.tup (a ++ b)) else none
  | .add, .lst o a, .lst p b => if o.wr && p.wr && fros a && fros b && decide (a.length + b.length ≤ LINE) then some (.lst .ow (a ++ b)) else none
  | .inn, .str [c], .str b => some (.bl (b.contains c))
  | .inn, a, .tup ys => if scalD a && ys.all scalD then some (.bl (ys.any fun y => eqD y a)) else none
  | .join, .str s, .lst _ xs => (match toTexts xs with | some ts => if (ts.map List.length).sum + s.length * ts.length ≤ LINE then some (.str (List.intercalate s ts)) else none | none => none)
  | _, _, _ => none
/-- the text of a whole number -/
def digs (i : Int) : Tx := (toString i).toList.map Char.toNat
/-- the number of a text, by the figures alone -/
def figs (s : Tx) : Option Int := if s.isEmpty then none else if s.all (fun c => Nat.ble 48 c && Nat.ble c 57) then some (((s.foldl (fun (n : Nat) (c : Nat) => n * 10 + (c - 48)) 0) : Nat) : Int) else none
def leastI : List Int → Option Int
  | [] => none
  | x :: xs => some (xs.foldl min x)
def insI (x : Int) : List Int → List Int
  | [] => [x]
  | y :: ys => if x ≤ y then x :: y :: ys else y :: insI x ys
def sortI : List Int → List Int
  | [] => []
  | x :: xs => insI x (sortI xs)
def unD (op : Uop) (x : D) : Option D := match op, x with
  | .neg, .int a => some (.int (-a))
  | .not, .bl b => some (.bl (!b))
  | .isN, d => some (.bl (match d with | .non => true | _ => false))
  | .notN, d => some (.bl (match d with | .non => false | _ => true))
  | .len, .str s => if s.length ≤ LINE then some (.int s.length) else none
  | .len, .lst _ xs => some (.int xs.length)
  | .len, .tup xs => some (.int xs.length)
  | .str, .int i => if i.natAbs < 10 ^ 500 then some (.str (digs i)) else none
  | .int, .int i => some (.int i)
  | .int, .bl b => some (.int (if b then 1 else 0))
  | .int, .str s => if s.length ≤ 600 then (match figs s with | some n => some (.int n) | none => none) else none
  | .tuple, .lst _ xs => if fros xs then some (.tup xs) else none
  | .tuple, .tup xs => if fros xs then some (.tup xs) else none
  | .list, .lst _ xs => if fros xs then some (.lst .ow xs) else none
  | .list, .tup xs => if fros xs then some (.lst .ow xs) else none
  | .sorted, .lst _ xs => (match toInts xs with | some ns => some (.lst .ow ((sortI ns).map .int)) | none => none)
  | .minD, .lst _ xs => (match toInts xs with | some ns => (match leastI ns with | some m => some (.int m) | none => some .non) | none => none)
  | .sum, .lst _ xs => (match toInts xs with | some ns => some (.int ns.sum) | none => none)
  | .all, .lst _ xs => (match toBls xs with | some ns => some (.bl (ns.all id)) | none => none)
  | .any, .lst _ xs => (match toBls xs with | some ns => some (.bl (ns.any id)) | none => none)
  | .abs, .int a => some (.int (if a < 0 then -a else a))
  | _, _ => none
def idxD (o i : D) : Option D := match o, i with
  | .lst _ xs, .int k => atI xs k
  | .tup xs, .int k => atI xs k
  | .str s, .int k => if s.length ≤ LINE then (match atI s k with | some c => some (.str [c]) | none => none) else none
  | _, _ => none
def slcD (o : D) (lo hi : Option Int) : Option D := match o with
  | .lst _ xs => if fros xs then some (.lst .ow (cut xs lo hi)) else none
  | .tup xs => if fros xs then some (.tup (cut xs lo hi)) else none
  | .str s => if s.length ≤ LINE then some (.str (cut s lo hi)) else none
  | _ => none
def fldOf : List Nat → List D → Nat → Option D
  | k :: ks, v :: vs, f => if k = f then some v else fldOf ks vs f
  | _, _, _ => none
def fldD (o : D) (f : Nat) : Option D := match o with
  | .ins _ _ ks vs => fldOf ks vs f
  | _ => none
/-- an instance of the class c -/
def insC (d : D) (c : Nat) : Bool := match d with | .ins _ c' _ _ => c == c' | _ => false
/-- a built-in type asked by isinstance: 0 int, 1 str, 2 tuple, 3 list, 4 bool -/
def isiD (d : D) (t : Nat) : Option Bool := match d, t with
  | .int _, 0 => some true | .bl _, 0 => some true | .bl _, 4 => some true
  | .str _, 1 => some true | .tup _, 2 => some true | .lst _ _, 3 => some true
  | .ins _ _ _ _, _ => none
  | _, _ => some false

/-! ### the annotated text -/
inductive Tg where | nm (i : Nat) | tp (ts : List Tg)
mutual
inductive E where
  | k (d : D) | glob (g : Nat) | var (i : Nat) | mv (i : Nat) | fz (i : Nat) | bor (i : Nat) | hole | frz (e : E)
  | fld (o : E) (f : Nat) | idx (o i : E) | slc (o lo hi : E)
  | bin (op : Bop) (a b : E) | un (op : Uop) (a : E) | chn (p q : Bop) (a b c : E)
  | and (a b : E) | or (a b : E) | ife (c a b : E)
  | tup (es : Es) | lst (es : Es) | fst (es : Es)
  | lc (tg : Tg) (it : It) (cond elt : E) (own : List Nat)
  | call (f : Nat) (as : Es) | mcall (c f : Nat) (o : E) (as : Es) | make (c : Nat) (as : Es)
  | isi (e : E) (t : Nat)
inductive Es where | nil | cons (e : E) (es : Es)
inductive It where | seq (e : E) | str (e : E) | rng (e : E) | rng2 (a b : E)
end
inductive S where
  | unpI (p i : E) (ts : List Tg) (e : E)
  | skip | seq (a b : S) | asg (i : Nat) (e : E) | par (ts : List Nat) (es : Es) | unp (tg : Tg) (e : E)
  | setI (p i e : E) | setF (p : E) (f : Nat) (e : E) | aug (i : Nat) (op : Bop) (e : E) | augF (p : E) (f : Nat) (op : Bop) (e : E)
  | app (p e : E) | drop (e : E) | ife (c : E) (a b : S) | whl (c : E) (b : S) (w : List Nat) | fore (tg : Tg) (it : It) (b : S) (w : List Nat)
  | ret (e : E) | retN | brk | cnt | raise (c : Nat) (e : E) | tryx (b : S) (c i : Nat) (h : List (Option D))

abbrev Env := List (Option D)
/-! ### what is touched: slots moved out, frozen or lent -/
mutual
def tch : E → List Nat
  | .mv i => [i] | .fz i => [i] | .bor i => [i] | .frz e => tch e
  | .fld o _ => tch o | .idx o i => tch o ++ tch i | .slc o l h => tch o ++ (tch l ++ tch h)
  | .bin _ a b => tch a ++ tch b | .un _ a => tch a | .chn _ _ a b c => tch a ++ (tch b ++ tch c)
  | .and a b => tch a ++ tch b | .or a b => tch a ++ tch b | .ife c a b => tch c ++ (tch a ++ tch b)
  | .tup es => tchs es | .lst es => tchs es | .fst es => tchs es
  | .lc _ it c e _ => tchI it ++ (tch c ++ tch e)
  | .call _ as => tchs as | .mcall _ _ o as => tch o ++ tchs as | .make _ as => tchs as
  | .isi e _ => tch e
  | _ => []
def tchs : Es → List Nat
  | .nil => [] | .cons e es => tch e ++ tchs es
def tchI : It → List Nat
  | .seq e => tch e | .str e => tch e | .rng e => tch e | .rng2 a b => tch a ++ tch b
end
def isPath : E → Bool
  | .var _ => true | .fld o _ => isPath o | .idx o _ => isPath o | _ => false
def root : E → Nat
  | .var i => i | .fld o _ => root o | .idx o _ => root o | _ => 0
/-- what e gave stays while what touches m runs -/
def safe (e : E) (d : D) (m : List Nat) : Bool := fro d || !isPath e || !m.contains (root e)

/-! ### slots -/
def getS (ρ : Env) (i : Nat) : Option D := match ρ[i]? with | some (some d) => some d | _ => none
def wipeE (ρ : Env) : List Nat → Env
  | [] => ρ
  | v :: vs => (wipeE ρ vs).set v none
/-- the slots own as they were in ρ, all others as in ρ' -/
def backE (ρ ρ' : Env) : List Nat → Env
  | [] => ρ'
  | v :: vs => (backE ρ ρ' vs).set v (match ρ[v]? with | some o => o | none => none)
mutual
def bindT : Tg → D → Env → Option Env
  | .nm i, d, ρ => if fro d && decide (i < ρ.length) then some (ρ.set i (some d)) else none
  | .tp ts, .tup ds, ρ => bindTs ts ds ρ
  | .tp ts, .lst _ ds, ρ => bindTs ts ds ρ
  | _, _, _ => none
def bindTs : List Tg → List D → Env → Option Env
  | [], [], ρ => some ρ
  | t :: ts, d :: ds, ρ => (match bindT t d ρ with | some ρ' => bindTs ts ds ρ' | none => none)
  | _, _, _ => none
end
/-- the program around: what a call is worth, which def makes a class, the module's constants -/
structure G where
  call : Nat → List D → R (D × List (Option D))
  init : Nat → Nat
  glob : Nat → D
  sub : Nat → Nat → Bool
/-- lent trees come back: the arguments that were lent, by their places -/
def backA : Es → List (Option D) → Env → Env
  | .cons (.bor i) es, d :: ds, ρ => backA es ds (ρ.set i d)
  | .cons _ es, _ :: ds, ρ => backA es ds ρ
  | _, _, ρ => ρ
/-- a part of a slice -/
def pInt : D × Env → R (Option Int × Env)
  | (.int i, ρ) => .ok (some i, ρ)
  | _ => .bad

/-- a range's end -/
def okR (n : Int) : Bool := Nat.blt n.natAbs 4611686018427387904
/-- where no error may come out -/
def noX {α : Type} : R α → R α
  | .ok a => .ok a | _ => .bad
/-- the loop of a comprehension -/
def lcL (f : D → Env → R (Option D × Env)) : List D → Env → R (List D × Env)
  | [], ρ => .ok ([], ρ)
  | x :: xs, ρ => (f x ρ).bind fun (y, ρ1) => (lcL f xs ρ1).bind fun (ys, ρ2) => .ok ((match y with | some y => y :: ys | none => ys), ρ2)
/-- a part of a formatted text: a text or a whole number -/
def partTx : D → Option Tx
  | .str s => if s.length ≤ LINE then some s else none
  | .int i => if i.natAbs < 10 ^ 500 then some (digs i) else none
  | _ => none
mutual
def ev (g : G) : E → Bool → Env → R (D × Env)
  | .k d, _, ρ => R.guard (fro d) (.ok (d, ρ))
  | .glob n, _, ρ => R.guard (fro (g.glob n)) (.ok (g.glob n, ρ))
  | .var i, vw, ρ => (match getS ρ i with | some d => R.guard (vw || fro d) (.ok (d, ρ)) | none => .bad)
  | .mv i, _, ρ => (match getS ρ i with | some d => .ok (d, ρ.set i none) | none => .bad)
  | .bor i, _, ρ => (match getS ρ i with | some d => .ok (d, ρ.set i none) | none => .bad)
  | .fz i, _, ρ => (match getS ρ i with | some d => .ok (frz d, ρ.set i (some (frz d))) | none => .bad)
  | .hole, _, _ => .bad
  | .frz e, _, ρ => (ev g e false ρ).bind fun (d, ρ1) => .ok (frz d, ρ1)
  | .fld o f, vw, ρ => (ev g o true ρ).bind fun (od, ρ1) => (match fldD od f with | some d => R.guard (!isPath o || vw || fro d) (.ok (d, ρ1)) | none => .bad)
  | .idx o i, vw, ρ => (ev g o true ρ).bind fun (od, ρ1) => (ev g i true ρ1).bind fun (id, ρ2) => R.guard (safe o od (tch i)) (match idxD od id with | some d => R.guard (!isPath o || vw || fro d) (.ok (d, ρ2)) | none => .bad)
  | .slc o lo hi, _, ρ => (ev g o true ρ).bind fun (od, ρ1) => (match lo with | .hole => R.ok (none, ρ1) | _ => (ev g lo true ρ1).bind pInt).bind fun (l, ρ2) => (match hi with | .hole => R.ok (none, ρ2) | _ => (ev g hi true ρ2).bind pInt).bind fun (h, ρ3) => R.guard (safe o od (tch lo ++ tch hi)) (match slcD od l h with | some d => .ok (d, ρ3) | none => .bad)
  | .bin op a b, _, ρ => (ev g a true ρ).bind fun (x, ρ1) => (ev g b true ρ1).bind fun (y, ρ2) => R.guard (safe a x (tch b)) (match binD op x y with | some d => .ok (d, ρ2) | none => .bad)
  | .un op a, _, ρ => (ev g a true ρ).bind fun (x, ρ1) => (match unD op x with | some d => .ok (d, ρ1) | none => .bad)
  | .chn p q a b c, _, ρ => (ev g a true ρ).bind fun (x, ρ1) => (ev g b true ρ1).bind fun (y, ρ2) => R.guard (safe a x (tch b)) (match binD p x y with
      | some (.bl true) => (ev g c true ρ2).bind fun (z, ρ3) => R.guard (safe b y (tch c)) (match binD q y z with | some d => .ok (d, ρ3) | none => .bad)
      | some (.bl false) => .ok (.bl false, ρ2)
      | _ => .bad)
  | .and a b, _, ρ => (ev g a true ρ).bind fun (x, ρ1) => (match x with | .bl true => (ev g b true ρ1).bind fun (y, ρ2) => (match y with | .bl c => .ok (.bl c, ρ2) | _ => .bad) | .bl false => .ok (.bl false, ρ1) | _ => .bad)
  | .or a b, _, ρ => (ev g a true ρ).bind fun (x, ρ1) => (match x with | .bl false => (ev g b true ρ1).bind fun (y, ρ2) => (match y with | .bl c => .ok (.bl c, ρ2) | _ => .bad) | .bl true => .ok (.bl true, ρ1) | _ => .bad)
  | .ife c a b, _, ρ => (ev g c true ρ).bind fun (x, ρ1) => (match x with | .bl true => ev g a false ρ1 | .bl false => ev g b false ρ1 | _ => .bad)
  | .tup es, _, ρ => (evs g es ρ).bind fun (ds, ρ1) => R.guard (decide (ds.length ≤ LINE)) (.ok (.tup ds, ρ1))
  | .lst es, _, ρ => (evs g es ρ).bind fun (ds, ρ1) => R.guard (decide (ds.length ≤ LINE)) (.ok (.lst .ow ds, ρ1))
  | .fst es, _, ρ => (evF g es [] ρ).bind fun (s, ρ1) => .ok (.str s, ρ1)
  | .lc tg it c e own, _, ρ => (evI g it ρ).bind fun (xs, ρ1) => R.guard (decide (xs.length ≤ LINE) && own.all (fun k => !(tch c ++ tch e).contains k)) ((lcL (fun d ρ' => noX (match bindT tg d (wipeE ρ' own) with
      | some ρ2 => (match c with
          | .hole => (ev g e false ρ2).bind fun (y, ρ3) => .ok (some y, ρ3)
          | _ => (ev g c true ρ2).bind fun (b, ρ3) => (match b with | .bl true => (ev g e false ρ3).bind fun (y, ρ4) => .ok (some y, ρ4) | .bl false => .ok (none, ρ3) | _ => .bad))
      | none => .bad)) xs ρ1).bind fun (ys, ρ2) => .ok (.lst .ow ys, backE ρ1 ρ2 own))
  | .call f as, _, ρ => (evs g as ρ).bind fun (ds, ρ1) => (g.call f ds).bind fun (d, rs) => .ok (d, backA as rs ρ1)
  | .mcall c f o as, _, ρ => (ev g o false ρ).bind fun (od, ρ1) => R.guard (insC od c) ((evs g as ρ1).bind fun (ds, ρ2) => (g.call f (od :: ds)).bind fun (d, rs) => .ok (d, backA (.cons o as) rs ρ2))
  | .make c as, _, ρ => (evs g as ρ).bind fun (ds, ρ1) => (g.call (g.init c) (.ins .ow c [] [] :: ds)).bind fun (d, rs) => (match d, rs with | .non, some self :: rs => .ok (self, backA as rs ρ1) | _, _ => .bad)
  | .isi e t, _, ρ => (ev g e true ρ).bind fun (x, ρ1) => (match isiD x t with | some b => .ok (.bl b, ρ1) | none => .bad)
def evs (g : G) : Es → Env → R (List D × Env)
  | .nil, ρ => .ok ([], ρ)
  | .cons e es, ρ => (ev g e false ρ).bind fun (d, ρ1) => (evs g es ρ1).bind fun (ds, ρ2) => .ok (d :: ds, ρ2)
def evF (g : G) : Es → Tx → Env → R (Tx × Env)
  | .nil, acc, ρ => .ok (acc, ρ)
  | .cons e es, acc, ρ => (ev g e false ρ).bind fun (d, ρ1) => (match partTx d with | some y => R.guard (decide (acc.length + y.length ≤ LINE)) (evF g es (acc ++ y) ρ1) | none => .bad)
def evI (g : G) : It → Env → R (List D × Env)
  | .seq e, ρ => (ev g e true ρ).bind fun (d, ρ1) => (match d with | .lst o xs => R.guard (fros xs && (o.free || !isPath e)) (.ok (xs, ρ1)) | .tup xs => R.guard (fros xs) (.ok (xs, ρ1)) | _ => .bad)
  | .str e, ρ => (ev g e true ρ).bind fun (d, ρ1) => (match d with | .str s => .ok (s.map fun c => .str [c], ρ1) | _ => .bad)
  | .rng e, ρ => (ev g e true ρ).bind fun (d, ρ1) => (match d with | .int n => R.guard (okR n) (.ok ((List.range n.toNat).map fun k => .int (k : Nat), ρ1)) | _ => .bad)
  | .rng2 a b, ρ => (ev g a true ρ).bind fun (x, ρ1) => (ev g b true ρ1).bind fun (y, ρ2) => (match x, y with | .int m, .int n => R.guard (okR m && okR n) (.ok ((List.range (n - m).toNat).map fun k => .int (m + (k : Nat)), ρ2)) | _, _ => .bad)
end

/-! ### statements -/
/-- what leaves the slots as they are -/
def simp : E → Bool
  | .k _ => true | .glob _ => true | .var _ => true | .fld o _ => simp o | .idx o i => simp o && simp i | .bin _ a b => simp a && simp b | .un _ a => simp a | _ => false
inductive Acc where | f (n : Nat) | i (j : Nat)
def fldIx : List Nat → Nat → Option Nat
  | [], _ => none
  | k :: ks, f => if k = f then some 0 else (match fldIx ks f with | some j => some (j + 1) | none => none)
def updA : List Acc → (D → Option D) → D → Option D
  | [], f, d => f d
  | .f n :: r, f, .ins .ow c ks vs => (match fldIx ks n with
      | some j => (match vs[j]? with | some x => (match updA r f x with | some y => some (.ins .ow c ks (vs.set j y)) | none => none) | none => none)
      | none => none)
  | .i j :: r, f, .lst .ow xs => (match xs[j]? with | some x => (match updA r f x with | some y => some (.lst .ow (xs.set j y)) | none => none) | none => none)
  | _, _, _ => none
/-- a path of owned things, its indexes worked out, and what is there -/
def resv (g : G) : E → Env → Option (Nat × List Acc × D)
  | .var i, ρ => (match getS ρ i with | some d => some (i, [], d) | none => none)
  | .fld o f, ρ => (match resv g o ρ with
      | some (r, a, .ins .ow _ ks vs) => (match fldIx ks f with | some j => (match vs[j]? with | some x => some (r, a ++ [.f f], x) | none => none) | none => none)
      | _ => none)
  | .idx o i, ρ => (match resv g o ρ with
      | some (r, a, .lst .ow xs) => (match simp i, ev g i true ρ with
          | true, .ok (.int k, _) => (match ixN xs.length k with | some j => (match xs[j]? with | some x => some (r, a ++ [.i j], x) | none => none) | none => none)
          | _, _ => none)
      | _ => none)
  | _, _ => none
def updP (ρ : Env) (r : Nat) (a : List Acc) (f : D → Option D) : Option Env := match getS ρ r with
  | some d => (match updA a f d with | some d' => some (ρ.set r (some d')) | none => none)
  | none => none
/-- what is done to the thing at a path -/
def putI (i d : D) : D → Option D
  | .lst .ow xs => (match i with | .int k => (match ixN xs.length k with | some j => some (.lst .ow (xs.set j d)) | none => none) | _ => none)
  | _ => none
def putF (f : Nat) (d : D) : D → Option D
  | .ins .ow c ks vs => if ks.length < 900 then (match fldIx ks f with
      | some j => some (.ins .ow c ks (vs.set j d))
      | none => some (.ins .ow c (ks ++ [f]) (vs ++ [d]))) else none
  | _ => none
def putA (d : D) : D → Option D
  | .lst .ow xs => if xs.length < LINE then some (.lst .ow (xs ++ [d])) else none
  | _ => none
inductive Flow where | nx | bk | ct | rt (d : D)
def whlL (c : Env → R (Bool × Env)) (b : Env → R (Flow × Env)) (w : List Nat) : Nat → Env → R (Flow × Env)
  | 0, _ => .bad
  | n + 1, ρ => (c ρ).bind fun (t, ρ1) => (match t with
      | true => (b ρ1).bind fun (fl, ρ2) => (match fl with | .nx => whlL c b w n (wipeE ρ2 w) | .ct => whlL c b w n (wipeE ρ2 w) | .bk => .ok (.nx, wipeE ρ2 w) | .rt d => .ok (.rt d, ρ2))
      | false => .ok (.nx, ρ1))
def forL (f : D → Env → R (Flow × Env)) (w : List Nat) : List D → Env → R (Flow × Env)
  | [], ρ => .ok (.nx, ρ)
  | x :: xs, ρ => (f x ρ).bind fun (fl, ρ1) => (match fl with | .nx => forL f w xs (wipeE ρ1 w) | .ct => forL f w xs (wipeE ρ1 w) | .bk => .ok (.nx, wipeE ρ1 w) | .rt d => .ok (.rt d, ρ1))
def FUEL : Nat := 18446744073709551616
def setAll : List Nat → List D → Env → Option Env
  | [], [], ρ => some ρ
  | i :: is, d :: ds, ρ => if i < ρ.length then setAll is ds (ρ.set i (some d)) else none
  | _, _, _ => none
def tBl : D × Env → R (Bool × Env)
  | (.bl b, ρ) => .ok (b, ρ)
  | _ => .bad
/-- numbers -/
def plainD : D → Bool
  | .int _ => true | _ => false
/-- the clause's value: constants and the error's place -/
def hTup (p : D) (h : List (Option D)) : List D := h.map fun o => match o with | some d => d | none => p
def exec (g : G) : S → Env → R (Flow × Env)
  | .skip, ρ => .ok (.nx, ρ)
  | .seq a b, ρ => (exec g a ρ).bind fun (fl, ρ1) => (match fl with | .nx => exec g b ρ1 | fl => .ok (fl, ρ1))
  | .asg i e, ρ => (ev g e false ρ).bind fun (d, ρ1) => R.guard (decide (i < ρ1.length)) (.ok (.nx, ρ1.set i (some d)))
  | .par ts es, ρ => (evs g es ρ).bind fun (ds, ρ1) => (match setAll ts ds ρ1 with | some ρ2 => .ok (.nx, ρ2) | none => .bad)
  | .unp tg e, ρ => (ev g e true ρ).bind fun (d, ρ1) => (match bindT tg d ρ1 with | some ρ2 => .ok (.nx, ρ2) | none => .bad)
  | .setI p i e, ρ => (ev g e false ρ).bind fun (d, ρ1) => R.guard (simp i && isPath p) (match resv g p ρ1, ev g i true ρ1 with
      | some (r, a, _), .ok (k, _) => (match updP ρ1 r a (putI k d) with | some ρ2 => .ok (.nx, ρ2) | none => .bad)
      | _, _ => .bad)
  | .unpI p i ts e, ρ => (ev g e true ρ).bind fun (v, ρ1) => (match v with
      | .tup (d :: ds) => R.guard (fros (d :: ds) && (simp i && isPath p)) (match resv g p ρ1, ev g i true ρ1 with
          | some (r, a, _), .ok (k, _) => (match updP ρ1 r a (putI k d) with
              | some ρ2 => (match bindTs ts ds ρ2 with | some ρ3 => .ok (.nx, ρ3) | none => .bad)
              | none => .bad)
          | _, _ => .bad)
      | _ => .bad)
  | .setF p f e, ρ => (ev g e false ρ).bind fun (d, ρ1) => R.guard (isPath p) (match resv g p ρ1 with
      | some (r, a, _) => (match updP ρ1 r a (putF f d) with | some ρ2 => .ok (.nx, ρ2) | none => .bad)
      | none => .bad)
  | .aug i op e, ρ => (match getS ρ i with
      | some x => (ev g e false ρ).bind fun (y, ρ1) => R.guard (plainD x && !(tch e).contains i) (match binD op x y with | some d => .ok (.nx, ρ1.set i (some d)) | none => .bad)
      | none => .bad)
  | .augF p f op e, ρ => R.guard (isPath p && simp e) (match resv g p ρ, ev g e true ρ with
      | some (r, a, o), .ok (y, _) => (match fldD o f with
          | some x => R.guard (plainD x) (match binD op x y with | some d => (match updP ρ r a (putF f d) with | some ρ2 => .ok (.nx, ρ2) | none => .bad) | none => .bad)
          | none => .bad)
      | _, _ => .bad)
  | .app p e, ρ => R.guard (isPath p && !(tch e).contains (root p)) (match resv g p ρ with
      | some (r, a, .lst .ow _) => (ev g e false ρ).bind fun (d, ρ1) => (match updP ρ1 r a (putA d) with | some ρ2 => .ok (.nx, ρ2) | none => .bad)
      | _ => .bad)
  | .drop e, ρ => (ev g e false ρ).bind fun (_, ρ1) => .ok (.nx, ρ1)
  | .ife c a b, ρ => ((ev g c true ρ).bind tBl).bind fun (t, ρ1) => (match t with | true => exec g a ρ1 | false => exec g b ρ1)
  | .whl c b w, ρ => whlL (fun ρ1 => (ev g c true ρ1).bind tBl) (exec g b) w FUEL ρ
  | .fore tg it b w, ρ => (evI g it ρ).bind fun (xs, ρ1) => forL (fun d ρ2 => match bindT tg d ρ2 with | some ρ3 => exec g b ρ3 | none => .bad) w xs ρ1
  | .ret e, ρ => (ev g e false ρ).bind fun (d, ρ1) => .ok (.rt d, ρ1)
  | .retN, ρ => .ok (.rt .non, ρ)
  | .brk, ρ => .ok (.bk, ρ)
  | .cnt, ρ => .ok (.ct, ρ)
  | .raise c e, ρ => (ev g e false ρ).bind fun (d, _) => R.guard (fro d) (.exn c d)
  | .tryx b c i h, ρ => R.guard (decide (i < ρ.length) && decide (h.length ≤ 1000)) (match exec g b ρ with
      | .exn c' p => (match g.sub c' c with | true => .ok (.rt (.tup (hTup p h)), ρ.map fun _ => none) | false => .exn c' p)
      | r => r)
end Ev

/-! How a tree stands in the heap; who owns what; the slots. -/
namespace Ev
open PySem PySem.Spec PyProof.Rows L2
abbrev tx (s : Tx) : Str := ⟨s.toArray⟩
/-- where the classes stand, how the fields are called -/
structure Nm where
  cls : Nat → Addr
  xc : Nat → Addr
  fld : Nat → Str
/-- who owns an address: nobody, and it is never changed again; somebody further out; the slot i; a value on the way -/
inductive Own where | fz | far | sl (i : Nat) | tp (k : Nat)
  deriving DecidableEq
def KT (K : PySem.W.Frag) (a : Addr) (xs : List V) : Prop := ∃ (o : Obj) (its : Array Value) (n : Nat), K.lookup a = some o ∧ o.cls = .type "tuple" ∧ o.data = .seq its n ∧ its.size ≤ sizeLine ∧ Vals xs its.toList
def KL (K : PySem.W.Frag) (a : Addr) (xs : List V) : Prop := ∃ (o : Obj) (its : Array Value) (n : Nat), K.lookup a = some o ∧ o.cls = .type "list" ∧ o.dict = none ∧ o.data = .seq its n ∧ its.size ≤ sizeLine ∧ Vals xs its.toList
def TupR (K : PySem.W.Frag) (H : Hp) (own : Addr → Own) (a : Addr) (xs : List V) : Prop := (H a = some (.tup xs) ∧ own a = .fz) ∨ KT K a xs
def LstR (K : PySem.W.Frag) (H : Hp) (own : Addr → Own) (a : Addr) (xs : List V) : Prop := (Rd H a (.lst xs) ∧ own a = .fz) ∨ KL K a xs
theorem TupR.sq {K : PySem.W.Frag} {H : Hp} {own : Addr → Own} {a : Addr} {xs : List V} (h : TupR K H own a xs) : SqT K H a xs := by
  rcases h with h | h
  · exact .inl (.inl h.1)
  · exact .inr h
theorem LstR.sq {K : PySem.W.Frag} {H : Hp} {own : Addr → Own} {a : Addr} {xs : List V} (h : LstR K H own a xs) : SqL K H a xs := by
  rcases h with h | h
  · exact .inl h.1
  · exact .inr h
section
variable (K : PySem.W.Frag) (N : Nm) (H : Hp) (own : Addr → Own) (t : Own)
mutual
/-- the value v is the tree d; F: what is owned in it, held by t -/
def Rep : D → V → List Addr → Prop
  | .non, v, F => v = .non ∧ F = []
  | .bl b, v, F => v = .bl b ∧ F = []
  | .int i, v, F => v = .int i ∧ F = []
  | .str s, v, F => v = .str (tx s) ∧ F = []
  | .tup ds, v, F => ∃ a vs, v = .ref a ∧ TupR K H own a vs ∧ Reps ds vs F
  | .lst .ro ds, v, F => ∃ a vs, v = .ref a ∧ LstR K H own a vs ∧ F = [] ∧ Reps ds vs []
  | .lst .sh ds, v, F => ∃ a vs, v = .ref a ∧ H a = some (.lst vs) ∧ own a = .fz ∧ F = [] ∧ Reps ds vs []
  | .lst .ow ds, v, F => ∃ a vs F', v = .ref a ∧ H a = some (.lst vs) ∧ own a = t ∧ F = a :: F' ∧ Reps ds vs F'
  | .ins .ow c ks ds, v, F => ∃ a dx fs F', v = .ref a ∧ H a = some (.ins (N.cls c) dx fs) ∧ own a = t ∧ F = a :: F' ∧ fs.map (·.1) = ks.map N.fld ∧ Reps ds (fs.map (·.2)) F'
  | .ins _ c ks ds, v, F => ∃ a dx fs, v = .ref a ∧ H a = some (.ins (N.cls c) dx fs) ∧ own a = .fz ∧ F = [] ∧ fs.map (·.1) = ks.map N.fld ∧ Reps ds (fs.map (·.2)) []
def Reps : List D → List V → List Addr → Prop
  | [], vs, F => vs = [] ∧ F = []
  | d :: ds, vs, F => ∃ v vs' F1 F2, vs = v :: vs' ∧ F = F1 ++ F2 ∧ Rep d v F1 ∧ Reps ds vs' F2
end
end
/-- what is kept where the slots M are touched -/
def Kp (M : List Nat) (own : Addr → Own) (H : Hp) (own' : Addr → Own) (H' : Hp) : Prop := ∀ a o, H a = some o → (∀ i ∈ M, own a ≠ .sl i) → H' a = some o ∧ own' a = own a
/-- what nobody here owns is kept -/
def KpF (own : Addr → Own) (H : Hp) (own' : Addr → Own) (H' : Hp) : Prop := ∀ a o, H a = some o → (own a = .fz ∨ own a = .far) → H' a = some o ∧ own' a = own a
section
variable {K : PySem.W.Frag} {N : Nm} {H H' H1 H2 : Hp} {own own' own1 own2 : Addr → Own} {t t' : Own} {M M' : List Nat}
theorem Kp.refl : Kp M own H own H := fun _ _ h _ => ⟨h, rfl⟩
theorem Kp.trans (h1 : Kp M own H own1 H1) (h2 : Kp M' own1 H1 own2 H2) : Kp (M ++ M') own H own2 H2 := fun a o h n => by
  obtain ⟨e1, e2⟩ := h1 a o h fun i hi => n i (List.mem_append_left _ hi)
  obtain ⟨e3, e4⟩ := h2 a o e1 fun i hi => by rw [e2]; exact n i (List.mem_append_right _ hi)
  exact ⟨e3, e4.trans e2⟩
theorem Kp.f (h : Kp M own H own' H') : KpF own H own' H' := fun a o e z => h a o e fun i _ q => by
  rcases z with z | z <;> (rw [z] at q; cases q)
theorem KpF.refl : KpF own H own H := fun _ _ h _ => ⟨h, rfl⟩
theorem KpF.trans (h1 : KpF own H own1 H1) (h2 : KpF own1 H1 own2 H2) : KpF own H own2 H2 := fun a o h z => by
  obtain ⟨e1, e2⟩ := h1 a o h z
  obtain ⟨e3, e4⟩ := h2 a o e1 (by rw [e2]; exact z)
  exact ⟨e3, e4.trans e2⟩
theorem KpF.zero (h : KpF own H own' H') {a : Addr} {o : HO} (e : H a = some o) (z : own a = .fz) : H' a = some o ∧ own' a = .fz := by
  obtain ⟨e1, e2⟩ := h a o e (.inl z)
  exact ⟨e1, e2.trans z⟩
theorem Kp.mono (h : Kp M own H own' H') (s : ∀ i ∈ M, i ∈ M') : Kp M' own H own' H' := fun a o e n => h a o e fun i hi => n i (s i hi)

/-- what is frozen stays -/
def KpZ (own : Addr → Own) (H : Hp) (own' : Addr → Own) (H' : Hp) : Prop := ∀ a o, H a = some o → own a = .fz → H' a = some o ∧ own' a = .fz
theorem KpF.z (h : KpF own H own' H') : KpZ own H own' H' := fun a o e z => h.zero e z
theorem rd_keep {a : Addr} {u : HO} (h : Rd H a u) (k : ∀ o, H a = some o → H' a = some o) : Rd H' a u := by
  rcases h with h | ⟨o, h⟩
  · exact .inl (k _ h)
  · exact .inr ⟨o, k _ h⟩
theorem TupR.extZ {a : Addr} {xs : List V} (h : TupR K H own a xs) (k : KpZ own H own' H') : TupR K H' own' a xs := by
  rcases h with ⟨h, z⟩ | h
  · exact .inl (k _ _ h z)
  · exact .inr h
theorem LstR.extZ {a : Addr} {xs : List V} (h : LstR K H own a xs) (k : KpZ own H own' H') : LstR K H' own' a xs := by
  rcases h with ⟨h, z⟩ | h
  · refine .inl ⟨rd_keep h fun o e => (k _ _ e z).1, ?_⟩
    rcases h with h | ⟨o, h⟩
    · exact (k _ _ h z).2
    · exact (k _ _ h z).2
  · exact .inr h
theorem TupR.ext {a : Addr} {xs : List V} (h : TupR K H own a xs) (k : KpF own H own' H') : TupR K H' own' a xs := h.extZ k.z
theorem LstR.ext {a : Addr} {xs : List V} (h : LstR K H own a xs) (k : KpF own H own' H') : LstR K H' own' a xs := h.extZ k.z
mutual
/-- carried over: what is frozen stays, and what is owned stays and is held by t' -/
theorem Rep.carryZ (k : KpZ own H own' H') : ∀ (d : D) {v : V} {F : List Addr}, Rep K N H own t d v F → (∀ a ∈ F, ∀ o, H a = some o → H' a = some o ∧ own' a = t') → Rep K N H' own' t' d v F
  | .non, _, _, h, _ => h
  | .bl _, _, _, h, _ => h
  | .int _, _, _, h, _ => h
  | .str _, _, _, h, _ => h
  | .tup ds, _, _, h, q => by
    obtain ⟨a, vs, e, ht, hr⟩ := h
    exact ⟨a, vs, e, ht.extZ k, Reps.carryZ k ds hr q⟩
  | .lst .ro ds, _, _, h, q => by
    obtain ⟨a, vs, e, ht, eF, hr⟩ := h
    exact ⟨a, vs, e, ht.extZ k, eF, Reps.carryZ k ds hr fun a ha => nomatch ha⟩
  | .lst .sh ds, _, _, h, q => by
    obtain ⟨a, vs, e, ht, z, eF, hr⟩ := h
    obtain ⟨h1, z1⟩ := k _ _ ht z
    exact ⟨a, vs, e, h1, z1, eF, Reps.carryZ k ds hr fun a ha => nomatch ha⟩
  | .lst .ow ds, _, _, h, q => by
    obtain ⟨a, vs, F', e, ht, z, eF, hr⟩ := h
    subst eF
    obtain ⟨h1, z1⟩ := q a List.mem_cons_self _ ht
    exact ⟨a, vs, F', e, h1, z1, rfl, Reps.carryZ k ds hr fun b hb => q b (List.mem_cons_of_mem _ hb)⟩
  | .ins .ow c ks ds, _, _, h, q => by
    obtain ⟨a, dx, fs, F', e, ht, z, eF, en, hr⟩ := h
    subst eF
    obtain ⟨h1, z1⟩ := q a List.mem_cons_self _ ht
    exact ⟨a, dx, fs, F', e, h1, z1, rfl, en, Reps.carryZ k ds hr fun b hb => q b (List.mem_cons_of_mem _ hb)⟩
  | .ins .sh c ks ds, _, _, h, q => by
    obtain ⟨a, dx, fs, e, ht, z, eF, en, hr⟩ := h
    obtain ⟨h1, z1⟩ := k _ _ ht z
    exact ⟨a, dx, fs, e, h1, z1, eF, en, Reps.carryZ k ds hr fun a ha => nomatch ha⟩
  | .ins .ro c ks ds, _, _, h, q => by
    obtain ⟨a, dx, fs, e, ht, z, eF, en, hr⟩ := h
    obtain ⟨h1, z1⟩ := k _ _ ht z
    exact ⟨a, dx, fs, e, h1, z1, eF, en, Reps.carryZ k ds hr fun a ha => nomatch ha⟩
theorem Reps.carryZ (k : KpZ own H own' H') : ∀ (ds : List D) {vs : List V} {F : List Addr}, Reps K N H own t ds vs F → (∀ a ∈ F, ∀ o, H a = some o → H' a = some o ∧ own' a = t') → Reps K N H' own' t' ds vs F
  | [], _, _, h, _ => h
  | d :: ds, _, _, h, q => by
    obtain ⟨v, vs', F1, F2, e, eF, h1, h2⟩ := h
    subst eF
    exact ⟨v, vs', F1, F2, e, rfl, Rep.carryZ k d h1 fun a ha => q a (List.mem_append_left _ ha), Reps.carryZ k ds h2 fun a ha => q a (List.mem_append_right _ ha)⟩
end
theorem Rep.carry (k : KpF own H own' H') (d : D) {v : V} {F : List Addr} (h : Rep K N H own t d v F) (q : ∀ a ∈ F, ∀ o, H a = some o → H' a = some o ∧ own' a = t') : Rep K N H' own' t' d v F := Rep.carryZ k.z d h q
theorem Reps.carry (k : KpF own H own' H') (ds : List D) {vs : List V} {F : List Addr} (h : Reps K N H own t ds vs F) (q : ∀ a ∈ F, ∀ o, H a = some o → H' a = some o ∧ own' a = t') : Reps K N H' own' t' ds vs F := Reps.carryZ k.z ds h q
mutual
theorem Rep.owned : ∀ (d : D) {v : V} {F : List Addr}, Rep K N H own t d v F → ∀ a ∈ F, own a = t ∧ ∃ o, H a = some o
  | .non, _, _, h => by rw [h.2]; exact fun a ha => nomatch ha
  | .bl _, _, _, h => by rw [h.2]; exact fun a ha => nomatch ha
  | .int _, _, _, h => by rw [h.2]; exact fun a ha => nomatch ha
  | .str _, _, _, h => by rw [h.2]; exact fun a ha => nomatch ha
  | .tup ds, _, _, h => by
    obtain ⟨a, vs, e, ht, hr⟩ := h
    exact Reps.owned ds hr
  | .lst .ro ds, _, _, h => by
    obtain ⟨a, vs, e, ht, eF, hr⟩ := h
    rw [eF]; exact fun a ha => nomatch ha
  | .lst .sh ds, _, _, h => by
    obtain ⟨a, vs, e, ht, z, eF, hr⟩ := h
    rw [eF]; exact fun a ha => nomatch ha
  | .lst .ow ds, _, _, h => by
    obtain ⟨a, vs, F', e, ht, z, eF, hr⟩ := h
    subst eF
    intro b hb
    rcases List.mem_cons.mp hb with e | hb
    · subst e; exact ⟨z, _, ht⟩
    · exact Reps.owned ds hr b hb
  | .ins .ow c ks ds, _, _, h => by
    obtain ⟨a, dx, fs, F', e, ht, z, eF, en, hr⟩ := h
    subst eF
    intro b hb
    rcases List.mem_cons.mp hb with e | hb
    · subst e; exact ⟨z, _, ht⟩
    · exact Reps.owned ds hr b hb
  | .ins .sh c ks ds, _, _, h => by
    obtain ⟨a, dx, fs, e, ht, z, eF, en, hr⟩ := h
    rw [eF]; exact fun a ha => nomatch ha
  | .ins .ro c ks ds, _, _, h => by
    obtain ⟨a, dx, fs, e, ht, z, eF, en, hr⟩ := h
    rw [eF]; exact fun a ha => nomatch ha
theorem Reps.owned : ∀ (ds : List D) {vs : List V} {F : List Addr}, Reps K N H own t ds vs F → ∀ a ∈ F, own a = t ∧ ∃ o, H a = some o
  | [], _, _, h => by rw [h.2]; exact fun a ha => nomatch ha
  | d :: ds, _, _, h => by
    obtain ⟨v, vs', F1, F2, e, eF, h1, h2⟩ := h
    subst eF
    intro a ha
    rcases List.mem_append.mp ha with ha | ha
    · exact Rep.owned d h1 a ha
    · exact Reps.owned ds h2 a ha
end
mutual
theorem Rep.fro : ∀ (d : D) {v : V} {F : List Addr}, Rep K N H own t d v F → Ev.fro d = true → F = []
  | .non, _, _, h, _ => h.2
  | .bl _, _, _, h, _ => h.2
  | .int _, _, _, h, _ => h.2
  | .str _, _, _, h, _ => h.2
  | .tup ds, _, _, h, f => by
    obtain ⟨a, vs, e, ht, hr⟩ := h
    exact Reps.fros ds hr f
  | .lst .ro ds, _, _, h, f => by
    obtain ⟨a, vs, e, ht, eF, hr⟩ := h
    exact eF
  | .lst .sh ds, _, _, h, f => by
    obtain ⟨a, vs, e, ht, z, eF, hr⟩ := h
    exact eF
  | .lst .ow ds, _, _, h, f => by simp [Ev.fro] at f
  | .ins .ow c ks ds, _, _, h, f => by simp [Ev.fro] at f
  | .ins .sh c ks ds, _, _, h, f => by
    obtain ⟨a, dx, fs, e, ht, z, eF, en, hr⟩ := h
    exact eF
  | .ins .ro c ks ds, _, _, h, f => by
    obtain ⟨a, dx, fs, e, ht, z, eF, en, hr⟩ := h
    exact eF
theorem Reps.fros : ∀ (ds : List D) {vs : List V} {F : List Addr}, Reps K N H own t ds vs F → Ev.fros ds = true → F = []
  | [], _, _, h, _ => h.2
  | d :: ds, _, _, h, f => by
    obtain ⟨v, vs', F1, F2, e, eF, h1, h2⟩ := h
    simp only [Ev.fros, Bool.and_eq_true] at f
    rw [eF, Rep.fro d h1 f.1, Reps.fros ds h2 f.2]
    rfl
end
mutual
/-- frozen where it stands -/
theorem Rep.frz (k : KpF own H own' H) : ∀ (d : D) {v : V} {F : List Addr}, Rep K N H own t d v F → (∀ a ∈ F, own' a = .fz) → Rep K N H own' t' (Ev.frz d) v []
  | .non, _, _, h, _ => ⟨h.1, rfl⟩
  | .bl _, _, _, h, _ => ⟨h.1, rfl⟩
  | .int _, _, _, h, _ => ⟨h.1, rfl⟩
  | .str _, _, _, h, _ => ⟨h.1, rfl⟩
  | .tup ds, _, _, h, q => by
    obtain ⟨a, vs, e, ht, hr⟩ := h
    exact ⟨a, vs, e, ht.ext k, Reps.frz k ds hr q⟩
  | .lst .ro ds, _, _, h, q => by
    obtain ⟨a, vs, e, ht, eF, hr⟩ := h
    exact ⟨a, vs, e, ht.ext k, rfl, Reps.frz k ds hr fun a ha => nomatch ha⟩
  | .lst .sh ds, _, _, h, q => by
    obtain ⟨a, vs, e, ht, z, eF, hr⟩ := h
    exact ⟨a, vs, e, ht, (k.zero ht z).2, rfl, Reps.frz k ds hr fun a ha => nomatch ha⟩
  | .lst .ow ds, _, _, h, q => by
    obtain ⟨a, vs, F', e, ht, z, eF, hr⟩ := h
    subst eF
    exact ⟨a, vs, e, ht, q a List.mem_cons_self, rfl, Reps.frz k ds hr fun b hb => q b (List.mem_cons_of_mem _ hb)⟩
  | .ins .ow c ks ds, _, _, h, q => by
    obtain ⟨a, dx, fs, F', e, ht, z, eF, en, hr⟩ := h
    subst eF
    exact ⟨a, dx, fs, e, ht, q a List.mem_cons_self, rfl, en, Reps.frz k ds hr fun b hb => q b (List.mem_cons_of_mem _ hb)⟩
  | .ins .sh c ks ds, _, _, h, q => by
    obtain ⟨a, dx, fs, e, ht, z, eF, en, hr⟩ := h
    exact ⟨a, dx, fs, e, ht, (k.zero ht z).2, rfl, en, Reps.frz k ds hr fun a ha => nomatch ha⟩
  | .ins .ro c ks ds, _, _, h, q => by
    obtain ⟨a, dx, fs, e, ht, z, eF, en, hr⟩ := h
    exact ⟨a, dx, fs, e, ht, (k.zero ht z).2, rfl, en, Reps.frz k ds hr fun a ha => nomatch ha⟩
theorem Reps.frz (k : KpF own H own' H) : ∀ (ds : List D) {vs : List V} {F : List Addr}, Reps K N H own t ds vs F → (∀ a ∈ F, own' a = .fz) → Reps K N H own' t' (Ev.frzs ds) vs []
  | [], _, _, h, _ => ⟨h.1, rfl⟩
  | d :: ds, _, _, h, q => by
    obtain ⟨v, vs', F1, F2, e, eF, h1, h2⟩ := h
    subst eF
    exact ⟨v, vs', [], [], e, rfl, Rep.frz k d h1 fun a ha => q a (List.mem_append_left _ ha), Reps.frz k ds h2 fun a ha => q a (List.mem_append_right _ ha)⟩
end
mutual
theorem fro_frz : ∀ d : D, Ev.fro (Ev.frz d) = true
  | .non => rfl | .bl _ => rfl | .int _ => rfl | .str _ => rfl
  | .tup ds => by simp only [Ev.frz, Ev.fro]; exact fros_frz ds
  | .lst .ro ds => by simp only [Ev.frz, Ev.fro]; exact fros_frz ds
  | .lst .sh ds => by simp only [Ev.frz, Ev.fro]; exact fros_frz ds
  | .lst .ow ds => by simp only [Ev.frz, Ev.fro]; exact fros_frz ds
  | .ins .ro _ _ ds => by simp only [Ev.frz, Ev.fro]; exact fros_frz ds
  | .ins .sh _ _ ds => by simp only [Ev.frz, Ev.fro]; exact fros_frz ds
  | .ins .ow _ _ ds => by simp only [Ev.frz, Ev.fro]; exact fros_frz ds
theorem fros_frz : ∀ ds : List D, Ev.fros (Ev.frzs ds) = true
  | [] => rfl
  | d :: ds => by simp only [Ev.frzs, Ev.fros, fro_frz d, fros_frz ds, Bool.and_self]
end
/-- a frozen tree is nobody's: its holder does not matter -/
theorem Rep.ofFro {d : D} {v : V} {F : List Addr} (h : Rep K N H own t d v F) (f : Ev.fro d = true) : Rep K N H own t' d v [] := by
  have e := Rep.fro d h f
  subst e
  exact Rep.carry (KpF.refl) d h fun a ha => nomatch ha
theorem Reps.ofFros {ds : List D} {vs : List V} {F : List Addr} (h : Reps K N H own t ds vs F) (f : Ev.fros ds = true) : Reps K N H own t' ds vs [] := by
  have e := Reps.fros ds h f
  subst e
  exact Reps.carry (KpF.refl) ds h fun a ha => nomatch ha
/-- kept, the slot of its holder not touched -/
theorem Rep.keep {d : D} {v : V} {F : List Addr} (h : Rep K N H own t d v F) (k : Kp M own H own' H') (nt : ∀ i ∈ M, t ≠ .sl i) : Rep K N H' own' t d v F :=
  Rep.carry k.f d h fun a ha o e => by
    obtain ⟨z, _⟩ := Rep.owned d h a ha
    obtain ⟨e1, e2⟩ := k a o e fun i hi => by rw [z]; exact nt i hi
    exact ⟨e1, e2.trans z⟩
/-! ### lists of trees -/
theorem Reps.length : ∀ {ds : List D} {vs : List V} {F : List Addr}, Reps K N H own t ds vs F → vs.length = ds.length
  | [], _, _, h => by rw [h.1]; rfl
  | d :: ds, _, _, h => by
    obtain ⟨v, vs', F1, F2, e, eF, h1, h2⟩ := h
    rw [e, List.length_cons, List.length_cons, Reps.length h2]
theorem Reps.get : ∀ {ds : List D} {vs : List V} {F : List Addr} {j : Nat} {d : D}, Reps K N H own t ds vs F → ds[j]? = some d → ∃ v F', vs[j]? = some v ∧ Rep K N H own t d v F' ∧ (F.Nodup → F'.Nodup) ∧ (∀ a ∈ F', a ∈ F)
  | [], _, _, _, _, _, e => by simp at e
  | d :: ds, _, _, 0, d', h, e => by
    obtain ⟨v, vs', F1, F2, e1, eF, h1, h2⟩ := h
    simp at e
    subst e; subst e1; subst eF
    exact ⟨v, F1, rfl, h1, fun n => (List.nodup_append.mp n).1, fun a ha => List.mem_append_left _ ha⟩
  | d :: ds, _, _, j + 1, d', h, e => by
    obtain ⟨v, vs', F1, F2, e1, eF, h1, h2⟩ := h
    subst e1; subst eF
    obtain ⟨w, F', g1, g2, g3, g4⟩ := Reps.get (j := j) h2 (by simpa using e)
    exact ⟨w, F', by simpa using g1, g2, fun n => g3 (List.nodup_append.mp n).2.1, fun a ha => List.mem_append_right _ (g4 a ha)⟩
theorem Reps.append : ∀ {ds es : List D} {vs ws : List V} {F G : List Addr}, Reps K N H own t ds vs F → Reps K N H own t es ws G → Reps K N H own t (ds ++ es) (vs ++ ws) (F ++ G)
  | [], _, _, _, _, _, h, g => by
    obtain ⟨rfl, rfl⟩ := h
    exact g
  | d :: ds, _, _, _, _, _, h, g => by
    obtain ⟨v, vs', F1, F2, e1, eF, h1, h2⟩ := h
    subst e1; subst eF
    exact ⟨v, vs' ++ _, F1, F2 ++ _, rfl, by rw [List.append_assoc], h1, Reps.append h2 g⟩
theorem Reps.one {d : D} {v : V} {F : List Addr} (h : Rep K N H own t d v F) : Reps K N H own t [d] [v] F := ⟨v, [], F, [], rfl, (List.append_nil F).symm, h, rfl, rfl⟩
/-- frozen parts: taken, dropped -/
theorem Reps.take : ∀ (n : Nat) {ds : List D} {vs : List V}, Reps K N H own t ds vs [] → Reps K N H own t (ds.take n) (vs.take n) []
  | 0, ds, vs, h => by simp [Reps]
  | n + 1, [], vs, h => by obtain ⟨rfl, _⟩ := h; simp [Reps]
  | n + 1, d :: ds, vs, h => by
    obtain ⟨v, vs', F1, F2, e1, eF, h1, h2⟩ := h
    obtain ⟨rfl, rfl⟩ := List.append_eq_nil_iff.mp eF.symm
    subst e1
    exact ⟨v, vs'.take n, [], [], by simp, rfl, h1, Reps.take n h2⟩
theorem Reps.drop : ∀ (n : Nat) {ds : List D} {vs : List V}, Reps K N H own t ds vs [] → Reps K N H own t (ds.drop n) (vs.drop n) []
  | 0, ds, vs, h => by simpa using h
  | n + 1, [], vs, h => by obtain ⟨rfl, _⟩ := h; simp [Reps]
  | n + 1, d :: ds, vs, h => by
    obtain ⟨v, vs', F1, F2, e1, eF, h1, h2⟩ := h
    obtain ⟨rfl, rfl⟩ := List.append_eq_nil_iff.mp eF.symm
    subst e1
    simpa using Reps.drop n h2
end

/-! ### the slots -/
structure EnvOk (K : PySem.W.Frag) (N : Nm) (own : Addr → Own) (σ : L2.St) (H : Hp) (ρ : Env) (t : Nat) : Prop where
  len : σ.length = ρ.length
  bnd : ∀ a k, own a = .tp k → k < t
  sl : ∀ i d, getS ρ i = some d → ∃ v F, σ[i]? = some (some v) ∧ Rep K N H own (.sl i) d v F ∧ F.Nodup
theorem getS_lt {ρ : Env} {i : Nat} {d : D} (h : getS ρ i = some d) : i < ρ.length := by
  unfold getS at h
  cases e : ρ[i]? with
  | none => rw [e] at h; cases h
  | some o => exact (List.getElem?_eq_some_iff.mp e).1
theorem getS_set_self {ρ : Env} {i : Nat} {o : Option D} (h : i < ρ.length) : getS (ρ.set i o) i = o := by
  unfold getS
  rw [List.getElem?_set_self h]
  cases o <;> rfl
theorem getS_set_ne {ρ : Env} {i j : Nat} {o : Option D} (h : i ≠ j) : getS (ρ.set i o) j = getS ρ j := by
  unfold getS
  rw [List.getElem?_set_ne h]
theorem getS_none {ρ : Env} {i j : Nat} {d : D} (h : getS (ρ.set i none) j = some d) : getS ρ j = some d ∧ j ≠ i := by
  by_cases e : i = j
  · subst e
    have hl := getS_lt h
    rw [List.length_set] at hl
    rw [getS_set_self hl] at h
    cases h
  · rw [getS_set_ne e] at h
    exact ⟨h, fun z => e z.symm⟩
/-- values on the way from t on are let go -/
def cutO (own : Addr → Own) (t : Nat) : Addr → Own := fun a => match own a with | .tp k => if k < t then .tp k else .fz | o => o
section
variable {K : PySem.W.Frag} {N : Nm} {H H' H1 H2 : Hp} {own own' own1 own2 : Addr → Own} {t t' : Nat} {M M' : List Nat} {σ : L2.St} {ρ ρ' : Env}
theorem cutO_lt {a : Addr} {k : Nat} (h : cutO own t a = .tp k) : k < t := by
  unfold cutO at h
  split at h
  · split at h
    · cases h; assumption
    · cases h
  · rename_i hn
    exact absurd h (hn k)
theorem cutO_of {a : Addr} (h : ∀ k, own a = .tp k → k < t) : cutO own t a = own a := by
  unfold cutO
  split
  · rename_i k e
    rw [if_pos (h k e), e]
  · rfl
/-- the slots over another heap and other owners, where what they hold is kept -/
theorem EnvOk.move (e : EnvOk K N own σ H ρ t) (bnd : ∀ a k, own' a = .tp k → k < t') (kf : KpF own H own' H') (k : ∀ a o i, H a = some o → own a = .sl i → i < ρ.length → H' a = some o ∧ own' a = .sl i) : EnvOk K N own' σ H' ρ t' :=
  ⟨e.len, bnd, fun i d h => by
    obtain ⟨v, F, e1, r, n⟩ := e.sl i d h
    refine ⟨v, F, e1, Rep.carry kf d r fun a ha o ho => ?_, n⟩
    obtain ⟨z, _⟩ := Rep.owned d r a ha
    exact k a o i ho z (getS_lt h)⟩
theorem EnvOk.cut (e : EnvOk K N own σ H ρ t) (t' : Nat) : EnvOk K N (cutO own t') σ H ρ t' :=
  e.move (fun a k h => cutO_lt h) (fun a o h1 z => ⟨h1, cutO_of fun k q => by rcases z with z | z <;> (rw [z] at q; cases q)⟩) fun a o i h1 z hi => ⟨h1, (cutO_of fun k q => by rw [z] at q; cases q).trans z⟩
theorem EnvOk.up (e : EnvOk K N own σ H ρ t) (h : t ≤ t') : EnvOk K N own σ H ρ t' :=
  ⟨e.len, fun a k q => Nat.lt_of_lt_of_le (e.bnd a k q) h, e.sl⟩
/-- kept, nothing touched -/
theorem EnvOk.keep (e : EnvOk K N own σ H ρ t) (bnd : ∀ a k, own' a = .tp k → k < t') (k : Kp [] own H own' H') : EnvOk K N own' σ H' ρ t' :=
  e.move bnd k.f fun a o i h1 z _ => by
    obtain ⟨x, y⟩ := k a o h1 fun j hj => nomatch hj
    exact ⟨x, y.trans z⟩
/-- fewer slots known -/
theorem EnvOk.less (e : EnvOk K N own σ H ρ t) (l : ρ'.length = ρ.length) (h : ∀ i d, getS ρ' i = some d → getS ρ i = some d) : EnvOk K N own σ H ρ' t :=
  ⟨by rw [l]; exact e.len, e.bnd, fun i d g => e.sl i d (h i d g)⟩
theorem wipeE_length (ρ : Env) : ∀ w : List Nat, (wipeE ρ w).length = ρ.length
  | [] => rfl
  | v :: vs => by unfold wipeE; rw [List.length_set, wipeE_length ρ vs]
theorem wipeE_get {i : Nat} {d : D} : ∀ {w : List Nat}, getS (wipeE ρ w) i = some d → getS ρ i = some d ∧ i ∉ w
  | [], h => ⟨h, by simp⟩
  | v :: vs, h => by
    unfold wipeE at h
    obtain ⟨h1, h2⟩ := getS_none h
    obtain ⟨h3, h4⟩ := wipeE_get h1
    exact ⟨h3, by simp [h2, h4]⟩
theorem EnvOk.wipe (e : EnvOk K N own σ H ρ t) (w : List Nat) : EnvOk K N own σ H (wipeE ρ w) t :=
  e.less (wipeE_length ρ w) fun i d h => (wipeE_get h).1
/-- a value stored in a slot -/
theorem EnvOk.set {i : Nat} {d : D} {v : V} {F : List Addr} (e : EnvOk K N own σ H ρ t) (hi : i < ρ.length) (r : Rep K N H own (.sl i) d v F) (n : F.Nodup) : EnvOk K N own (σ.set i (some v)) H (ρ.set i (some d)) t :=
  ⟨by rw [List.length_set, List.length_set]; exact e.len, e.bnd, fun j d' h => by
    by_cases z : i = j
    · subst z
      rw [getS_set_self hi] at h
      cases h
      exact ⟨v, F, List.getElem?_set_self (by rw [e.len]; exact hi), r, n⟩
    · rw [getS_set_ne z] at h
      obtain ⟨w, G, e1, r1, n1⟩ := e.sl j d' h
      exact ⟨w, G, by rw [List.getElem?_set_ne z]; exact e1, r1, n1⟩⟩
end
end Ev

/-! The operators: what the tree says is what the value is. -/
namespace Ev
open PySem PySem.Spec PyProof.Rows L2
/-! ### data compared -/
mutual
def py : D → PyData
  | .non => .none | .bl b => .bool b | .int i => .int i | .str s => .str (tx s)
  | .tup xs => .tuple (pys xs) | .lst _ xs => .list (pys xs) | .ins _ _ _ _ => .none
def pys : List D → List PyData
  | [] => [] | d :: ds => py d :: pys ds
end
theorem tx_inj {a b : Tx} (h : tx a = tx b) : a = b := by
  have e := congrArg (fun s : Str => s.cps.toList) h
  simpa [tx] using e
theorem tx_beq (a b : Tx) : (tx a == tx b) = (a == b) := by
  rw [Bool.eq_iff_iff, beq_iff_eq, beq_iff_eq]
  exact ⟨tx_inj, fun e => by rw [e]⟩
mutual
theorem eqv_py : ∀ (a b : D) {n m : Nat}, okD a n = true → okD b m = true → PyData.eqv (py a) (py b) = eqD a b
  | .non, b, _, _, _, hb => by cases b <;> first | simp [okD] at hb; done | simp [py, PyData.eqv, eqD]
  | .bl _, b, _, _, _, hb => by cases b <;> first | simp [okD] at hb; done | simp [py, PyData.eqv, eqD]
  | .int _, b, _, _, _, hb => by cases b <;> first | simp [okD] at hb; done | simp [py, PyData.eqv, eqD]
  | .str x, b, _, _, _, hb => by
    cases b with
    | str y => simp only [py, PyData.eqv, eqD, tx_beq]
    | ins _ _ _ _ => simp [okD] at hb
    | _ => simp [py, PyData.eqv, eqD]
  | .tup xs, b, n, m, ha, hb => by
    cases b with
    | tup ys =>
      cases n with
      | zero => simp [okD] at ha
      | succ n =>
        cases m with
        | zero => simp [okD] at hb
        | succ m =>
          simp only [py, PyData.eqv, eqD]
          exact eqvs_py xs ys (by simpa [okD] using ha) (by simpa [okD] using hb)
    | ins _ _ _ _ => simp [okD] at hb
    | _ => simp [py, PyData.eqv, eqD]
  | .lst o xs, b, n, m, ha, hb => by
    cases b with
    | lst p ys =>
      cases n with
      | zero => simp [okD] at ha
      | succ n =>
        cases m with
        | zero => simp [okD] at hb
        | succ m =>
          simp only [py, PyData.eqv, eqD]
          exact eqvs_py xs ys (by simpa [okD] using ha) (by simpa [okD] using hb)
    | ins _ _ _ _ => simp [okD] at hb
    | _ => simp [py, PyData.eqv, eqD]
  | .ins _ _ _ _, _, _, _, ha, _ => by simp [okD] at ha
theorem eqvs_py : ∀ (a b : List D) {n m : Nat}, okDs a n = true → okDs b m = true → PyData.eqvAll (pys a) (pys b) = eqDs a b
  | [], [], _, _, _, _ => rfl
  | [], _ :: _, _, _, _, _ => by simp [pys, PyData.eqvAll, eqDs]
  | _ :: _, [], _, _, _, _ => by simp [pys, PyData.eqvAll, eqDs]
  | x :: xs, y :: ys, n, m, ha, hb => by
    simp only [okDs, Bool.and_eq_true] at ha hb
    simp only [pys, PyData.eqvAll, eqDs, eqv_py x y ha.1 hb.1, eqvs_py xs ys ha.2 hb.2]
end
mutual
theorem can_py : ∀ (a : D) {n : Nat}, okD a n = true → (py a).canLay0 = true ∧ (py a).depth ≤ n
  | .non, _, _ => by simp [py, PyData.canLay0, PyData.depth]
  | .bl _, _, _ => by simp [py, PyData.canLay0, PyData.depth]
  | .int _, _, _ => by simp [py, PyData.canLay0, PyData.depth]
  | .str s, _, h => by
    simp only [okD, List.all_eq_true] at h
    refine ⟨?_, by simp [py, PyData.depth]⟩
    simp only [py, PyData.canLay0, PyData.strOk, tx]
    rw [Array.all_eq_true_iff_forall_mem]
    intro c hc
    have q := h c (by simpa using hc)
    have q2 : c < 1114112 := by simpa [Nat.blt_eq] using q
    exact decide_eq_true q2
  | .tup xs, n, h => by
    cases n with
    | zero => simp [okD] at h
    | succ n =>
      obtain ⟨h1, h2⟩ := cans_py xs (n := n) (by simpa [okD] using h)
      simp only [py, PyData.canLay0, PyData.depth]
      exact ⟨h1, by omega⟩
  | .lst o xs, n, h => by
    cases n with
    | zero => simp [okD] at h
    | succ n =>
      obtain ⟨h1, h2⟩ := cans_py xs (n := n) (by simpa [okD] using h)
      simp only [py, PyData.canLay0, PyData.depth]
      exact ⟨h1, by omega⟩
  | .ins _ _ _ _, _, h => by simp [okD] at h
theorem cans_py : ∀ (a : List D) {n : Nat}, okDs a n = true → PyData.canLayAll0 (pys a) = true ∧ PyData.depthAll (pys a) ≤ n
  | [], _, _ => by simp [pys, PyData.canLayAll0, PyData.depthAll]
  | x :: xs, n, h => by
    simp only [okDs, Bool.and_eq_true] at h
    obtain ⟨a1, a2⟩ := can_py x h.1
    obtain ⟨b1, b2⟩ := cans_py xs h.2
    simp only [pys, PyData.canLayAll0, PyData.depthAll, a1, b1, Bool.and_self, true_and]
    omega
end
section
variable {K : PySem.W.Frag} {N : Nm} {H : Hp} {own : Addr → Own} {t t1 t2 : Own}
mutual
theorem Rep.dp : ∀ (d : D) {v : V} {F : List Addr} {n : Nat}, Rep K N H own t d v F → okD d n = true → Dp K H v (py d)
  | .non, _, _, _, h, _ => by rw [h.1]; exact .non
  | .bl b, _, _, _, h, _ => by rw [h.1]; exact .bl b
  | .int i, _, _, _, h, _ => by rw [h.1]; exact .int i
  | .str s, _, _, _, h, _ => by rw [h.1]; exact .str _
  | .tup ds, _, _, n, h, k => by
    cases n with
    | zero => simp [okD] at k
    | succ n =>
      obtain ⟨a, vs, e, ht, hr⟩ := h
      subst e
      exact .tup ht.sq (Reps.dp ds hr (by simpa [okD] using k))
  | .lst .ro ds, _, _, n, h, k => by
    cases n with
    | zero => simp [okD] at k
    | succ n =>
      obtain ⟨a, vs, e, ht, eF, hr⟩ := h
      subst e
      exact .lst ht.sq (Reps.dp ds hr (by simpa [okD] using k))
  | .lst .sh ds, _, _, n, h, k => by
    cases n with
    | zero => simp [okD] at k
    | succ n =>
      obtain ⟨a, vs, e, ht, _, eF, hr⟩ := h
      subst e
      exact .lst (SqL.of ht) (Reps.dp ds hr (by simpa [okD] using k))
  | .lst .ow ds, _, _, n, h, k => by
    cases n with
    | zero => simp [okD] at k
    | succ n =>
      obtain ⟨a, vs, F', e, ht, _, eF, hr⟩ := h
      subst e
      exact .lst (SqL.of ht) (Reps.dp ds hr (by simpa [okD] using k))
  | .ins _ _ _ _, _, _, _, _, k => by simp [okD] at k
theorem Reps.dp : ∀ (ds : List D) {vs : List V} {F : List Addr} {n : Nat}, Reps K N H own t ds vs F → okDs ds n = true → DpAll K H vs (pys ds)
  | [], _, _, _, h, _ => by rw [h.1]; exact .nil
  | d :: ds, _, _, n, h, k => by
    obtain ⟨v, vs', F1, F2, e, eF, h1, h2⟩ := h
    subst e
    simp only [okDs, Bool.and_eq_true] at k
    exact .cons (Rep.dp d h1 k.1) (Reps.dp ds h2 k.2)
end
theorem eq_ok {x y : D} {v w : V} {F G : List Addr} {Q : VK} (hx : Rep K N H own t1 x v F) (hy : Rep K N H own t2 y w G) (kx : okD x 64 = true) (ky : okD y 64 = true) (q : Q (.bl (eqD x y)) H) : rEqD K v w H Q := by
  obtain ⟨a1, a2⟩ := can_py x kx
  obtain ⟨b1, b2⟩ := can_py y ky
  refine ⟨py x, py y, hx.dp x kx, hy.dp y ky, ?_, ?_, ?_⟩
  · unfold SeqAt.shaped; rw [a1, decide_eq_true a2]; rfl
  · unfold SeqAt.shaped; rw [b1, decide_eq_true b2]; rfl
  · rw [eqv_py x y kx ky]; exact q
theorem ne_ok {x y : D} {v w : V} {F G : List Addr} {Q : VK} (hx : Rep K N H own t1 x v F) (hy : Rep K N H own t2 y w G) (kx : okD x 64 = true) (ky : okD y 64 = true) (q : Q (.bl (!eqD x y)) H) : rNeD K v w H Q := by
  obtain ⟨a1, a2⟩ := can_py x kx
  obtain ⟨b1, b2⟩ := can_py y ky
  refine ⟨py x, py y, hx.dp x kx, hy.dp y ky, ?_, ?_, ?_⟩
  · unfold SeqAt.shaped; rw [a1, decide_eq_true a2]; rfl
  · unfold SeqAt.shaped; rw [b1, decide_eq_true b2]; rfl
  · rw [eqv_py x y kx ky]; exact q

/-! ### lists of numbers, of texts, of truth values -/
theorem Reps.ints : ∀ {ds : List D} {ns : List Int} {vs : List V} {F : List Addr}, Reps K N H own t ds vs F → toInts ds = some ns → vs = ns.map V.int
  | [], ns, _, _, h, e => by
    simp only [toInts, Option.some.injEq] at e
    rw [h.1, ← e]; rfl
  | d :: ds, ns, _, _, h, e => by
    obtain ⟨v, vs', F1, F2, ev, eF, h1, h2⟩ := h
    cases d with
    | int i =>
      simp only [toInts] at e
      cases q : toInts ds with
      | none => rw [q] at e; cases e
      | some r =>
        rw [q] at e
        simp only [Option.some.injEq] at e
        rw [ev, h1.1, Reps.ints h2 q, ← e]; rfl
    | _ => simp [toInts] at e
theorem Reps.texts : ∀ {ds : List D} {ns : List Tx} {vs : List V} {F : List Addr}, Reps K N H own t ds vs F → toTexts ds = some ns → vs = (ns.map tx).map V.str
  | [], ns, _, _, h, e => by
    simp only [toTexts, Option.some.injEq] at e
    rw [h.1, ← e]; rfl
  | d :: ds, ns, _, _, h, e => by
    obtain ⟨v, vs', F1, F2, ev, eF, h1, h2⟩ := h
    cases d with
    | str i =>
      simp only [toTexts] at e
      cases q : toTexts ds with
      | none => rw [q] at e; cases e
      | some r =>
        rw [q] at e
        simp only [Option.some.injEq] at e
        rw [ev, h1.1, Reps.texts h2 q, ← e]; rfl
    | _ => simp [toTexts] at e
theorem Reps.bls : ∀ {ds : List D} {ns : List Bool} {vs : List V} {F : List Addr}, Reps K N H own t ds vs F → toBls ds = some ns → vs = ns.map V.bl
  | [], ns, _, _, h, e => by
    simp only [toBls, Option.some.injEq] at e
    rw [h.1, ← e]; rfl
  | d :: ds, ns, _, _, h, e => by
    obtain ⟨v, vs', F1, F2, ev, eF, h1, h2⟩ := h
    cases d with
    | bl i =>
      simp only [toBls] at e
      cases q : toBls ds with
      | none => rw [q] at e; cases e
      | some r =>
        rw [q] at e
        simp only [Option.some.injEq] at e
        rw [ev, h1.1, Reps.bls h2 q, ← e]; rfl
    | _ => simp [toBls] at e
theorem reps_ints : ∀ (ns : List Int), Reps K N H own t (ns.map D.int) (ns.map V.int) []
  | [] => ⟨rfl, rfl⟩
  | n :: ns => ⟨.int n, _, [], [], rfl, rfl, ⟨rfl, rfl⟩, reps_ints ns⟩
/-- what a list is read as -/
theorem Rep.sql {o : Fl} {ds : List D} {v : V} {F : List Addr} (h : Rep K N H own t (.lst o ds) v F) : ∃ a vs G, v = .ref a ∧ SqL K H a vs ∧ Reps K N H own t ds vs G ∧ (F.Nodup → G.Nodup) ∧ (∀ x ∈ G, x ∈ F) := by
  cases o with
  | ro =>
    obtain ⟨a, vs, e, ht, eF, hr⟩ := h
    exact ⟨a, vs, [], e, ht.sq, hr, fun _ => List.nodup_nil, fun x hx => nomatch hx⟩
  | sh =>
    obtain ⟨a, vs, e, ht, _, eF, hr⟩ := h
    exact ⟨a, vs, [], e, SqL.of ht, hr, fun _ => List.nodup_nil, fun x hx => nomatch hx⟩
  | ow =>
    obtain ⟨a, vs, F', e, ht, _, eF, hr⟩ := h
    subst eF
    exact ⟨a, vs, F', e, SqL.of ht, hr, fun n => (List.nodup_cons.mp n).2, fun x hx => List.mem_cons_of_mem _ hx⟩
theorem Rep.hl {o : Fl} {ds : List D} {v : V} {F : List Addr} (h : Rep K N H own t (.lst o ds) v F) (ho : o.wr = true) : ∃ a vs G, v = .ref a ∧ H a = some (.lst vs) ∧ Reps K N H own t ds vs G := by
  cases o with
  | ro => cases ho
  | sh =>
    obtain ⟨a, vs, e, ht, _, eF, hr⟩ := h
    exact ⟨a, vs, [], e, ht, hr⟩
  | ow =>
    obtain ⟨a, vs, F', e, ht, _, eF, hr⟩ := h
    exact ⟨a, vs, F', e, ht, hr⟩
theorem Rep.sqt {ds : List D} {v : V} {F : List Addr} (h : Rep K N H own t (.tup ds) v F) : ∃ a vs, v = .ref a ∧ SqT K H a vs ∧ Reps K N H own t ds vs F := by
  obtain ⟨a, vs, e, ht, hr⟩ := h
  exact ⟨a, vs, e, ht.sq, hr⟩
end

/-! ### what an operation leaves -/
def updO (own : Addr → Own) (p : Addr) (t : Own) : Addr → Own := fun a => if a = p then t else own a
theorem updO_same {own : Addr → Own} {p : Addr} {t : Own} : updO own p t p = t := if_pos rfl
theorem updO_ne {own : Addr → Own} {p a : Addr} {t : Own} (h : a ≠ p) : updO own p t a = own a := if_neg h
/-- the value of an operation is the tree d, held by the way's place k; all else stands -/
def Res (K : PySem.W.Frag) (N : Nm) (H : Hp) (own : Addr → Own) (k : Nat) (d : D) (Q : VK) : Prop :=
  ∀ own' H' v F, Kp [] own H own' H' → (∀ a j, own' a = .tp j → j < k + 1) → Rep K N H' own' (.tp k) d v F → F.Nodup → Q v H'
section
variable {K : PySem.W.Frag} {N : Nm} {H : Hp} {own : Addr → Own} {k : Nat} {d : D} {Q : VK} {t : Own}
theorem kp_new {p : Addr} {o : HO} {u : Own} {M : List Nat} (hp : H p = none) : Kp M own H (updO own p u) (upd H p o) := fun a x e _ => by
  have n := ne_of_none e hp
  exact ⟨by rw [upd_ne n]; exact e, updO_ne n⟩
theorem Res.same {v : V} (q : Res K N H own k d Q) (b : ∀ a j, own a = .tp j → j < k) (r : Rep K N H own t d v []) : Q v H :=
  q own H v [] Kp.refl (fun a j e => Nat.lt_succ_of_lt (b a j e)) (Rep.carry KpF.refl d r fun a ha => nomatch ha) List.nodup_nil
theorem bnd_new {p : Addr} {u : Own} (b : ∀ a j, own a = .tp j → j < k) (hu : ∀ j, u = .tp j → j < k + 1) : ∀ a j, updO own p u a = .tp j → j < k + 1 := fun a j e => by
  by_cases z : a = p
  · subst z; rw [updO_same] at e; exact hu j e
  · rw [updO_ne z] at e; exact Nat.lt_succ_of_lt (b a j e)
/-- a new list of frozen parts -/
theorem Res.newL {ds : List D} {vs : List V} {p : Addr} (q : Res K N H own k (.lst .ow ds) Q) (b : ∀ a j, own a = .tp j → j < k) (r : Reps K N H own t ds vs []) (hp : H p = none) : Q (.ref p) (upd H p (.lst vs)) :=
  q (updO own p (.tp k)) (upd H p (.lst vs)) (.ref p) [p] (kp_new hp) (bnd_new b fun j e => by cases e; exact Nat.lt_succ_self _)
    ⟨p, vs, [], rfl, upd_same, updO_same, rfl, Reps.carry (kp_new (M := []) hp).f ds r fun a ha => nomatch ha⟩ (by simp)
/-- a new tuple of frozen parts -/
theorem Res.newT {ds : List D} {vs : List V} {p : Addr} (q : Res K N H own k (.tup ds) Q) (b : ∀ a j, own a = .tp j → j < k) (r : Reps K N H own t ds vs []) (hp : H p = none) : Q (.ref p) (upd H p (.tup vs)) :=
  q (updO own p .fz) (upd H p (.tup vs)) (.ref p) [] (kp_new hp) (bnd_new b fun j e => by cases e)
    ⟨p, vs, rfl, .inl ⟨upd_same, updO_same⟩, Reps.carry (kp_new (M := []) hp).f ds r fun a ha => nomatch ha⟩ List.nodup_nil
end

/-! ### two-place operators -/
def bopOp : Bop → Option Operator
  | .add => some .Add | .sub => some .Sub | .mul => some .Mult | .fdiv => some .FloorDiv | .mod => some .Mod | .pow => some .Pow
  | .shl => some .LShift | .shr => some .RShift | .band => some .BitAnd | .bor => some .BitOr | .bxor => some .BitXor | _ => none
def bopCmp : Bop → Option CmpOp
  | .eq => some .Eq | .ne => some .NotEq | .lt => some .Lt | .le => some .LtE | .gt => some .Gt | .ge => some .GtE | .inn => some .In | _ => none
def rBin (K : PySem.W.Frag) : Bop → R2
  | .add => fun x y H Q => rI0 (fun i j => .int (i + j)) x y H Q ∨ (∃ i j, x = .str i ∧ y = .str j ∧ i.length + j.length ≤ sizeLine ∧ Q (.str (i ++ j)) H) ∨ rCatA K x y H Q ∨ rCat x y H Q
  | .sub => rI0 fun i j => .int (i - j)
  | .mul => rI CMul fun i j => .int (i * j)
  | .fdiv => rI CDiv fun i j => .int (i / j)
  | .mod => rI (fun _ j => 0 < j) fun i j => .int (i % j)
  | .pow => rI CPow fun i j => .int (i ^ j.toNat)
  | .shl => rI CPow fun i j => .int (i * 2 ^ j.toNat)
  | .shr => rI (fun _ j => 0 ≤ j) fun i j => .int (i / 2 ^ j.toNat)
  | .band => rI0 fun i j => .int (Builtin.bitAnd i j)
  | .bor => rI0 fun i j => .int (Builtin.bitOr i j)
  | .bxor => rI0 fun i j => .int (Builtin.bitXor i j)
  | .eq => rEqD K
  | .ne => rNeD K
  | .lt => rI0 fun i j => .bl (decide (i < j))
  | .le => fun x y H Q => rI0 (fun i j => .bl (decide (i ≤ j))) x y H Q ∨ rLeT K x y H Q
  | .gt => rI0 fun i j => .bl (decide (j < i))
  | .ge => rI0 fun i j => .bl (decide (j ≤ i))
  | .inn => fun x y H Q => (∃ (c : Nat) (z : Str), x = .str ⟨#[c]⟩ ∧ y = .str z ∧ Q (.bl (decide (c ∈ z.cps.toList))) H) ∨ rIn K false x y H Q
  | .nin => fun _ _ _ _ => False
  | .join => fun x y H Q => ∃ a p, ∃ ys : List Str, x = .str a ∧ y = .ref p ∧ (SqL K H p (ys.map V.str) ∨ SqT K H p (ys.map V.str)) ∧
    (ys.map (·.length)).sum + ys.length * a.length ≤ 16777216 ∧ Q (.str (Txt.join a ys)) H
section
variable {X : Cx}
theorem opr_bin (op : Bop) {o : Operator} (h : bopOp op = some o) : OpR X (binaryOp o) (rBin X.K op) := by
  cases op <;> simp only [bopOp, Option.some.injEq, reduceCtorEq] at h <;> subst h
  · exact op_add.or (op_add_str.or (op_catA.or op_cat))
  · exact op_sub
  · exact op_mul
  · exact op_fdiv
  · exact op_mod
  · exact op_pow
  · exact op_shl
  · exact op_shr
  · exact op_and
  · exact op_or
  · exact op_xor
theorem opr_cmp (op : Bop) {o : CmpOp} (hu : X.A.units + 64 < cLine) (h : bopCmp op = some o) : OpR X (compareOp o) (rBin X.K op) := by
  cases op <;> simp only [bopCmp, Option.some.injEq, reduceCtorEq] at h <;> subst h
  · exact op_eqD hu
  · exact op_neD hu
  · exact op_lt
  · exact op_le.or (op_leT (by omega))
  · exact op_gt
  · exact op_ge
  · exact op_in_sign.or op_in_seq
end
theorem line_eq : (LINE : Nat) = sizeLine := by rw [sizeLine_eq]
theorem small_of {i : Int} (h : small i = true) : -(2 ^ 64) < i ∧ i < 2 ^ 64 := by
  unfold small at h
  rw [Nat.blt_eq] at h
  omega
theorem smallN_of {i : Int} (h : smallN i = true) : i.natAbs < 2 ^ 64 := by
  unfold smallN at h
  rw [Nat.blt_eq] at h
  omega
theorem lexAt_le : ∀ (pre ns ms : List Int), True → ∀ (ps : List Int), ps.length = pre.length →
    Ob.lexAt (fun j => decide ((pre ++ ns).getD j 0 = (ps ++ ms).getD j 0)) (fun j => decide ((pre ++ ns).getD j 0 ≤ (ps ++ ms).getD j 0)) (decide ((pre ++ ns).length ≤ (ps ++ ms).length)) pre.length (min ns.length ms.length) = lexLe ns ms
  | pre, [], ms, _, ps, h => by
    simp only [List.length_nil, Nat.zero_min, Ob.lexAt_zero, lexLe, decide_eq_true_eq, List.length_append]
    omega
  | pre, n :: ns, [], _, ps, h => by
    simp only [List.length_nil, Nat.min_zero, Ob.lexAt_zero, lexLe, List.length_append, List.length_cons]
    exact decide_eq_false (by omega)
  | pre, n :: ns, m :: ms, _, ps, h => by
    have e1 : (pre ++ n :: ns).getD pre.length 0 = n := by simp [List.getD]
    have e2 : (ps ++ m :: ms).getD pre.length 0 = m := by rw [← h]; simp [List.getD]
    have ih := lexAt_le (pre ++ [n]) ns ms trivial (ps ++ [m]) (by simp [h])
    rw [show min (n :: ns).length (m :: ms).length = min ns.length ms.length + 1 by simp only [List.length_cons]; omega, Ob.lexAt_succ]
    simp only [e1, e2, lexLe, decide_eq_true_eq]
    by_cases q : n = m
    · rw [if_pos q, if_pos q]
      simpa [List.append_assoc] using ih
    · rw [if_neg q, if_neg q]
theorem tx_app (a b : Tx) : tx a ++ tx b = tx (a ++ b) := by
  show Str.append (tx a) (tx b) = tx (a ++ b)
  simp [Str.append, tx]
theorem tx_len (a : Tx) : (tx a).length = a.length := by simp [Str.length, tx]
theorem join_tx (s : Tx) : ∀ ts : List Tx, Txt.join (tx s) (ts.map tx) = tx (List.intercalate s ts) := fun ts => by
  rw [TL.join_eq]
  have key : ∀ ts : List Tx, TL.joinL s ts = List.intercalate s ts := by
    intro ts
    induction ts with
    | nil => rfl
    | cons t ts ih =>
      cases ts with
      | nil => simp [TL.joinL, List.intercalate]
      | cons u us =>
        rw [TL.joinL, ih]
        simp [List.intercalate]
  have e := TL.tl_join (tx s) (ts.map tx)
  have e1 : TL.tl (tx s) = s := by simp [TL.tl, tx]
  have e2 : (ts.map tx).map TL.tl = ts := by
    rw [List.map_map]
    have : (TL.tl ∘ tx) = id := by funext z; simp [TL.tl, tx]
    rw [this, List.map_id]
  rw [e1, e2, key] at e
  have : Str.join (tx s) (ts.map tx) = tx (TL.tl (Str.join (tx s) (ts.map tx))) := by
    cases Str.join (tx s) (ts.map tx); simp [TL.tl, tx]
  rw [this, e]
theorem scal_flat {K : PySem.W.Frag} {N : Nm} {H : Hp} {own : Addr → Own} {t : Own} {d : D} {v : V} {F : List Addr} (h : Rep K N H own t d v F) (s : scalD d = true) : flatV v = true := by
  cases d <;> simp [scalD] at s
  · rw [h.1]; rfl
  · rw [h.1]; rfl
theorem scal_eq {K : PySem.W.Frag} {N : Nm} {H : Hp} {own : Addr → Own} {t t' : Own} {x y : D} {v w : V} {F G : List Addr} (hx : Rep K N H own t x v F) (hy : Rep K N H own t' y w G) (sx : scalD x = true) (sy : scalD y = true) : eqV v w = eqD x y := by
  cases x <;> simp [scalD] at sx <;> cases y <;> simp [scalD] at sy <;> rw [hx.1, hy.1] <;> simp [eqV, eqD, tx_beq]
theorem in_flat {K : PySem.W.Frag} {N : Nm} {H : Hp} {own : Addr → Own} {t t' : Own} {x : D} {v : V} {F : List Addr} (hx : Rep K N H own t x v F) (sx : scalD x = true) : ∀ {ys : List D} {vs : List V} {G : List Addr}, Reps K N H own t' ys vs G → ys.all scalD = true → vs.all flatV = true ∧ inV v vs = ys.any fun y => eqD y x
  | [], vs, G, h, _ => by rw [h.1]; exact ⟨rfl, rfl⟩
  | y :: ys, vs, G, h, s => by
    obtain ⟨w, ws, F1, F2, e, eF, h1, h2⟩ := h
    simp only [List.all_cons, Bool.and_eq_true] at s
    obtain ⟨i1, i2⟩ := in_flat hx sx h2 s.2
    subst e
    refine ⟨by rw [List.all_cons, i1, scal_flat h1 s.1]; rfl, ?_⟩
    have i2' : List.any ws (fun y => eqV y v) = ys.any fun y => eqD y x := i2
    show List.any (w :: ws) (fun y => eqV y v) = _
    rw [List.any_cons, List.any_cons, scal_eq h1 hx s.1 sx, i2']

section
variable {K : PySem.W.Frag} {N : Nm} {H : Hp} {own : Addr → Own} {k : Nat} {Q : VK} {t1 t2 : Own}
/-- THE OPERATORS: what the trees say is what the values give -/
theorem bin_ok {op : Bop} {x y d : D} {v w : V} {F G : List Addr} (e : binD op x y = some d) (hx : Rep K N H own t1 x v F) (hy : Rep K N H own t2 y w G) (b : ∀ a j, own a = .tp j → j < k) (q : Res K N H own k d Q) : rBin K op v w H Q := by
  have le := line_eq
  unfold binD at e
  split at e
  · -- int + int
    cases e
    obtain ⟨rfl, rfl⟩ := hx
    obtain ⟨rfl, rfl⟩ := hy
    exact .inl ⟨_, _, rfl, rfl, q.same b (t := t1) ⟨rfl, rfl⟩⟩
  · cases e
    obtain ⟨rfl, rfl⟩ := hx
    obtain ⟨rfl, rfl⟩ := hy
    exact ⟨_, _, rfl, rfl, q.same b (t := t1) ⟨rfl, rfl⟩⟩
  · split at e
    · cases e
      rename_i hc
      obtain ⟨rfl, rfl⟩ := hx
      obtain ⟨rfl, rfl⟩ := hy
      refine ⟨_, _, rfl, rfl, ?_, q.same b (t := t1) ⟨rfl, rfl⟩⟩
      rcases Bool.or_eq_true_iff.mp hc with z | z
      · exact .inl (small_of z)
      · exact .inr (small_of z)
    · cases e
  · split at e
    · cases e
      rename_i hc
      obtain ⟨rfl, rfl⟩ := hx
      obtain ⟨rfl, rfl⟩ := hy
      simp only [Bool.and_eq_true, decide_eq_true_eq] at hc
      exact ⟨_, _, rfl, rfl, ⟨hc.1, by have := hc.2; rw [Nat.blt_eq] at this; omega⟩, q.same b (t := t1) ⟨rfl, rfl⟩⟩
    · cases e
  · split at e
    · cases e
      rename_i hc
      obtain ⟨rfl, rfl⟩ := hx
      obtain ⟨rfl, rfl⟩ := hy
      exact ⟨_, _, rfl, rfl, hc, q.same b (t := t1) ⟨rfl, rfl⟩⟩
    · cases e
  · split at e
    · cases e
      rename_i hc
      obtain ⟨rfl, rfl⟩ := hx
      obtain ⟨rfl, rfl⟩ := hy
      simp only [Bool.and_eq_true, decide_eq_true_eq] at hc
      exact ⟨_, _, rfl, rfl, ⟨hc.1.1, by have := hc.1.2; rw [Nat.ble_eq] at this; omega, smallN_of hc.2⟩, q.same b (t := t1) ⟨rfl, rfl⟩⟩
    · cases e
  · split at e
    · cases e
      rename_i hc
      obtain ⟨rfl, rfl⟩ := hx
      obtain ⟨rfl, rfl⟩ := hy
      simp only [Bool.and_eq_true, decide_eq_true_eq] at hc
      exact ⟨_, _, rfl, rfl, ⟨hc.1.1, by have := hc.1.2; rw [Nat.ble_eq] at this; omega, smallN_of hc.2⟩, q.same b (t := t1) ⟨rfl, rfl⟩⟩
    · cases e
  · split at e
    · cases e
      rename_i hc
      obtain ⟨rfl, rfl⟩ := hx
      obtain ⟨rfl, rfl⟩ := hy
      exact ⟨_, _, rfl, rfl, hc, q.same b (t := t1) ⟨rfl, rfl⟩⟩
    · cases e
  · cases e
    obtain ⟨rfl, rfl⟩ := hx
    obtain ⟨rfl, rfl⟩ := hy
    exact ⟨_, _, rfl, rfl, q.same b (t := t1) ⟨rfl, rfl⟩⟩
  · cases e
    obtain ⟨rfl, rfl⟩ := hx
    obtain ⟨rfl, rfl⟩ := hy
    exact ⟨_, _, rfl, rfl, q.same b (t := t1) ⟨rfl, rfl⟩⟩
  · cases e
    obtain ⟨rfl, rfl⟩ := hx
    obtain ⟨rfl, rfl⟩ := hy
    exact ⟨_, _, rfl, rfl, q.same b (t := t1) ⟨rfl, rfl⟩⟩
  · -- ==
    split at e
    · cases e
      rename_i hc
      simp only [Bool.and_eq_true] at hc
      exact eq_ok hx hy hc.1 hc.2 (q.same b (t := t1) ⟨rfl, rfl⟩)
    · cases e
  · split at e
    · cases e
      rename_i hc
      simp only [Bool.and_eq_true] at hc
      exact ne_ok hx hy hc.1 hc.2 (q.same b (t := t1) ⟨rfl, rfl⟩)
    · cases e
  · cases e
    obtain ⟨rfl, rfl⟩ := hx
    obtain ⟨rfl, rfl⟩ := hy
    exact ⟨_, _, rfl, rfl, q.same b (t := t1) ⟨rfl, rfl⟩⟩
  · cases e
    obtain ⟨rfl, rfl⟩ := hx
    obtain ⟨rfl, rfl⟩ := hy
    exact .inl ⟨_, _, rfl, rfl, q.same b (t := t1) ⟨rfl, rfl⟩⟩
  · cases e
    obtain ⟨rfl, rfl⟩ := hx
    obtain ⟨rfl, rfl⟩ := hy
    exact ⟨_, _, rfl, rfl, q.same b (t := t1) ⟨rfl, rfl⟩⟩
  · cases e
    obtain ⟨rfl, rfl⟩ := hx
    obtain ⟨rfl, rfl⟩ := hy
    exact ⟨_, _, rfl, rfl, q.same b (t := t1) ⟨rfl, rfl⟩⟩
  · -- tuples, <=
    split at e
    · rename_i ns ms e1 e2
      cases e
      obtain ⟨a, vs, rfl, ha, hr⟩ := hx.sqt
      obtain ⟨c, ws, rfl, hc, hs⟩ := hy.sqt
      rw [hr.ints e1] at ha
      rw [hs.ints e2] at hc
      refine .inr ⟨a, c, ns, ms, rfl, rfl, ha, hc, ?_⟩
      have z := lexAt_le [] ns ms trivial [] rfl
      rw [List.nil_append, List.nil_append, List.length_nil] at z
      rw [z]
      exact q.same b (t := t1) ⟨rfl, rfl⟩
    · cases e
  · -- texts, +
    split at e
    · cases e
      rename_i hc
      obtain ⟨rfl, rfl⟩ := hx
      obtain ⟨rfl, rfl⟩ := hy
      refine .inr (.inl ⟨_, _, rfl, rfl, by rw [tx_len, tx_len, ← le]; exact hc, ?_⟩)
      rw [tx_app]
      exact q.same b (t := t1) ⟨rfl, rfl⟩
    · cases e
  · -- tuples, +
    split at e
    · rename_i hc
      cases e
      simp only [Bool.and_eq_true, decide_eq_true_eq, Bool.not_eq_true', List.isEmpty_eq_false_iff] at hc
      obtain ⟨⟨⟨⟨f1, f2⟩, n1⟩, n2⟩, hl⟩ := hc
      obtain ⟨a, vs, rfl, ha, hr⟩ := hx.sqt
      obtain ⟨c, ws, rfl, hc, hs⟩ := hy.sqt
      have hr' := hr.ofFros (t' := .fz) f1
      have hs' := hs.ofFros (t' := .fz) f2
      have l1 := hr.length
      have l2 := hs.length
      have m1 : vs ≠ [] := fun z => n1 (List.length_eq_zero_iff.mp (by rw [← l1, z]; rfl))
      have m2 : ws ≠ [] := fun z => n2 (List.length_eq_zero_iff.mp (by rw [← l2, z]; rfl))
      refine .inr (.inr (.inl ⟨a, c, vs, ws, rfl, rfl, ha, hc, by rw [l1, l2, ← le]; exact hl, fun z => absurd z m1, fun _ z => absurd z m2, fun _ _ p hp => ?_⟩))
      exact q.newT b (hr'.append hs') hp
    · cases e
  · -- lists, +
    split at e
    · rename_i hc
      cases e
      simp only [Bool.and_eq_true, decide_eq_true_eq] at hc
      obtain ⟨⟨⟨⟨o1, o2⟩, f1⟩, f2⟩, hl⟩ := hc
      obtain ⟨a, vs, G1, rfl, ha, hr⟩ := hx.hl o1
      obtain ⟨c, ws, G2, rfl, hc, hs⟩ := hy.hl o2
      have hr' := hr.ofFros (t' := .fz) f1
      have hs' := hs.ofFros (t' := .fz) f2
      refine .inr (.inr (.inr ⟨a, c, vs, ws, rfl, rfl, ha, hc, by rw [hr.length, hs.length, ← le]; exact hl, fun p hp => ?_⟩))
      exact q.newL b (hr'.append hs') hp
    · cases e
  · -- in: a sign in a text
    cases e
    obtain ⟨rfl, rfl⟩ := hx
    obtain ⟨rfl, rfl⟩ := hy
    rename_i c z
    refine .inl ⟨c, _, rfl, rfl, ?_⟩
    have e1 : decide (c ∈ (tx z).cps.toList) = z.contains c := by
      rw [Bool.eq_iff_iff, decide_eq_true_eq, List.contains_iff_mem]
    rw [e1]
    exact q.same b (t := t1) ⟨rfl, rfl⟩
  · -- in a tuple
    split at e
    · rename_i hc
      cases e
      simp only [Bool.and_eq_true] at hc
      obtain ⟨a, vs, rfl, ha, hr⟩ := hy.sqt
      obtain ⟨i1, i2⟩ := in_flat hx hc.1 hr hc.2
      refine .inr ⟨a, vs, rfl, .inr ha, scal_flat hx hc.1, i1, ?_⟩
      show Q (.bl (inV v vs)) H
      rw [i2]
      exact q.same b (t := t1) ⟨rfl, rfl⟩
    · cases e
  · -- join
    split at e
    · rename_i ts e1
      split at e
      · rename_i hc
        cases e
        obtain ⟨rfl, rfl⟩ := hx
        obtain ⟨a, vs, G1, rfl, ha, hr, _⟩ := hy.sql
        rw [hr.texts e1] at ha
        refine ⟨_, a, ts.map tx, rfl, rfl, .inl ha, ?_, ?_⟩
        · rw [List.map_map, List.length_map, tx_len, Nat.mul_comm]
          have : (Str.length ∘ tx) = List.length := by funext z; exact tx_len z
          rw [this]
          exact hc
        · rw [join_tx]
          exact q.same b (t := t1) ⟨rfl, rfl⟩
      · cases e
    · cases e
  · cases e
end
end Ev

/-! One-place operators, subscripts, slices, isinstance. -/
namespace Ev
open PySem PySem.Spec PyProof.Rows L2
theorem tx_ofString (s : String) : Str.ofString s = tx (s.toList.map Char.toNat) := Str.ofString_eq_toList s
theorem ten500 : (10 : Nat) ^ 500 < 2 ^ 1920 := by decide +kernel
theorem log_small {n : Nat} (h : n < 10 ^ 500) : n.log2 < 1920 := by
  by_cases z : n = 0
  · subst z; decide
  · exact (Nat.log2_lt z).mpr (Nat.lt_trans h ten500)
theorem str_digs (i : Int) : (Str.ofString (toString i)) = tx (digs i) := tx_ofString _
theorem perm_insI (x : Int) : ∀ l : List Int, (insI x l).Perm (x :: l)
  | [] => List.Perm.refl _
  | y :: ys => by
    unfold insI
    split
    · exact List.Perm.refl _
    · exact ((perm_insI x ys).cons y).trans (List.Perm.swap x y ys)
theorem perm_sortI : ∀ l : List Int, (sortI l).Perm l
  | [] => List.Perm.refl _
  | x :: xs => (perm_insI x (sortI xs)).trans ((perm_sortI xs).cons x)
theorem insI_sorted (x : Int) : ∀ l : List Int, l.Pairwise (· ≤ ·) → (insI x l).Pairwise (· ≤ ·)
  | [], _ => by simp [insI]
  | y :: ys, h => by
    have h' := List.pairwise_cons.mp h
    unfold insI
    split
    · rename_i hxy
      refine List.pairwise_cons.mpr ⟨fun z hz => ?_, h⟩
      rcases List.mem_cons.mp hz with e | hz
      · rw [e]; exact hxy
      · have := h'.1 z hz; omega
    · rename_i hxy
      refine List.pairwise_cons.mpr ⟨fun z hz => ?_, insI_sorted x ys h'.2⟩
      have m := (perm_insI x ys).mem_iff.mp hz
      rcases List.mem_cons.mp m with e | m
      · rw [e]; omega
      · exact h'.1 z m
theorem sortI_sorted : ∀ l : List Int, (sortI l).Pairwise (· ≤ ·)
  | [] => List.Pairwise.nil
  | x :: xs => insI_sorted x (sortI xs) (sortI_sorted xs)
def rUnC (K : PySem.W.Frag) : Uop → List V → Hp → VK → Prop
  | .len => fun xs H Q => ∃ x n, xs = [x] ∧ LenV K x H n ∧ Q (.int n) H
  | .str => fun xs H Q => ∃ i, xs = [.int i] ∧ i.natAbs.log2 < 1920 ∧ Q (.str (toString i)) H
  | .int => fun xs H Q => ((∃ i, xs = [.int i] ∧ Q (.int i) H) ∨ ∃ k, xs = [.bl k] ∧ Q (.int (if k then 1 else 0)) H) ∨ ∃ a n, xs = [.str a] ∧ PySem.intText? a = some n ∧ a.length ≤ 640 ∧ Q (.int n) H
  | .tuple => fun xs H Q => ∃ p ys, xs = [.ref p] ∧ ((SqL K H p ys ∧ ∀ l, H l = none → Q (.ref l) (upd H l (.tup ys))) ∨ (SqT K H p ys ∧ Q (.ref p) H))
  | .list => fun xs H Q => ∃ p ys, xs = [.ref p] ∧ (SqL K H p ys ∨ SqT K H p ys) ∧ ∀ l, H l = none → Q (.ref l) (upd H l (.lst ys))
  | .sorted => rSortedI K
  | .sum => rSum K
  | .all => rAll K
  | .any => rAny K
  | .abs => fun xs H Q => ∃ i, xs = [.int i] ∧ Q (.int (if i < 0 then -i else i)) H
  | .minD => fun xs H Q => (∃ a, xs = [.ref a] ∧ SqL K H a [] ∧ Q .non H) ∨ rMin K xs H Q
  | _ => fun _ _ _ => False
/-- the built-in that is called -/
def unVal : Uop → Option (Sum String String)
  | .len => some (.inl "len") | .str => some (.inr "str") | .int => some (.inr "int") | .tuple => some (.inr "tuple") | .list => some (.inr "list")
  | .sorted => some (.inl "sorted") | .sum => some (.inl "sum") | .all => some (.inl "all") | .any => some (.inl "any") | .abs => some (.inl "abs") | _ => none
def unV : Sum String String → Value
  | .inl s => .builtin s | .inr s => .type s
section
variable {X : Cx}
theorem callr_un (op : Uop) {s : Sum String String} (hc : X.calm = true) (h : unVal op = some s) : CallR X (unV s) (rUnC X.K op) := by
  cases op <;> simp only [unVal, Option.some.injEq, reduceCtorEq] at h <;> subst h
  · exact call_len
  · exact call_str_int
  · exact call_int1.or call_int_str
  · exact call_tuple_of
  · exact call_list_of
  · exact cr_sortedI
  · exact cr_sum hc
  · exact cr_all hc
  · exact cr_any hc
  · exact call_abs
end
theorem leastI_mem : ∀ {ns : List Int} {m : Int}, leastI ns = some m → m ∈ ns ∧ ∀ y ∈ ns, m ≤ y := by
  intro ns m h
  cases ns with
  | nil => cases h
  | cons x xs =>
    have key : ∀ (l : List Int) (a : Int), (l.foldl min a ∈ a :: l) ∧ (∀ y ∈ a :: l, l.foldl min a ≤ y) := by
      intro l
      induction l with
      | nil => intro a; exact ⟨by simp, fun y hy => by simp at hy; subst hy; exact Int.le_refl _⟩
      | cons b l ih =>
        intro a
        obtain ⟨h1, h2⟩ := ih (min a b)
        show (l.foldl min (min a b) ∈ a :: b :: l) ∧ _
        have hm : l.foldl min (min a b) ≤ min a b := h2 _ List.mem_cons_self
        refine ⟨?_, fun y hy => ?_⟩
        · rcases List.mem_cons.mp h1 with e | e
          · rw [e]
            by_cases q : a ≤ b
            · rw [show min a b = a by omega]; exact List.mem_cons_self
            · rw [show min a b = b by omega]; exact List.mem_cons_of_mem _ List.mem_cons_self
          · exact List.mem_cons_of_mem _ (List.mem_cons_of_mem _ e)
        · rcases List.mem_cons.mp hy with e | hy
          · rw [e]; show l.foldl min (min a b) ≤ a; omega
          · rcases List.mem_cons.mp hy with e | hy
            · rw [e]; show l.foldl min (min a b) ≤ b; omega
            · exact h2 y (List.mem_cons_of_mem _ hy)
    simp only [leastI, Option.some.injEq] at h
    subst h
    exact key xs x
section
variable {K : PySem.W.Frag} {N : Nm} {H : Hp} {own : Addr → Own} {k : Nat} {Q : VK} {t : Own}
theorem un_ok {op : Uop} {x d : D} {v : V} {F : List Addr} {s : Sum String String} (hs : unVal op = some s) (e : unD op x = some d) (hx : Rep K N H own t x v F) (b : ∀ a j, own a = .tp j → j < k) (q : Res K N H own k d Q) : rUnC K op [v] H Q := by
  have le := line_eq
  cases op <;> simp only [unVal, reduceCtorEq] at hs
  all_goals cases x <;> simp only [unD, reduceCtorEq] at e
  · -- len of a text
    split at e
    · cases e
      rename_i hc
      obtain ⟨rfl, rfl⟩ := hx
      refine ⟨_, _, rfl, ⟨by rw [tx_len, ← le]; exact hc, rfl⟩, ?_⟩
      rw [tx_len]
      exact q.same b (t := t) ⟨rfl, rfl⟩
    · cases e
  · cases e
    obtain ⟨a, vs, rfl, ha, hr⟩ := hx.sqt
    refine ⟨_, _, rfl, .inr ⟨vs, ha, rfl⟩, ?_⟩
    rw [hr.length]
    exact q.same b (t := t) ⟨rfl, rfl⟩
  · cases e
    obtain ⟨a, vs, G, rfl, ha, hr, _⟩ := hx.sql
    refine ⟨_, _, rfl, .inl ⟨vs, ha, rfl⟩, ?_⟩
    rw [hr.length]
    exact q.same b (t := t) ⟨rfl, rfl⟩
  · -- str
    split at e
    · cases e
      rename_i hc
      obtain ⟨rfl, rfl⟩ := hx
      refine ⟨_, rfl, log_small hc, ?_⟩
      exact (congrArg (fun z => Q (.str z) H) (str_digs _)).mpr (q.same b (t := t) ⟨rfl, rfl⟩)
    · cases e
  · -- int of a truth value
    cases e
    obtain ⟨rfl, rfl⟩ := hx
    exact .inl (.inr ⟨_, rfl, q.same b (t := t) ⟨rfl, rfl⟩⟩)
  · cases e
    obtain ⟨rfl, rfl⟩ := hx
    exact .inl (.inl ⟨_, rfl, q.same b (t := t) ⟨rfl, rfl⟩⟩)
  · -- int of a text
    rename_i s
    split at e
    · rename_i hl
      split at e
      · rename_i n hn
        cases e
        obtain ⟨rfl, rfl⟩ := hx
        unfold figs at hn
        split at hn
        · cases hn
        · rename_i hne
          split at hn
          · rename_i hd
            cases hn
            have hd' : NumText.AllDigits (tx s).cps.toList := by
              intro c hc
              have := List.all_eq_true.mp hd c (by simpa [tx] using hc)
              simp only [Bool.and_eq_true, Nat.ble_eq] at this
              exact this
            have z := PySem.intText_digits hd' (by intro z; apply hne; simpa [tx] using z) (by rw [tx_len]; omega)
            refine .inr ⟨_, _, rfl, z, by rw [tx_len]; omega, ?_⟩
            exact q.same b (t := t) ⟨rfl, rfl⟩
          · cases hn
      · cases e
    · cases e
  · -- tuple of a tuple
    split at e
    · rename_i hf
      cases e
      obtain ⟨a, vs, rfl, ha, hr⟩ := id hx
      have f : fro (.tup _) = true := hf
      exact ⟨a, vs, rfl, .inr ⟨ha.sq, q.same b (hx.ofFro (t' := t) f)⟩⟩
    · cases e
  · split at e
    · rename_i hf
      cases e
      obtain ⟨a, vs, G, rfl, ha, hr, _⟩ := hx.sql
      exact ⟨a, vs, rfl, .inl ⟨ha, fun p hp => q.newT b (hr.ofFros (t' := .fz) hf) hp⟩⟩
    · cases e
  · split at e
    · rename_i hf
      cases e
      obtain ⟨a, vs, rfl, ha, hr⟩ := hx.sqt
      exact ⟨a, vs, rfl, .inr ha, fun p hp => q.newL b (hr.ofFros (t' := .fz) hf) hp⟩
    · cases e
  · split at e
    · rename_i hf
      cases e
      obtain ⟨a, vs, G, rfl, ha, hr, _⟩ := hx.sql
      exact ⟨a, vs, rfl, .inl ha, fun p hp => q.newL b (hr.ofFros (t' := .fz) hf) hp⟩
    · cases e
  · -- sorted
    split at e
    · rename_i ns hn
      cases e
      obtain ⟨a, vs, G, rfl, ha, hr, _⟩ := hx.sql
      rw [hr.ints hn] at ha
      refine ⟨a, ns, rfl, ha, fun ns' p hp hs' hnew => ?_⟩
      have z : ns' = sortI ns := PySem.W.ksm_same (hp.trans (perm_sortI ns).symm) hs' (sortI_sorted ns)
      subst z
      exact q.newL b (reps_ints (t := .fz) _) hnew
    · cases e
  · -- sum
    split at e
    · rename_i ns hn
      cases e
      obtain ⟨a, vs, G, rfl, ha, hr, _⟩ := hx.sql
      rw [hr.ints hn] at ha
      exact ⟨a, ns, rfl, ha, q.same b (t := t) ⟨rfl, rfl⟩⟩
    · cases e
  · split at e
    · rename_i ns hn
      cases e
      obtain ⟨a, vs, G, rfl, ha, hr, _⟩ := hx.sql
      rw [hr.bls hn] at ha
      exact ⟨a, ns, rfl, ha, q.same b (t := t) ⟨rfl, rfl⟩⟩
    · cases e
  · split at e
    · rename_i ns hn
      cases e
      obtain ⟨a, vs, G, rfl, ha, hr, _⟩ := hx.sql
      rw [hr.bls hn] at ha
      exact ⟨a, ns, rfl, ha, q.same b (t := t) ⟨rfl, rfl⟩⟩
    · cases e
  · cases e
    obtain ⟨rfl, rfl⟩ := hx
    exact ⟨_, rfl, q.same b (t := t) ⟨rfl, rfl⟩⟩
theorem minD_ok {x d : D} {v : V} {F : List Addr} (e : unD .minD x = some d) (hx : Rep K N H own t x v F) (b : ∀ a j, own a = .tp j → j < k) (q : Res K N H own k d Q) : rUnC K .minD [v] H Q := by
  cases x <;> simp only [unD, reduceCtorEq] at e
  split at e
  · rename_i ns hn
    obtain ⟨a, vs, G, rfl, ha, hr, _⟩ := hx.sql
    rw [hr.ints hn] at ha
    split at e
    · rename_i m hm
      cases e
      obtain ⟨h1, h2⟩ := leastI_mem hm
      refine .inr ⟨a, ns, rfl, ha, List.length_pos_of_mem h1, fun m' hm' hle => ?_⟩
      have z : m' = m := by
        have a1 := hle m h1
        have a2 := h2 m' hm'
        omega
      subst z
      exact q.same b (t := t) ⟨rfl, rfl⟩
    · rename_i hm
      cases e
      have z : ns = [] := by
        cases ns with
        | nil => rfl
        | cons n ns => simp [leastI] at hm
      subst z
      exact .inl ⟨a, rfl, ha, q.same b (t := t) ⟨rfl, rfl⟩⟩
  · cases e
/-- a part of what is read stands as it stood: a subscript. F': the part's own -/
theorem idx_ok {o i d : D} {v w : V} {F G : List Addr} {t2 : Own} (e : idxD o i = some d) (ho : Rep K N H own t o v F) (hi : Rep K N H own t2 i w G) (n : F.Nodup) (q : ∀ z F', Rep K N H own t d z F' → F'.Nodup → (∀ a ∈ F', a ∈ F) → Q z H) : rIx K v w H Q := by
  have le := line_eq
  unfold idxD at e
  split at e
  · obtain ⟨a, vs, G1, rfl, ha, hr, n1, sub⟩ := ho.sql
    obtain ⟨rfl, rfl⟩ := hi
    obtain ⟨j, e1, e2⟩ := Option.bind_eq_some_iff.mp e
    obtain ⟨z, F', g1, g2, g3, g4⟩ := hr.get e2
    rename_i k
    have : L2.atI vs k = some z := by
      unfold L2.atI
      rw [hr.length, e1]
      exact g1
    exact .inl ⟨a, vs, _, z, rfl, rfl, ha, this, q z F' g2 (g3 (n1 n)) fun x hx => sub x (g4 x hx)⟩
  · obtain ⟨a, vs, rfl, ha, hr⟩ := ho.sqt
    obtain ⟨rfl, rfl⟩ := hi
    obtain ⟨j, e1, e2⟩ := Option.bind_eq_some_iff.mp e
    obtain ⟨z, F', g1, g2, g3, g4⟩ := hr.get e2
    rename_i k
    have : L2.atI vs k = some z := by
      unfold L2.atI
      rw [hr.length, e1]
      exact g1
    exact .inr (.inl ⟨a, vs, _, z, rfl, rfl, ha, this, q z F' g2 (g3 n) g4⟩)
  · split at e
    · rename_i hl
      split at e
      · rename_i c hc
        cases e
        obtain ⟨rfl, rfl⟩ := ho
        obtain ⟨rfl, rfl⟩ := hi
        exact .inr (.inr ⟨_, _, c, rfl, rfl, by rw [tx_len, ← le]; exact hl, hc, q _ [] ⟨rfl, rfl⟩ List.nodup_nil fun x hx => nomatch hx⟩)
      · cases e
    · cases e
  · cases e
/-- slices -/
def rSlc (K : PySem.W.Frag) : V → Option Int → Option Int → Hp → VK → Prop := fun x lo hi H Q => rSlL K x lo hi H Q ∨ rSlA K x lo hi H Q ∨ rSlS x lo hi H Q
theorem sl_all {X : Cx} : SlR X (rSlc X.K) := sl_list.or (sl_tupA.or sl_str)
theorem Reps.cut {ds : List D} {vs : List V} (h : Reps K N H own t ds vs []) (lo hi : Option Int) : Reps K N H own t (Ev.cut ds lo hi) (cutV vs lo hi) [] := by
  unfold Ev.cut cutV
  rw [h.length]
  exact (h.drop _).take _
theorem slc_ok {o d : D} {lo hi : Option Int} {v : V} {F : List Addr} (e : slcD o lo hi = some d) (ho : Rep K N H own t o v F) (b : ∀ a j, own a = .tp j → j < k) (q : Res K N H own k d Q) : rSlc K v lo hi H Q := by
  have le := line_eq
  unfold slcD at e
  split at e
  · split at e
    · rename_i hf
      cases e
      obtain ⟨a, vs, G, rfl, ha, hr, _⟩ := ho.sql
      exact .inl ⟨a, vs, rfl, ha, fun p hp => q.newL b ((hr.ofFros (t' := .fz) hf).cut lo hi) hp⟩
    · cases e
  · split at e
    · rename_i ds hf
      cases e
      obtain ⟨a, vs, rfl, ha, hr⟩ := id ho
      have hr' := hr.ofFros (t' := .fz) hf
      refine .inr (.inl ⟨a, vs, rfl, ha.sq, fun z => ?_, fun _ p hp => q.newT b (hr'.cut lo hi) hp⟩)
      have z' : Ev.cut ds lo hi = ds := by
        unfold Ev.cut
        rw [← hr.length, z.1, z.2, List.drop_zero, Nat.sub_zero]
        exact List.take_of_length_le (by rw [hr.length]; exact Nat.le_refl _)
      rw [z'] at q
      have f : fro (.tup ds) = true := hf
      exact q.same b (ho.ofFro (t' := t) f)
    · cases e
  · split at e
    · rename_i s hl
      cases e
      obtain ⟨rfl, rfl⟩ := ho
      refine .inr (.inr ⟨_, rfl, by rw [tx_len, ← le]; exact hl, ?_⟩)
      have z : cutS (tx s) lo hi = tx (Ev.cut s lo hi) := by
        unfold cutS Ev.cut
        rw [tx_len]
      rw [z]
      exact q.same b (t := t) ⟨rfl, rfl⟩
    · cases e
  · cases e
/-- isinstance of a built-in type -/
def tyName : Nat → String
  | 0 => "int" | 1 => "str" | 2 => "tuple" | 3 => "list" | 4 => "bool" | _ => ""
theorem isi_ok {d : D} {n : Nat} {r : Bool} {v : V} {F : List Addr} (e : isiD d n = some r) (h5 : n < 5) (h : Rep K N H own t d v F) (q : Q (.bl r) H) : rIsi K [v, .ty (tyName n)] H Q := by
  have key : ∃ T : String, TyX K H v (.type T) ∧ kitB T (tyName n) = some r := by
    cases d with
    | non =>
      obtain ⟨rfl, _⟩ := h
      refine ⟨_, .base .non, ?_⟩
      rcases n with _ | _ | _ | _ | _ | n <;> first | omega | (simp [isiD] at e; subst e; decide +kernel)
    | bl x =>
      obtain ⟨rfl, _⟩ := h
      refine ⟨_, .base (.bl _), ?_⟩
      rcases n with _ | _ | _ | _ | _ | n <;> first | omega | (simp [isiD] at e; subst e; decide +kernel)
    | int x =>
      obtain ⟨rfl, _⟩ := h
      refine ⟨_, .base (.int _), ?_⟩
      rcases n with _ | _ | _ | _ | _ | n <;> first | omega | (simp [isiD] at e; subst e; decide +kernel)
    | str x =>
      obtain ⟨rfl, _⟩ := h
      refine ⟨_, .base (.str _), ?_⟩
      rcases n with _ | _ | _ | _ | _ | n <;> first | omega | (simp [isiD] at e; subst e; decide +kernel)
    | tup xs =>
      obtain ⟨a, vs, rfl, ha, hr⟩ := h
      refine ⟨"tuple", ?_, ?_⟩
      · rcases ha with ⟨ha, _⟩ | ⟨o, its, m, k1, k2, _⟩
        · exact .base (.tup ha)
        · exact .kTuple k1 k2
      · rcases n with _ | _ | _ | _ | _ | n <;> first | omega | (simp [isiD] at e; subst e; decide +kernel)
    | lst o xs =>
      obtain ⟨a, vs, G, rfl, ha, hr, _⟩ := h.sql
      refine ⟨"list", ?_, ?_⟩
      · rcases ha with (ha | ⟨ob, ha⟩) | ⟨ob, its, m, k1, k2, _⟩
        · exact .base (.lst ha)
        · exact .base (.frz ha)
        · exact .kList k1 k2
      · rcases n with _ | _ | _ | _ | _ | n <;> first | omega | (simp [isiD] at e; subst e; decide +kernel)
    | ins o c ks vs => simp [isiD] at e
  obtain ⟨T, k1, k2⟩ := key
  exact ⟨v, .ty (tyName n), _, _, r, rfl, .ty _, k1, kit_ty k2, q⟩
end
end Ev

/-! The names of the program; the text against the tree of annotations; the readings. -/
namespace Ev
open PySem PySem.Spec PyProof.Rows L2
/-- the names of the program, by numbers -/
structure Nt where
  fld : Nat → Str
  nf : Nat
  fn : Nat → Option Str
  mt : Nat → Nat → Option Str
  cn : Nat → Option Str
  gn : Nat → Option Str
  xn : Nat → Option Str
  hx : Bool
  bl : List Str
/-! ### the text -/
def visB (sc : Scope) (x : Str) : Bool := match sc.names.lookup x with | some .local => true | some .cell => true | some .free => true | _ => false
def locB (sc : Scope) (x : Str) : Bool := match sc.names.lookup x with | some .local => true | some .cell => true | _ => false
def glB (sc : Scope) (x : Str) : Bool := match sc.names.lookup x with | some .globalImplicit => true | _ => false
def dbg (x : Str) : Bool := x == ("__debug__" : Str)
def cld (x : Str) : Bool := x == ("__classdict__" : Str)
theorem visB_ok {sc : Scope} {x : Str} (h : visB sc x = true) : Vis sc x := by
  unfold visB at h
  split at h
  · exact .inl (by assumption)
  · exact .inr (.inl (by assumption))
  · exact .inr (.inr (by assumption))
  · cases h
theorem locB_ok {sc : Scope} {x : Str} (h : locB sc x = true) : Loc sc x := by
  unfold locB at h
  split at h
  · exact .inl (by assumption)
  · exact .inr (by assumption)
  · cases h
/-- what stands alone: no star, no walrus -/
def isStar : Expr → Bool | .Starred _ _ => true | _ => false
theorem star_of {e : Expr} {es : List Expr} {env : PySem.Env} (h : isStar e = false) : starEach (e :: es) env = (false, eval e env) :: starEach es env := by
  cases e <;> first | rfl | cases h
theorem stars_of : ∀ {es : List Expr} {env : PySem.Env} {pos : Pos}, es.all (fun e => !isStar e) = true → (backTo pos (starEach es env)).any (·.1) = false
  | [], _, _, _ => rfl
  | e :: es, env, pos, h => by
    simp only [List.all_cons, Bool.and_eq_true, Bool.not_eq_true'] at h
    rw [star_of h.1]
    have ih := stars_of (pos := pos) (env := env) h.2
    simpa [backTo] using ih
/-- an expression whose attribute is looked up as it stands -/
def attrB : Expr → Bool
  | .Name _ _ => true | .Attribute _ _ _ => true | .Subscript _ _ _ => true | .Constant _ _ _ => true | _ => false
theorem attr_base {o : Expr} {f : Str} {env : PySem.Env} (h : attrB o = true) : attributeBase o f env (eval o env) = eval o env := by
  cases o <;> first | rfl | cases h
/-- a subscript's place -/
def plIx : Expr → Bool
  | .Slice _ _ _ _ => false | _ => true
theorem plIx_ok {b : Expr} (h : plIx b = true) : PlainIx b := by
  cases b <;> first | cases h; done | exact fun _ _ => rfl
/-- a test that is its value's truth -/
def plTest : Expr → Bool
  | .UnaryOp _ _ _ => false | .BoolOp _ _ _ => false | .IfExp _ _ _ _ => false | .Compare _ _ _ _ => false | _ => true
theorem plTest_ok {e : Expr} {env : PySem.Env} (h : plTest e = true) (whole : Sem Value) : isTrue e env whole = (do let v ← whole; standAt e.pos; holding [v] (truthy v)) := by
  cases e <;> first | cases h; done | rfl

/-! ### what is wished of the way's end -/
section
variable (K : PySem.W.Frag) (N : Nm) (W : WX)
def PostOk (own : Addr → Own) (σ : L2.St) (H : Hp) (t : Nat) (M : List Nat) (tag : Own) (d : D) (ρ' : Env) (Q : VK) : Prop :=
  ∀ own' H' v F, Kp M own H own' H' → EnvOk K N own' σ H' ρ' (t + 1) → Rep K N H' own' tag d v F → F.Nodup → Q v H'
/-- an error of the class c with the place p -/
def PostX (own : Addr → Own) (σ : L2.St) (H : Hp) (c : Nat) (p : D) : Prop :=
  ∀ own' H' dx fs vp, KpF own H own' H' → H' dx = some (.xd fs) → fs.lookup ("place" : Str) = some vp → Rep K N H' own' .fz p vp [] → W (.ref (N.xc c)) (some dx) σ H'
def PostE (r : R (D × Env)) (own : Addr → Own) (σ : L2.St) (H : Hp) (t : Nat) (M : List Nat) (tag : Own) (Q : VK) : Prop := match r with
  | .ok (d, ρ') => PostOk K N own σ H t M tag d ρ' Q
  | .exn c p => PostX K N W own σ H c p
  | .bad => False
def tagOf (e : E) (t : Nat) : Own := if isPath e then .sl (root e) else .tp t
/-- THE READING of an annotated expression -/
def tE (g : G) (e : E) (vw : Bool) : TE := fun σ H Q => ∃ own ρ t, EnvOk K N own σ H ρ t ∧ PostE K N W (ev g e vw ρ) own σ H t (tch e) (tagOf e t) Q
end
section
variable {K : PySem.W.Frag} {N : Nm} {W : WX} {H H1 H2 : Hp} {own own1 own2 : Addr → Own} {σ : L2.St} {ρ ρ1 : Env} {t k : Nat} {M M1 M2 : List Nat} {tag : Own} {d : D} {Q : VK} {c : Nat} {p : D}
theorem PostX.later (q : PostX K N W own σ H c p) (k1 : KpF own H own1 H1) : PostX K N W own1 σ H1 c p := fun own' H' dx fs vp kf e1 e2 r => q own' H' dx fs vp (k1.trans kf) e1 e2 r
/-- values on the way let go; the one at k is the result -/
def finO (own : Addr → Own) (t k : Nat) : Addr → Own := fun a => match own a with | .tp j => if j = k then .tp t else if j < t then .tp j else .fz | o => o
theorem finO_k {a : Addr} (h : own a = .tp k) : finO own t k a = .tp t := by unfold finO; rw [h]; exact if_pos rfl
theorem finO_lt {a : Addr} {j : Nat} (h : own a = .tp j) (hj : j < t) (hk : j ≠ k) : finO own t k a = .tp j := by unfold finO; rw [h]; simp [hj, hk]
theorem finO_of {a : Addr} (h : ∀ j, own a ≠ .tp j) : finO own t k a = own a := by
  unfold finO
  split
  · rename_i j e; exact absurd e (h j)
  · rfl
theorem finO_bnd {a : Addr} {j : Nat} (h : finO own t k a = .tp j) : j < t + 1 := by
  unfold finO at h
  split at h
  · split at h
    · cases h; omega
    · split at h
      · cases h; omega
      · cases h
  · rename_i hn
    exact absurd h (hn j)
theorem finO_f : KpF own H (finO own t k) H := fun a o h z => ⟨h, finO_of fun j e => by rcases z with z | z <;> (rw [z] at e; cases e)⟩
/-- the way's end, from a value at the place k ≥ t: the earlier values on the way are let go -/
theorem Res.fin (env : EnvOk K N own1 σ H1 ρ1 k) (q : PostOk K N own σ H t M (.tp t) d ρ1 Q) (kp : Kp M own H own1 H1) (b : ∀ a j, own a = .tp j → j < t) (htk : t ≤ k) : Res K N H1 own1 k d Q := fun own' H' v F kp1 bnd rep nd => by
  have kp2 : Kp M own H own' H' := (kp.trans kp1).mono fun i hi => by simpa using hi
  refine q (finO own' t k) H' v F (fun a o h n => ?_) ?_ ?_ nd
  · obtain ⟨e1, e2⟩ := kp2 a o h n
    refine ⟨e1, ?_⟩
    cases hc : own a with
    | tp j =>
      have hj := b a j hc
      exact (finO_lt (e2.trans hc) hj (by omega))
    | _ => exact (finO_of (fun j e => by rw [e2, hc] at e; cases e)).trans (e2.trans hc)
  · refine env.move (fun a j h => finO_bnd h) (fun a o h z => ?_) fun a o i h z _ => ?_
    · obtain ⟨x, y⟩ := kp1.f a o h z
      obtain ⟨x', y'⟩ := finO_f (own := own') (t := t) (k := k) a o x (by rw [y]; exact z)
      exact ⟨x', y'.trans y⟩
    · obtain ⟨x, y⟩ := kp1 a o h fun _ hi => nomatch hi
      exact ⟨x, (finO_of fun j e => by rw [y, z] at e; cases e).trans (y.trans z)⟩
  · refine Rep.carry finO_f d rep fun a ha o ho => ⟨ho, finO_k (Rep.owned d rep a ha).1⟩
/-- what a gave stands behind b -/
theorem Rep.stay {a : E} {x : D} {v : V} {F : List Addr} {b : List Nat} (s : safe a x b = true) (r : Rep K N H1 own1 (tagOf a t) x v F) (kp : Kp b own1 H1 own2 H2) : Rep K N H2 own2 (tagOf a t) x v F := by
  by_cases f : Ev.fro x = true
  · have e := Rep.fro x r f
    subst e
    exact Rep.carry kp.f x r fun a ha => nomatch ha
  · refine r.keep kp fun i hi => ?_
    unfold safe at s
    rw [Bool.eq_false_iff.mpr f] at s
    simp only [Bool.false_or, Bool.or_eq_true, Bool.not_eq_true'] at s
    unfold tagOf
    rcases s with s | s
    · rw [s]; exact fun z => by cases z
    · split
      · intro z
        cases z
        exact absurd (List.contains_iff_mem.mpr hi) (by rw [s]; decide)
      · exact fun z => by cases z
end
end Ev

/-! Each annotated expression's reading gives the rule's reading. -/
namespace Ev
open PySem PySem.Spec PyProof.Rows L2
theorem nil_of {b : Bool} {r : R (D × Env)} (h : b = false) : R.guard b r = .bad := by subst h; rfl
section
variable {K : PySem.W.Frag} {N : Nm} {W : WX} {g : G} {vw : Bool} {σ : L2.St} {H : Hp} {Q : VK}
theorem sub_app_l {α : Type} {l m : List α} : ∀ i ∈ l, i ∈ l ++ m := fun _ h => List.mem_append_left _ h
theorem sub_app_r {α : Type} {l m : List α} : ∀ i ∈ m, i ∈ l ++ m := fun _ h => List.mem_append_right _ h
theorem r_var {i : Nat} (h : tE K N W g (.var i) vw σ H Q) : tVar i σ H Q := by
  obtain ⟨own, ρ, t, env, post⟩ := h
  simp only [ev] at post
  cases h1 : getS ρ i with
  | none => rw [h1] at post; exact post.elim
  | some d =>
    obtain ⟨v, F, e1, r, n⟩ := env.sl i d h1
    rw [h1] at post
    cases h2 : (vw || fro d) with
    | false => dsimp only at post; rw [h2] at post; exact post.elim
    | true =>
      dsimp only at post
      rw [h2] at post
      exact ⟨v, e1, post own H v F Kp.refl (env.up (Nat.le_succ _)) r n⟩
/-- owners renamed -/
def reO (own : Addr → Own) (a b : Own) : Addr → Own := fun x => if own x = a then b else own x
theorem reO_at {own : Addr → Own} {a b : Own} {x : Addr} (h : own x = a) : reO own a b x = b := if_pos h
theorem reO_ne {own : Addr → Own} {a b : Own} {x : Addr} (h : own x ≠ a) : reO own a b x = own x := if_neg h
theorem reO_kp {own : Addr → Own} {i : Nat} {b : Own} : Kp [i] own H (reO own (.sl i) b) H := fun a o h n => ⟨h, reO_ne (n i (by simp))⟩
theorem moved {own : Addr → Own} {ρ : Env} {t i : Nat} (env : EnvOk K N own σ H ρ t) (b : Own) (hb : ∀ j, b = .tp j → j < t + 1) : EnvOk K N (reO own (.sl i) b) σ H (ρ.set i none) (t + 1) :=
  ⟨by rw [List.length_set]; exact env.len, fun a k e => by
    by_cases z : own a = .sl i
    · rw [reO_at z] at e; exact hb k e
    · rw [reO_ne z] at e; exact Nat.lt_succ_of_lt (env.bnd a k e), fun j d h => by
    obtain ⟨h1, hne⟩ := getS_none h
    obtain ⟨v, F, e1, r, n⟩ := env.sl j d h1
    refine ⟨v, F, e1, Rep.carry (reO_kp (i := i)).f d r fun a ha o ho => ⟨ho, ?_⟩, n⟩
    obtain ⟨z, _⟩ := Rep.owned d r a ha
    exact (reO_ne (by rw [z]; exact fun q => hne (by cases q; rfl))).trans z⟩
theorem r_mv {i : Nat} (h : tE K N W g (.mv i) vw σ H Q) : tVar i σ H Q := by
  obtain ⟨own, ρ, t, env, post⟩ := h
  simp only [ev] at post
  cases h1 : getS ρ i with
  | none => rw [h1] at post; exact post.elim
  | some d =>
    obtain ⟨v, F, e1, r, n⟩ := env.sl i d h1
    rw [h1] at post
    refine ⟨v, e1, post _ H v F (reO_kp (b := .tp t)) (moved env _ fun j e => by cases e; exact Nat.lt_succ_self _) (Rep.carry (reO_kp (i := i)).f d r fun a ha o ho => ⟨ho, reO_at (Rep.owned d r a ha).1⟩) n⟩
theorem r_bor {i : Nat} (h : tE K N W g (.bor i) vw σ H Q) : tVar i σ H Q := r_mv (g := g) (i := i) (vw := vw) h
theorem r_fz {i : Nat} (h : tE K N W g (.fz i) vw σ H Q) : tVar i σ H Q := by
  obtain ⟨own, ρ, t, env, post⟩ := h
  simp only [ev] at post
  cases h1 : getS ρ i with
  | none => rw [h1] at post; exact post.elim
  | some d =>
    obtain ⟨v, F, e1, r, n⟩ := env.sl i d h1
    rw [h1] at post
    have r' : ∀ tg, Rep K N H (reO own (.sl i) .fz) tg (frz d) v [] := fun tg => Rep.frz (reO_kp (i := i)).f d r fun a ha => reO_at (Rep.owned d r a ha).1
    have e2 := moved (i := i) env .fz fun j e => by cases e
    have e3 := e2.set (i := i) (d := frz d) (v := v) (by rw [List.length_set]; exact getS_lt h1) (r' _) List.nodup_nil
    rw [List.set_set] at e3
    have hs : σ.set i (some v) = σ := by
      apply List.ext_getElem?
      intro j
      by_cases z : i = j
      · subst z
        rw [List.getElem?_set_self (by rw [env.len]; exact getS_lt h1)]
        exact e1.symm
      · rw [List.getElem?_set_ne z]
    rw [hs] at e3
    exact ⟨v, e1, post _ H v [] (reO_kp (b := .fz)) e3 (r' _) List.nodup_nil⟩
theorem r_bin {op : Bop} {a b : E} (h : tE K N W g (.bin op a b) vw σ H Q) : tOp (rBin K op) (tE K N W g a true) (tE K N W g b true) σ H Q := by
  obtain ⟨own, ρ, t, env, post⟩ := h
  simp only [ev] at post
  refine ⟨own, ρ, t, env, ?_⟩
  cases h1 : ev g a true ρ with
  | bad => rw [h1] at post; exact post.elim
  | exn c p => rw [h1] at post; exact post
  | ok r =>
    obtain ⟨x, ρ1⟩ := r
    rw [h1] at post
    intro own1 H1 v F kp1 env1 r1 n1
    refine ⟨own1, ρ1, t + 1, env1, ?_⟩
    cases h2 : ev g b true ρ1 with
    | bad => dsimp only [R.bind] at post; rw [h2] at post; exact post.elim
    | exn c p => dsimp only [R.bind] at post; rw [h2] at post; exact PostX.later post kp1.f
    | ok r =>
      obtain ⟨y, ρ2⟩ := r
      dsimp only [R.bind] at post
      rw [h2] at post
      intro own2 H2 w F2 kp2 env2 r2 n2
      dsimp only [R.bind] at post
      cases h3 : safe a x (tch b) with
      | false => rw [h3] at post; exact post.elim
      | true =>
        rw [h3] at post
        dsimp only [R.guard] at post
        cases h4 : binD op x y with
        | none => rw [h4] at post; exact post.elim
        | some d =>
          rw [h4] at post
          exact bin_ok h4 (r1.stay h3 kp2) r2 env2.bnd (Res.fin (t := t) env2 post (kp1.trans kp2) env.bnd (by omega))

theorem PostOk.at {own own2 : Addr → Own} {ρ2 : Env} {H2 : Hp} {t k : Nat} {M : List Nat} {tag : Own} {d : D} {z : V} {F' : List Addr} (q : PostOk K N own σ H t M tag d ρ2 Q) (kp : Kp M own H own2 H2) (b : ∀ a j, own a = .tp j → j < t) (env2 : EnvOk K N own2 σ H2 ρ2 k)
    (rep : Rep K N H2 own2 tag d z F') (nd : F'.Nodup) (ht : ∀ j, tag = .tp j → j < t + 1) : Q z H2 := by
  refine q (cutO own2 (t + 1)) H2 z F' (fun a o h n => ?_) (env2.cut (t + 1)) ?_ nd
  · obtain ⟨e1, e2⟩ := kp a o h n
    exact ⟨e1, (cutO_of fun j e => Nat.lt_succ_of_lt (b a j (e2.symm.trans e))).trans e2⟩
  · have kf : KpF own2 H2 (cutO own2 (t + 1)) H2 := fun a o h z => ⟨h, cutO_of fun j e => by rcases z with z | z <;> (rw [z] at e; cases e)⟩
    refine Rep.carry kf d rep fun a ha o ho => ⟨ho, ?_⟩
    obtain ⟨z, _⟩ := Rep.owned d rep a ha
    exact (cutO_of fun j e => ht j (z.symm.trans e)).trans z
theorem tagOf_bnd {e : E} {t : Nat} : ∀ j, tagOf e t = .tp j → j < t + 1 := fun j h => by
  unfold tagOf at h
  split at h
  · cases h
  · cases h; exact Nat.lt_succ_self _
/-- constants -/
def cV : D → V
  | .int i => .int i | .str s => .str (tx s) | .bl b => .bl b | _ => .non
def isC : D → Bool
  | .int _ => true | .str _ => true | .bl _ => true | .non => true | _ => false
theorem rep_c {own : Addr → Own} {t : Own} {d : D} (h : isC d = true) : Rep K N H own t d (cV d) [] := by
  cases d <;> first | exact ⟨rfl, rfl⟩ | cases h
theorem fro_c {d : D} (h : isC d = true) : fro d = true := by
  cases d <;> first | rfl | cases h
theorem r_k {d : D} (hc : isC d = true) (h : tE K N W g (.k d) vw σ H Q) : tC (cV d) σ H Q := by
  obtain ⟨own, ρ, t, env, post⟩ := h
  simp only [ev, fro_c hc] at post
  exact post own H (cV d) [] Kp.refl (env.up (Nat.le_succ _)) (rep_c hc) List.nodup_nil
theorem r_glob {n : Nat} {v : V} (hv : ∀ H own t, Rep K N H own t (g.glob n) v []) (h : tE K N W g (.glob n) vw σ H Q) : tC v σ H Q := by
  obtain ⟨own, ρ, t, env, post⟩ := h
  simp only [ev] at post
  cases h2 : fro (g.glob n) with
  | false => rw [h2] at post; exact post.elim
  | true =>
    rw [h2] at post
    exact post own H v [] Kp.refl (env.up (Nat.le_succ _)) (hv _ _ _) List.nodup_nil
theorem fld_look {own : Addr → Own} {t : Own} {f : Nat} {d : D} (inj : ∀ a b, N.fld a = N.fld b → a = b) : ∀ {ks : List Nat} {ds : List D} {fs : List (Str × V)} {F : List Addr}, fs.map (·.1) = ks.map N.fld → Reps K N H own t ds (fs.map (·.2)) F → fldOf ks ds f = some d →
    ∃ v F', fs.lookup (N.fld f) = some v ∧ Rep K N H own t d v F' ∧ (F.Nodup → F'.Nodup) ∧ (∀ a ∈ F', a ∈ F)
  | [], _, _, _, _, _, e => by simp [fldOf] at e
  | _ :: _, [], _, _, _, _, e => by simp [fldOf] at e
  | k :: ks, d' :: ds, fs, F, en, hr, e => by
    cases fs with
    | nil => simp at en
    | cons p fs =>
      obtain ⟨nm, v⟩ := p
      simp only [List.map_cons, List.cons.injEq] at en
      obtain ⟨v', vs', F1, F2, e1, eF, h1, h2⟩ := hr
      simp only [List.map_cons, List.cons.injEq] at e1
      obtain ⟨rfl, rfl⟩ := e1
      subst eF
      simp only [fldOf] at e
      by_cases q : k = f
      · rw [if_pos q] at e
        cases e
        refine ⟨v, F1, ?_, h1, fun n => (List.nodup_append.mp n).1, fun a ha => List.mem_append_left _ ha⟩
        rw [en.1, q]
        simp [List.lookup]
      · rw [if_neg q] at e
        obtain ⟨w, F', g1, g2, g3, g4⟩ := fld_look inj en.2 h2 e
        refine ⟨w, F', ?_, g2, fun n => g3 (List.nodup_append.mp n).2.1, fun a ha => List.mem_append_right _ (g4 a ha)⟩
        have : (N.fld f == nm) = false := by
          rw [en.1]
          exact beq_eq_false_iff_ne.mpr fun z => q (inj _ _ z.symm)
        simp only [List.lookup, this]
        exact g1
theorem Rep.insAt {own : Addr → Own} {t : Own} {o : Fl} {c : Nat} {ks : List Nat} {ds : List D} {v : V} {F : List Addr} (h : Rep K N H own t (.ins o c ks ds) v F) : ∃ a dx fs G, v = .ref a ∧ H a = some (.ins (N.cls c) dx fs) ∧ fs.map (·.1) = ks.map N.fld ∧ Reps K N H own t ds (fs.map (·.2)) G ∧ (F.Nodup → G.Nodup) ∧ (∀ x ∈ G, x ∈ F) := by
  cases o with
  | ow =>
    obtain ⟨a, dx, fs, F', e, ht, z, eF, en, hr⟩ := h
    subst eF
    exact ⟨a, dx, fs, F', e, ht, en, hr, fun n => (List.nodup_cons.mp n).2, fun x hx => List.mem_cons_of_mem _ hx⟩
  | sh =>
    obtain ⟨a, dx, fs, e, ht, z, eF, en, hr⟩ := h
    exact ⟨a, dx, fs, [], e, ht, en, hr, fun _ => List.nodup_nil, fun x hx => nomatch hx⟩
  | ro =>
    obtain ⟨a, dx, fs, e, ht, z, eF, en, hr⟩ := h
    exact ⟨a, dx, fs, [], e, ht, en, hr, fun _ => List.nodup_nil, fun x hx => nomatch hx⟩
theorem r_fld {o : E} {f : Nat} (inj : ∀ a b, N.fld a = N.fld b → a = b) (cl : ∀ c, Cls K (N.cls c)) (na : ∀ c, NoAttr K (N.cls c) (N.fld f)) (h : tE K N W g (.fld o f) vw σ H Q) : tFld K (tE K N W g o true) (N.fld f) σ H Q := by
  obtain ⟨own, ρ, t, env, post⟩ := h
  simp only [ev] at post
  refine ⟨own, ρ, t, env, ?_⟩
  cases h1 : ev g o true ρ with
  | bad => rw [h1] at post; exact post.elim
  | exn c p => rw [h1] at post; exact post
  | ok r =>
    obtain ⟨x, ρ1⟩ := r
    rw [h1] at post
    intro own1 H1 v F kp1 env1 r1 n1
    dsimp only [R.bind] at post
    cases h2 : fldD x f with
    | none => rw [h2] at post; exact post.elim
    | some d =>
      rw [h2] at post
      dsimp only at post
      cases h3 : (!isPath o || vw || fro d) with
      | false => rw [h3] at post; exact post.elim
      | true =>
        rw [h3] at post
        cases x <;> simp only [fldD, reduceCtorEq] at h2
        obtain ⟨a, dx, fs, G, rfl, ha, en, hr, g1, g2⟩ := r1.insAt
        obtain ⟨w, F', l1, l2, l3, l4⟩ := fld_look inj en hr h2
        exact ⟨a, _, dx, fs, w, rfl, ha, cl _, na _, l1, post own1 H1 w F' kp1 env1 l2 (l3 (g1 n1))⟩
theorem r_idx {o i : E} (h : tE K N W g (.idx o i) vw σ H Q) : tOp (rIx K) (tE K N W g o true) (tE K N W g i true) σ H Q := by
  obtain ⟨own, ρ, t, env, post⟩ := h
  simp only [ev] at post
  refine ⟨own, ρ, t, env, ?_⟩
  cases h1 : ev g o true ρ with
  | bad => rw [h1] at post; exact post.elim
  | exn c p => rw [h1] at post; exact post
  | ok r =>
    obtain ⟨x, ρ1⟩ := r
    rw [h1] at post
    intro own1 H1 v F kp1 env1 r1 n1
    refine ⟨own1, ρ1, t + 1, env1, ?_⟩
    cases h2 : ev g i true ρ1 with
    | bad => dsimp only [R.bind] at post; rw [h2] at post; exact post.elim
    | exn c p => dsimp only [R.bind] at post; rw [h2] at post; exact PostX.later post kp1.f
    | ok r =>
      obtain ⟨y, ρ2⟩ := r
      dsimp only [R.bind] at post
      rw [h2] at post
      intro own2 H2 w F2 kp2 env2 r2 n2
      dsimp only [R.bind] at post
      cases h3 : safe o x (tch i) with
      | false => rw [h3] at post; exact post.elim
      | true =>
        rw [h3] at post
        dsimp only [R.guard] at post
        cases h4 : idxD x y with
        | none => rw [h4] at post; exact post.elim
        | some d =>
          rw [h4] at post
          dsimp only at post
          cases h5 : (!isPath o || vw || fro d) with
          | false => rw [h5] at post; exact post.elim
          | true =>
            rw [h5] at post
            exact idx_ok h4 (r1.stay h3 kp2) r2 n1 fun z F' rz nz _ => PostOk.at (tag := tagOf o t) post (kp1.trans kp2) env.bnd env2 rz nz tagOf_bnd
/-- a part of a slice -/
def evO (g : G) (e : E) (ρ : Env) : R (Option Int × Env) := match e with | .hole => R.ok (none, ρ) | _ => (ev g e true ρ).bind pInt
theorem ev_slc (o lo hi : E) (ρ : Env) : ev g (.slc o lo hi) vw ρ = (ev g o true ρ).bind fun (od, ρ1) => (evO g lo ρ1).bind fun (l, ρ2) => (evO g hi ρ2).bind fun (h, ρ3) => R.guard (safe o od (tch lo ++ tch hi)) (match slcD od l h with | some d => .ok (d, ρ3) | none => .bad) := by
  simp only [ev]; rfl
def isHole : E → Bool | .hole => true | _ => false
def tO (K : PySem.W.Frag) (N : Nm) (W : WX) (g : G) (e : E) : TO := if isHole e then tNoPart else tPart (tE K N W g e true)
/-- the reading of a part, from what it is worth -/
theorem r_part {e : E} {own : Addr → Own} {ρ : Env} {t : Nat} {R' : Option Int → Hp → Prop} (env : EnvOk K N own σ H ρ t) (ok : ∀ o ρ1, evO g e ρ = .ok (o, ρ1) → ∀ own1 H1, Kp (tch e) own H own1 H1 → EnvOk K N own1 σ H1 ρ1 (t + 1) → R' o H1)
    (xn : ∀ c p, evO g e ρ = .exn c p → PostX K N W own σ H c p) (nb : evO g e ρ ≠ .bad) : tO K N W g e σ H R' := by
  unfold tO
  by_cases hh : isHole e = true
  · rw [if_pos hh]
    cases e <;> first | cases hh; done | skip
    exact ok none ρ rfl own H Kp.refl (env.up (Nat.le_succ _))
  · rw [if_neg hh]
    have e1 : evO g e ρ = (ev g e true ρ).bind pInt := by
      cases e <;> first | rfl | exact absurd rfl hh
    rw [e1] at ok xn nb
    refine ⟨own, ρ, t, env, ?_⟩
    cases h1 : ev g e true ρ with
    | bad => rw [h1] at nb; exact absurd rfl nb
    | exn c p => rw [h1] at xn; exact xn c p rfl
    | ok r =>
      obtain ⟨x, ρ1⟩ := r
      rw [h1] at ok nb
      intro own1 H1 v F kp1 env1 r1 n1
      cases x <;> first | exact absurd rfl nb | skip
      rename_i i
      exact ⟨i, r1.1, ok (some i) ρ1 rfl own1 H1 kp1 env1⟩
theorem r_slc {o lo hi : E} (h : tE K N W g (.slc o lo hi) vw σ H Q) : tSl (rSlc K) (tE K N W g o true) (tO K N W g lo) (tO K N W g hi) σ H Q := by
  obtain ⟨own, ρ, t, env, post⟩ := h
  rw [ev_slc] at post
  refine ⟨own, ρ, t, env, ?_⟩
  cases h1 : ev g o true ρ with
  | bad => rw [h1] at post; exact post.elim
  | exn c p => rw [h1] at post; exact post
  | ok r =>
    obtain ⟨x, ρ1⟩ := r
    rw [h1] at post
    intro own1 H1 v F kp1 env1 r1 n1
    dsimp only [R.bind] at post
    refine r_part env1 (fun l ρ2 h2 own2 H2 kp2 env2 => ?_) (fun c p h2 => ?_) fun h2 => ?_
    · rw [h2] at post
      dsimp only [R.bind] at post
      refine r_part env2 (fun u ρ3 h3 own3 H3 kp3 env3 => ?_) (fun c p h3 => ?_) fun h3 => ?_
      · rw [h3] at post
        dsimp only [R.bind] at post
        cases h4 : safe o x (tch lo ++ tch hi) with
        | false => rw [h4] at post; exact post.elim
        | true =>
          rw [h4] at post
          dsimp only [R.guard] at post
          cases h5 : slcD x l u with
          | none => rw [h5] at post; exact post.elim
          | some d =>
            rw [h5] at post
            exact slc_ok h5 (r1.stay h4 (kp2.trans kp3)) env3.bnd (Res.fin (t := t) env3 post ((kp1.trans (kp2.trans kp3))) env.bnd (by omega))
      · rw [h3] at post
        exact PostX.later post (kp1.f.trans kp2.f)
      · rw [h3] at post; exact post.elim
    · rw [h2] at post
      exact PostX.later post kp1.f
    · rw [h2] at post; exact post.elim
end
end Ev

/-! Readings, continued: one-place operators, chains, and/or, tests, displays, formatted texts, isinstance. -/
namespace Ev
open PySem PySem.Spec PyProof.Rows L2
section
variable {K : PySem.W.Frag} {N : Nm} {W : WX} {g : G} {vw : Bool} {σ : L2.St} {H : Hp} {Q : VK}
theorem r_un {op : Uop} {a : E} {R' : V → Hp → VK → Prop} (hr : ∀ (x d : D) (v : V) (F : List Addr) (own : Addr → Own) (H : Hp) (t : Own) (k : Nat), unD op x = some d → Rep K N H own t x v F → (∀ a j, own a = .tp j → j < k) → Res K N H own k d Q → R' v H Q)
    (h : tE K N W g (.un op a) vw σ H Q) : tE K N W g a true σ H fun x H1 => R' x H1 Q := by
  obtain ⟨own, ρ, t, env, post⟩ := h
  simp only [ev] at post
  refine ⟨own, ρ, t, env, ?_⟩
  cases h1 : ev g a true ρ with
  | bad => rw [h1] at post; exact post.elim
  | exn c p => rw [h1] at post; exact post
  | ok r =>
    obtain ⟨x, ρ1⟩ := r
    rw [h1] at post
    intro own1 H1 v F kp1 env1 r1 n1
    dsimp only [R.bind] at post
    cases h2 : unD op x with
    | none => rw [h2] at post; exact post.elim
    | some d =>
      rw [h2] at post
      exact hr x d v F own1 H1 _ (t + 1) h2 r1 env1.bnd (Res.fin (t := t) env1 post kp1 env.bnd (by omega))
theorem r_call1 {op : Uop} {s : Sum String String} (hs : unVal op = some s) {a : E} (h : tE K N W g (.un op a) vw σ H Q) : tCB (rUnC K op) (tCons (tE K N W g a true) tNil) σ H Q :=
  r_un (R' := fun x H1 Q => rUnC K op [x] H1 Q) (fun x d v F own H t k e r b q => un_ok hs e r b q) h
theorem r_minD {a : E} (h : tE K N W g (.un .minD a) vw σ H Q) : tCB (rUnC K .minD) (tCons (tE K N W g a true) tNil) σ H Q :=
  r_un (R' := fun x H1 Q => rUnC K .minD [x] H1 Q) (fun x d v F own H t k e r b q => minD_ok e r b q) h
theorem r_neg {a : E} (h : tE K N W g (.un .neg a) vw σ H Q) : tUn (rU fun i => .int (-i)) (tE K N W g a true) σ H Q :=
  r_un (R' := fun x H1 Q => rU (fun i => .int (-i)) x H1 Q) (fun x d v F own H t k e r b q => by
    cases x <;> simp only [unD, reduceCtorEq] at e
    cases e
    exact ⟨_, r.1, q.same b (t := t) ⟨rfl, rfl⟩⟩) h
theorem r_not {a : E} (h : tE K N W g (.un .not a) vw σ H Q) : tNotV (tE K N W g a true) σ H Q :=
  r_un (R' := fun x H1 Q => ∃ c, x = .bl c ∧ Q (.bl (!c)) H1) (fun x d v F own H t k e r b q => by
    cases x <;> simp only [unD, reduceCtorEq] at e
    cases e
    exact ⟨_, r.1, q.same b (t := t) ⟨rfl, rfl⟩⟩) h
theorem rep_non {own : Addr → Own} {t : Own} : ∀ {x : D} {v : V} {F : List Addr}, Rep K N H own t x v F → decide (v = .non) = (match x with | .non => true | _ => false)
  | .non, _, _, r => by rw [r.1]; rfl
  | .bl _, _, _, r => by rw [r.1]; rfl
  | .int _, _, _, r => by rw [r.1]; rfl
  | .str _, _, _, r => by rw [r.1]; rfl
  | .tup _, _, _, r => by obtain ⟨a, vs, e, _⟩ := r; rw [e]; rfl
  | .lst .ro _, _, _, r => by obtain ⟨a, vs, e, _⟩ := r; rw [e]; rfl
  | .lst .sh _, _, _, r => by obtain ⟨a, vs, e, _⟩ := r; rw [e]; rfl
  | .lst .ow _, _, _, r => by obtain ⟨a, vs, F, e, _⟩ := r; rw [e]; rfl
  | .ins .ro _ _ _, _, _, r => by obtain ⟨a, dx, fs, e, _⟩ := r; rw [e]; rfl
  | .ins .sh _ _ _, _, _, r => by obtain ⟨a, dx, fs, e, _⟩ := r; rw [e]; rfl
  | .ins .ow _ _ _, _, _, r => by obtain ⟨a, dx, fs, F, e, _⟩ := r; rw [e]; rfl
theorem r_isN {a : E} (h : tE K N W g (.un .isN a) vw σ H Q) : tIsN (tE K N W g a true) σ H Q :=
  r_un (R' := fun x H1 Q => Q (.bl (decide (x = .non))) H1) (fun x d v F own H t k e r b q => by
    simp only [unD, Option.some.injEq] at e
    subst e
    rw [rep_non r]
    exact q.same b (t := t) ⟨rfl, rfl⟩) h
theorem not_non (x : D) : (!match x with | .non => true | _ => false) = (match x with | .non => false | _ => true) := by cases x <;> rfl
theorem r_notN {a : E} (h : tE K N W g (.un .notN a) vw σ H Q) : tNotN (tE K N W g a true) σ H Q :=
  r_un (R' := fun x H1 Q => Q (.bl (!decide (x = .non))) H1) (fun x d v F own H t k e r b q => by
    simp only [unD, Option.some.injEq] at e
    subst e
    rw [rep_non r]
    rw [not_non]
    exact q.same b (t := t) ⟨rfl, rfl⟩) h
theorem Res.bl {own : Addr → Own} {k : Nat} {c : Bool} (q : Res K N H own k (.bl c) Q) (b : ∀ a j, own a = .tp j → j < k) : Q (.bl c) H := q.same b (t := .fz) ⟨rfl, rfl⟩
theorem r_chn {p q : Bop} {a b c : E} (h : tE K N W g (.chn p q a b c) vw σ H Q) : tChain (rBin K p) (rBin K q) (tE K N W g a true) (tE K N W g b true) (tE K N W g c true) σ H Q := by
  obtain ⟨own, ρ, t, env, post⟩ := h
  simp only [ev] at post
  refine ⟨own, ρ, t, env, ?_⟩
  cases h1 : ev g a true ρ with
  | bad => rw [h1] at post; exact post.elim
  | exn c p => rw [h1] at post; exact post
  | ok r =>
    obtain ⟨x, ρ1⟩ := r
    rw [h1] at post
    intro own1 H1 v F kp1 env1 r1 n1
    refine ⟨own1, ρ1, t + 1, env1, ?_⟩
    cases h2 : ev g b true ρ1 with
    | bad => dsimp only [R.bind] at post; rw [h2] at post; exact post.elim
    | exn c p => dsimp only [R.bind] at post; rw [h2] at post; exact PostX.later post kp1.f
    | ok r =>
      obtain ⟨y, ρ2⟩ := r
      dsimp only [R.bind] at post
      rw [h2] at post
      intro own2 H2 w F2 kp2 env2 r2 n2
      dsimp only [R.bind] at post
      cases h3 : safe a x (tch b) with
      | false => rw [h3] at post; exact post.elim
      | true =>
        rw [h3] at post
        dsimp only [R.guard] at post
        cases h4 : binD p x y with
        | none => rw [h4] at post; exact post.elim
        | some d =>
          rw [h4] at post
          refine bin_ok h4 (r1.stay h3 kp2) r2 env2.bnd fun own3 H3 z F3 kp3 b3 r3 n3 => ?_
          have env3 : EnvOk K N own3 σ H3 ρ2 (t + 3) := env2.keep b3 kp3
          cases d with
          | bl k =>
            refine ⟨k, r3.1, ?_⟩
            cases k with
            | true =>
              rw [if_pos rfl]
              dsimp only at post
              refine ⟨own3, ρ2, t + 3, env3, ?_⟩
              cases h5 : ev g c true ρ2 with
              | bad => rw [h5] at post; exact post.elim
              | exn c p => rw [h5] at post; exact PostX.later post (kp1.f.trans (kp2.f.trans kp3.f))
              | ok r =>
                obtain ⟨u, ρ3⟩ := r
                rw [h5] at post
                intro own4 H4 w4 F4 kp4 env4 r4 n4
                dsimp only [R.bind] at post
                cases h6 : safe b y (tch c) with
                | false => rw [h6] at post; exact post.elim
                | true =>
                  rw [h6] at post
                  dsimp only [R.guard] at post
                  cases h7 : binD q y u with
                  | none => rw [h7] at post; exact post.elim
                  | some d2 =>
                    rw [h7] at post
                    have ry : Rep K N H3 own3 (tagOf b (t + 1)) y w F2 := r2.keep kp3 fun i hi => nomatch hi
                    have kall : Kp (tch a ++ (tch b ++ tch c)) own H own4 H4 := (kp1.trans ((kp2.trans kp3).trans kp4)).mono fun i hi => by simpa using hi
                    exact bin_ok h7 (ry.stay h6 kp4) r4 env4.bnd (Res.fin (t := t) env4 post kall env.bnd (by omega))
            | false =>
              rw [if_neg Bool.false_ne_true]
              dsimp only at post
              have kall : Kp (tch a ++ (tch b ++ tch c)) own H own3 H3 := (kp1.trans (kp2.trans kp3)).mono fun i hi => by
                simp only [List.append_nil, List.mem_append] at hi ⊢
                rcases hi with hi | hi
                · exact .inl hi
                · exact .inr (.inl hi)
              exact (Res.fin (t := t) env3 post kall env.bnd (by omega)).bl env3.bnd
          | _ => exact post.elim
/-- a truth value, then what follows -/
theorem r_and {a b : E} (h : tE K N W g (.and a b) vw σ H Q) : tAndV (tE K N W g a true) (tE K N W g b true) σ H Q := by
  obtain ⟨own, ρ, t, env, post⟩ := h
  simp only [ev] at post
  refine ⟨own, ρ, t, env, ?_⟩
  cases h1 : ev g a true ρ with
  | bad => rw [h1] at post; exact post.elim
  | exn c p => rw [h1] at post; exact post
  | ok r =>
    obtain ⟨x, ρ1⟩ := r
    rw [h1] at post
    intro own1 H1 v F kp1 env1 r1 n1
    dsimp only [R.bind] at post
    cases x with
    | bl k =>
      refine ⟨k, r1.1, ?_⟩
      cases k with
      | true =>
        rw [if_pos rfl]
        dsimp only at post
        refine ⟨own1, ρ1, t + 1, env1, ?_⟩
        cases h2 : ev g b true ρ1 with
        | bad => rw [h2] at post; exact post.elim
        | exn c p => rw [h2] at post; exact PostX.later post kp1.f
        | ok r =>
          obtain ⟨y, ρ2⟩ := r
          rw [h2] at post
          intro own2 H2 w F2 kp2 env2 r2 n2
          cases y with
          | bl k =>
            rw [r2.1]
            exact (Res.fin (t := t) env2 post (kp1.trans kp2) env.bnd (by omega)).bl env2.bnd
          | _ => exact post.elim
      | false =>
        rw [if_neg Bool.false_ne_true]
        dsimp only at post
        exact (Res.fin (t := t) env1 post (kp1.mono sub_app_l) env.bnd (by omega)).bl env1.bnd
    | _ => exact post.elim
theorem r_or {a b : E} (h : tE K N W g (.or a b) vw σ H Q) : tOrV (tE K N W g a true) (tE K N W g b true) σ H Q := by
  obtain ⟨own, ρ, t, env, post⟩ := h
  simp only [ev] at post
  refine ⟨own, ρ, t, env, ?_⟩
  cases h1 : ev g a true ρ with
  | bad => rw [h1] at post; exact post.elim
  | exn c p => rw [h1] at post; exact post
  | ok r =>
    obtain ⟨x, ρ1⟩ := r
    rw [h1] at post
    intro own1 H1 v F kp1 env1 r1 n1
    dsimp only [R.bind] at post
    cases x with
    | bl k =>
      refine ⟨k, r1.1, ?_⟩
      cases k with
      | false =>
        rw [if_neg Bool.false_ne_true]
        dsimp only at post
        refine ⟨own1, ρ1, t + 1, env1, ?_⟩
        cases h2 : ev g b true ρ1 with
        | bad => rw [h2] at post; exact post.elim
        | exn c p => rw [h2] at post; exact PostX.later post kp1.f
        | ok r =>
          obtain ⟨y, ρ2⟩ := r
          rw [h2] at post
          intro own2 H2 w F2 kp2 env2 r2 n2
          cases y with
          | bl k =>
            rw [r2.1]
            exact (Res.fin (t := t) env2 post (kp1.trans kp2) env.bnd (by omega)).bl env2.bnd
          | _ => exact post.elim
      | true =>
        rw [if_pos rfl]
        dsimp only at post
        exact (Res.fin (t := t) env1 post (kp1.mono sub_app_l) env.bnd (by omega)).bl env1.bnd
    | _ => exact post.elim
/-! ### tests -/
def PostT (K : PySem.W.Frag) (N : Nm) (W : WX) (r : R (Bool × Env)) (own : Addr → Own) (σ : L2.St) (H : Hp) (t : Nat) (M : List Nat) (Q : Bool → Hp → Prop) : Prop := match r with
  | .ok (b, ρ') => ∀ own' H', Kp M own H own' H' → EnvOk K N own' σ H' ρ' (t + 1) → Q b H'
  | .exn c p => PostX K N W own σ H c p
  | .bad => False
def tT (K : PySem.W.Frag) (N : Nm) (W : WX) (g : G) (e : E) : TT := fun σ H Q => ∃ own ρ t, EnvOk K N own σ H ρ t ∧ PostT K N W ((ev g e true ρ).bind tBl) own σ H t (tch e) Q
theorem t_val {e : E} {Q : Bool → Hp → Prop} (h : tT K N W g e σ H Q) : tE K N W g e true σ H fun x H1 => ∃ k, x = .bl k ∧ Q k H1 := by
  obtain ⟨own, ρ, t, env, post⟩ := h
  refine ⟨own, ρ, t, env, ?_⟩
  cases h1 : ev g e true ρ with
  | bad => rw [h1] at post; exact post.elim
  | exn c p => rw [h1] at post; exact post
  | ok r =>
    obtain ⟨x, ρ1⟩ := r
    rw [h1] at post
    intro own1 H1 v F kp1 env1 r1 n1
    cases x with
    | bl k => exact ⟨k, r1.1, post own1 H1 kp1 env1⟩
    | _ => exact post.elim
theorem t_and {a b : E} {Q : Bool → Hp → Prop} (h : tT K N W g (.and a b) σ H Q) : tAnd (tT K N W g a) (tT K N W g b) σ H Q := by
  obtain ⟨own, ρ, t, env, post⟩ := h
  simp only [ev] at post
  refine ⟨own, ρ, t, env, ?_⟩
  cases h1 : ev g a true ρ with
  | bad => rw [h1] at post; exact post.elim
  | exn c p => rw [h1] at post; exact post
  | ok r =>
    obtain ⟨x, ρ1⟩ := r
    rw [h1] at post
    cases x with
    | bl k =>
      intro own1 H1 kp1 env1
      cases k with
      | true =>
        rw [if_pos rfl]
        dsimp only [R.bind] at post
        refine ⟨own1, ρ1, t + 1, env1, ?_⟩
        cases h2 : ev g b true ρ1 with
        | bad => rw [h2] at post; exact post.elim
        | exn c p => rw [h2] at post; exact PostX.later post kp1.f
        | ok r =>
          obtain ⟨y, ρ2⟩ := r
          rw [h2] at post
          cases y with
          | bl k =>
            intro own2 H2 kp2 env2
            have z := env2.cut (t + 1)
            refine post (cutO own2 (t + 1)) H2 (fun a o h n => ?_) z
            obtain ⟨e1, e2⟩ := (kp1.trans kp2) a o h n
            exact ⟨e1, (cutO_of fun j e => Nat.lt_succ_of_lt (env.bnd a j (e2.symm.trans e))).trans e2⟩
          | _ => exact post.elim
      | false =>
        rw [if_neg Bool.false_ne_true]
        dsimp only [R.bind] at post
        exact post own1 H1 (kp1.mono sub_app_l) env1
    | _ => exact post.elim
theorem t_or {a b : E} {Q : Bool → Hp → Prop} (h : tT K N W g (.or a b) σ H Q) : tOr (tT K N W g a) (tT K N W g b) σ H Q := by
  obtain ⟨own, ρ, t, env, post⟩ := h
  simp only [ev] at post
  refine ⟨own, ρ, t, env, ?_⟩
  cases h1 : ev g a true ρ with
  | bad => rw [h1] at post; exact post.elim
  | exn c p => rw [h1] at post; exact post
  | ok r =>
    obtain ⟨x, ρ1⟩ := r
    rw [h1] at post
    cases x with
    | bl k =>
      intro own1 H1 kp1 env1
      cases k with
      | false =>
        rw [if_neg Bool.false_ne_true]
        dsimp only [R.bind] at post
        refine ⟨own1, ρ1, t + 1, env1, ?_⟩
        cases h2 : ev g b true ρ1 with
        | bad => rw [h2] at post; exact post.elim
        | exn c p => rw [h2] at post; exact PostX.later post kp1.f
        | ok r =>
          obtain ⟨y, ρ2⟩ := r
          rw [h2] at post
          cases y with
          | bl k =>
            intro own2 H2 kp2 env2
            have z := env2.cut (t + 1)
            refine post (cutO own2 (t + 1)) H2 (fun a o h n => ?_) z
            obtain ⟨e1, e2⟩ := (kp1.trans kp2) a o h n
            exact ⟨e1, (cutO_of fun j e => Nat.lt_succ_of_lt (env.bnd a j (e2.symm.trans e))).trans e2⟩
          | _ => exact post.elim
      | true =>
        rw [if_pos rfl]
        dsimp only [R.bind] at post
        exact post own1 H1 (kp1.mono sub_app_l) env1
    | _ => exact post.elim
theorem t_not {a : E} {Q : Bool → Hp → Prop} (h : tT K N W g (.un .not a) σ H Q) : tNot (tT K N W g a) σ H Q := by
  obtain ⟨own, ρ, t, env, post⟩ := h
  simp only [ev] at post
  refine ⟨own, ρ, t, env, ?_⟩
  cases h1 : ev g a true ρ with
  | bad => rw [h1] at post; exact post.elim
  | exn c p => rw [h1] at post; exact post
  | ok r =>
    obtain ⟨x, ρ1⟩ := r
    rw [h1] at post
    cases x with
    | bl k =>
      intro own1 H1 kp1 env1
      exact post own1 H1 kp1 env1
    | _ => exact post.elim
/-- what is no view is frozen where it is a path -/
theorem fro_path : ∀ {e : E} {ρ ρ' : Env} {d : D}, isPath e = true → ev g e false ρ = .ok (d, ρ') → fro d = true := by
  intro e ρ ρ' d hp h
  cases e <;> first | cases hp; done | skip
  · rename_i i
    simp only [ev] at h
    cases h1 : getS ρ i with
    | none => rw [h1] at h; cases h
    | some x =>
      rw [h1] at h
      dsimp only at h
      cases h2 : fro x with
      | false => rw [h2] at h; cases h
      | true =>
        rw [h2] at h
        cases h
        exact h2
  · rename_i o f
    have hp' : isPath o = true := hp
    simp only [ev, hp'] at h
    cases h1 : ev g o true ρ with
    | bad => rw [h1] at h; cases h
    | exn c p => rw [h1] at h; cases h
    | ok r =>
      rw [h1] at h
      dsimp only [R.bind] at h
      cases h2 : fldD r.1 f with
      | none => rw [h2] at h; cases h
      | some x =>
        rw [h2] at h
        dsimp only at h
        cases h3 : fro x with
        | false => rw [h3] at h; cases h
        | true =>
          rw [h3] at h
          cases h
          exact h3
  · rename_i o i
    have hp' : isPath o = true := hp
    simp only [ev, hp'] at h
    cases h1 : ev g o true ρ with
    | bad => rw [h1] at h; cases h
    | exn c p => rw [h1] at h; cases h
    | ok r =>
      rw [h1] at h
      dsimp only [R.bind] at h
      cases h2 : ev g i true r.2 with
      | bad => rw [h2] at h; cases h
      | exn c p => rw [h2] at h; cases h
      | ok r2 =>
        rw [h2] at h
        dsimp only at h
        cases h3 : safe o r.1 (tch i) with
        | false => rw [h3] at h; cases h
        | true =>
          rw [h3] at h
          dsimp only [R.guard] at h
          cases h4 : idxD r.1 r2.1 with
          | none => rw [h4] at h; cases h
          | some x =>
            rw [h4] at h
            dsimp only at h
            cases h5 : fro x with
            | false => rw [h5] at h; cases h
            | true =>
              rw [h5] at h
              cases h
              exact h5
/-- held by the way -/
theorem Rep.way {e : E} {ρ ρ' : Env} {d : D} {own : Addr → Own} {t : Nat} {v : V} {F : List Addr} (h : ev g e false ρ = .ok (d, ρ')) (r : Rep K N H own (tagOf e t) d v F) : Rep K N H own (.tp t) d v F := by
  by_cases hp : isPath e = true
  · have f := fro_path hp h
    have e1 := Rep.fro d r f
    subst e1
    exact r.ofFro f
  · unfold tagOf at r
    rw [if_neg hp] at r
    exact r
theorem PostOk.fin {own own2 : Addr → Own} {ρ2 : Env} {H2 : Hp} {t k : Nat} {M : List Nat} {d : D} {v : V} {F : List Addr} (q : PostOk K N own σ H t M (.tp t) d ρ2 Q) (kp : Kp M own H own2 H2) (b : ∀ a j, own a = .tp j → j < t) {m : Nat} (env2 : EnvOk K N own2 σ H2 ρ2 m)
    (rep : Rep K N H2 own2 (.tp k) d v F) (nd : F.Nodup) (htk : t ≤ k) : Q v H2 := by
  refine q (finO own2 t k) H2 v F (fun a o h n => ?_) ?_ ?_ nd
  · obtain ⟨e1, e2⟩ := kp a o h n
    refine ⟨e1, ?_⟩
    cases hc : own a with
    | tp j =>
      have hj := b a j hc
      exact (finO_lt (e2.trans hc) hj (by omega))
    | _ => exact (finO_of (fun j e => by rw [e2, hc] at e; cases e)).trans (e2.trans hc)
  · exact env2.move (fun a j h => finO_bnd h) finO_f fun a o i h z _ => ⟨h, (finO_of fun j e => by rw [z] at e; cases e).trans z⟩
  · exact Rep.carry finO_f d rep fun a ha o ho => ⟨ho, finO_k (Rep.owned d rep a ha).1⟩
theorem r_ife {c a b : E} (h : tE K N W g (.ife c a b) vw σ H Q) : tIf (tT K N W g c) (tE K N W g a false) (tE K N W g b false) σ H Q := by
  obtain ⟨own, ρ, t, env, post⟩ := h
  simp only [ev] at post
  refine ⟨own, ρ, t, env, ?_⟩
  cases h1 : ev g c true ρ with
  | bad => rw [h1] at post; exact post.elim
  | exn c p => rw [h1] at post; exact post
  | ok r =>
    obtain ⟨x, ρ1⟩ := r
    rw [h1] at post
    cases x with
    | bl k =>
      intro own1 H1 kp1 env1
      cases k with
      | true =>
        rw [if_pos rfl]
        dsimp only [R.bind] at post
        refine ⟨own1, ρ1, t + 1, env1, ?_⟩
        cases h2 : ev g a false ρ1 with
        | bad => rw [h2] at post; exact post.elim
        | exn c p => rw [h2] at post; exact PostX.later post kp1.f
        | ok r =>
          obtain ⟨y, ρ2⟩ := r
          rw [h2] at post
          intro own2 H2 w F2 kp2 env2 r2 n2
          have kall : Kp (tch c ++ (tch a ++ tch b)) own H own2 H2 := (kp1.trans kp2).mono fun i hi => by
            simp only [List.mem_append] at hi ⊢
            rcases hi with hi | hi
            · exact .inl hi
            · exact .inr (.inl hi)
          exact PostOk.fin post kall env.bnd env2 (r2.way h2) n2 (by omega)
      | false =>
        rw [if_neg Bool.false_ne_true]
        dsimp only [R.bind] at post
        refine ⟨own1, ρ1, t + 1, env1, ?_⟩
        cases h2 : ev g b false ρ1 with
        | bad => rw [h2] at post; exact post.elim
        | exn c p => rw [h2] at post; exact PostX.later post kp1.f
        | ok r =>
          obtain ⟨y, ρ2⟩ := r
          rw [h2] at post
          intro own2 H2 w F2 kp2 env2 r2 n2
          have kall : Kp (tch c ++ (tch a ++ tch b)) own H own2 H2 := (kp1.trans kp2).mono fun i hi => by
            simp only [List.mem_append] at hi ⊢
            rcases hi with hi | hi
            · exact .inl hi
            · exact .inr (.inr hi)
          exact PostOk.fin post kall env.bnd env2 (r2.way h2) n2 (by omega)
    | _ => exact post.elim
/-! ### rows of arguments -/
/-- values on the way, one behind the other, held by k, k + 1, .. -/
def ArgsR (K : PySem.W.Frag) (N : Nm) (H : Hp) (own : Addr → Own) : Nat → List D → List V → Prop
  | _, [], vs => vs = []
  | k, d :: ds, vs => ∃ v vs' F, vs = v :: vs' ∧ Rep K N H own (.tp k) d v F ∧ F.Nodup ∧ ArgsR K N H own (k + 1) ds vs'
/-- what is lent is the slot's own value -/
def LentV (σ : L2.St) (e : E) (v : V) : Prop := match e with | .bor i => σ[i]? = some (some v) | _ => True
def LentVs (σ : L2.St) : Es → List V → Prop
  | .cons e es, v :: vs => LentV σ e v ∧ LentVs σ es vs
  | _, _ => True
def PostA (K : PySem.W.Frag) (N : Nm) (W : WX) (r : R (List D × Env)) (own : Addr → Own) (σ : L2.St) (H : Hp) (t : Nat) (es : Es) (Q : List V → Hp → Prop) : Prop := match r with
  | .ok (ds, ρ') => ∀ own' H' vs, Kp (tchs es) own H own' H' → EnvOk K N own' σ H' ρ' (t + ds.length) → ArgsR K N H' own' t ds vs → LentVs σ es vs → Q vs H'
  | .exn c p => PostX K N W own σ H c p
  | .bad => False
def tA (K : PySem.W.Frag) (N : Nm) (W : WX) (g : G) (es : Es) : TA := fun σ H Q => ∃ own ρ t, EnvOk K N own σ H ρ t ∧ PostA K N W (evs g es ρ) own σ H t es Q
/-- an argument: as an expression, or a slot that is lent -/
def tAr (K : PySem.W.Frag) (N : Nm) (W : WX) (g : G) (e : E) : TE := fun σ H Q => ∃ own ρ t, EnvOk K N own σ H ρ t ∧ PostE K N W (ev g e false ρ) own σ H t (tch e) (tagOf e t) fun v H' => LentV σ e v → Q v H'
def isBor : E → Bool | .bor _ => true | _ => false
theorem ar_e {e : E} (hb : isBor e = false) (h : tAr K N W g e σ H Q) : tE K N W g e false σ H Q := by
  obtain ⟨own, ρ, t, env, post⟩ := h
  refine ⟨own, ρ, t, env, ?_⟩
  cases h1 : ev g e false ρ with
  | bad => rw [h1] at post; exact post.elim
  | exn c p => rw [h1] at post; exact post
  | ok r =>
    obtain ⟨x, ρ1⟩ := r
    rw [h1] at post
    intro own1 H1 v F kp1 env1 r1 n1
    refine post own1 H1 v F kp1 env1 r1 n1 ?_
    cases e <;> first | trivial | cases hb
theorem ar_bor {i : Nat} (h : tAr K N W g (.bor i) σ H Q) : tVar i σ H Q := by
  obtain ⟨v, e, q⟩ := r_bor (g := g) (vw := false) (i := i) h
  exact ⟨v, e, q e⟩
theorem ArgsR.keep {own own' : Addr → Own} {H' : Hp} {M : List Nat} (kp : Kp M own H own' H') : ∀ {ds : List D} {k : Nat} {vs : List V}, ArgsR K N H own k ds vs → ArgsR K N H' own' k ds vs
  | [], _, _, h => h
  | d :: ds, k, _, h => by
    obtain ⟨v, vs', F, e, r, n, h'⟩ := h
    exact ⟨v, vs', F, e, r.keep kp fun i _ z => (by cases z), n, ArgsR.keep kp h'⟩
theorem ArgsR.length {own : Addr → Own} : ∀ {ds : List D} {k : Nat} {vs : List V}, ArgsR K N H own k ds vs → vs.length = ds.length
  | [], _, _, h => by rw [h]; rfl
  | d :: ds, k, _, h => by
    obtain ⟨v, vs', F, e, r, n, h'⟩ := h
    rw [e, List.length_cons, List.length_cons, ArgsR.length h']
theorem a_nil {Q : List V → Hp → Prop} (h : tA K N W g .nil σ H Q) : tNil σ H Q := by
  obtain ⟨own, ρ, t, env, post⟩ := h
  exact post own H [] Kp.refl (env.up (Nat.le_add_right _ _)) rfl trivial
theorem a_cons {e : E} {es : Es} {Q : List V → Hp → Prop} (h : tA K N W g (.cons e es) σ H Q) : tCons (tAr K N W g e) (tA K N W g es) σ H Q := by
  obtain ⟨own, ρ, t, env, post⟩ := h
  simp only [evs] at post
  refine ⟨own, ρ, t, env, ?_⟩
  cases h1 : ev g e false ρ with
  | bad => rw [h1] at post; exact post.elim
  | exn c p => rw [h1] at post; exact post
  | ok r =>
    obtain ⟨x, ρ1⟩ := r
    rw [h1] at post
    intro own1 H1 v F kp1 env1 r1 n1 lent
    dsimp only [R.bind] at post
    refine ⟨own1, ρ1, t + 1, env1, ?_⟩
    cases h2 : evs g es ρ1 with
    | bad => rw [h2] at post; exact post.elim
    | exn c p => rw [h2] at post; exact PostX.later post kp1.f
    | ok r =>
      obtain ⟨ds, ρ2⟩ := r
      rw [h2] at post
      intro own2 H2 vs kp2 env2 args lents
      refine post own2 H2 (v :: vs) (kp1.trans kp2) (env2.up (by simp only [List.length_cons]; omega)) ⟨v, vs, F, rfl, ?_, n1, args⟩ ⟨lent, lents⟩
      exact (r1.way h1).keep kp2 fun i _ z => by cases z

/-- the way's values from t on, all held by t -/
def mgO (own : Addr → Own) (t : Nat) : Addr → Own := fun a => match own a with | .tp j => if t ≤ j then .tp t else .tp j | o => o
theorem mgO_of {own : Addr → Own} {t : Nat} {a : Addr} (h : ∀ j, own a = .tp j → j < t) : mgO own t a = own a := by
  unfold mgO
  split
  · rename_i j e; rw [if_neg (by have := h j e; omega), e]
  · rfl
theorem mgO_at {own : Addr → Own} {t j : Nat} {a : Addr} (h : own a = .tp j) (hj : t ≤ j) : mgO own t a = .tp t := by
  unfold mgO; rw [h]; exact if_pos hj
theorem mgO_bnd {own : Addr → Own} {t j : Nat} {a : Addr} (h : mgO own t a = .tp j) : j < t + 1 := by
  unfold mgO at h
  split at h
  · split at h <;> (cases h; omega)
  · rename_i hn; exact absurd h (hn j)
theorem mgO_f {own : Addr → Own} {t : Nat} : KpF own H (mgO own t) H := fun a o h z => ⟨h, mgO_of fun j e => by rcases z with z | z <;> (rw [z] at e; cases e)⟩
theorem ArgsR.merge {own : Addr → Own} {t : Nat} : ∀ {ds : List D} {k : Nat} {vs : List V}, t ≤ k → ArgsR K N H own k ds vs → ∃ F, Reps K N H (mgO own t) (.tp t) ds vs F ∧ F.Nodup ∧ ∀ a ∈ F, (∃ j, k ≤ j ∧ own a = .tp j) ∧ ∃ o, H a = some o
  | [], _, _, _, h => ⟨[], ⟨h, rfl⟩, List.nodup_nil, fun a ha => nomatch ha⟩
  | d :: ds, k, _, hk, h => by
    obtain ⟨v, vs', F, e, r, n, h'⟩ := h
    obtain ⟨G, g1, g2, g3⟩ := ArgsR.merge (k := k + 1) (t := t) (by omega) h'
    refine ⟨F ++ G, ⟨v, vs', F, G, e, rfl, Rep.carry mgO_f d r fun a ha o ho => ⟨ho, mgO_at (Rep.owned d r a ha).1 hk⟩, g1⟩, List.nodup_append.mpr ⟨n, g2, fun a ha b hb z => ?_⟩, fun a ha => ?_⟩
    · subst z
      obtain ⟨e1, _⟩ := Rep.owned d r a ha
      obtain ⟨⟨j, hj, e2⟩, _⟩ := g3 a hb
      rw [e1] at e2
      cases e2
      omega
    · rcases List.mem_append.mp ha with ha | ha
      · obtain ⟨e1, e2⟩ := Rep.owned d r a ha
        exact ⟨⟨k, Nat.le_refl _, e1⟩, e2⟩
      · obtain ⟨⟨j, hj, e1⟩, e2⟩ := g3 a ha
        exact ⟨⟨j, by omega, e1⟩, e2⟩
theorem disp_kp {own own2 : Addr → Own} {t : Nat} {M : List Nat} {H2 : Hp} {p : Addr} {o : HO} {u : Own} (kp : Kp M own H own2 H2) (b : ∀ a j, own a = .tp j → j < t) (hp : H2 p = none) : Kp M own H (updO (mgO own2 t) p u) (upd H2 p o) := fun a x h n => by
  obtain ⟨e1, e2⟩ := kp a x h n
  have ne := ne_of_none e1 hp
  exact ⟨by rw [upd_ne ne]; exact e1, (updO_ne ne).trans ((mgO_of fun j e => b a j (e2.symm.trans e)).trans e2)⟩
theorem disp_env {own : Addr → Own} {ρ : Env} {t m : Nat} {p : Addr} {o : HO} {u : Own} (env : EnvOk K N own σ H ρ m) (hp : H p = none) (hu : ∀ j, u = .tp j → j < t + 1) : EnvOk K N (updO (mgO own t) p u) σ (upd H p o) ρ (t + 1) := by
  refine env.move (fun a j h => ?_) (fun a x h z => ?_) fun a x i h z _ => ?_
  · by_cases q : a = p
    · subst q; rw [updO_same] at h; exact hu j h
    · rw [updO_ne q] at h; exact mgO_bnd h
  · have ne := ne_of_none h hp
    obtain ⟨e1, e2⟩ := mgO_f (t := t) a x h z
    exact ⟨by rw [upd_ne ne]; exact e1, (updO_ne ne).trans e2⟩
  · have ne := ne_of_none h hp
    exact ⟨by rw [upd_ne ne]; exact h, (updO_ne ne).trans ((mgO_of fun j e => by rw [z] at e; cases e).trans z)⟩
theorem disp_reps {own : Addr → Own} {t : Nat} {p : Addr} {o : HO} {u : Own} {ds : List D} {vs : List V} {F : List Addr} (r : Reps K N H (mgO own t) (.tp t) ds vs F) (hp : H p = none) : Reps K N (upd H p o) (updO (mgO own t) p u) (.tp t) ds vs F :=
  Reps.carry (kp_new (M := []) hp).f ds r fun a ha x hx => by
    have ne := ne_of_none hx hp
    exact ⟨by rw [upd_ne ne]; exact hx, (updO_ne ne).trans (Reps.owned ds r a ha).1⟩
theorem r_tup {es : Es} (h : tE K N W g (.tup es) vw σ H Q) : tTup (tA K N W g es) σ H Q := by
  obtain ⟨own, ρ, t, env, post⟩ := h
  simp only [ev] at post
  refine ⟨own, ρ, t, env, ?_⟩
  cases h1 : evs g es ρ with
  | bad => rw [h1] at post; exact post.elim
  | exn c p => rw [h1] at post; exact post
  | ok r =>
    obtain ⟨ds, ρ1⟩ := r
    rw [h1] at post
    dsimp only [R.bind] at post
    intro own1 H1 vs kp1 env1 args _
    cases hl : decide (ds.length ≤ LINE) with
    | false => rw [hl] at post; exact post.elim
    | true =>
      rw [hl] at post
      have hl' := of_decide_eq_true hl
      refine ⟨by rw [args.length, ← line_eq]; exact hl', fun p hp => ?_⟩
      obtain ⟨F, g1, g2, g3⟩ := args.merge (Nat.le_refl t)
      exact post (updO (mgO own1 t) p .fz) (upd H1 p (.tup vs)) (.ref p) F (disp_kp kp1 env.bnd hp) (disp_env env1 hp fun j e => by cases e) ⟨p, vs, rfl, .inl ⟨upd_same, updO_same⟩, disp_reps g1 hp⟩ g2
theorem r_lst {es : Es} (h : tE K N W g (.lst es) vw σ H Q) : tLst (tA K N W g es) σ H Q := by
  obtain ⟨own, ρ, t, env, post⟩ := h
  simp only [ev] at post
  refine ⟨own, ρ, t, env, ?_⟩
  cases h1 : evs g es ρ with
  | bad => rw [h1] at post; exact post.elim
  | exn c p => rw [h1] at post; exact post
  | ok r =>
    obtain ⟨ds, ρ1⟩ := r
    rw [h1] at post
    dsimp only [R.bind] at post
    intro own1 H1 vs kp1 env1 args _
    cases hl : decide (ds.length ≤ LINE) with
    | false => rw [hl] at post; exact post.elim
    | true =>
      rw [hl] at post
      have hl' := of_decide_eq_true hl
      refine ⟨by rw [args.length, ← line_eq]; exact hl', fun p hp => ?_⟩
      obtain ⟨F, g1, g2, g3⟩ := args.merge (Nat.le_refl t)
      refine post (updO (mgO own1 t) p (.tp t)) (upd H1 p (.lst vs)) (.ref p) (p :: F) (disp_kp kp1 env.bnd hp) (disp_env env1 hp fun j e => by cases e; exact Nat.lt_succ_self _) ⟨p, vs, F, rfl, upd_same, updO_same, rfl, disp_reps g1 hp⟩ (List.nodup_cons.mpr ⟨fun z => ?_, g2⟩)
      obtain ⟨_, o, e⟩ := g3 p z
      rw [hp] at e; cases e
/-! ### formatted texts -/
def parts (K : PySem.W.Frag) (N : Nm) (W : WX) (g : G) : Es → List TE
  | .nil => []
  | .cons e es => tFmt (tE K N W g e false) :: parts K N W g es
theorem fst_go {Q : Str → Hp → Prop} {own0 : Addr → Own} {H0 : Hp} {t0 : Nat} (b0 : ∀ a j, own0 a = .tp j → j < t0) : ∀ {es : Es} {own : Addr → Own} {H : Hp} {ρ : Env} {t : Nat} {acc : Tx} {M : List Nat}, t0 ≤ t → EnvOk K N own σ H ρ t → Kp M own0 H0 own H →
    (match evF g es acc ρ with | .ok (s, ρ') => PostOk K N own0 σ H0 t0 (M ++ tchs es) (.tp t0) (.str s) ρ' (fun v H1 => ∃ s, v = .str s ∧ Q s H1) | .exn c p => PostX K N W own σ H c p | .bad => False) →
    tJs (parts K N W g es) (tx acc) σ H Q
  | .nil, own, H, ρ, t, acc, M, ht, env, k0, post => by
    have k0' : Kp (M ++ tchs .nil) own0 H0 own H := k0.mono sub_app_l
    obtain ⟨s, e, q⟩ := PostOk.fin (k := t) (v := .str (tx acc)) post k0' b0 env ⟨rfl, rfl⟩ List.nodup_nil ht
    cases e
    exact q
  | .cons e es, own, H, ρ, t, acc, M, ht, env, k0, post => by
    have le := line_eq
    simp only [evF] at post
    refine ⟨own, ρ, t, env, ?_⟩
    cases h1 : ev g e false ρ with
    | bad => rw [h1] at post; exact post.elim
    | exn c p => rw [h1] at post; exact post
    | ok r =>
      obtain ⟨x, ρ1⟩ := r
      rw [h1] at post
      dsimp only [R.bind] at post
      intro own1 H1 v F kp1 env1 r1 n1
      have more : ∀ y : Tx, partTx x = some y → (acc.length + y.length ≤ LINE ∧ tJs (parts K N W g es) (tx (acc ++ y)) σ H1 Q) := fun y hy => by
        rw [hy] at post
        dsimp only at post
        cases hl : decide (acc.length + y.length ≤ LINE) with
        | false => rw [hl] at post; exact post.elim
        | true =>
          rw [hl] at post
          dsimp only [R.guard] at post
          refine ⟨of_decide_eq_true hl, fst_go b0 (M := M ++ tch e) (t := t + 1) (by omega) env1 (k0.trans kp1) ?_⟩
          cases h2 : evF g es (acc ++ y) ρ1 with
          | bad => rw [h2] at post; exact post
          | exn c p => rw [h2] at post; exact PostX.later post kp1.f
          | ok r =>
            rw [h2] at post
            dsimp only at post ⊢
            rw [List.append_assoc]
            exact post
      cases x with
      | str s =>
        by_cases hs : s.length ≤ LINE
        · obtain ⟨h3, h4⟩ := more s (if_pos hs)
          rw [r1.1]
          refine .inl ⟨tx s, rfl, by rw [tx_len, ← le]; exact hs, tx s, rfl, by rw [tx_app, tx_len, List.length_append, ← le]; exact h3, ?_⟩
          rw [tx_app]
          exact h4
        · have : partTx (.str s) = none := if_neg hs
          rw [this] at post
          exact post.elim
      | int i =>
        by_cases hs : i.natAbs < 10 ^ 500
        · obtain ⟨h3, h4⟩ := more (digs i) (if_pos hs)
          rw [r1.1]
          refine .inr ⟨i, rfl, log_small hs, tx (digs i), congrArg V.str (str_digs i), by rw [tx_app, tx_len, List.length_append, ← le]; exact h3, ?_⟩
          rw [tx_app]
          exact h4
        · have : partTx (.int i) = none := if_neg hs
          rw [this] at post
          exact post.elim
      | _ => exact post.elim
theorem r_fst {es : Es} (h : tE K N W g (.fst es) vw σ H Q) : tJs (parts K N W g es) Str.empty σ H fun out H1 => Q (.str out) H1 := by
  obtain ⟨own, ρ, t, env, post⟩ := h
  simp only [ev] at post
  have z : Str.empty = tx [] := rfl
  rw [z]
  refine fst_go (t0 := t) env.bnd (M := []) (Nat.le_refl t) env Kp.refl ?_
  cases h1 : evF g es [] ρ with
  | bad => rw [h1] at post; exact post
  | exn c p => rw [h1] at post; exact post
  | ok r =>
    obtain ⟨s, ρ1⟩ := r
    rw [h1] at post
    dsimp only [R.bind] at post ⊢
    intro own' H' v F kp env' rep nd
    refine ⟨tx s, rep.1, ?_⟩
    have := post own' H' v F kp env' rep nd
    rw [rep.1] at this
    exact this
theorem r_isi {e : E} {n : Nat} (hn : n < 5) (h : tE K N W g (.isi e n) vw σ H Q) : tCB (rIsi K) (tCons (tE K N W g e true) (tCons (tC (.ty (tyName n))) tNil)) σ H Q := by
  obtain ⟨own, ρ, t, env, post⟩ := h
  simp only [ev] at post
  refine ⟨own, ρ, t, env, ?_⟩
  cases h1 : ev g e true ρ with
  | bad => rw [h1] at post; exact post.elim
  | exn c p => rw [h1] at post; exact post
  | ok r =>
    obtain ⟨x, ρ1⟩ := r
    rw [h1] at post
    intro own1 H1 v F kp1 env1 r1 n1
    dsimp only [R.bind] at post
    cases h2 : isiD x n with
    | none => rw [h2] at post; exact post.elim
    | some b =>
      rw [h2] at post
      exact isi_ok h2 hn r1 ((Res.fin (t := t) env1 post kp1 env.bnd (by omega)).bl env1.bnd)
end
end Ev

/-! What is walked; targets; comprehensions. -/
namespace Ev
open PySem PySem.Spec PyProof.Rows L2
/-- a list or a tuple, walked -/
def iSeq (K : PySem.W.Frag) (tl : TE) : TI := fun σ H R => tl σ H fun x H1 => ∃ a, x = .ref a ∧ (((∃ xs, SqL K H1 a xs) ∧ R (Itl K a) H1) ∨ ((∃ xs, SqT K H1 a xs) ∧ R (Itt K a) H1))
theorem pi_seq {X : Cx} {tg l : Expr} {tl : TE} (hl : PE X l tl) : PI X tg l (iSeq X.K tl) := by
  refine ⟨fun pins s σ H R I h => ?_⟩
  refine thn (hl.run pins s σ H _ I h) fun v s1 ⟨x, H1, I1, r1, q1⟩ => ?_
  obtain ⟨a, e, q⟩ := q1
  subst e
  cases r1
  rcases q with ⟨⟨xs, hq⟩, q⟩ | ⟨⟨xs, hq⟩, q⟩
  · obtain ⟨its, rv, p, hz⟩ := I1.list hq
    refine wpAny_pyIter_list p.isList ?_
    refine ⟨s1.heap.objs.size, [s1.heap.objs.size], _, _, H1, rfl, I1.kept (t' := s1.toks) fun b o e => Heap.get?_push_of_some _ e, turn_list a _, ⟨_, Heap.get?_push_size _ rfl, rfl, rfl⟩, fun b hb => ?_, q⟩
    have e : b = s1.heap.objs.size := by simpa using hb
    subst e
    exact I1.fpOk (Nat.le_refl _) (I1.hok.fresh (Nat.le_refl _))
  · obtain ⟨its, rv, p, hz⟩ := I1.tuple hq
    refine wpAny_pyIter_tuple (show s1.heap.IsTuple a its.toArray from p) ?_
    refine ⟨s1.heap.objs.size, [s1.heap.objs.size], _, _, H1, rfl, I1.kept (t' := s1.toks) fun b o e => Heap.get?_push_of_some _ e, turn_tuple a _, ⟨_, Heap.get?_push_size _ rfl, rfl, rfl⟩, fun b hb => ?_, q⟩
    have e : b = s1.heap.objs.size := by simpa using hb
    subst e
    exact I1.fpOk (Nat.le_refl _) (I1.hok.fresh (Nat.le_refl _))
/-- the source J yields vs, whatever happens to what is not frozen -/
def Src (J : L2.It) (own : Addr → Own) (H : Hp) (vs : List V) : Prop := ∀ own2 H2, KpF own H own2 H2 →
  (∀ i x, vs[i]? = some x → J.go i H2 ∧ ∀ y H3, J.yld i H2 y H3 → y = x ∧ H3 = H2) ∧ ∀ i, vs.length ≤ i → J.stop i H2
section
variable {K : PySem.W.Frag} {N : Nm} {W : WX} {g : G} {vw : Bool} {σ : L2.St} {H : Hp} {Q : VK}
theorem src_list {own : Addr → Own} {a : Addr} {vs : List V} (h : LstR K H own a vs) (inj : ∀ H2 xs ys, SqL K H2 a xs → SqL K H2 a ys → True) : (∃ xs, SqL K H a xs) := ⟨vs, h.sq⟩
/-- J's turns, told by one reading of the list -/
theorem src_l {own : Addr → Own} {a : Addr} {vs : List V} (h : LstR K H own a vs) : Src (Itl K a) own H vs := fun own2 H2 k => by
  have h2 := (h.ext k).sq
  refine ⟨fun i x e => ⟨⟨vs, x, h2, e⟩, fun y H3 hy => ?_⟩, fun i hi => ⟨vs, h2, hi⟩⟩
  obtain ⟨e1, e2⟩ := hy
  exact ⟨Option.some.inj ((e2 vs h2).symm.trans e), e1⟩
theorem src_t {own : Addr → Own} {a : Addr} {vs : List V} (h : TupR K H own a vs) : Src (Itt K a) own H vs := fun own2 H2 k => by
  have h2 := (h.ext k).sq
  refine ⟨fun i x e => ⟨⟨vs, x, h2, e⟩, fun y H3 hy => ?_⟩, fun i hi => ⟨vs, h2, hi⟩⟩
  obtain ⟨e1, e2⟩ := hy
  exact ⟨Option.some.inj ((e2 vs h2).symm.trans e), e1⟩
theorem src_r {own : Addr → Own} {lo : Int} {n : Nat} : Src (Itr lo n) own H ((List.range n).map fun k => V.int (lo + (k : Nat))) := fun own2 H2 k => by
  refine ⟨fun i x e => ?_, fun i hi => by show n ≤ i; simpa using hi⟩
  rw [List.getElem?_map] at e
  by_cases hi : i < n
  · rw [List.getElem?_range hi] at e
    have e' : V.int (lo + (i : Nat)) = x := Option.some.inj e
    exact ⟨hi, fun y H3 hy => ⟨hy.2.trans e', hy.1⟩⟩
  · rw [List.getElem?_eq_none (by simpa using hi)] at e
    cases e
theorem src_s {own : Addr → Own} {s : Tx} : Src (Its (tx s)) own H (s.map fun c => V.str (tx [c])) := fun own2 H2 k => by
  refine ⟨fun i x e => ?_, fun i hi => by show (tx s).cps.size ≤ i; simpa [tx] using hi⟩
  rw [List.getElem?_map] at e
  cases hc : s[i]? with
  | none => rw [hc] at e; cases e
  | some c =>
    rw [hc] at e
    have e' : V.str (tx [c]) = x := Option.some.inj e
    have hi : i < s.length := (List.getElem?_eq_some_iff.mp hc).1
    have hc' : (tx s).cps[i]? = some c := by simpa [tx] using hc
    refine ⟨by show i < (tx s).cps.size; simpa [tx] using hi, fun y H3 hy => ?_⟩
    obtain ⟨e1, c', e2, e3⟩ := hy
    rw [hc'] at e2
    cases e2
    exact ⟨e3.trans e', e1⟩
def PostI (K : PySem.W.Frag) (N : Nm) (W : WX) (r : R (List D × Env)) (own : Addr → Own) (σ : L2.St) (H : Hp) (t : Nat) (M : List Nat) (R' : L2.It → Hp → Prop) : Prop := match r with
  | .ok (ds, ρ') => ∀ own' H' J vs, Kp M own H own' H' → EnvOk K N own' σ H' ρ' t → Src J own' H' vs → Reps K N H' own' .fz ds vs [] → R' J H'
  | .exn c p => PostX K N W own σ H c p
  | .bad => False
def tI (K : PySem.W.Frag) (N : Nm) (W : WX) (g : G) (it : It) : TI := fun σ H R' => ∃ own ρ t, EnvOk K N own σ H ρ t ∧ PostI K N W (evI g it ρ) own σ H t (tchI it) R'
/-- a value on the way is frozen: it is nobody's any more -/
theorem frz_way {own : Addr → Own} {ρ : Env} {t : Nat} (env : EnvOk K N own σ H ρ (t + 1)) : EnvOk K N (reO own (.tp t) .fz) σ H ρ t ∧ KpF own H (reO own (.tp t) .fz) H := by
  have kf : KpF own H (reO own (.tp t) .fz) H := fun a o h z => ⟨h, reO_ne (by rcases z with z | z <;> (rw [z]; exact fun q => by cases q))⟩
  refine ⟨env.move (fun a j e => ?_) kf fun a o i h z _ => ⟨h, (reO_ne (by rw [z]; exact fun q => by cases q)).trans z⟩, kf⟩
  by_cases q : own a = .tp t
  · rw [reO_at q] at e; cases e
  · rw [reO_ne q] at e
    have := env.bnd a j e
    have hne : j ≠ t := fun z => q (by rw [e, z])
    omega
theorem Reps.frz_id {own own' : Addr → Own} {t t' : Own} (k : KpF own H own' H) {ds : List D} {vs : List V} {F : List Addr} (r : Reps K N H own t ds vs F) (f : Ev.fros ds = true) : Reps K N H own' t' ds vs [] := by
  have e := Reps.fros ds r f
  subst e
  exact Reps.carry k ds r fun a ha => nomatch ha
theorem kp_reO {own own1 : Addr → Own} {H1 : Hp} {t : Nat} {M : List Nat} (kp : Kp M own H own1 H1) (b : ∀ a j, own a = .tp j → j < t) : Kp M own H (reO own1 (.tp t) .fz) H1 := fun a o h n => by
  obtain ⟨e1, e2⟩ := kp a o h n
  exact ⟨e1, (reO_ne fun z => Nat.lt_irrefl _ (b a t (e2.symm.trans z))).trans e2⟩
theorem i_seq {e : E} {R' : L2.It → Hp → Prop} (h : tI K N W g (.seq e) σ H R') : iSeq K (tE K N W g e true) σ H R' := by
  obtain ⟨own, ρ, t, env, post⟩ := h
  simp only [evI] at post
  refine ⟨own, ρ, t, env, ?_⟩
  cases h1 : ev g e true ρ with
  | bad => rw [h1] at post; exact post.elim
  | exn c p => rw [h1] at post; exact post
  | ok r =>
    obtain ⟨x, ρ1⟩ := r
    rw [h1] at post
    dsimp only [R.bind] at post
    intro own1 H1 v F kp1 env1 r1 n1
    obtain ⟨env2, kf⟩ := frz_way env1
    have kp2 := kp_reO kp1 env.bnd
    cases x with
    | lst o xs =>
      dsimp only at post
      cases hc : (fros xs && (o.free || !isPath e)) with
      | false => rw [hc] at post; exact post.elim
      | true =>
        rw [hc] at post
        simp only [Bool.and_eq_true] at hc
        have key : ∃ a vs G, v = .ref a ∧ LstR K H1 (reO own1 (.tp t) .fz) a vs ∧ Reps K N H1 own1 (tagOf e t) xs vs G := by
          cases o with
          | ro =>
            obtain ⟨a, vs, e1, ha, _, hr⟩ := r1
            exact ⟨a, vs, [], e1, ha.ext kf, hr⟩
          | sh =>
            obtain ⟨a, vs, e1, ha, z, _, hr⟩ := r1
            exact ⟨a, vs, [], e1, .inl ⟨.inl ha, (kf.zero ha z).2⟩, hr⟩
          | ow =>
            obtain ⟨a, vs, F', e1, ha, z, _, hr⟩ := r1
            have hp : isPath e = false := by simpa [Fl.free] using hc.2
            unfold tagOf at z
            rw [hp] at z
            exact ⟨a, vs, F', e1, .inl ⟨.inl ha, reO_at z⟩, hr⟩
        obtain ⟨a, vs, G, rfl, ha, hr⟩ := key
        refine ⟨a, rfl, .inl ⟨⟨vs, ha.sq⟩, ?_⟩⟩
        exact post _ H1 _ vs kp2 env2 (src_l ha) (hr.frz_id kf hc.1)
    | tup xs =>
      dsimp only at post
      cases hc : fros xs with
      | false => rw [hc] at post; exact post.elim
      | true =>
        rw [hc] at post
        obtain ⟨a, vs, rfl, ha, hr⟩ := r1
        refine ⟨a, rfl, .inr ⟨⟨vs, ha.sq⟩, ?_⟩⟩
        exact post _ H1 _ vs kp2 env2 (src_t (ha.ext kf)) (hr.frz_id kf hc)
    | _ => exact post.elim
theorem reps_strs {own : Addr → Own} {t : Own} : ∀ s : Tx, Reps K N H own t (s.map fun c => D.str [c]) (s.map fun c => V.str (tx [c])) []
  | [] => ⟨rfl, rfl⟩
  | c :: s => ⟨_, _, [], [], rfl, rfl, ⟨rfl, rfl⟩, reps_strs s⟩
theorem reps_rng {own : Addr → Own} {t : Own} {f : Nat → Int} : ∀ l : List Nat, Reps K N H own t (l.map fun k => D.int (f k)) (l.map fun k => V.int (f k)) []
  | [] => ⟨rfl, rfl⟩
  | c :: s => ⟨_, _, [], [], rfl, rfl, ⟨rfl, rfl⟩, reps_rng s⟩
theorem i_str {e : E} {R' : L2.It → Hp → Prop} (h : tI K N W g (.str e) σ H R') : iStr (tE K N W g e true) σ H R' := by
  obtain ⟨own, ρ, t, env, post⟩ := h
  simp only [evI] at post
  refine ⟨own, ρ, t, env, ?_⟩
  cases h1 : ev g e true ρ with
  | bad => rw [h1] at post; exact post.elim
  | exn c p => rw [h1] at post; exact post
  | ok r =>
    obtain ⟨x, ρ1⟩ := r
    rw [h1] at post
    dsimp only [R.bind] at post
    intro own1 H1 v F kp1 env1 r1 n1
    obtain ⟨env2, kf⟩ := frz_way env1
    cases x with
    | str s =>
      refine ⟨tx s, r1.1, ?_⟩
      exact post _ H1 _ _ (kp_reO kp1 env.bnd) env2 src_s (reps_strs s)
    | _ => exact post.elim
theorem okR_ok {n : Int} (h : okR n = true) : -(2 ^ 62) ≤ n ∧ n < 2 ^ 62 := by
  unfold okR at h
  rw [Nat.blt_eq] at h
  omega
theorem i_rng {e : E} {R' : L2.It → Hp → Prop} (h : tI K N W g (.rng e) σ H R') : iRng1 (tCons (tE K N W g e true) tNil) σ H R' := by
  obtain ⟨own, ρ, t, env, post⟩ := h
  simp only [evI] at post
  refine ⟨own, ρ, t, env, ?_⟩
  cases h1 : ev g e true ρ with
  | bad => rw [h1] at post; exact post.elim
  | exn c p => rw [h1] at post; exact post
  | ok r =>
    obtain ⟨x, ρ1⟩ := r
    rw [h1] at post
    dsimp only [R.bind] at post
    intro own1 H1 v F kp1 env1 r1 n1
    obtain ⟨env2, kf⟩ := frz_way env1
    cases x with
    | int n =>
      dsimp only at post
      cases hc : okR n with
      | false => rw [hc] at post; exact post.elim
      | true =>
        rw [hc] at post
        obtain ⟨h2, h3⟩ := okR_ok hc
        refine ⟨n, by rw [r1.1], h2, h3, ?_⟩
        have z := @reps_rng K N H1 (reO own1 (.tp t) .fz) .fz (fun k => (0 : Int) + (k : Nat)) (List.range n.toNat)
        have e0 : (fun k : Nat => D.int ((0 : Int) + (k : Nat))) = fun k : Nat => D.int (k : Nat) := by funext k; rw [Int.zero_add]
        rw [e0] at z
        exact post _ H1 _ _ (kp_reO kp1 env.bnd) env2 src_r z
    | _ => exact post.elim
theorem i_rng2 {a b : E} {R' : L2.It → Hp → Prop} (h : tI K N W g (.rng2 a b) σ H R') : iRng2 (tCons (tE K N W g a true) (tCons (tE K N W g b true) tNil)) σ H R' := by
  obtain ⟨own, ρ, t, env, post⟩ := h
  simp only [evI] at post
  refine ⟨own, ρ, t, env, ?_⟩
  cases h1 : ev g a true ρ with
  | bad => rw [h1] at post; exact post.elim
  | exn c p => rw [h1] at post; exact post
  | ok r =>
    obtain ⟨x, ρ1⟩ := r
    rw [h1] at post
    dsimp only [R.bind] at post
    intro own1 H1 v F kp1 env1 r1 n1
    refine ⟨own1, ρ1, t + 1, env1, ?_⟩
    cases h2 : ev g b true ρ1 with
    | bad => rw [h2] at post; exact post.elim
    | exn c p => rw [h2] at post; exact PostX.later post kp1.f
    | ok r =>
      obtain ⟨y, ρ2⟩ := r
      rw [h2] at post
      intro own2 H2 w F2 kp2 env2 r2 n2
      dsimp only at post
      cases x with
      | int m =>
        cases y with
        | int n =>
          dsimp only at post
          cases hc : (okR m && okR n) with
          | false => rw [hc] at post; exact post.elim
          | true =>
            rw [hc] at post
            simp only [Bool.and_eq_true] at hc
            obtain ⟨h3, h4⟩ := okR_ok hc.1
            obtain ⟨h5, h6⟩ := okR_ok hc.2
            refine ⟨m, n, by rw [r1.1, r2.1], ⟨h3, h4, h5, h6⟩, ?_⟩
            have e3 := env2.cut t
            refine post (cutO own2 t) H2 _ _ (fun a o h nn => ?_) e3 src_r (reps_rng _)
            obtain ⟨e1, e2⟩ := (kp1.trans kp2) a o h nn
            exact ⟨e1, (cutO_of fun j e => env.bnd a j (e2.symm.trans e)).trans e2⟩
        | _ => exact post.elim
      | _ => exact post.elim

/-! ### targets -/
mutual
def tgs : Tg → List Nat
  | .nm i => [i]
  | .tp ts => tgsL ts
def tgsL : List Tg → List Nat
  | [] => []
  | t :: ts => tgs t ++ tgsL ts
end
/-- a tuple or a list of so many -/
def gSeq (K : PySem.W.Frag) (n : Nat) (t : TGs) : TG := fun v σ H Q => gTup K n t v σ H Q ∨ gLst K n t v σ H Q
theorem pg_seq {X : Cx} {pos : Pos} {es : List Expr} {k : Nat} {t : TGs} {n : Nat} (hc : X.calm = true) (h : PGs X es t)
    (hn : (assignEach es X.env).length = n) (hst : (assignEach es X.env).findIdx? (·.1) = none) : PG X (.Tuple es k pos) (gSeq X.K n t) :=
  ⟨fun pins s σ H v u Q I r hw => hw.elim (fun q => (pg_tup hc h hn hst).run pins s σ H v u Q I r q) fun q => (pg_lst hc h hn hst).run pins s σ H v u Q I r q⟩
mutual
def gT (K : PySem.W.Frag) : Tg → TG
  | .nm i => gName i
  | .tp ts => gSeq K ts.length (gTs K ts)
def gTs (K : PySem.W.Frag) : List Tg → TGs
  | [] => gNil
  | t :: ts => gCons (gT K t) (gTs K ts)
end
/-- the slots but those in A are as they were -/
def Agr (A : List Nat) (σ σ' : L2.St) : Prop := ∀ k, k ∉ A → σ'[k]? = σ[k]?
theorem Agr.refl {A : List Nat} : Agr A σ σ := fun _ _ => rfl
theorem Agr.trans {A B : List Nat} {σ1 σ2 : L2.St} (h1 : Agr A σ σ1) (h2 : Agr B σ1 σ2) : Agr (A ++ B) σ σ2 := fun k hk => by
  rw [List.mem_append, not_or] at hk
  exact (h2 k hk.2).trans (h1 k hk.1)
theorem Agr.mono {A B : List Nat} {σ1 : L2.St} (h1 : Agr A σ σ1) (s : ∀ i ∈ A, i ∈ B) : Agr B σ σ1 := fun k hk => h1 k fun z => hk (s k z)
mutual
theorem bind_ok : ∀ (tg : Tg) {d : D} {ρ ρ' : Env} {own : Addr → Own} {t : Nat} {tag : Own} {v : V} {F : List Addr} {σ : L2.St} {Q : L2.St → Hp → Prop}, bindT tg d ρ = some ρ' → EnvOk K N own σ H ρ t → Rep K N H own tag d v F →
    (∀ σ', EnvOk K N own σ' H ρ' t → Agr (tgs tg) σ σ' → Q σ' H) → gT K tg v σ H Q
  | .nm i, d, ρ, ρ', own, t, tag, v, F, σ, Q, h, env, r, q => by
    simp only [bindT] at h
    by_cases c : (fro d && decide (i < ρ.length)) = true
    · rw [if_pos c] at h
      cases h
      simp only [Bool.and_eq_true, decide_eq_true_eq] at c
      refine q _ (env.set c.2 (r.ofFro c.1) List.nodup_nil) fun k hk => ?_
      have : i ≠ k := fun z => hk (by rw [z]; exact List.mem_singleton.mpr rfl)
      rw [List.getElem?_set_ne this]
    · rw [if_neg c] at h
      cases h
  | .tp ts, d, ρ, ρ', own, t, tag, v, F, σ, Q, h, env, r, q => by
    cases d with
    | tup ds =>
      simp only [bindT] at h
      obtain ⟨a, vs, rfl, ha, hr⟩ := r.sqt
      exact .inl ⟨a, vs, rfl, ha, by rw [hr.length]; exact (binds_len ts h), binds_ok ts h env hr q⟩
    | lst o ds =>
      simp only [bindT] at h
      obtain ⟨a, vs, G, rfl, ha, hr, _⟩ := r.sql
      exact .inr ⟨a, vs, rfl, ha, by rw [hr.length]; exact (binds_len ts h), binds_ok ts h env hr q⟩
    | _ => simp [bindT] at h
theorem binds_len : ∀ (ts : List Tg) {ds : List D} {ρ ρ' : Env}, bindTs ts ds ρ = some ρ' → ds.length = ts.length
  | [], [], _, _, _ => rfl
  | [], _ :: _, _, _, h => by simp [bindTs] at h
  | _ :: _, [], _, _, h => by simp [bindTs] at h
  | t :: ts, d :: ds, ρ, ρ', h => by
    simp only [bindTs] at h
    cases h1 : bindT t d ρ with
    | none => rw [h1] at h; cases h
    | some ρ1 =>
      rw [h1] at h
      rw [List.length_cons, List.length_cons, binds_len ts h]
theorem binds_ok : ∀ (ts : List Tg) {ds : List D} {ρ ρ' : Env} {own : Addr → Own} {t : Nat} {tag : Own} {vs : List V} {F : List Addr} {σ : L2.St} {Q : L2.St → Hp → Prop}, bindTs ts ds ρ = some ρ' → EnvOk K N own σ H ρ t → Reps K N H own tag ds vs F →
    (∀ σ', EnvOk K N own σ' H ρ' t → Agr (tgsL ts) σ σ' → Q σ' H) → gTs K ts vs σ H Q
  | [], ds, ρ, ρ', own, t, tag, vs, F, σ, Q, h, env, r, q => by
    cases ds with
    | nil =>
      simp only [bindTs, Option.some.injEq] at h
      subst h
      exact ⟨r.1, q σ env Agr.refl⟩
    | cons d ds => simp [bindTs] at h
  | tg :: ts, ds, ρ, ρ', own, t, tag, vs, F, σ, Q, h, env, r, q => by
    cases ds with
    | nil => simp [bindTs] at h
    | cons d ds =>
      simp only [bindTs] at h
      obtain ⟨v, vs', F1, F2, e, eF, h1, h2⟩ := r
      cases hb : bindT tg d ρ with
      | none => rw [hb] at h; cases h
      | some ρ1 =>
        rw [hb] at h
        exact ⟨v, vs', e, bind_ok tg hb env h1 fun σ1 env1 a1 => binds_ok ts h env1 h2 fun σ2 env2 a2 => q σ2 env2 (a1.trans a2)⟩
end
end
end Ev

/-! Comprehensions. -/
namespace Ev
open PySem PySem.Spec PyProof.Rows L2
def lcBody (g : G) (tg : Tg) (c e : E) (own : List Nat) (d : D) (ρ' : Env) : R (Option D × Env) := noX (match bindT tg d (wipeE ρ' own) with
  | some ρ2 => (match c with
    | .hole => (ev g e false ρ2).bind fun (y, ρ3) => .ok (some y, ρ3)
    | _ => (ev g c true ρ2).bind fun (b, ρ3) => (match b with | .bl true => (ev g e false ρ3).bind fun (y, ρ4) => .ok (some y, ρ4) | .bl false => .ok (none, ρ3) | _ => .bad))
  | none => .bad)
theorem ev_lc (g : G) (tg : Tg) (it : It) (c e : E) (own : List Nat) (vw : Bool) (ρ : Env) : ev g (.lc tg it c e own) vw ρ = (evI g it ρ).bind fun (xs, ρ1) => R.guard (decide (xs.length ≤ LINE) && own.all (fun k => !(tch c ++ tch e).contains k)) ((lcL (lcBody g tg c e own) xs ρ1).bind fun (ys, ρ2) => .ok (.lst .ow ys, backE ρ1 ρ2 own)) := by
  simp only [ev]; rfl
abbrev WF : WX := fun _ _ _ _ => False
/-- a clause's test -/
def tCo (K : PySem.W.Frag) (N : Nm) (g : G) (c : E) : TT := if isHole c then tYes else tT K N WF g c
/-- values on the way joined to the one at t, later ones let go -/
def jnO (own : Addr → Own) (t k : Nat) : Addr → Own := fun a => match own a with | .tp j => if j = k then .tp t else if j ≤ t then .tp j else .fz | o => o
theorem jnO_k {own : Addr → Own} {t k : Nat} {a : Addr} (h : own a = .tp k) : jnO own t k a = .tp t := by unfold jnO; rw [h]; exact if_pos rfl
theorem jnO_le {own : Addr → Own} {t k j : Nat} {a : Addr} (h : own a = .tp j) (hj : j ≤ t) (hk : j ≠ k) : jnO own t k a = .tp j := by unfold jnO; rw [h]; simp [hj, hk]
theorem jnO_of {own : Addr → Own} {t k : Nat} {a : Addr} (h : ∀ j, own a ≠ .tp j) : jnO own t k a = own a := by
  unfold jnO
  split
  · rename_i j e; exact absurd e (h j)
  · rfl
theorem jnO_bnd {own : Addr → Own} {t k j : Nat} {a : Addr} (h : jnO own t k a = .tp j) : j < t + 1 := by
  unfold jnO at h
  split at h
  · split at h
    · cases h; omega
    · split at h
      · cases h; omega
      · cases h
  · rename_i hn
    exact absurd h (hn j)
theorem jnO_f {own : Addr → Own} {t k : Nat} {H : Hp} : KpF own H (jnO own t k) H := fun a o h z => ⟨h, jnO_of fun j e => by rcases z with z | z <;> (rw [z] at e; cases e)⟩
theorem wipe_in {σ : L2.St} {i : Nat} : ∀ {vs : List Nat}, i ∈ vs → i < σ.length → (wipe σ vs)[i]? = some none
  | [], h, _ => nomatch h
  | v :: vs, h, hl => by
    unfold wipe
    by_cases e : v = i
    · subst e
      rw [List.getElem?_set_self (by rw [wipe_length]; exact hl)]
    · rw [List.getElem?_set_ne e]
      rcases List.mem_cons.mp h with q | q
      · exact absurd q.symm e
      · exact wipe_in q hl
theorem wipe_back {σ σ2 : L2.St} {own A : List Nat} (h : Agr A (wipe σ own) σ2) (l : σ2.length = σ.length) (s : ∀ k ∈ A, k ∈ own) : wipe σ2 own = wipe σ own := by
  apply List.ext_getElem?
  intro k
  by_cases hk : k ∈ own
  · by_cases hl : k < σ.length
    · rw [wipe_in hk (by omega), wipe_in hk hl]
    · rw [List.getElem?_eq_none (by rw [wipe_length]; omega), List.getElem?_eq_none (by rw [wipe_length]; omega)]
  · rw [wipe_out hk, h k fun z => hk (s k z), wipe_out hk]
theorem getS_wipe {ρ : Env} {i : Nat} : ∀ {w : List Nat}, i ∉ w → getS (wipeE ρ w) i = getS ρ i
  | [], _ => rfl
  | v :: vs, h => by
    rw [List.mem_cons, not_or] at h
    unfold wipeE
    rw [getS_set_ne (fun z => h.1 z.symm), getS_wipe h.2]
theorem backE_length (ρ ρ' : Env) : ∀ w : List Nat, (backE ρ ρ' w).length = ρ'.length
  | [] => rfl
  | v :: vs => by unfold backE; rw [List.length_set, backE_length ρ ρ' vs]
theorem getS_back {ρ ρ' : Env} {i : Nat} {d : D} : ∀ {w : List Nat}, getS (backE ρ ρ' w) i = some d → (i ∈ w ∧ getS ρ i = some d) ∨ (i ∉ w ∧ getS ρ' i = some d)
  | [], h => .inr ⟨by simp, h⟩
  | v :: vs, h => by
    unfold backE at h
    by_cases e : v = i
    · subst e
      have hl := getS_lt h
      rw [List.length_set] at hl
      rw [getS_set_self hl] at h
      refine .inl ⟨List.mem_cons_self, ?_⟩
      unfold getS
      cases q : ρ[v]? with
      | none => rw [q] at h; cases h
      | some o => rw [q] at h; cases o with
        | none => cases h
        | some d' => exact h
    · rw [getS_set_ne e] at h
      rcases getS_back h with ⟨a, b⟩ | ⟨a, b⟩
      · exact .inl ⟨List.mem_cons_of_mem _ a, b⟩
      · exact .inr ⟨by rw [List.mem_cons, not_or]; exact ⟨fun z => e z.symm, a⟩, b⟩
section
variable {K : PySem.W.Frag} {N : Nm} {W : WX} {g : G} {vw : Bool} {σ : L2.St} {H : Hp} {Q : VK}
theorem env_wiped {own : Addr → Own} {σ2 : L2.St} {ρ : Env} {t : Nat} {w : List Nat} (env : EnvOk K N own σ2 H ρ t) (h : wipe σ2 w = wipe σ w) (l : σ2.length = σ.length) : EnvOk K N own (wipe σ w) H (wipeE ρ w) t :=
  ⟨by rw [wipe_length, wipeE_length, ← l]; exact env.len, env.bnd, fun i d e => by
    obtain ⟨e1, hi⟩ := wipeE_get e
    obtain ⟨v, F, e2, r, n⟩ := env.sl i d e1
    exact ⟨v, F, by rw [← h, wipe_out hi]; exact e2, r, n⟩⟩
/-- one turn's end: the item joins the list -/
theorem lc_join {own4 : Addr → Own} {H4 : Hp} {t : Nat} {L : Addr} {accV : List V} {ys : List D} {F F4 : List Addr} {y : D} {w : V} {M : List Nat} {own1 : Addr → Own} {H1 : Hp} {σ2 : L2.St} {ρ4 : Env} {m : Nat} (hL1 : H1 L = none) (b1 : ∀ a j, own1 a = .tp j → j < t)
    (kp : Kp M own1 H1 own4 H4) (env4 : EnvOk K N own4 σ2 H4 ρ4 m) (hL : H4 L = some (.lst accV)) (oL : own4 L = .tp t) (ra : Reps K N H4 own4 (.tp t) ys accV F) (nF : (L :: F).Nodup) (ry : Rep K N H4 own4 (.tp (t + 2)) y w F4) (n4 : F4.Nodup) :
    ∃ own5, Kp M own1 H1 own5 (upd H4 L (.lst (accV ++ [w]))) ∧ EnvOk K N own5 σ2 (upd H4 L (.lst (accV ++ [w]))) ρ4 (t + 1) ∧ own5 L = .tp t ∧ Reps K N (upd H4 L (.lst (accV ++ [w]))) own5 (.tp t) (ys ++ [y]) (accV ++ [w]) (F ++ F4) ∧ (L :: (F ++ F4)).Nodup := by
  have neL : ∀ {a : Addr}, own4 a ≠ .tp t → a ≠ L := fun h z => h (by rw [z]; exact oL)
  have kf : KpF own4 H4 (jnO own4 t (t + 2)) (upd H4 L (.lst (accV ++ [w]))) := fun a o h z => by
    obtain ⟨e1, e2⟩ := jnO_f (t := t) (k := t + 2) a o h z
    exact ⟨by rw [upd_ne (neL (by rcases z with z | z <;> (rw [z]; exact fun q => by cases q)))]; exact e1, e2⟩
  have nLF : L ∉ F := (List.nodup_cons.mp nF).1
  have nF' : F.Nodup := (List.nodup_cons.mp nF).2
  have o4 : ∀ a ∈ F4, own4 a = .tp (t + 2) := fun a ha => (Rep.owned y ry a ha).1
  refine ⟨jnO own4 t (t + 2), fun a o h n => ?_, env4.move (fun a j h => jnO_bnd h) kf (fun a o i h z _ => ?_), jnO_le oL (Nat.le_refl _) (by omega), Reps.append ?_ (Reps.one ?_), ?_⟩
  · obtain ⟨e1, e2⟩ := kp a o h n
    refine ⟨by rw [upd_ne (ne_of_none h hL1)]; exact e1, ?_⟩
    cases hc : own1 a with
    | tp j =>
      have := b1 a j hc
      exact jnO_le (e2.trans hc) (by omega) (by omega)
    | _ => exact (jnO_of (fun j e => by rw [e2, hc] at e; cases e)).trans (e2.trans hc)
  · exact ⟨by rw [upd_ne (neL (by rw [z]; exact fun q => by cases q))]; exact h, (jnO_of fun j e => by rw [z] at e; cases e).trans z⟩
  · refine Reps.carry kf ys ra fun a ha o ho => ?_
    have z := (Reps.owned ys ra a ha).1
    exact ⟨by rw [upd_ne fun q => nLF (by rw [← q]; exact ha)]; exact ho, jnO_le z (Nat.le_refl _) (by omega)⟩
  · refine Rep.carry kf y ry fun a ha o ho => ?_
    have z := o4 a ha
    exact ⟨by rw [upd_ne (neL (by rw [z]; exact fun q => by injection q with q; omega))]; exact ho, jnO_k z⟩
  · refine List.nodup_cons.mpr ⟨fun h => ?_, List.nodup_append.mpr ⟨nF', n4, fun a ha b hb z => ?_⟩⟩
    · rcases List.mem_append.mp h with h | h
      · exact nLF h
      · have z := o4 L h
        rw [oL] at z
        injection z with z
        omega
    · subst z
      have z1 := (Reps.owned ys ra a ha).1
      rw [o4 a hb] at z1
      injection z1 with z1
      omega
/-- a turn that gives nothing -/
theorem lc_skip {own3 : Addr → Own} {H3 : Hp} {t : Nat} {L : Addr} {accV : List V} {ys : List D} {F : List Addr} {M : List Nat} {own1 : Addr → Own} {H1 : Hp} {σ2 : L2.St} {ρ3 : Env} {m : Nat} (b1 : ∀ a j, own1 a = .tp j → j < t)
    (kp : Kp M own1 H1 own3 H3) (env3 : EnvOk K N own3 σ2 H3 ρ3 m) (oL : own3 L = .tp t) (ra : Reps K N H3 own3 (.tp t) ys accV F) :
    ∃ own5, Kp M own1 H1 own5 H3 ∧ EnvOk K N own5 σ2 H3 ρ3 (t + 1) ∧ own5 L = .tp t ∧ Reps K N H3 own5 (.tp t) ys accV F := by
  refine ⟨cutO own3 (t + 1), fun a o h n => ?_, env3.cut (t + 1), (cutO_of fun j e => by rw [oL] at e; cases e; omega).trans oL, Reps.carry (fun a o h z => ⟨h, cutO_of fun j e => by rcases z with z | z <;> (rw [z] at e; cases e)⟩) ys ra fun a ha o ho => ⟨ho, ?_⟩⟩
  · obtain ⟨e1, e2⟩ := kp a o h n
    exact ⟨e1, (cutO_of fun j e => by have := b1 a j (e2.symm.trans e); omega).trans e2⟩
  · have z := (Reps.owned ys ra a ha).1
    exact (cutO_of fun j e => by rw [z] at e; cases e; omega).trans z
theorem lcBody_noX {tg : Tg} {c e : E} {own : List Nat} {d : D} {ρ : Env} {p : Nat} {q : D} : lcBody g tg c e own d ρ ≠ .exn p q := by
  unfold lcBody
  intro h
  generalize (match bindT tg d (wipeE ρ own) with | some _ => _ | none => _ : R (Option D × Env)) = z at h
  cases z <;> cases h
theorem lcL_noX {f : D → Env → R (Option D × Env)} (hf : ∀ d ρ p q, f d ρ ≠ .exn p q) : ∀ (xs : List D) (ρ : Env) {p : Nat} {q : D}, lcL f xs ρ ≠ .exn p q
  | [], _, _, _ => fun h => by cases h
  | x :: xs, ρ, p, q => fun h => by
    simp only [lcL] at h
    cases h1 : f x ρ with
    | bad => rw [h1] at h; cases h
    | exn a b => exact hf _ _ _ _ h1
    | ok r =>
      rw [h1] at h
      dsimp only [R.bind] at h
      cases h2 : lcL f xs r.2 with
      | bad => rw [h2] at h; cases h
      | exn a b => exact lcL_noX hf xs r.2 h2
      | ok r2 => rw [h2] at h; cases h
mutual
theorem bindT_length : ∀ (tg : Tg) {d : D} {ρ ρ' : Env}, bindT tg d ρ = some ρ' → ρ'.length = ρ.length
  | .nm i, d, ρ, ρ', h => by
    simp only [bindT] at h
    split at h
    · cases h; rw [List.length_set]
    · cases h
  | .tp ts, d, ρ, ρ', h => by
    cases d <;> simp only [bindT, reduceCtorEq] at h
    · exact bindTs_length ts h
    · exact bindTs_length ts h
theorem bindTs_length : ∀ (ts : List Tg) {ds : List D} {ρ ρ' : Env}, bindTs ts ds ρ = some ρ' → ρ'.length = ρ.length
  | [], [], _, _, h => by simp only [bindTs, Option.some.injEq] at h; rw [h]
  | [], _ :: _, _, _, h => by simp [bindTs] at h
  | _ :: _, [], _, _, h => by simp [bindTs] at h
  | t :: ts, d :: ds, ρ, ρ', h => by
    simp only [bindTs] at h
    cases h1 : bindT t d ρ with
    | none => rw [h1] at h; cases h
    | some ρ1 =>
      rw [h1] at h
      rw [bindTs_length ts h, bindT_length t h1]
end
theorem r_lc {tg : Tg} {it : It} {c e : E} {own0 : List Nat} (hsub : ∀ k ∈ tgs tg, k ∈ own0) (h : tE K N W g (.lc tg it c e own0) vw σ H Q) : tLc (tI K N W g it) (gT K tg) (tCo K N g c) (tE K N WF g e false) own0 σ H Q := by
  have le := line_eq
  obtain ⟨own, ρ, t, env, post⟩ := h
  rw [ev_lc] at post
  refine ⟨own, ρ, t, env, ?_⟩
  cases h1 : evI g it ρ with
  | bad => rw [h1] at post; exact post.elim
  | exn c p => rw [h1] at post; exact post
  | ok r =>
    obtain ⟨xs, ρ1⟩ := r
    rw [h1] at post
    dsimp only [R.bind] at post
    intro own1 H1 J vs kp1 env1 src reps L hL
    cases hc : (decide (xs.length ≤ LINE) && own0.all (fun k => !(tch c ++ tch e).contains k)) with
    | false => rw [hc] at post; exact post.elim
    | true =>
      rw [hc] at post
      dsimp only [R.guard] at post
      simp only [Bool.and_eq_true, decide_eq_true_eq, List.all_eq_true, Bool.not_eq_true'] at hc
      obtain ⟨hlen, hunt⟩ := hc
      have hunt' : ∀ k ∈ own0, k ∉ tch c ++ tch e := fun k hk z => by
        have := hunt k hk
        rw [List.contains_iff_mem.mpr z] at this
        cases this
      have hvl : vs.length = xs.length := reps.length
      -- the state between two turns
      let Pv : Nat → Hp → Prop := fun i H' => ∃ own' ρ' ys accV F zs ρ2, Kp (tch c ++ tch e) own1 H1 own' H' ∧ EnvOk K N own' (wipe σ own0) H' (wipeE ρ' own0) (t + 1) ∧ ρ'.length = ρ1.length ∧ H' L = some (.lst accV) ∧ own' L = .tp t ∧
        Reps K N H' own' (.tp t) ys accV F ∧ (L :: F).Nodup ∧ ys.length ≤ i ∧ lcL (lcBody g tg c e own0) (xs.drop i) ρ' = .ok (zs, ρ2) ∧
        PostOk K N own σ H t (tchI it ++ (tch c ++ tch e)) (.tp t) (.lst .ow (ys ++ zs)) (backE ρ1 ρ2 own0) Q
      have l1 : σ.length = ρ1.length := env1.len
      have start : Pv 0 (upd H1 L (.lst [])) := by
        cases h2 : lcL (lcBody g tg c e own0) xs ρ1 with
        | bad => rw [h2] at post; exact post.elim
        | exn c p => exact absurd h2 (lcL_noX (fun _ _ _ _ => lcBody_noX) _ _)
        | ok r =>
          obtain ⟨zs, ρ2⟩ := r
          rw [h2] at post
          have e2 : EnvOk K N (updO own1 L (.tp t)) σ (upd H1 L (.lst [])) ρ1 (t + 1) := env1.keep (bnd_new env1.bnd fun j e => by cases e; exact Nat.lt_succ_self _) (kp_new hL)
          exact ⟨updO own1 L (.tp t), ρ1, [], [], [], zs, ρ2, kp_new hL, env_wiped e2 rfl rfl, rfl, upd_same, updO_same, ⟨rfl, rfl⟩, by simp, Nat.le_refl _, by rw [List.drop_zero]; exact h2, post⟩
      refine ⟨fun i m H' => m = xs.length - i ∧ i ≤ xs.length ∧ Pv i H', ⟨xs.length, by simp, Nat.zero_le _, start⟩, ?_⟩
      rintro i m H' ⟨rfl, hi, own', ρ', ys, accV, F, zs, ρ2, kp, env', lρ, hLi, oL, ra, nF, hyl, hgo, po⟩
      have kf : KpF own1 H1 own' H' := kp.f
      obtain ⟨sgo, sstop⟩ := src own' H' kf
      have bndt : ∀ a j, own a = .tp j → j < t := env.bnd
      by_cases hlt : i < xs.length
      · have hx : xs[i]? = some xs[i] := List.getElem?_eq_getElem hlt
        obtain ⟨x, Fx, hv, rx, _, _⟩ := reps.get hx
        obtain ⟨g1, g2⟩ := sgo i x hv
        have rx' : Rep K N H' own' .fz xs[i] x [] := by
          have f0 : Fx = [] := by
            cases Fx with
            | nil => rfl
            | cons a Fx => rename_i sub; exact nomatch sub a List.mem_cons_self
          subst f0
          exact Rep.carry kf _ rx fun a ha => nomatch ha
        rw [List.drop_eq_getElem_cons hlt] at hgo
        simp only [lcL] at hgo
        refine .inr ⟨g1, Pv (i + 1), fun H'' p => ⟨xs.length - (i + 1), by omega, rfl, hlt, p⟩, fun x' H'' hy => ?_⟩
        obtain ⟨e1, e2⟩ := g2 x' H'' hy
        rw [e1, e2]
        cases hb : bindT tg xs[i] (wipeE ρ' own0) with
        | none =>
          have z : lcBody g tg c e own0 xs[i] ρ' = .bad := by unfold lcBody; rw [hb]; rfl
          rw [z] at hgo
          cases hgo
        | some ρ3 =>
          refine bind_ok tg hb env' rx' fun σ2 env2 agr => ?_
          have lσ2 : σ2.length = σ.length := by
            have q1 := env2.len
            have q2 := bindT_length tg hb
            rw [wipeE_length] at q2
            omega
          have wb : wipe σ2 own0 = wipe σ own0 := wipe_back agr lσ2 hsub
          refine ⟨wb, ?_⟩
          -- the element
          have elt : ∀ own3 H3 ρ4, Kp (tch c) own' H' own3 H3 → EnvOk K N own3 σ2 H3 ρ4 (t + 2) → (∀ y ρ5, ev g e false ρ4 = .ok (y, ρ5) → ((lcL (lcBody g tg c e own0) (xs.drop (i + 1)) ρ5).bind fun (ys', ρ6) => R.ok (y :: ys', ρ6)) = .ok (zs, ρ2)) → (∀ p q, ev g e false ρ4 ≠ .exn p q) → ev g e false ρ4 ≠ .bad →
              tE K N WF g e false σ2 H3 fun y H4 => ∃ acc, H4 L = some (.lst acc) ∧ acc.length < sizeLine ∧ Pv (i + 1) (upd H4 L (.lst (acc ++ [y]))) := by
            intro own3 H3 ρ4 kp3 env3 hok hnx hnb
            refine ⟨own3, ρ4, t + 2, env3, ?_⟩
            cases h5 : ev g e false ρ4 with
            | bad => exact absurd h5 hnb
            | exn p q => exact absurd h5 (hnx p q)
            | ok r =>
              obtain ⟨y, ρ5⟩ := r
              intro own4 H4 w F4 kp4 env4 r4 n4
              have ry := r4.way h5
              have kpL : ∀ {M : List Nat} {ow : Addr → Own} {Hh : Hp}, Kp M own' H' ow Hh → Hh L = some (.lst accV) ∧ ow L = .tp t := fun {M ow Hh} kk => by
                obtain ⟨a1, a2⟩ := kk L _ hLi fun j _ z => by rw [oL] at z; cases z
                exact ⟨a1, a2.trans oL⟩
              obtain ⟨hL4, oL4⟩ := kpL (kp3.trans kp4)
              have ra4 : Reps K N H4 own4 (.tp t) ys accV F := Reps.carry (kp3.trans kp4).f ys ra fun a ha o ho => by
                have z := (Reps.owned ys ra a ha).1
                obtain ⟨a1, a2⟩ := (kp3.trans kp4) a o ho fun j _ q => by rw [z] at q; cases q
                exact ⟨a1, a2.trans z⟩
              have kpall : Kp (tch c ++ tch e) own1 H1 own4 H4 := (kp.trans (kp3.trans kp4)).mono fun j hj => by
                rcases List.mem_append.mp hj with hj | hj <;> exact hj
              obtain ⟨own5, p1, p2, p3, p4, p5⟩ := lc_join hL env1.bnd kpall env4 hL4 oL4 ra4 nF ry n4
              have hz := hok y ρ5 h5
              cases h6 : lcL (lcBody g tg c e own0) (xs.drop (i + 1)) ρ5 with
              | bad => rw [h6] at hz; cases hz
              | exn p q => rw [h6] at hz; cases hz
              | ok r6 =>
                obtain ⟨zs', ρ6⟩ := r6
                rw [h6] at hz
                cases hz
                have l5 : ρ5.length = ρ1.length := by
                  have := env4.len
                  omega
                refine ⟨accV, hL4, by have := ra.length; omega, own5, ρ5, ys ++ [y], accV ++ [w], F ++ F4, zs', _, p1, env_wiped p2 wb lσ2, l5, upd_same, p3, p4, p5, by rw [List.length_append]; simp; omega, h6, ?_⟩
                rw [List.append_assoc]
                exact po
          have hbody : lcBody g tg c e own0 xs[i] ρ' = noX (match c with
              | .hole => (ev g e false ρ3).bind fun (y, ρ3) => .ok (some y, ρ3)
              | _ => (ev g c true ρ3).bind fun (b, ρ3) => (match b with | .bl true => (ev g e false ρ3).bind fun (y, ρ4) => .ok (some y, ρ4) | .bl false => .ok (none, ρ3) | _ => .bad)) := by
            unfold lcBody; rw [hb]
          by_cases hh : isHole c = true
          · have ec : c = .hole := by cases c <;> first | rfl | cases hh
            subst ec
            unfold tCo
            rw [if_pos hh]
            dsimp only at hbody
            rw [hbody] at hgo
            unfold tYes
            dsimp only
            rw [if_pos rfl]
            refine (elt own' H' ρ3 Kp.refl (env2.up (by omega)) (fun y ρ5 h5 => ?_) (fun p q h5 => ?_) fun h5 => ?_)
            · rw [h5] at hgo
              exact hgo
            · rw [h5] at hgo; cases hgo
            · rw [h5] at hgo; cases hgo
          · have ec : lcBody g tg c e own0 xs[i] ρ' = noX ((ev g c true ρ3).bind fun (b, ρ3) => (match b with | .bl true => (ev g e false ρ3).bind fun (y, ρ4) => .ok (some y, ρ4) | .bl false => .ok (none, ρ3) | _ => .bad)) := by
              rw [hbody]
              cases c <;> first | rfl | exact absurd rfl hh
            rw [ec] at hgo
            unfold tCo
            rw [if_neg hh]
            refine ⟨own', ρ3, t + 1, env2, ?_⟩
            cases h4 : ev g c true ρ3 with
            | bad => rw [h4] at hgo; cases hgo
            | exn p q => rw [h4] at hgo; cases hgo
            | ok r =>
              obtain ⟨b, ρ4⟩ := r
              rw [h4] at hgo
              dsimp only [R.bind] at hgo
              cases b with
              | bl k =>
                intro own3 H3 kp3 env3
                cases k with
                | true =>
                  rw [if_pos rfl]
                  dsimp only at hgo
                  refine elt own3 H3 ρ4 kp3 env3 (fun y ρ5 h5 => ?_) (fun p q h5 => ?_) fun h5 => ?_
                  · rw [h5] at hgo
                    exact hgo
                  · rw [h5] at hgo; cases hgo
                  · rw [h5] at hgo; cases hgo
                | false =>
                  rw [if_neg Bool.false_ne_true]
                  dsimp only [noX] at hgo
                  obtain ⟨a1, a2⟩ := kp3 L _ hLi fun j _ z => by rw [oL] at z; cases z
                  have ra3 : Reps K N H3 own3 (.tp t) ys accV F := Reps.carry kp3.f ys ra fun a ha o ho => by
                    have z := (Reps.owned ys ra a ha).1
                    obtain ⟨a1, a2⟩ := kp3 a o ho fun j _ q => by rw [z] at q; cases q
                    exact ⟨a1, a2.trans z⟩
                  have kpall : Kp (tch c ++ tch e) own1 H1 own3 H3 := (kp.trans kp3).mono fun j hj => by
                    rcases List.mem_append.mp hj with hj | hj
                    · exact hj
                    · exact List.mem_append_left _ hj
                  obtain ⟨own5, p1, p2, p3, p4⟩ := lc_skip env1.bnd kpall env3 (a2.trans oL) ra3
                  have l5 : ρ4.length = ρ1.length := by
                    have := env3.len
                    omega
                  cases h6 : lcL (lcBody g tg c e own0) (xs.drop (i + 1)) ρ4 with
                  | bad => rw [h6] at hgo; cases hgo
                  | exn p q => rw [h6] at hgo; cases hgo
                  | ok r6 =>
                    obtain ⟨zs', ρ6⟩ := r6
                    rw [h6] at hgo
                    cases hgo
                    exact ⟨own5, ρ4, ys, accV, F, zs', _, p1, env_wiped p2 wb lσ2, l5, a1, p3, p4, nF, by omega, h6, po⟩
              | _ => cases hgo
      · have hil : i = xs.length := by omega
        refine .inl ⟨sstop i (by omega), ?_⟩
        rw [List.drop_eq_nil_of_le (by omega)] at hgo
        simp only [lcL] at hgo
        cases hgo
        rw [List.append_nil] at po
        refine po own' H' (.ref L) (L :: F) (kp1.trans kp) ⟨?_, env'.bnd, fun k d hk => ?_⟩ ⟨L, accV, F, rfl, hLi, oL, rfl, ra⟩ nF
        · rw [backE_length, lρ]; exact l1
        · rcases getS_back hk with ⟨hk1, hk2⟩ | ⟨hk1, hk2⟩
          · obtain ⟨v, G, e1, r1, n1⟩ := env1.sl k d hk2
            exact ⟨v, G, e1, r1.keep kp fun j hj z => hunt' k hk1 (by cases z; exact hj), n1⟩
          · obtain ⟨v, G, e1, r1, n1⟩ := env'.sl k d (by rw [getS_wipe hk1]; exact hk2)
            exact ⟨v, G, by rw [wipe_out hk1] at e1; exact e1, r1, n1⟩
end
end Ev

/-! Calls. -/
namespace Ev
open PySem PySem.Spec PyProof.Rows L2
section
variable {K : PySem.W.Frag} {N : Nm} {W : WX} {g : G} {vw : Bool} {σ : L2.St} {H : Hp} {Q : VK}
/-- the arguments, each in its slot -/
def ArgsS (K : PySem.W.Frag) (N : Nm) (H : Hp) (own : Addr → Own) : Nat → List D → List V → Prop
  | _, [], vs => vs = []
  | k, d :: ds, vs => ∃ v vs' F, vs = v :: vs' ∧ Rep K N H own (.sl k) d v F ∧ F.Nodup ∧ ArgsS K N H own (k + 1) ds vs'
/-- what has become of the arguments -/
def RetR (K : PySem.W.Frag) (N : Nm) (H : Hp) (own : Addr → Own) : Nat → List (Option D) → List V → Prop
  | k, o :: rs, v :: vs => (∀ d, o = some d → ∃ F, Rep K N H own (.sl k) d v F ∧ F.Nodup) ∧ RetR K N H own (k + 1) rs vs
  | _, [], _ => True
  | _, _ :: _, [] => False
/-- THE PROMISE of the def f: it does what the pure call says -/
def spC (K : PySem.W.Frag) (N : Nm) (call : Nat → List D → R (D × List (Option D))) (f : Nat) : Sp := fun vs H Q E => ∃ ds own, ArgsS K N H own 0 ds vs ∧ (∀ a k, own a ≠ .tp k) ∧
  match call f ds with
  | .ok (d, rs) => ∀ own' H' v F, KpF own H own' H' → Rep K N H' own' (.tp 0) d v F → F.Nodup → RetR K N H' own' 0 rs vs → Q v H'
  | .exn c p => ∀ own' H' dx fs vp, KpF own H own' H' → H' dx = some (.xd fs) → fs.lookup ("place" : Str) = some vp → Rep K N H' own' .fz p vp [] → E (.ref (N.xc c)) (some dx) H'
  | .bad => False
theorem ArgsS.length {own : Addr → Own} : ∀ {ds : List D} {k : Nat} {vs : List V}, ArgsS K N H own k ds vs → vs.length = ds.length
  | [], _, _, h => by rw [h]; rfl
  | d :: ds, k, _, h => by
    obtain ⟨v, vs', F, e, r, n, h'⟩ := h
    rw [e, List.length_cons, List.length_cons, ArgsS.length h']
/-- the owners as the callee sees them -/
def calO (own : Addr → Own) (t : Nat) : Addr → Own := fun a => match own a with | .fz => .fz | .far => .far | .sl _ => .far | .tp j => if t ≤ j then .sl (j - t) else .far
theorem calO_z {own : Addr → Own} {t : Nat} : KpZ own H (calO own t) H := fun a o h z => ⟨h, by unfold calO; rw [z]⟩
theorem calO_tp {own : Addr → Own} {t j : Nat} {a : Addr} (h : own a = .tp (t + j)) : calO own t a = .sl j := by
  unfold calO; rw [h]
  dsimp only
  rw [if_pos (by omega), Nat.add_sub_cancel_left]
theorem calO_nt {own : Addr → Own} {t k : Nat} {a : Addr} : calO own t a ≠ .tp k := by
  unfold calO
  split
  · exact fun z => by cases z
  · exact fun z => by cases z
  · exact fun z => by cases z
  · split <;> exact fun z => by cases z
theorem args_slots {own : Addr → Own} {t : Nat} : ∀ {ds : List D} {k : Nat} {vs : List V}, ArgsR K N H own (t + k) ds vs → ArgsS K N H (calO own t) k ds vs
  | [], _, _, h => h
  | d :: ds, k, _, h => by
    obtain ⟨v, vs', F, e, r, n, h'⟩ := h
    refine ⟨v, vs', F, e, Rep.carryZ calO_z d r fun a ha o ho => ⟨ho, calO_tp (Rep.owned d r a ha).1⟩, n, args_slots (k := k + 1) h'⟩
/-- the owners behind the call: m, where the arguments go; r, where the value goes -/
def retO (m : Nat → Own) (r : Own) (own own' : Addr → Own) (t : Nat) : Addr → Own := fun a => match own' a with
  | .fz => .fz
  | .far => (match own a with | .tp j => if j < t then .tp j else .fz | o => o)
  | .sl k => m k
  | .tp _ => r
theorem retO_z {m : Nat → Own} {r : Own} {own own' : Addr → Own} {t : Nat} {H' : Hp} : KpZ own' H' (retO m r own own' t) H' := fun a o h z => ⟨h, by unfold retO; rw [z]⟩
theorem retO_tp {m : Nat → Own} {r : Own} {own own' : Addr → Own} {t j : Nat} {a : Addr} (h : own' a = .tp j) : retO m r own own' t a = r := by unfold retO; rw [h]
theorem retO_sl {m : Nat → Own} {r : Own} {own own' : Addr → Own} {t j : Nat} {a : Addr} (h : own' a = .sl j) : retO m r own own' t a = m j := by unfold retO; rw [h]
/-- what was before the arguments stands -/
theorem ret_keep {m : Nat → Own} {r : Own} {own own' : Addr → Own} {t : Nat} {H' : Hp} (kf : KpF (calO own t) H own' H') {a : Addr} {o : HO} (h : H a = some o) (b : ∀ j, own a = .tp j → j < t) : H' a = some o ∧ retO m r own own' t a = own a := by
  cases e : own a with
  | fz =>
    have e1 : calO own t a = .fz := by unfold calO; rw [e]
    obtain ⟨x, y⟩ := kf a o h (.inl e1)
    exact ⟨x, by unfold retO; rw [y, e1]⟩
  | far =>
    have e1 : calO own t a = .far := by unfold calO; rw [e]
    obtain ⟨x, y⟩ := kf a o h (.inr e1)
    exact ⟨x, by unfold retO; rw [y, e1, e]⟩
  | sl i =>
    have e1 : calO own t a = .far := by unfold calO; rw [e]
    obtain ⟨x, y⟩ := kf a o h (.inr e1)
    exact ⟨x, by unfold retO; rw [y, e1, e]⟩
  | tp j =>
    have hj := b j e
    have e1 : calO own t a = .far := by unfold calO; rw [e]; dsimp only; rw [if_neg (by omega)]
    obtain ⟨x, y⟩ := kf a o h (.inr e1)
    exact ⟨x, by unfold retO; rw [y, e1, e]; dsimp only; rw [if_pos hj]⟩
/-- which slot the k-th argument was lent from -/
def lentAt : Es → Nat → Option Nat
  | .nil, _ => none
  | .cons (.bor i) _, 0 => some i
  | .cons _ _, 0 => none
  | .cons _ es, k + 1 => lentAt es k
theorem set_same {i : Nat} {v : V} (h : σ[i]? = some (some v)) : σ.set i (some v) = σ := by
  apply List.ext_getElem?
  intro j
  by_cases z : i = j
  · subst z
    rw [List.getElem?_set_self (List.getElem?_eq_some_iff.mp h).1]
    exact h.symm
  · rw [List.getElem?_set_ne z]
/-- the lent trees come back -/
theorem back_ok {own own2 : Addr → Own} {t : Nat} : ∀ {es : Es} {rs : List (Option D)} {vs : List V} {k : Nat} {ρ : Env}, EnvOk K N own2 σ H ρ t → RetR K N H own k rs vs → LentVs σ es vs → KpZ own H own2 H → (∀ a j i, own a = .sl (k + j) → lentAt es j = some i → own2 a = .sl i) → EnvOk K N own2 σ H (backA es rs ρ) t
  | .nil, rs, vs, k, ρ, env, _, _, _, _ => by cases rs <;> exact env
  | .cons e es, [], vs, k, ρ, env, _, _, _, _ => by cases e <;> exact env
  | .cons e es, o :: rs, [], k, ρ, env, z, _, _, _ => z.elim
  | .cons e es, o :: rs, v :: vs, k, ρ, env, ret, lent, kz, hm => by
    obtain ⟨r1, r2⟩ := ret
    obtain ⟨l1, l2⟩ := lent
    have hm' : ∀ a j i, own a = .sl (k + 1 + j) → lentAt es j = some i → own2 a = .sl i := fun a j i e1 e2 => hm a (j + 1) i (by rw [e1]; congr 1; omega) (by cases e <;> exact e2)
    by_cases hb : isBor e = true
    · cases e <;> first | cases hb; done | skip
      rename_i i
      refine back_ok (es := es) (rs := rs) (vs := vs) (k := k + 1) ?_ r2 l2 kz hm'
      have lv : σ[i]? = some (some v) := l1
      cases o with
      | none => exact env.less (by rw [List.length_set]) fun j d h => (getS_none h).1
      | some d =>
        obtain ⟨F, rr, nn⟩ := r1 d rfl
        have hi : i < ρ.length := by
          have := (List.getElem?_eq_some_iff.mp lv).1
          rw [← env.len]
          exact this
        have := env.set (i := i) hi (Rep.carryZ (t' := .sl i) kz d rr fun a ha o ho => ⟨ho, hm a 0 i (by simpa using (Rep.owned d rr a ha).1) rfl⟩) nn
        rwa [set_same lv] at this
    · have e1 : backA (.cons e es) (o :: rs) ρ = backA es rs ρ := by cases e <;> first | rfl | exact absurd rfl hb
      rw [e1]
      exact back_ok env r2 l2 kz hm'

/-- the call itself: the promise, from what the pure call says -/
theorem call_go {own1 : Addr → Own} {H1 : Hp} {ρ1 : Env} {t m0 : Nat} {ds : List D} {vs : List V} {f : Nat} {E : XK} (env1 : EnvOk K N own1 σ H1 ρ1 m0) (args : ArgsR K N H1 own1 t ds vs)
    (post : match g.call f ds with
      | .ok (d, rs) => ∀ own' H' v F, KpF (calO own1 t) H1 own' H' → Rep K N H' own' (.tp 0) d v F → F.Nodup → RetR K N H' own' 0 rs vs → Q v H'
      | .exn c p => ∀ own' H' dx fs vp, KpF (calO own1 t) H1 own' H' → H' dx = some (.xd fs) → fs.lookup ("place" : Str) = some vp → Rep K N H' own' .fz p vp [] → E (.ref (N.xc c)) (some dx) H'
      | .bad => False) : spC K N g.call f vs H1 Q E :=
  ⟨ds, calO own1 t, args_slots (t := t) (k := 0) args, fun a k => calO_nt, post⟩
/-- what was held ahead of the expression stands behind the call -/
theorem ret_kp {own own1 own' : Addr → Own} {H1 H' : Hp} {t : Nat} {M : List Nat} {m : Nat → Own} {r : Own} (kp1 : Kp M own H own1 H1) (b : ∀ a j, own a = .tp j → j < t) {u : Nat} (hu : t ≤ u) (kf : KpF (calO own1 u) H1 own' H') : Kp M own H (retO m r own1 own' u) H' := fun a o h n => by
  obtain ⟨e1, e2⟩ := kp1 a o h n
  obtain ⟨e3, e4⟩ := ret_keep (m := m) (r := r) kf e1 fun j e => Nat.lt_of_lt_of_le (b a j (e2.symm.trans e)) hu
  exact ⟨e3, e4.trans e2⟩
theorem ret_env {own1 own' : Addr → Own} {H1 H' : Hp} {ρ1 : Env} {t k u : Nat} {m : Nat → Own} {r : Own} (env1 : EnvOk K N own1 σ H1 ρ1 k) (kf : KpF (calO own1 u) H1 own' H') (hm : ∀ j i, m j = .tp i → i < t) (hr : ∀ i, r = .tp i → i < t) (hu : u ≤ t) : EnvOk K N (retO m r own1 own' u) σ H' ρ1 t := by
  refine env1.move (fun a j h => ?_) (fun a o h z => ?_) fun a o i h z _ => ?_
  · unfold retO at h
    split at h
    · cases h
    · split at h
      · split at h
        · cases h; omega
        · cases h
      · rename_i hn; exact absurd h (hn j)
    · exact hm _ _ h
    · exact hr _ h
  · exact ret_keep kf h fun j e => by rcases z with z | z <;> (rw [z] at e; cases e)
  · obtain ⟨x, y⟩ := ret_keep (m := m) (r := r) kf h fun j e => by rw [z] at e; cases e
    exact ⟨x, y.trans z⟩
/-- f(..) -/
theorem r_call {f : Nat} {as : Es} (h : tE K N W g (.call f as) vw σ H Q) : tCallS (spC K N g.call f) (WE W) (tA K N W g as) σ H Q := by
  obtain ⟨own, ρ, t, env, post⟩ := h
  simp only [ev] at post
  refine ⟨own, ρ, t, env, ?_⟩
  cases h1 : evs g as ρ with
  | bad => rw [h1] at post; exact post.elim
  | exn c p => rw [h1] at post; exact post
  | ok r =>
    obtain ⟨ds, ρ1⟩ := r
    rw [h1] at post
    dsimp only [R.bind] at post
    intro own1 H1 vs kp1 env1 args lent
    refine call_go env1 args ?_
    cases h2 : g.call f ds with
    | bad => rw [h2] at post; exact post.elim
    | exn c p =>
      rw [h2] at post
      intro own' H' dx fs vp kf e1 e2 e3
      exact post (retO (fun _ => .fz) .fz own1 own' t) H' dx fs vp (ret_kp kp1 env.bnd (Nat.le_refl _) kf).f e1 e2 (Rep.carryZ retO_z _ e3 fun a ha => nomatch ha)
    | ok r =>
      obtain ⟨d, rs⟩ := r
      rw [h2] at post
      intro own' H' v F kf rv nv ret
      let m : Nat → Own := fun k => match lentAt as k with | some i => .sl i | none => .fz
      have hm : ∀ j i, m j = .tp i → i < t + 1 := fun j i e => by
        simp only [m] at e
        split at e <;> cases e
      have e2 : EnvOk K N (retO m (.tp t) own1 own' t) σ H' ρ1 (t + 1) := ret_env env1 kf hm (fun i e => by cases e; omega) (by omega)
      have e3 := back_ok (es := as) (k := 0) e2 ret lent retO_z fun a j i e1 e4 => by
        unfold retO
        rw [e1, Nat.zero_add]
        simp only [m, e4]
      refine post (retO m (.tp t) own1 own' t) H' v F (ret_kp kp1 env.bnd (Nat.le_refl _) kf) e3 (Rep.carryZ retO_z d rv fun a ha o ho => ⟨ho, retO_tp (Rep.owned d rv a ha).1⟩) nv
/-- o.m(..), o of the class C -/
def tMethG (C : Addr) (m : Str) (sp : Sp) (E : L2.St → XK) (ta : TE) (t : TA) : TE := fun σ H Q => ta σ H fun x H1 => ∃ a dx fs, x = .ref a ∧ H1 a = some (.ins C dx fs) ∧ fs.lookup m = none ∧ t σ H1 fun vs H2 => sp (x :: vs) H2 Q (E σ)
theorem no_field {nm : Str} {fs : List (Str × V)} {ks : List Nat} (h : fs.map (·.1) = ks.map N.fld) (hn : ∀ k, N.fld k ≠ nm) : fs.lookup nm = none := by
  have : ∀ (fs : List (Str × V)), (∀ p ∈ fs, p.1 ≠ nm) → fs.lookup nm = none := by
    intro fs
    induction fs with
    | nil => intro _; rfl
    | cons p fs ih =>
      intro hp
      obtain ⟨a, b⟩ := p
      have : (nm == a) = false := beq_eq_false_iff_ne.mpr fun z => hp (a, b) List.mem_cons_self z.symm
      simp only [List.lookup, this]
      exact ih fun q hq => hp q (List.mem_cons_of_mem _ hq)
  refine this fs fun p hp z => ?_
  have m1 : p.1 ∈ fs.map (·.1) := List.mem_map_of_mem hp
  rw [h] at m1
  obtain ⟨k, _, e⟩ := List.mem_map.mp m1
  exact hn k (e.trans z)
theorem r_mcall {c f : Nat} {o : E} {as : Es} {nm : Str} (hn : ∀ k, N.fld k ≠ nm) (h : tE K N W g (.mcall c f o as) vw σ H Q) : tMethG (N.cls c) nm (spC K N g.call f) (WE W) (tAr K N W g o) (tA K N W g as) σ H Q := by
  obtain ⟨own, ρ, t, env, post⟩ := h
  simp only [ev] at post
  refine ⟨own, ρ, t, env, ?_⟩
  cases h1 : ev g o false ρ with
  | bad => rw [h1] at post; exact post.elim
  | exn c p => rw [h1] at post; exact post
  | ok r =>
    obtain ⟨od, ρ1⟩ := r
    rw [h1] at post
    dsimp only [R.bind] at post
    intro own1 H1 x F kp1 env1 r1 n1 lent1
    cases od with
    | ins o' c' ks ws =>
      cases hc : (c == c') with
      | false =>
        have e : insC (.ins o' c' ks ws) c = false := hc
        rw [e] at post
        exact post.elim
      | true =>
        have e : insC (.ins o' c' ks ws) c = true := hc
        rw [e] at post
        have := beq_iff_eq.mp hc
        subst this
        dsimp only [R.guard] at post
        obtain ⟨a, dx, fs, G1, rfl, ha, en, hr, _, _⟩ := r1.insAt
        refine ⟨a, dx, fs, rfl, ha, no_field en hn, own1, ρ1, t + 1, env1, ?_⟩
        cases h2 : evs g as ρ1 with
        | bad => rw [h2] at post; exact post.elim
        | exn c p => rw [h2] at post; exact PostX.later post kp1.f
        | ok r =>
          obtain ⟨ds, ρ2⟩ := r
          rw [h2] at post
          dsimp only at post
          intro own2 H2 vs kp2 env2 args lent
          have r2 : Rep K N H2 own2 (.tp t) (.ins o' c ks ws) (.ref a) F := (r1.way h1).keep kp2 fun i _ z => by cases z
          refine call_go (t := t) env2 (ds := .ins o' c ks ws :: ds) ⟨.ref a, vs, F, rfl, r2, n1, args⟩ ?_
          have kp12 := kp1.trans kp2
          cases h3 : g.call f (.ins o' c ks ws :: ds) with
          | bad => rw [h3] at post; exact post.elim
          | exn c p =>
            rw [h3] at post
            intro own' H' dx fs vp kf e1 e2 e3
            exact post (retO (fun _ => .fz) .fz own2 own' t) H' dx fs vp (ret_kp kp12 env.bnd (Nat.le_refl _) kf).f e1 e2 (Rep.carryZ retO_z _ e3 fun a ha => nomatch ha)
          | ok r =>
            obtain ⟨d, rs⟩ := r
            rw [h3] at post
            intro own' H' v F2 kf rv nv ret
            let m : Nat → Own := fun k => match lentAt (.cons o as) k with | some i => .sl i | none => .fz
            have hm : ∀ j i, m j = .tp i → i < t + 1 := fun j i e => by
              simp only [m] at e
              split at e <;> cases e
            have e2 : EnvOk K N (retO m (.tp t) own2 own' t) σ H' ρ2 (t + 1) := ret_env env2 kf hm (fun i e => by cases e; omega) (by omega)
            have e3 := back_ok (es := .cons o as) (k := 0) (vs := .ref a :: vs) e2 ret ⟨lent1, lent⟩ retO_z fun a j i e1 e4 => by
              unfold retO
              rw [e1, Nat.zero_add]
              simp only [m, e4]
            refine post (retO m (.tp t) own2 own' t) H' v F2 (ret_kp kp12 env.bnd (Nat.le_refl _) kf) e3 (Rep.carryZ retO_z d rv fun a ha o ho => ⟨ho, retO_tp (Rep.owned d rv a ha).1⟩) nv
    | _ => exact post.elim
/-- C(..), its __init__ keeping sp -/
def tMakeG (C : Addr) (sp : Sp) (E : L2.St → XK) (t : TA) : TE := fun σ H Q => t σ H fun vs H1 => ∀ x dx, H1 x = none → H1 dx = none → dx ≠ x → sp (.ref x :: vs) (upd (upd H1 dx (.own x)) x (.ins C dx [])) (fun v H2 => v = .non ∧ Q (.ref x) H2) (E σ)
theorem r_make {c : Nat} {as : Es} (h : tE K N W g (.make c as) vw σ H Q) : tMakeG (N.cls c) (spC K N g.call (g.init c)) (WE W) (tA K N W g as) σ H Q := by
  obtain ⟨own, ρ, t, env, post⟩ := h
  simp only [ev] at post
  refine ⟨own, ρ, t + 1, env.up (by omega), ?_⟩
  cases h1 : evs g as ρ with
  | bad => rw [h1] at post; exact post.elim
  | exn c p => rw [h1] at post; exact post
  | ok r =>
    obtain ⟨ds, ρ1⟩ := r
    rw [h1] at post
    dsimp only [R.bind] at post
    intro own1 H1 vs kp1 env1 args lent x dx hx hdx ne
    -- the new instance
    have hx2 : upd H1 dx (.own x) x = none := by rw [upd_ne (Ne.symm ne)]; exact hx
    have ka : Kp [] own1 H1 (updO own1 dx .fz) (upd H1 dx (.own x)) := kp_new hdx
    have kb : Kp [] (updO own1 dx .fz) (upd H1 dx (.own x)) (updO (updO own1 dx .fz) x (.tp t)) (upd (upd H1 dx (.own x)) x (.ins (N.cls c) dx [])) := kp_new hx2
    have kab := ka.trans kb
    have b2 : ∀ a j, updO (updO own1 dx .fz) x (.tp t) a = .tp j → j < t + 1 + ds.length := fun a j e => by
      by_cases q : a = x
      · subst q; rw [updO_same] at e; cases e; omega
      · rw [updO_ne q] at e
        by_cases q2 : a = dx
        · subst q2; rw [updO_same] at e; cases e
        · rw [updO_ne q2] at e; exact env1.bnd a j e
    have env2 : EnvOk K N (updO (updO own1 dx .fz) x (.tp t)) σ (upd (upd H1 dx (.own x)) x (.ins (N.cls c) dx [])) ρ1 (t + 1 + ds.length) := env1.keep b2 (kab.mono fun i hi => by simpa using hi)
    have args2 : ArgsR K N (upd (upd H1 dx (.own x)) x (.ins (N.cls c) dx [])) (updO (updO own1 dx .fz) x (.tp t)) t (.ins .ow c [] [] :: ds) (.ref x :: vs) :=
      ⟨.ref x, vs, [x], rfl, ⟨x, dx, [], [], rfl, upd_same, updO_same, rfl, rfl, rfl, rfl⟩, by simp, args.keep kab⟩
    have kpM : Kp (tchs as) own H (updO (updO own1 dx .fz) x (.tp t)) (upd (upd H1 dx (.own x)) x (.ins (N.cls c) dx [])) := (kp1.trans kab).mono fun i hi => by simpa using hi
    refine call_go (t := t) env2 args2 ?_
    cases h3 : g.call (g.init c) (.ins .ow c [] [] :: ds) with
    | bad => rw [h3] at post; exact post.elim
    | exn c p =>
      rw [h3] at post
      intro own' H' dx fs vp kf e1 e2 e3
      exact post (retO (fun _ => .fz) .fz _ own' t) H' dx fs vp (ret_kp kpM env.bnd (Nat.le_refl _) kf).f e1 e2 (Rep.carryZ retO_z _ e3 fun a ha => nomatch ha)
    | ok r =>
      obtain ⟨d, rs⟩ := r
      rw [h3] at post
      dsimp only at post
      intro own' H' v F2 kf rv nv ret
      cases d with
      | non =>
        cases rs with
        | nil => exact post.elim
        | cons o rs =>
          cases o with
          | none => exact post.elim
          | some self =>
            dsimp only at post
            obtain ⟨r0, ret'⟩ := ret
            obtain ⟨F3, r3, n3⟩ := r0 self rfl
            refine ⟨rv.1, ?_⟩
            let m : Nat → Own := fun k => match k with | 0 => .tp t | k + 1 => (match lentAt as k with | some i => .sl i | none => .fz)
            have hm : ∀ j i, m j = .tp i → i < t + 1 := fun j i e => by
              cases j with
              | zero => simp only [m] at e; cases e; omega
              | succ j =>
                simp only [m] at e
                split at e <;> cases e
            have e2 : EnvOk K N (retO m .fz (updO (updO own1 dx .fz) x (.tp t)) own' t) σ H' ρ1 (t + 1) := ret_env env2 kf hm (fun i e => by cases e) (by omega)
            have e3 := back_ok (es := as) (k := 1) (vs := vs) e2 ret' lent retO_z fun a j i e1 e4 => by
              unfold retO
              rw [e1, Nat.add_comm 1 j]
              simp only [m, e4]
            refine post _ H' (.ref x) F3 (ret_kp kpM env.bnd (Nat.le_refl _) kf) e3 (Rep.carryZ retO_z self r3 fun a ha o ho => ⟨ho, retO_sl (m := m) (Rep.owned self r3 a ha).1⟩) n3
      | _ => exact post.elim
end
end Ev

/-! The rules of calls, at the slots. -/
namespace Ev
open PySem PySem.Spec PyProof.Rows L2
theorem pe_imp {X : Cx} {e : Expr} {t t' : TE} (h : PE X e t) (i : ∀ σ H Q, t' σ H Q → t σ H Q) : PE X e t' := ⟨fun pins s σ H Q I q => h.run pins s σ H Q I (i σ H Q q)⟩
theorem pt_imp {X : Cx} {e : Expr} {t t' : TT} (h : PT X e t) (i : ∀ σ H Q, t' σ H Q → t σ H Q) : PT X e t' := ⟨fun pins s σ H Q I q => h.run pins s σ H Q I (i σ H Q q)⟩
theorem pw_imp {X : Cx} {e : Expr} {t t' : TT} (h : PW X e t) (i : ∀ σ H Q, t' σ H Q → t σ H Q) : PW X e t' := ⟨fun w pins s σ H Q I q => h.run w pins s σ H Q I (i σ H Q q)⟩
theorem pa_imp {X : Cx} {e : List Expr} {t t' : TA} (h : PA X e t) (i : ∀ σ H Q, t' σ H Q → t σ H Q) : PA X e t' := ⟨fun w pins s σ H Q I q => h.run w pins s σ H Q I (i σ H Q q)⟩
theorem pi_imp {X : Cx} {tg e : Expr} {t t' : TI} (h : PI X tg e t) (i : ∀ σ H Q, t' σ H Q → t σ H Q) : PI X tg e t' := ⟨fun pins s σ H Q I q => h.run pins s σ H Q I (i σ H Q q)⟩
theorem ps_imp {X : Cx} {e : Stmt} {t t' : TS} (h : PS X e t) (i : ∀ D σ H, t' D σ H → t D σ H) : PS X e t' := ⟨fun pins s σ H D I q => h.run pins s σ H D I (i D σ H q)⟩
section
variable {X : Cx} {CX : CXT} {k : Nat} {f C : Addr} {fd : FuncData} {ps : List Str} {sp : Sp} {E : L2.St → XK} {x m : Str} {p pos apos : Pos} {o : Expr} {es : List Expr} {ta : TE} {t : TA}
theorem callW {pins : List (Addr × Obj)} {s : Shared} {σ : L2.St} {H : Hp} {fn : Value} {first : List Value} {Q : Value → Shared → Prop} (I : Inv X pins σ H s) (hk : PySem.W.keepIn X.K fn = true) (ha : PA X es t) (h0 : es = [] → ∀ σ H Q, t σ H Q → tNil σ H Q)
    (hs : es.all (fun e => !isStar e) = true) {R : List V → Hp → Prop} (q : t σ H R) (go : ∀ us vs H1 s1, Inv X pins σ H1 s1 → Vals vs us → R vs H1 → wpAny (model X.prog X.w) X.A (call fn (first ++ us)) Q X.xe s1) :
    wpAny (model X.prog X.w) X.A (callWith pos fn first (backTo pos (starEach es X.env)) []) Q X.xe s := by
  cases es with
  | nil => exact PySem.W.callWith_K0 I.kIn hk (go [] [] H s I .nil (h0 rfl _ _ _ q))
  | cons e es =>
    simp only [List.all_cons, Bool.and_eq_true, Bool.not_eq_true'] at hs
    exact PySem.W.callWith_K (h₀ := X.base) I.ok.mod.kin hk (thn (ha.run pos pins s σ H _ I q) fun us s1 ⟨vs, H1, I1, r, q1⟩ => ⟨I1.kIn, go us vs H1 s1 I1 r q1⟩) (star_of hs.1) (stars_of hs.2)
theorem pe_callG (F : FnOk X.prog X.w X.K X.mg X.base CX k f fd ps sp) (hr : Room k X.A) (hg : Gl X x) (hm : X.mg x = some (.ref f)) (hk : PySem.W.keepIn X.K (.ref f) = true) (hb : Binds X.K fd ps []) (hx : ∀ σ, PassesAt CX X σ (E σ))
    (ha : PA X es t) (h0 : es = [] → ∀ σ H Q, t σ H Q → tNil σ H Q) (hdb : (x == ("__debug__" : Str)) = false) (hs : es.all (fun e => !isStar e) = true) : PE X (.Call (.Name x p) es [] pos) (tCallS sp E t) := by
  refine ⟨fun pins s σ H Q I h => ?_⟩
  refine wpAny_Call_Name_kw (ld_glob I hg hm ?_ hdb)
  exact callW (first := []) I hk ha h0 hs h fun us vs H1 s1 I1 r q => run_fnS F hr hb (hx σ) I1 r q
theorem meth_form {env : PySem.Env} (ho : attrB o = true) (hs : es.all (fun e => !isStar e) = true) (hl : es.length < 30) (hp : (apos.endLine == pos.line) = true) : eval (.Call (.Attribute o m apos) es [] pos) env = (do
      let ov ← eval o env
      standAt apos.atName
      let (f, first) ← holding [ov] (getMethod ov m (do return (← importBound o env).getD true))
      callWith pos f first (backTo pos (starEach es env)) (backToKw pos (keywordEach [] env))) := by
  have hf : methodCallForm (es.length + ([] : List Keyword).length) (backTo pos (starEach es env)) (backToKw pos (keywordEach [] env)) = true := by
    unfold methodCallForm
    have z := stars_of (pos := pos) (env := env) hs
    have : (backTo pos (starEach es env)).all (fun x => !x.1) = true := by
      rw [List.all_eq_not_any_not]
      simp only [Bool.not_not]
      rw [z]
      rfl
    rw [this]
    show (true && true && decide (es.length + 0 + 0 < 30)) = true
    simpa using hl
  rw [arm_eval_Call, attr_base ho]
  unfold methodCall
  rw [hf]
  have h2 : methodCallPos true o env apos pos = pure pos := by
    unfold methodCallPos
    rw [hp]
    rfl
  rw [h2]
  rfl
theorem pe_methG (he : PE X o ta) (c : Cls X.K C) (hm : Meth X.K C m f) (F : FnOk X.prog X.w X.K X.mg X.base CX k f fd ps sp) (hr : Room k X.A) (hb : Binds X.K fd ps []) (hx : ∀ σ, PassesAt CX X σ (E σ))
    (ha : PA X es t) (h0 : es = [] → ∀ σ H Q, t σ H Q → tNil σ H Q) (ho : attrB o = true) (hs : es.all (fun e => !isStar e) = true) (hl : es.length < 30) (hp : (apos.endLine == pos.line) = true) : PE X (.Call (.Attribute o m apos) es [] pos) (tMethG C m sp E ta t) := by
  refine ⟨fun pins s σ H Q I h => ?_⟩
  refine PySem.W.methodCall_KW (thn (he.run pins s σ H _ I h) fun u s1 ⟨x, H1, I1, rx, a, dx, fs, ex, ea, l, q⟩ => ?_) (meth_form ho hs hl hp)
  subst ex
  obtain rfl : u = Value.ref a := rx
  refine getmeth_ok I1 ea c hm l ?_
  exact callW (first := [.ref a]) I1 hm.kp ha h0 hs q fun us vs H2 s2 I2 r q2 => run_fnS (us := .ref a :: us) (vs := .ref a :: vs) F hr hb (hx σ) I2 (.cons rfl r) q2
theorem run_makeG {pins : List (Addr × Obj)} {σ : L2.St} {H : Hp} {s : Shared} {Q : VK} {us : List Value} {vs : List V} (M : Mk X.K C f) (F : FnOk X.prog X.w X.K X.mg X.base CX k f fd ps sp) (hr : Room (k + 1) X.A) (hb : Binds X.K fd ps [])
    (hx : PassesAt CX X σ (E σ)) (I : Inv X pins σ H s) (r : Vals vs us)
    (h : ∀ x dx, H x = none → H dx = none → dx ≠ x → sp (.ref x :: vs) (upd (upd H dx (.own x)) x (.ins C dx [])) (fun v H2 => v = .non ∧ Q (.ref x) H2) (E σ)) :
    wpAny (model X.prog X.w) X.A (call (.ref C) us) (EP X pins σ Q) X.xe s := by
  have hq := h (s.heap.objs.size + 1) s.heap.objs.size (I.hok.fresh (Nat.le_succ _)) (I.hok.fresh (Nat.le_refl _)) (Nat.ne_of_lt (Nat.lt_succ_self _))
  have I2 := Inv.made (C := C) I
  have r2 : Vals (V.ref (s.heap.objs.size + 1) :: vs) (Value.ref (s.heap.objs.size + 1) :: us) := .cons rfl r
  have hl : (Value.ref (s.heap.objs.size + 1) :: us).length = ps.length := by
    have e := r2.length
    rw [F.len _ _ _ _ hq] at e
    exact e.symm
  have b := hb _ (Value.ref (s.heap.objs.size + 1) :: us) I2.kIn (by rw [List.append_nil]; exact hl)
  rw [List.append_nil] at b
  refine wpAny_call (make_map (f := f) I.kIn M.makes M.init (beq_iff_eq.mp M.fn) (codeAny_mono (F.run _ X.stack _ _ ⟨Value.ref (s.heap.objs.size + 1) :: us, []⟩ (Value.ref (s.heap.objs.size + 1) :: us) _ _ (E σ) (hr.make C us [])
    (I2.env0.make C us []) b r2 hq) fun r s' hq' => ?_))
  cases r with
  | error e => exact hx pins _ _ e s' I2 hq'
  | ok fl =>
    cases fl with
    | ret u =>
      obtain ⟨v, H', I3, rv, ev, q3⟩ := I2.after hq'
      subst ev
      exact ⟨rv, ⟨V.ref (s.heap.objs.size + 1), H', I3, rfl, q3⟩⟩
    | next => exact False.elim hq'
    | brk => exact False.elim hq'
    | cont => exact False.elim hq'
theorem pe_makeG (M : Mk X.K C f) (F : FnOk X.prog X.w X.K X.mg X.base CX k f fd ps sp) (hr : Room (k + 1) X.A) (hg : Gl X x) (hm : X.mg x = some (.ref C)) (hb : Binds X.K fd ps []) (hx : ∀ σ, PassesAt CX X σ (E σ))
    (ha : PA X es t) (h0 : es = [] → ∀ σ H Q, t σ H Q → tNil σ H Q) (hdb : (x == ("__debug__" : Str)) = false) (hs : es.all (fun e => !isStar e) = true) : PE X (.Call (.Name x p) es [] pos) (tMakeG C sp E t) := by
  refine ⟨fun pins s σ H Q I h => ?_⟩
  refine wpAny_Call_Name_kw (ld_glob I hg hm ?_ hdb)
  exact callW (first := []) I M.kp ha h0 hs h fun us vs H1 s1 I1 r q => run_makeG M F hr hb (hx σ) I1 r q
end
end Ev

/-! min(xs, default=d) of a list of ints. -/
namespace Ev
open PySem PySem.Spec PyProof.Rows L2
theorem F_args_minD (a d : Value) : argsOk "min" ⟨[a], [(Str.ofString "default", d)]⟩ := by unfold argsOk; kernel_rfl
section
variable {prog : Program} {w : World} {A : Around} {R : Result → Shared → Prop} {I : Addr} {fp wr : List Addr} {n : Nat} {P : Nat → Value → Prop} {St : Nat → Heap → Prop} {d : Value}
theorem hname_min : (toString "min" ++ toString ".loop" : String) = "min.loop" := by decide
theorem minD_loop (W : Walks prog w A.in1 I fp wr n P St) (bt : Nat → Nat → Bool) (hcmp : CmpOf prog w A.in1 .Lt P bt) (S : Addr) (hSf : S ∉ fp) :
    ∀ (k j : Nat) (s : Shared) (vb : Value) (c : Nat), n - (j + 1) = k → j + 1 ≤ n → St (j + 1) s.heap → P (argBest bt j) vb →
    s.heap.get? S = some { cls := .type "list", dict := none, data := .seq #[vb, vb] c, slots := #[] } →
    (∀ v h' tk, P (argBest bt (n - 1)) v → (∀ b o, b ∉ wr → b ≠ S → s.heap.get? b = some o → h'.get? b = some o) → R (.ok (.ret v)) { s with heap := h', toks := tk }) →
    codeAny (model prog w) A (.builtin "min.loop" ⟨[.ref I, .none, .ref S], [(Str.ofString "default", d)]⟩) R s := by
  have hSw : S ∉ wr := fun h => hSf (W.sub _ h)
  intro k
  induction k with
  | zero =>
    intro j s vb c hk hj hst hPb hS hR
    have hin : j + 1 = n := by omega
    refine codeAny_builtin F.entry_min_loop ?_
    rw [Around.under_plainId F.plain_min_loop _]
    show wpAny _ A.in1 (seqItems? (.ref S) >>= _) _ _ s
    refine wpAny_bind (wpAny_seqItems hS rfl ?_)
    show wpAny _ A.in1 (tryCatch (pyNext (.ref I)) _ >>= _) _ _ s
    refine wpAny_bind (wpAny_tryCatch (W.done s _ _ (hin ▸ hst) fun h' tk hk' => ?_))
    have hS' := hk' S _ hSw hS
    show wpAny _ A.in1 (updateSeq S (fun _ => #[]) >>= _) _ _ _
    refine wpAny_bind ?_
    refine wpAny_updateSeq hS' rfl (wpAny_bind (wpAny_letGo (wpAny_pure ?_)))
    exact hR vb _ tk (by rw [← hin]; exact hPb) fun b o hbw hbS e => (Heap.get?_update_other _ _ (Ne.symm hbS)).trans (hk' b o hbw e)
  | succ k ih =>
    intro j s vb c hk hj hst hPb hS hR
    have hlt : j + 1 < n := by omega
    refine codeAny_builtin F.entry_min_loop ?_
    rw [Around.under_plainId F.plain_min_loop _]
    show wpAny _ A.in1 (seqItems? (.ref S) >>= _) _ _ s
    refine wpAny_bind (wpAny_seqItems hS rfl ?_)
    show wpAny _ A.in1 (tryCatch (pyNext (.ref I)) _ >>= _) _ _ s
    refine wpAny_bind (wpAny_tryCatch (W.item (j + 1) s _ _ hlt hst fun v h' tk hP hst' hk' => ?_))
    have hS' := hk' S _ hSw hS
    show wpAny _ A.in1 (tryCatch (holding [v, v] (richCompare .Lt v vb >>= _)) _ >>= _) _ _ _
    refine wpAny_bind (wpAny_tryCatch (wpAny_holding (wpAny_bind (hcmp (j + 1) (argBest bt j) v vb _ _ _ hP hPb ?_))))
    refine wpAny_bind (wpAny_holding (wpAny_truthy_bool ?_))
    refine wpAny_bind (wpAny_letGo (wpAny_pure ?_))
    cases hb : bt (j + 1) (argBest bt j) with
    | true =>
      simp only [if_true]
      refine wpAny_bind ?_
      refine wpAny_updateSeq hS' rfl (wpAny_bind (wpAny_letGo ?_))
      rw [hname_min]
      refine wpAny_pure ⟨plainId_quiet F.plain_min_loop _, ih (j + 1) _ v _ (by omega) hlt (W.frame _ _ _ hst' fun b hbf o e => ?_) (by simp only [argBest, hb, if_true]; exact hP) (Heap.get?_update_self _ hS' rfl)
        fun v' h'' tk'' hP' hk'' => ?_⟩
      · exact (Heap.get?_update_other _ _ (fun h : S = b => hSf (by rw [h]; exact hbf))).trans e
      · exact hR v' h'' tk'' hP' fun b o hbw hbS e => hk'' b o hbw hbS ((Heap.get?_update_other _ _ (Ne.symm hbS)).trans (hk' b o hbw e))
    | false =>
      simp only [Bool.false_eq_true, if_false]
      refine wpAny_bind (wpAny_letGo ?_)
      rw [hname_min]
      refine wpAny_pure ⟨plainId_quiet F.plain_min_loop _, ih (j + 1) _ vb c (by omega) hlt hst' (by simp only [argBest, hb, Bool.false_eq_true, if_false]; exact hPb) hS' fun v' h'' tk'' hP' hk'' => ?_⟩
      exact hR v' h'' tk'' hP' fun b o hbw hbS e => hk'' b o hbw hbS (hk' b o hbw e)
theorem minD_first (W : Walks prog w A.in1 I fp wr n P St) (bt : Nat → Nat → Bool) (hcmp : CmpOf prog w A.in1 .Lt P bt) (S : Addr) (hSf : S ∉ fp) {s : Shared} {c : Nat} (hst : St 0 s.heap)
    (hS : s.heap.get? S = some { cls := .type "list", dict := none, data := .seq #[] c, slots := #[] })
    (hR : 0 < n → ∀ v h' tk, P (argBest bt (n - 1)) v → (∀ b o, b ∉ wr → b ≠ S → s.heap.get? b = some o → h'.get? b = some o) → R (.ok (.ret v)) { s with heap := h', toks := tk })
    (h0 : n = 0 → ∀ h' tk, (∀ b o, b ∉ wr → s.heap.get? b = some o → h'.get? b = some o) → R (.ok (.ret d)) { s with heap := h', toks := tk }) :
    codeAny (model prog w) A (.builtin "min.loop" ⟨[.ref I, .none, .ref S], [(Str.ofString "default", d)]⟩) R s := by
  have hSw : S ∉ wr := fun h => hSf (W.sub _ h)
  refine codeAny_builtin F.entry_min_loop ?_
  rw [Around.under_plainId F.plain_min_loop _]
  show wpAny _ A.in1 (seqItems? (.ref S) >>= _) _ _ s
  refine wpAny_bind (wpAny_seqItems hS rfl ?_)
  show wpAny _ A.in1 (tryCatch (pyNext (.ref I)) _ >>= _) _ _ s
  by_cases hn : 0 < n
  · refine wpAny_bind (wpAny_tryCatch (W.item 0 s _ _ hn hst fun v h' tk hP hst' hk' => ?_))
    have hS' := hk' S _ hSw hS
    show wpAny _ A.in1 (updateSeq S (fun _ => #[v, v]) >>= _) _ _ _
    refine wpAny_bind ?_
    refine wpAny_updateSeq hS' rfl ?_
    rw [hname_min]
    refine wpAny_pure ⟨plainId_quiet F.plain_min_loop _, minD_loop W bt hcmp S hSf _ 0 _ v _ rfl hn (W.frame _ _ _ hst' fun b hbf o e => ?_) hP (Heap.get?_update_self _ hS' rfl) fun v' h'' tk'' hP' hk'' => ?_⟩
    · exact (Heap.get?_update_other _ _ (fun h : S = b => hSf (by rw [h]; exact hbf))).trans e
    · exact hR hn v' h'' tk'' hP' fun b o hbw hbS e => hk'' b o hbw hbS ((Heap.get?_update_other _ _ (Ne.symm hbS)).trans (hk' b o hbw e))
  · have hz : n = 0 := by omega
    refine wpAny_bind (wpAny_tryCatch (W.done s _ _ (by rw [hz]; exact hst) fun h' tk hk' => ?_))
    show wpAny _ A.in1 (rule _ >>= _) _ _ _
    exact wpAny_bind (wpAny_rule (wpAny_pure (h0 hz h' tk hk')))
theorem call_minD {E : Value → Shared → Prop} {s : Shared} {l : Addr} {xs : Array (Int × Tok)} {Q : Value → Shared → Prop} (hh : A.handled = none) (hl : s.heap.IsList l (intItems xs))
    (h : 0 < xs.size → ∀ v h' tk, (intItems xs)[argBest (fun i j => decide (numAt xs i < numAt xs j)) (xs.size - 1)]? = some v → (∀ b o, s.heap.get? b = some o → h'.get? b = some o) → Q v { s with heap := h', toks := tk })
    (h0 : xs.size = 0 → ∀ h' tk, (∀ b o, s.heap.get? b = some o → h'.get? b = some o) → Q d { s with heap := h', toks := tk }) :
    wpAny (model prog w) A (call (.builtin "min") [.ref l] [(Str.ofString "default", d)]) Q E s := by
  have ha := F_args_minD (.ref l) d
  have hc : wpAny (model prog w) A.in1 (Builtin.«min» ⟨[.ref l], [(Str.ofString "default", d)]⟩) (fun fin s' => match fin with
      | .done f => (match (Except.ok f : Result) with | .ok (.ret v) => Q v s' | .ok _ => False | .error e => E e s')
      | .again c' => c'.quiet = true ∧ codeAny (model prog w) A c' (fun r s' => match r with | .ok (.ret v) => Q v s' | .ok _ => False | .error e => E e s') s') E s := by
    show wpAny _ A.in1 (Builtin.Builtins.bindParams "min" ["key", "default"] 0 ⟨[], [(Str.ofString "default", d)]⟩ >>= _) _ _ s
    refine wpAny_bind (wpAny_of_eq (show Builtin.Builtins.bindParams "min" ["key", "default"] 0 ⟨[], [(Str.ofString "default", d)]⟩ = pure [none, some d] from rfl) ?_)
    refine wpAny_bind (wpAny_pure ?_)
    refine wpAny_bind (iter_intList hl fun s₂ e st hfp hlI => ?_)
    subst e
    refine wpAny_bind (wpAny_newObj_type ?_)
    have W := Walks.list (prog := prog) (w := w) (A := A.in1) hh s.heap.objs.size l hlI (intItems xs)
    rw [hname_min]
    refine wpAny_pure ⟨plainId_quiet F.plain_min_loop _, minD_first W _ (CmpOf.ints_lt (numAt xs) (fun _ _ => intItems_at)) _ (fun hm => Nat.lt_irrefl _ (hfp _ hm)) (W.frame _ _ _ st fun b _ o e => Heap.get?_push_of_some _ e) (Heap.get?_push_size _ rfl) (fun hn v h' tk hP hk => ?_) fun hn h' tk hk => ?_⟩
    · exact h (by simpa [intItems] using hn) v h' tk (by simpa [intItems] using hP) (old_kept fun b o hbw e => hk b o hbw (Nat.ne_of_lt (Heap.lt_size e)) (Heap.get?_push_of_some _ e))
    · exact h0 (by simpa [intItems] using hn) h' tk (old_kept fun b o hbw e => hk b o hbw (Heap.get?_push_of_some _ e))
  refine wpAny_call (codeAny_call_builtin F.plain_min F.entry_min ?_)
  simp only [checkBuiltinCall, F.kind_min]
  cases hsig : Manifest.signature? "min" with
  | none => exact wpAny_pure hc
  | some sig =>
    simp only [argsOk, hsig] at ha
    have h2 : Bind.checkArgs "min" sig ⟨[.ref l], [(Str.ofString "default", d)]⟩ = pure () := ha
    show wpAny _ A.in1 (Bind.checkArgs "min" sig ⟨[.ref l], [(Str.ofString "default", d)]⟩) _ _ s
    rw [h2]
    exact wpAny_pure hc
end
theorem cr_minD {X : Cx} (hc : X.calm = true) : CallRK X (.builtin "min") [Str.ofString "default"] (fun vs zs H Q => zs = [.non] ∧ rUnC X.K .minD vs H Q) := by
  intro pins s σ H vs zs us ws Q I r rz h
  obtain ⟨rfl, h⟩ := h
  obtain ⟨w1, rfl, e1⟩ := vals1 rz
  obtain rfl : w1 = Value.none := e1
  have key : ∀ (a : Addr) (ns : List Int), vs = [V.ref a] → SqL X.K H a (ns.map V.int) → (ns = [] → Q .non H) → (0 < ns.length → ∀ m, m ∈ ns → (∀ y, y ∈ ns → m ≤ y) → Q (.int m) H) → wpAny (model X.prog X.w) X.A (call (.builtin "min") us [(Str.ofString "default", Value.none)]) (EP X pins σ Q) X.xe s := by
    intro a ns ev hs q0 q1
    subst ev
    obtain rfl := Vals.ref1 r
    obtain ⟨its, rv, hl, _⟩ := I.list hs
    have hi := rv.ints
    obtain ⟨xs, e⟩ := hi.allInts.items
    have hn : numsOf (intItems xs).toList = ns := by rw [← e]; exact hi.numsOf
    rw [nums_intItems] at hn
    subst hn
    have hl' := hl.isList
    rw [e] at hl'
    refine call_minD (I.ok.hd hc) hl' (fun hne v h' tk hv hk => ?_) fun hz h' tk hk => ?_
    · obtain ⟨t, rfl⟩ := intItems_at hv
      obtain ⟨h1, h2⟩ := argBest_lt (numAt xs) (xs.size - 1)
      refine ⟨.int _, H, I.kept hk, ⟨_, rfl⟩, q1 (by simpa using hne) _ ?_ fun a ha => ?_⟩
      · rw [numAt_eq]; exact PySem.getD_mem (by rw [List.length_map, Array.length_toList]; omega)
      · obtain ⟨j, hj, rfl⟩ := mem_getD ha
        rw [List.length_map, Array.length_toList] at hj
        rw [← numAt_eq]; exact h2 j (by omega)
    · exact ⟨.non, H, I.kept hk, rfl, q0 (by simpa using hz)⟩
  rcases h with ⟨a, ev, hs, q⟩ | ⟨a, ns, ev, hs, hne, q⟩
  · exact key a [] ev hs (fun _ => q) fun z => by simp at z
  · exact key a ns ev hs (fun z => by subst z; simp at hne) fun _ => q
theorem pe_minD {X : Cx} {x : Str} {y : Expr} {t : TE} {p p2 pos kp : Pos} {j : Nat} (hc : X.calm = true) (hg : Gl X x) (hm : X.mg x = none) (hx : x = ("min" : Str)) (hy : isStar y = false) (h : PE X y t) (mono : ∀ σ H (Q Q' : VK), (∀ v H1, Q v H1 → Q' v H1) → t σ H Q → t σ H Q') :
    PE X (.Call (.Name x p) [y] [⟨some ("default" : Str), .Constant .none j p2, kp⟩] pos) (tCB (rUnC X.K .minD) (tCons t tNil)) := by
  subst hx
  have pk : PK X [⟨some ("default" : Str), .Constant .none j p2, kp⟩] (tCons (tC .non) tNil) := pk_cons pe_non pk_nil
  refine pe_imp (pe_callBK (cr_minD hc) hg hm (by rfl) (pa_cons h pa_nil (hs := star_of hy)) pk (by decide) (by decide) (by rw [star_of hy]; rfl) (by rw [star_of hy]; rfl) rfl rfl rfl) fun σ H Q q => ?_
  exact mono σ H _ _ (fun v H1 q1 => ⟨rfl, q1⟩) q
end Ev

/-! The text against the annotations. -/
namespace Ev
open PySem PySem.Spec PyProof.Rows L2
def chkK : D → Const → Bool
  | .int i, .int j => i == j
  | .str s, .str x => x == tx s
  | .bl a, .bool b => a == b
  | .non, .none => true
  | _, _ => false
def unName : Uop → Str
  | .len => "len" | .str => "str" | .int => "int" | .tuple => "tuple" | .list => "list"
  | .sorted => "sorted" | .sum => "sum" | .all => "all" | .any => "any" | .abs => "abs" | _ => ""
def isSetE : Expr → Bool | .Set _ _ _ => true | _ => false
def nmB (sc : Scope) (Ns : List Str) (i : Nat) (x : Str) : Bool := (Ns[i]? == some x) && visB sc x && !dbg x && !cld x
def nost (es : List Expr) : Bool := es.all fun e => !isStar e
/-- what may be asked as a test -/
def tsE : E → Bool
  | .and a b => tsE a && tsE b | .or a b => tsE a && tsE b | .un op a => (match op with | .not => tsE a | .neg => false | _ => true) | .ife _ _ _ => false | .frz _ => false | _ => true
section
variable (T : Nt) (Ns : List Str)
mutual
def chkG (sc : Scope) : Tg → Expr → Bool
  | .nm i, e => (match e with | .Name x _ => (Ns[i]? == some x) && locB sc x | _ => false)
  | .tp ts, e => (match e with | .Tuple es _ _ => nost es && chkGs sc ts es | _ => false)
def chkGs (sc : Scope) : List Tg → List Expr → Bool
  | [], es => es.isEmpty
  | t :: ts, es => (match es with | e :: es => chkG sc t e && chkGs sc ts es | [] => false)
end
def ownS (own : List Nat) : List (Str × Nat) := own.map fun i => (match Ns[i]? with | some x => x | none => Str.empty, i)
/-- a call of a built-in by its name -/
def blB (sc : Scope) (nm x : Str) : Bool := x == nm && T.bl.contains x && glB sc x
mutual
def chkE : Scope → E → Expr → Bool
  | sc, .k d, e => (match e with | .Constant c _ _ => chkK d c && isC d | _ => false)
  | sc, .glob n, e => (match e with | .Name x _ => (T.gn n == some x) && glB sc x && !dbg x | _ => false)
  | sc, .var i, e => (match e with | .Name x _ => nmB sc Ns i x | _ => false)
  | sc, .mv i, e => (match e with | .Name x _ => nmB sc Ns i x | _ => false)
  | sc, .fz i, e => (match e with | .Name x _ => nmB sc Ns i x | _ => false)
  | sc, .bor i, e => false
  | sc, .hole, e => false
  | sc, .frz a, e => chkE sc a e
  | sc, .fld o f, e => (match e with | .Attribute a x _ => (T.fld f == x) && Nat.blt f T.nf && attrB a && chkE sc o a | _ => false)
  | sc, .idx o i, e => (match e with | .Subscript a b _ => plIx b && chkE sc o a && chkE sc i b | _ => false)
  | sc, .slc o lo hi, e => (match e with
      | .Subscript a (.Slice l h none _) _ => chkE sc o a && (match l with | none => isHole lo | some l => !isHole lo && chkE sc lo l) && (match h with | none => isHole hi | some h => !isHole hi && chkE sc hi h)
      | _ => false)
  | sc, .bin op a b, e => (match e with
      | .BinOp x o y _ => (bopOp op == some o) && chkE sc a x && chkE sc b y
      | .Compare x [c] [y] _ => (bopCmp op == some c) && !behindInMarks c y && chkE sc a x && chkE sc b y
      | .Call (.Attribute x m apos) [y] [] pos => (op == .join) && (m == ("join" : Str)) && !isStar y && attrB x && (apos.endLine == pos.line) && (match a with | .k (.str s) => (match x with | .Constant (.str z) _ _ => z == tx s | _ => false) | _ => false) && chkE sc b y
      | _ => false)
  | sc, .chn p q a b c, e => (match e with
      | .Compare x [c1, c2] [y, z] _ => (bopCmp p == some c1) && (bopCmp q == some c2) && !lastMarks [c1, c2] [y, z] && chkE sc a x && chkE sc b y && chkE sc c z
      | _ => false)
  | sc, .un op a, e => (match e with
      | .UnaryOp .USub x _ => (op == .neg) && chkE sc a x
      | .UnaryOp .Not x _ => (op == .not) && chkE sc a x
      | .Compare x [.Is] [.Constant .none _ _] _ => (op == .isN) && chkE sc a x
      | .Compare x [.IsNot] [.Constant .none _ _] _ => (op == .notN) && chkE sc a x
      | .Call (.Name x _) [y] [⟨some kn, .Constant .none _ _, _⟩] _ => (op == .minD) && (kn == ("default" : Str)) && !isStar y && blB T sc "min" x && chkE sc a y
      | .Call (.Name x _) [y] kws _ => kws.isEmpty && (unVal op).isSome && !isStar y && blB T sc (unName op) x && chkE sc a y
      | _ => false)
  | sc, .and a b, e => (match e with | .BoolOp .And (x :: y :: rest) pos => chkE sc a x && (match rest with | [] => chkE sc b y | _ => chkE sc b (.BoolOp .And (y :: rest) pos)) | _ => false)
  | sc, .or a b, e => (match e with | .BoolOp .Or (x :: y :: rest) pos => chkE sc a x && (match rest with | [] => chkE sc b y | _ => chkE sc b (.BoolOp .Or (y :: rest) pos)) | _ => false)
  | sc, .ife c a b, e => (match e with | .IfExp t x y _ => tsE c && chkE sc c t && chkE sc a x && chkE sc b y | _ => false)
  | sc, .tup es, e => (match e with | .Tuple xs _ _ => nost xs && chkEs sc es xs | _ => false)
  | sc, .lst es, e => (match e with | .List xs _ => nost xs && chkEs sc es xs | _ => false)
  | sc, .fst es, e => (match e with | .JoinedStr (a :: b :: xs) _ => chkF sc es (a :: b :: xs) | _ => false)
  | sc, .lc tg it c elt own, e => (match e with
      | .ListComp x [⟨t, iter, ifs, as⟩] scope _ => (as == 0) && !isSetE iter && blkC Ns sc scope (ownS Ns own) && (tgs tg).all own.contains && chkG Ns scope tg t && chkI sc it iter &&
          (match ifs with | [] => isHole c | [c1] => !isHole c && tsE c && chkE scope c c1 | _ => false) && chkE scope elt x
      | _ => false)
  | sc, .call f as, e => (match e with | .Call (.Name x _) es kws _ => kws.isEmpty && (T.fn f == some x) && glB sc x && !dbg x && nost es && chkAs sc as es | _ => false)
  | sc, .mcall c f o as, e => (match e with
      | .Call (.Attribute x m apos) es kws pos => kws.isEmpty && (T.mt c f == some m) && attrB x && Nat.blt es.length 30 && (apos.endLine == pos.line) && nost es && (match o with | .bor i => (match x with | .Name y _ => nmB sc Ns i y | _ => false) | _ => chkE sc o x) && chkAs sc as es
      | _ => false)
  | sc, .make c as, e => (match e with | .Call (.Name x _) es kws _ => kws.isEmpty && (T.cn c == some x) && glB sc x && !dbg x && nost es && chkAs sc as es | _ => false)
  | sc, .isi a n, e => (match e with
      | .Call (.Name x _) [y, .Name ty _] kws _ => kws.isEmpty && !isStar y && blB T sc "isinstance" x && Nat.blt n 5 && (ty == (tyName n : Str)) && T.bl.contains ty && glB sc ty && chkE sc a y
      | _ => false)
def chkEs : Scope → Es → List Expr → Bool
  | sc, .nil, xs => xs.isEmpty
  | sc, .cons e es, xs => (match xs with | x :: xs => !isBor e && chkE sc e x && chkEs sc es xs | [] => false)
/-- arguments: some lent -/
def chkAs : Scope → Es → List Expr → Bool
  | sc, .nil, xs => xs.isEmpty
  | sc, .cons e es, xs => (match xs with | x :: xs => (match e with | .bor i => (match x with | .Name y _ => nmB sc Ns i y | _ => false) | _ => chkE sc e x) && chkAs sc es xs | [] => false)
/-- a formatted text's parts -/
def chkF : Scope → Es → List Expr → Bool
  | sc, .nil, xs => xs.isEmpty
  | sc, .cons e es, xs => (match xs with | x :: xs => (match x with | .FormattedValue v c none _ => (c == -1) && chkE sc e v | _ => (match e with | .k (.str s) => (match x with | .Constant (.str z) _ _ => z == tx s | _ => false) | _ => false)) && chkF sc es xs | [] => false)
def chkI : Scope → It → Expr → Bool
  | sc, .seq a, e => chkE sc a e
  | sc, .str a, e => chkE sc a e
  | sc, .rng a, e => (match e with | .Call (.Name x _) [y] kws _ => kws.isEmpty && !isStar y && blB T sc "range" x && chkE sc a y | _ => false)
  | sc, .rng2 a b, e => (match e with | .Call (.Name x _) [y, z] kws _ => kws.isEmpty && !isStar y && !isStar z && blB T sc "range" x && chkE sc a y && chkE sc b z | _ => false)
end
end
end Ev

/-! From the text to the readings: expressions. -/
namespace Ev
open PySem PySem.Spec PyProof.Rows L2
/-- the scope that runs, against the scope as written: a block's free names may be its def's cells -/
structure ScOk (e sc : Scope) : Prop where
  gl : ∀ x, sc.names.lookup x = some .globalImplicit → e.names.lookup x = some .globalImplicit
  lo : ∀ x, sc.names.lookup x = some .local → e.names.lookup x = some .local
  ce : ∀ x, sc.names.lookup x = some .cell → e.names.lookup x = some .cell
  fr : ∀ x, sc.names.lookup x = some .free → e.names.lookup x = some .cell ∨ e.names.lookup x = some .free
theorem ScOk.refl {sc : Scope} : ScOk sc sc := ⟨fun _ h => h, fun _ h => h, fun _ h => h, fun _ h => .inr h⟩
theorem lookup_relabel_free {env : PySem.Env} : ∀ {names : List (Str × NameKind)} {x : Str}, names.lookup x = some .free →
    (names.map fun (n, k) => if (k == NameKind.free && env.scope.kind == .function && env.kindOf n == some .cell) then (n, NameKind.cell) else (n, k)).lookup x = some .cell ∨
    (names.map fun (n, k) => if (k == NameKind.free && env.scope.kind == .function && env.kindOf n == some .cell) then (n, NameKind.cell) else (n, k)).lookup x = some .free
  | [], _, h => by simp at h
  | (n, k) :: r, x, h => by
    have ih := @lookup_relabel_free env r x
    rw [List.map_cons]
    cases hx : x == n with
    | true =>
      simp only [List.lookup_cons, hx] at h
      cases h
      by_cases hc : (NameKind.free == NameKind.free && env.scope.kind == .function && env.kindOf n == some .cell) = true
      · simp only [hc, if_true]
        exact .inl (by simp only [List.lookup_cons, hx])
      · simp only [Bool.eq_false_iff.mpr hc]
        exact .inr (by simp only [Bool.false_eq_true, if_false, List.lookup_cons, hx])
    | false =>
      simp only [List.lookup_cons, hx] at h
      by_cases hc : (k == NameKind.free && env.scope.kind == .function && env.kindOf n == some .cell) = true
      · simp only [hc, if_true, List.lookup_cons, hx]; exact ih h
      · simp only [Bool.eq_false_iff.mpr hc, Bool.false_eq_true, if_false, List.lookup_cons, hx]; exact ih h
theorem lookup_relabel_keep {env : PySem.Env} {k0 : NameKind} (h0 : (k0 == NameKind.free) = false) : ∀ {names : List (Str × NameKind)} {x : Str}, names.lookup x = some k0 →
    (names.map fun (n, k) => if (k == NameKind.free && env.scope.kind == .function && env.kindOf n == some .cell) then (n, NameKind.cell) else (n, k)).lookup x = some k0
  | [], _, h => by simp at h
  | (n, k) :: r, x, h => by
    have ih := @lookup_relabel_keep env k0 h0 r x
    rw [List.map_cons]
    cases hx : x == n with
    | true =>
      simp only [List.lookup_cons, hx] at h
      cases h
      simp only [h0, Bool.false_and, Bool.false_eq_true, if_false, List.lookup_cons, hx]
    | false =>
      simp only [List.lookup_cons, hx] at h
      by_cases hc : (k == NameKind.free && env.scope.kind == .function && env.kindOf n == some .cell) = true
      · simp only [hc, if_true, List.lookup_cons, hx]; exact ih h
      · simp only [Bool.eq_false_iff.mpr hc, Bool.false_eq_true, if_false, List.lookup_cons, hx]; exact ih h
theorem ScOk.blk {scope : Scope} {cl : List (Str × Addr)} {C : Addr} {env : PySem.Env} : ScOk (compEnvC scope cl C env).scope scope :=
  ⟨fun _ h => lookup_relabel_keep (by rfl) h, fun _ h => lookup_relabel_keep (by rfl) h, fun _ h => lookup_relabel_keep (by rfl) h, fun _ h => lookup_relabel_free h⟩
theorem ScOk.vis {e sc : Scope} (h : ScOk e sc) {x : Str} (v : Vis sc x) : Vis e x := by
  rcases v with v | v | v
  · exact .inl (h.lo x v)
  · exact .inr (.inl (h.ce x v))
  · exact .inr (h.fr x v)
theorem ScOk.blkOk {e sc scope : Scope} {N : List Str} {own : List (Str × Nat)} (h : ScOk e sc) (b : BlkOk N sc scope own) : BlkOk N e scope own :=
  ⟨b.kind, b.uniq, b.ix, fun y hy z => (b.free y hy z).elim (fun q => .inl (h.ce _ q)) fun q => h.fr _ q, b.own⟩
/-- THE PROMISE of an exception's __init__(self, place): the place is kept -/
def spI (C : Addr) : Sp := fun vs H Q _ => ∃ a v, vs = [.ref a, v] ∧ H a = some (exo a C none) ∧ ∀ d fs, H d = none → d ≠ a → fs.lookup ("place" : Str) = some v → Q .non (upd (upd H a (exo a C (some d))) d (exd d fs))
/-- what is known of a place in the program -/
structure CtxOk (T : Nt) (N : Nm) (W : WX) (g : G) (sc : Scope) (Ns : List Str) (X : Cx) : Prop where
  hsc : ScOk X.env.scope sc
  hN : X.N = Ns
  tk : Takes X W
  calm : X.calm = true
  nd : Ns.Nodup
  hu : X.A.units + 64 < cLine
  fnc : ∀ x, sc.names.lookup x = some .cell → X.fn x = true
  inj : ∀ a b, N.fld a = N.fld b → a = b
  tf : ∀ f, T.fld f = N.fld f
  cls : ∀ c, Cls X.K (N.cls c)
  nat : ∀ c f, f < T.nf → NoAttr X.K (N.cls c) (N.fld f)
  nob : ∀ x ∈ T.bl, X.mg x = none
  glob : ∀ n x, T.gn n = some x → ∃ v u, X.mg x = some u ∧ RelV v u ∧ ∀ H own t, Rep X.K N H own t (g.glob n) v []
  fn : ∀ f x, T.fn f = some x → ∃ k a fd ps, X.mg x = some (.ref a) ∧ PySem.W.keepIn X.K (.ref a) = true ∧ FnOk X.prog X.w X.K X.mg X.base (L2.CX X.prog X.w) k a fd ps (spC X.K N g.call f) ∧ Room k X.A ∧ Binds X.K fd ps []
  mt : ∀ c f m, T.mt c f = some m → ∃ k a fd ps, Meth X.K (N.cls c) m a ∧ FnOk X.prog X.w X.K X.mg X.base (L2.CX X.prog X.w) k a fd ps (spC X.K N g.call f) ∧ Room k X.A ∧ Binds X.K fd ps [] ∧ ∀ j, N.fld j ≠ m
  cn : ∀ c x, T.cn c = some x → ∃ k a fd ps, X.mg x = some (.ref (N.cls c)) ∧ Mk X.K (N.cls c) a ∧ FnOk X.prog X.w X.K X.mg X.base (L2.CX X.prog X.w) k a fd ps (spC X.K N g.call (g.init c)) ∧ Room (k + 1) X.A ∧ Binds X.K fd ps []
  hx : T.hx = true → (∀ c' c, PySem.W.exmOne X.K (.ref (N.xc c')) (.ref (N.xc c)) = some (g.sub c' c)) ∧ ∀ c, XfC X.K (N.xc c) ∧ PySem.W.findIn X.K (.ref (N.xc c)) "place" = some none
  xn : ∀ c x, T.xn c = some x → ∃ k fI fd ps, X.mg x = some (.ref (N.xc c)) ∧ OexC X.K (N.xc c) ∧ PySem.W.findIn X.K (.ref (N.xc c)) "__init__" = some (some (.ref fI)) ∧ PySem.W.typeIn X.K (.ref fI) = some (.type "function") ∧ FnOk X.prog X.w X.K X.mg X.base (L2.CX X.prog X.w) k fI fd ps (spI (N.xc c)) ∧ Room (k + 1) X.A ∧ Binds X.K fd ps []
theorem takesF {X : Cx} : Takes X WF := fun _ _ x => by
  obtain ⟨_, _, _, _, _, _, _, _, _, _, _, _, _, _, _, _, z⟩ := x
  exact z.elim
theorem CtxOk.blk {T : Nt} {N : Nm} {W : WX} {g : G} {sc : Scope} {Ns : List Str} {X : Cx} (C : CtxOk T N W g sc Ns X) (s : Shared) (H : Hp) (scope : Scope) (cl : List (Str × Addr)) (A : Addr) (fp : List Addr) :
    CtxOk T N WF g scope Ns (X.blk s H scope (compEnvC scope cl A X.env) fp) where
  hsc := ScOk.blk
  hN := C.hN
  tk := takesF
  calm := C.calm
  nd := C.nd
  hu := C.hu
  fnc := fun x h => by show (scope.names.lookup x == some .cell) = true; rw [h]; rfl
  inj := C.inj
  tf := C.tf
  cls := C.cls
  nat := C.nat
  nob := C.nob
  glob := C.glob
  fn := C.fn
  mt := C.mt
  cn := C.cn
  hx := C.hx
  xn := C.xn
/-- a test's judgement -/
def PTW (X : Cx) (e : Expr) (t : TT) : Prop := PT X e t ∧ (∀ op vs pos, e = .BoolOp op vs pos → PW X e t)
theorem ptw_of {X : Cx} {e : Expr} {t : TT} (h : PT X e t) (n : ∀ op vs pos, e ≠ .BoolOp op vs pos) : PTW X e t := ⟨h, fun op vs pos z => absurd z (n op vs pos)⟩
section
variable {T : Nt} {N : Nm} {W : WX} {g : G} {sc : Scope} {Ns : List Str} {X : Cx}
theorem CtxOk.gl (C : CtxOk T N W g sc Ns X) {x : Str} (h : glB sc x = true) : Gl X x := by
  unfold glB at h
  split at h
  · exact C.hsc.gl x (by assumption)
  · cases h
theorem CtxOk.name (C : CtxOk T N W g sc Ns X) {i : Nat} {x : Str} {pos : Pos} (h : nmB sc Ns i x = true) : PE X (.Name x pos) (tVar i) := by
  unfold nmB at h
  simp only [Bool.and_eq_true, beq_iff_eq, Bool.not_eq_true'] at h
  obtain ⟨⟨⟨h1, h2⟩, h3⟩, h4⟩ := h
  refine pe_var (by rw [C.hN]; exact h1) ?_ h3 h4
  exact C.hsc.vis (visB_ok h2)
theorem CtxOk.bl1 (C : CtxOk T N W g sc Ns X) {nm x : Str} (h : blB T sc nm x = true) : x = nm ∧ X.mg x = none ∧ Gl X x := by
  unfold blB at h
  simp only [Bool.and_eq_true, beq_iff_eq] at h
  exact ⟨h.1.1, C.nob x (List.contains_iff_mem.mp h.1.2), C.gl h.2⟩
theorem un_boot {op : Uop} {s : Sum String String} (h : unVal op = some s) : bootBuiltins (unName op) = some (unV s) ∧ unName op ≠ ("__name__" : Str) ∧ (unName op == ("__debug__" : Str)) = false := by
  cases op <;> simp only [unVal, Option.some.injEq, reduceCtorEq] at h <;> subst h <;> exact ⟨by rfl, by decide, by decide⟩
theorem pe_callU {op : Uop} {s : Sum String String} {x : Str} {y : Expr} {t : TE} {p pos : Pos} (hc : X.calm = true) (hg : Gl X x) (hm : X.mg x = none) (hs : unVal op = some s) (hx : x = unName op) (hy : isStar y = false) (h : PE X y t) :
    PE X (.Call (.Name x p) [y] [] pos) (tCB (rUnC X.K op) (tCons t tNil)) := by
  subst hx
  obtain ⟨b1, b2, b3⟩ := un_boot hs
  have cr := callr_un (X := X) op hc hs
  cases s with
  | inl s => exact pe_callB cr hg hm b1 (pa_cons h pa_nil (hs := star_of hy)) b2 b3 (star_of hy) rfl
  | inr s => exact pe_callTy cr hg hm b1 (pa_cons h pa_nil (hs := star_of hy)) b2 b3 (star_of hy) rfl
theorem gs_len {es : List Expr} {env : PySem.Env} (h : nost es = true) : (assignEach es env).length = es.length ∧ (assignEach es env).findIdx? (·.1) = none ∧ (assignEach es env).map (·.2) = es.map fun e => assign e env := by
  induction es with
  | nil => exact ⟨rfl, rfl, rfl⟩
  | cons e es ih =>
    simp only [nost, List.all_cons, Bool.and_eq_true, Bool.not_eq_true'] at h
    obtain ⟨a, b, c⟩ := ih h.2
    have z : assignEach (e :: es) env = (false, assign e env) :: assignEach es env := by
      cases e <;> first | rfl | cases h.1
    rw [z]
    refine ⟨by simp [a], ?_, by simp [c]⟩
    rw [List.findIdx?_cons]
    simp [b]
mutual
theorem ok_g (C : CtxOk T N W g sc Ns X) : ∀ (tg : Tg) {ast : Expr}, chkG Ns sc tg ast = true → PG X ast (gT X.K tg)
  | .nm i, ast, h => by
    simp only [chkG] at h
    split at h
    · simp only [Bool.and_eq_true, beq_iff_eq] at h
      have hl := locB_ok h.2
      refine pg_name (by rw [C.hN]; exact C.nd) (by rw [C.hN]; exact h.1) (hl.elim (fun z => .inl (C.hsc.lo _ z)) fun z => .inr (C.hsc.ce _ z)) ?_
      rcases hl with z | z
      · exact .inr (C.hsc.lo _ z)
      · exact .inl (C.fnc _ z)
    · cases h
  | .tp ts, ast, h => by
    simp only [chkG] at h
    split at h
    · rename_i es k p
      simp only [Bool.and_eq_true] at h
      have hl := gs_len (env := X.env) h.1
      exact pg_seq C.calm (ok_gs C ts h.1 h.2).1 (hl.1.trans (ok_gs C ts h.1 h.2).2) hl.2.1
    · cases h
theorem ok_gs (C : CtxOk T N W g sc Ns X) : ∀ (ts : List Tg) {es : List Expr}, nost es = true → chkGs Ns sc ts es = true → PGs X es (gTs X.K ts) ∧ es.length = ts.length
  | [], es, _, h => by
    simp only [chkGs, List.isEmpty_iff] at h
    subst h
    exact ⟨pgs_nil, rfl⟩
  | t :: ts, es, n, h => by
    simp only [chkGs] at h
    split at h
    · rename_i e es
      simp only [Bool.and_eq_true] at h
      have n' : nost es = true := by
        simp only [nost, List.all_cons, Bool.and_eq_true] at n
        exact n.2
      obtain ⟨a, b⟩ := ok_gs C ts n' h.2
      refine ⟨pgs_cons (ok_g C t h.1) a ?_, by rw [List.length_cons, List.length_cons, b]⟩
      rw [(gs_len (env := X.env) n).2.2, (gs_len (env := X.env) n').2.2]
      rfl
    · cases h
end
theorem ok_k {d : D} {c : Const} {k : Nat} {pos : Pos} (h : chkK d c = true) (hc : isC d = true) : PE X (.Constant c k pos) (tC (cV d)) := by
  unfold chkK at h
  split at h
  · rw [beq_iff_eq.mp h]; exact pe_int
  · rw [beq_iff_eq.mp h]; exact pe_str
  · rw [beq_iff_eq.mp h]; exact pe_bl
  · exact pe_non
  · cases h
end
end Ev

/-! From the text to the readings: the theorem of expressions. -/
namespace Ev
open PySem PySem.Spec PyProof.Rows L2
section
variable {T : Nt} {N : Nm} {g : G} {Ns : List Str}
theorem ptw_val {W : WX} {X : Cx} {e : E} {ast : Expr} (h : PE X ast (tE X.K N W g e true)) (p : plTest ast = true) : PTW X ast (tT X.K N W g e) :=
  ptw_of (pt_imp (pt_val h (plTest_ok p)) fun σ H Q q => t_val q) fun op vs pos z => by rw [z] at p; cases p
def Goal (N : Nm) (g : G) (W : WX) (X : Cx) (e : E) (ast : Expr) : Prop := (∀ vw, PE X ast (tE X.K N W g e vw)) ∧ (tsE e = true → PTW X ast (tT X.K N W g e))
theorem goal_val {W : WX} {X : Cx} {e : E} {ast : Expr} (h : ∀ vw, PE X ast (tE X.K N W g e vw)) (p : plTest ast = true) : Goal N g W X e ast := ⟨h, fun _ => ptw_val (h true) p⟩
theorem PTW.whole {X : Cx} {e : Expr} {t : TT} (h : PTW X e t) {op : PySem.BoolOp} {vs : List Expr} {pos : Pos} (z : e = .BoolOp op vs pos) : PW X (.BoolOp op vs pos) t := by subst z; exact h.2 _ _ _ rfl
theorem tE_mono {K : PySem.W.Frag} {W : WX} {e : E} {vw : Bool} {σ : L2.St} {H : Hp} {Q Q' : VK} (h : tE K N W g e vw σ H Q) (i : ∀ v H1, Q v H1 → Q' v H1) : tE K N W g e vw σ H Q' := by
  obtain ⟨own, ρ, t, env, post⟩ := h
  refine ⟨own, ρ, t, env, ?_⟩
  cases h1 : ev g e vw ρ with
  | bad => rw [h1] at post; exact post
  | exn c p => rw [h1] at post; exact post
  | ok r =>
    rw [h1] at post
    exact fun own' H' v F a b c d => i _ _ (post own' H' v F a b c d)
theorem ownS_map {own : List Nat} : (ownS Ns own).map (·.2) = own := by
  unfold ownS
  rw [List.map_map]
  exact List.map_id _
theorem pa_ar {W : WX} {X : Cx} {e : E} {ast : Expr} (hb : isBor e = false) (h : PE X ast (tE X.K N W g e false)) : PE X ast (tAr X.K N W g e) := pe_imp h fun σ H Q q => ar_e hb q
theorem pe_tyN {X : Cx} {n : Nat} {pos : Pos} (hn : n < 5) (hg : Gl X (tyName n : Str)) (hm : X.mg (tyName n : Str) = none) : PE X (.Name (tyName n : Str) pos) (tC (.ty (tyName n))) := by
  have hv : bootBuiltins (tyName n : Str) = some (.type (tyName n)) ∧ (tyName n : Str) ≠ "__name__" ∧ ((tyName n : Str) == ("__debug__" : Str)) = false := by
    rcases n with _ | _ | _ | _ | _ | n <;> first | omega | exact ⟨by rfl, by decide, by decide⟩
  exact ⟨fun pins s σ H Q I h => ld_blt I hg hm hv.1 ⟨.ty (tyName n), H, I, rfl, h⟩ hv.2.1 hv.2.2⟩
theorem r_frz {K : PySem.W.Frag} {W : WX} {e : E} {vw : Bool} {σ : L2.St} {H : Hp} {Q : VK} (h : tE K N W g (.frz e) vw σ H Q) : tE K N W g e false σ H Q := by
  obtain ⟨own, ρ, t, env, post⟩ := h
  simp only [ev] at post
  refine ⟨own, ρ, t, env, ?_⟩
  cases h1 : ev g e false ρ with
  | bad => rw [h1] at post; exact post
  | exn c p => rw [h1] at post; exact post
  | ok r =>
    obtain ⟨d, ρ1⟩ := r
    rw [h1] at post
    dsimp only [R.bind] at post
    intro own1 H1 v F kp env1 rep nd
    have r1 := rep.way h1
    obtain ⟨env2, kf⟩ := frz_way env1
    exact post (reO own1 (.tp t) .fz) H1 v [] (kp_reO kp env.bnd) (env2.up (Nat.le_succ _)) (Rep.frz kf d r1 fun a ha => reO_at (Rep.owned d r1 a ha).1) List.nodup_nil
set_option maxHeartbeats 1600000
mutual
theorem ok_e : ∀ (e : E) {sc : Scope} {W : WX} {X : Cx}, CtxOk T N W g sc Ns X → ∀ {ast : Expr}, chkE T Ns sc e ast = true → Goal N g W X e ast
  | .k d, sc, W, X, C, ast, h => by
    simp only [chkE] at h
    split at h
    · simp only [Bool.and_eq_true] at h
      exact goal_val (fun vw => pe_imp (ok_k h.1 h.2) fun σ H Q q => r_k h.2 q) rfl
    · cases h
  | .glob n, sc, W, X, C, ast, h => by
    simp only [chkE] at h
    split at h
    · simp only [Bool.and_eq_true, beq_iff_eq, Bool.not_eq_true'] at h
      obtain ⟨⟨h1, h2⟩, h3⟩ := h
      obtain ⟨v, u, m, r, hv⟩ := C.glob n _ h1
      exact goal_val (fun vw => pe_imp (pe_glob (C.gl h2) m r h3) fun σ H Q q => r_glob hv q) rfl
    · cases h
  | .var i, sc, W, X, C, ast, h => by
    simp only [chkE] at h
    split at h
    · exact goal_val (fun vw => pe_imp (C.name h) fun σ H Q q => r_var q) rfl
    · cases h
  | .mv i, sc, W, X, C, ast, h => by
    simp only [chkE] at h
    split at h
    · exact goal_val (fun vw => pe_imp (C.name h) fun σ H Q q => r_mv q) rfl
    · cases h
  | .fz i, sc, W, X, C, ast, h => by
    simp only [chkE] at h
    split at h
    · exact goal_val (fun vw => pe_imp (C.name h) fun σ H Q q => r_fz q) rfl
    · cases h
  | .bor i, sc, W, X, C, ast, h => by simp only [chkE] at h; cases h
  | .hole, sc, W, X, C, ast, h => by simp only [chkE] at h; cases h
  | .frz a, sc, W, X, C, ast, h => by
    simp only [chkE] at h
    exact ⟨fun vw => pe_imp ((ok_e a C h).1 false) fun σ H Q q => r_frz q, fun z => by cases z⟩
  | .fld o f, sc, W, X, C, ast, h => by
    simp only [chkE] at h
    split at h
    · simp only [Bool.and_eq_true, beq_iff_eq] at h
      obtain ⟨⟨⟨h1, h2⟩, h3⟩, h4⟩ := h
      have hf : f < T.nf := by simpa [Nat.blt_eq] using h2
      have e := (ok_e o C h4).1 true
      have h1' := (C.tf f).symm.trans h1
      subst h1'
      exact goal_val (fun vw => pe_imp (pe_fld e (attr_base h3)) fun σ H Q q => r_fld C.inj C.cls (fun c => C.nat c f hf) q) rfl
    · cases h
  | .idx o i, sc, W, X, C, ast, h => by
    simp only [chkE] at h
    split at h
    · simp only [Bool.and_eq_true] at h
      obtain ⟨⟨h1, h2⟩, h3⟩ := h
      exact goal_val (fun vw => pe_imp (pe_ix ix_seq ((ok_e o C h2).1 true) ((ok_e i C h3).1 true) (plIx_ok h1)) fun σ H Q q => r_idx q) rfl
    · cases h
  | .slc o lo hi, sc, W, X, C, ast, h => by
    simp only [chkE] at h
    split at h
    · rename_i a l hh p1 p2
      simp only [Bool.and_eq_true] at h
      obtain ⟨⟨h1, h2⟩, h3⟩ := h
      have pl : PO X l (tO X.K N W g lo) := by
        cases l with
        | none =>
          unfold tO
          rw [show isHole lo = true from h2]
          exact po_none
        | some l =>
          simp only [Bool.and_eq_true, Bool.not_eq_true'] at h2
          unfold tO
          rw [h2.1]
          exact po_some ((ok_e lo C h2.2).1 true)
      have ph : PO X hh (tO X.K N W g hi) := by
        cases hh with
        | none =>
          unfold tO
          rw [show isHole hi = true from h3]
          exact po_none
        | some l =>
          simp only [Bool.and_eq_true, Bool.not_eq_true'] at h3
          unfold tO
          rw [h3.1]
          exact po_some ((ok_e hi C h3.2).1 true)
      exact goal_val (fun vw => pe_imp (pe_slice sl_all ((ok_e o C h1).1 true) pl ph) fun σ H Q q => r_slc q) rfl
    · cases h
  | .bin op a b, sc, W, X, C, ast, h => by
    simp only [chkE] at h
    split at h
    · simp only [Bool.and_eq_true, beq_iff_eq] at h
      obtain ⟨⟨h1, h2⟩, h3⟩ := h
      exact goal_val (fun vw => pe_imp (pe_op (opr_bin op h1) ((ok_e a C h2).1 true) ((ok_e b C h3).1 true)) fun σ H Q q => r_bin q) rfl
    · simp only [Bool.and_eq_true, beq_iff_eq, Bool.not_eq_true'] at h
      obtain ⟨⟨⟨h1, h2⟩, h3⟩, h4⟩ := h
      refine ⟨fun vw => pe_imp (pe_cmpR (opr_cmp op C.hu h1) ((ok_e a C h3).1 true) ((ok_e b C h4).1 true) h2) fun σ H Q q => r_bin q, fun _ => ptw_of (pt_imp (pt_cmpR (opr_cmp op C.hu h1) ((ok_e a C h3).1 true) ((ok_e b C h4).1 true) h2) fun σ H Q q => ?_) fun _ _ _ z => by cases z⟩
      exact r_bin (t_val q)
    · simp only [Bool.and_eq_true, beq_iff_eq, Bool.not_eq_true'] at h
      obtain ⟨⟨⟨⟨⟨⟨h1, h2⟩, h3⟩, h4⟩, h5⟩, h6⟩, h7⟩ := h
      subst h1 h2
      split at h6
      · split at h6
        · rename_i s _ z _ _
          rw [beq_iff_eq.mp h6]
          exact goal_val (fun vw => pe_imp (pe_join pe_str ((ok_e b C h7).1 true) (star_of h3) (attr_base rfl) (beq_iff_eq.mpr h5)) fun σ H Q q =>
            ⟨⟨_, rfl⟩, tE_mono (r_k (d := .str s) rfl (r_bin q)) fun v2 H2 ⟨x, p, ys, z1, z2, z3, z4, z5⟩ => ⟨x, p, ys, z1, by rw [z2], z3, z4, z5⟩⟩) rfl
        · cases h6
      · cases h6
    · cases h
  | .chn p q a b c, sc, W, X, C, ast, h => by
    simp only [chkE] at h
    split at h
    · simp only [Bool.and_eq_true, beq_iff_eq, Bool.not_eq_true'] at h
      obtain ⟨⟨⟨⟨⟨h1, h2⟩, h3⟩, h4⟩, h5⟩, h6⟩ := h
      have A := (ok_e a C h4).1 true
      have B := (ok_e b C h5).1 true
      have D := (ok_e c C h6).1 true
      refine ⟨fun vw => pe_imp (pe_chain (opr_cmp p C.hu h1) (opr_cmp q C.hu h2) A B D h3) fun σ H Q q => r_chn q, fun _ => ptw_of (pt_imp (pt_chain (opr_cmp p C.hu h1) (opr_cmp q C.hu h2) A B D h3) fun σ H Q q => ?_) fun _ _ _ z => by cases z⟩
      exact r_chn (t_val q)
    · cases h
  | .un op a, sc, W, X, C, ast, h => by
    simp only [chkE] at h
    split at h
    · simp only [Bool.and_eq_true, beq_iff_eq] at h
      obtain ⟨rfl, h2⟩ := h
      exact ⟨fun vw => pe_imp (pe_un un_neg ((ok_e a C h2).1 true)) fun σ H Q q => r_neg q, fun z => by cases z⟩
    · simp only [Bool.and_eq_true, beq_iff_eq] at h
      obtain ⟨rfl, h2⟩ := h
      have A := ok_e a C h2
      exact ⟨fun vw => pe_imp (pe_not (A.1 true)) fun σ H Q q => r_not q, fun z => ptw_of (pt_imp (pt_not (A.2 z).1) fun σ H Q q => t_not q) fun _ _ _ z => by cases z⟩
    · simp only [Bool.and_eq_true, beq_iff_eq] at h
      obtain ⟨rfl, h2⟩ := h
      have A := (ok_e a C h2).1 true
      exact ⟨fun vw => pe_imp (pe_cmp (pc_isN A) rfl) fun σ H Q q => r_isN q, fun _ => ptw_of (pt_imp (pt_cmp (pc_isN A) rfl) fun σ H Q q => r_isN (t_val q)) fun _ _ _ z => by cases z⟩
    · simp only [Bool.and_eq_true, beq_iff_eq] at h
      obtain ⟨rfl, h2⟩ := h
      have A := (ok_e a C h2).1 true
      exact ⟨fun vw => pe_imp (pe_cmp (pc_notN A) rfl) fun σ H Q q => r_notN q, fun _ => ptw_of (pt_imp (pt_cmp (pc_notN A) rfl) fun σ H Q q => r_notN (t_val q)) fun _ _ _ z => by cases z⟩
    · simp only [Bool.and_eq_true, Bool.not_eq_true', beq_iff_eq] at h
      obtain ⟨⟨⟨⟨rfl, rfl⟩, h2⟩, h3⟩, h4⟩ := h
      obtain ⟨e1, e2, e3⟩ := C.bl1 h3
      exact goal_val (fun vw => pe_imp (pe_minD C.calm e3 e2 e1 h2 ((ok_e a C h4).1 true) fun σ H Q Q' i q => tE_mono q i) fun σ H Q q => r_minD q) rfl
    · simp only [Bool.and_eq_true, Bool.not_eq_true', List.isEmpty_iff] at h
      obtain ⟨⟨⟨⟨rfl, h1⟩, h2⟩, h3⟩, h4⟩ := h
      obtain ⟨s, hs⟩ := Option.isSome_iff_exists.mp h1
      obtain ⟨e1, e2, e3⟩ := C.bl1 h3
      exact goal_val (fun vw => pe_imp (pe_callU C.calm e3 e2 hs e1 h2 ((ok_e a C h4).1 true)) fun σ H Q q => r_call1 hs q) rfl
    · cases h
  | .and a b, sc, W, X, C, ast, h => by
    simp only [chkE] at h
    split at h
    · rename_i x y rest pos
      simp only [Bool.and_eq_true] at h
      have A := ok_e a C h.1
      have B : (∀ vw, PE X (.BoolOp .And (y :: rest) pos) (tE X.K N W g b vw)) ∧ (tsE b = true → PW X (.BoolOp .And (y :: rest) pos) (tT X.K N W g b)) := by
        have h2 := h.2
        split at h2
        · have B := ok_e b C h2
          exact ⟨fun vw => pe_one (B.1 vw), fun z => pw_and1 (B.2 z).1⟩
        · have B := ok_e b C h2
          exact ⟨B.1, fun z => (B.2 z).whole rfl⟩
      refine ⟨fun vw => pe_imp (pe_and (A.1 true) (B.1 true)) fun σ H Q q => r_and q, fun z => ?_⟩
      simp only [tsE, Bool.and_eq_true] at z
      have P := pw_imp (pw_and (pos := pos) (A.2 z.1).1 (B.2 z.2)) fun σ H Q q => t_and q
      exact ⟨P.pt, fun _ _ _ e => by cases e; exact P⟩
    · cases h
  | .or a b, sc, W, X, C, ast, h => by
    simp only [chkE] at h
    split at h
    · rename_i x y rest pos
      simp only [Bool.and_eq_true] at h
      have A := ok_e a C h.1
      have B : (∀ vw, PE X (.BoolOp .Or (y :: rest) pos) (tE X.K N W g b vw)) ∧ (tsE b = true → PW X (.BoolOp .Or (y :: rest) pos) (tT X.K N W g b)) := by
        have h2 := h.2
        split at h2
        · have B := ok_e b C h2
          exact ⟨fun vw => pe_one (B.1 vw), fun z => pw_or1 (B.2 z).1⟩
        · have B := ok_e b C h2
          exact ⟨B.1, fun z => (B.2 z).whole rfl⟩
      refine ⟨fun vw => pe_imp (pe_or (A.1 true) (B.1 true)) fun σ H Q q => r_or q, fun z => ?_⟩
      simp only [tsE, Bool.and_eq_true] at z
      have P := pw_imp (pw_or (pos := pos) (A.2 z.1).1 (B.2 z.2)) fun σ H Q q => t_or q
      exact ⟨P.pt, fun _ _ _ e => by cases e; exact P⟩
    · cases h
  | .ife c a b, sc, W, X, C, ast, h => by
    simp only [chkE] at h
    split at h
    · simp only [Bool.and_eq_true] at h
      obtain ⟨⟨⟨h1, h2⟩, h3⟩, h4⟩ := h
      exact ⟨fun vw => pe_imp (pe_ifExp ((ok_e c C h2).2 h1).1 ((ok_e a C h3).1 false) ((ok_e b C h4).1 false)) fun σ H Q q => r_ife q, fun z => by cases z⟩
    · cases h
  | .tup es, sc, W, X, C, ast, h => by
    simp only [chkE] at h
    split at h
    · simp only [Bool.and_eq_true] at h
      exact goal_val (fun vw => pe_imp (pe_tup (ok_es es C h.1 h.2)) fun σ H Q q => r_tup q) rfl
    · cases h
  | .lst es, sc, W, X, C, ast, h => by
    simp only [chkE] at h
    split at h
    · simp only [Bool.and_eq_true] at h
      exact goal_val (fun vw => pe_imp (pe_lst (ok_es es C h.1 h.2)) fun σ H Q q => r_lst q) rfl
    · cases h
  | .fst es, sc, W, X, C, ast, h => by
    simp only [chkE] at h
    split at h
    · exact goal_val (fun vw => pe_imp (pe_joined (ok_f es C h)) fun σ H Q q => r_fst q) rfl
    · cases h
  | .lc tg it c elt own, sc, W, X, C, ast, h => by
    simp only [chkE] at h
    split at h
    · rename_i x t iter ifs as scope pos
      simp only [Bool.and_eq_true, beq_iff_eq, Bool.not_eq_true'] at h
      obtain ⟨⟨⟨⟨⟨⟨⟨rfl, h1⟩, h2⟩, h3⟩, h4⟩, h5⟩, h6⟩, h7⟩ := h
      have hs : ∀ k ∈ tgs tg, k ∈ own := fun k hk => List.contains_iff_mem.mp (List.all_eq_true.mp h3 k hk)
      have hw : ∀ y, foldedSetIterable iter X.env y = pure y := by
        intro y
        cases iter <;> first | rfl | cases h1
      refine goal_val (fun vw => pe_imp (pe_lc C.calm (by rw [C.hN]; exact C.nd) (ok_i it C h5) (by rw [C.hN]; exact C.hsc.blkOk (blkOk_by h2)) (fun s H A cl fp => ok_g (C.blk s H scope cl A fp) tg h4) (tt := tCo X.K N g c) (g := gT X.K tg) (te := tE X.K N WF g elt false) (fun s H A cl fp => ?_) (fun s H A cl fp => (ok_e elt (C.blk s H scope cl A fp) h7).1 false) hw) fun σ H Q q => ?_) rfl
      · unfold tCo
        split at h6
        · rw [show isHole c = true from h6]
          exact pts_nil
        · simp only [Bool.and_eq_true, Bool.not_eq_true'] at h6
          rw [h6.1.1]
          exact pts_one ((ok_e c (C.blk s H scope cl A fp) h6.2).2 h6.1.2).1
        · cases h6
      · rw [ownS_map]
        exact r_lc hs q
    · cases h
  | .call f as, sc, W, X, C, ast, h => by
    simp only [chkE] at h
    split at h
    · simp only [Bool.and_eq_true, beq_iff_eq, Bool.not_eq_true', List.isEmpty_iff] at h
      obtain ⟨⟨⟨⟨⟨rfl, h1⟩, h2⟩, h3⟩, h4⟩, h5⟩ := h
      obtain ⟨k, a, fd, ps, z1, z2, z3, z4, z5⟩ := C.fn f _ h1
      obtain ⟨p1, p2⟩ := ok_as as C h4 h5
      exact goal_val (fun vw => pe_imp (pe_callG z3 z4 (C.gl h2) z1 z2 z5 (fun σ => passAt C.tk σ) p1 p2 h3 h4) fun σ H Q q => r_call q) rfl
    · cases h
  | .mcall c f o as, sc, W, X, C, ast, h => by
    simp only [chkE] at h
    split at h
    · rename_i xo m apos es kws pos
      simp only [Bool.and_eq_true, beq_iff_eq, Bool.not_eq_true', List.isEmpty_iff] at h
      obtain ⟨⟨⟨⟨⟨⟨⟨rfl, h1⟩, h2⟩, h3⟩, h4⟩, h5⟩, h6⟩, h7⟩ := h
      obtain ⟨k, a, fd, ps, z1, z3, z4, z5, z6⟩ := C.mt c f _ h1
      obtain ⟨p1, p2⟩ := ok_as as C h5 h7
      refine goal_val (fun vw => pe_imp (pe_methG (ta := tAr X.K N W g o) ?_ (C.cls c) z1 z3 z4 z5 (fun σ => passAt C.tk σ) p1 p2 h2 h5 (by simpa [Nat.blt_eq] using h3) (beq_iff_eq.mpr h4)) fun σ H Q q => r_mcall z6 q) rfl
      by_cases hb : isBor o = true
      · cases o <;> first | cases hb; done | skip
        rename_i i
        dsimp only at h6
        split at h6
        · exact pe_imp (C.name h6) fun σ H Q q => ar_bor q
        · cases h6
      · have h6' : chkE T Ns sc o xo = true := by
          cases o <;> first | exact h6 | exact absurd rfl hb
        exact pa_ar (Bool.eq_false_iff.mpr hb) ((ok_e o C h6').1 false)
    · cases h
  | .make c as, sc, W, X, C, ast, h => by
    simp only [chkE] at h
    split at h
    · simp only [Bool.and_eq_true, beq_iff_eq, Bool.not_eq_true', List.isEmpty_iff] at h
      obtain ⟨⟨⟨⟨⟨rfl, h1⟩, h2⟩, h3⟩, h4⟩, h5⟩ := h
      obtain ⟨k, a, fd, ps, z1, z2, z3, z4, z5⟩ := C.cn c _ h1
      obtain ⟨p1, p2⟩ := ok_as as C h4 h5
      exact goal_val (fun vw => pe_imp (pe_makeG z2 z3 z4 (C.gl h2) z1 z5 (fun σ => passAt C.tk σ) p1 p2 h3 h4) fun σ H Q q => r_make q) rfl
    · cases h
  | .isi a n, sc, W, X, C, ast, h => by
    simp only [chkE] at h
    split at h
    · simp only [Bool.and_eq_true, beq_iff_eq, Bool.not_eq_true', List.isEmpty_iff] at h
      obtain ⟨⟨⟨⟨⟨⟨⟨rfl, h1⟩, h2⟩, h3⟩, h4⟩, h5⟩, h6⟩, h7⟩ := h
      obtain ⟨rfl, e2, e3⟩ := C.bl1 h2
      have hn : n < 5 := by simpa [Nat.blt_eq] using h3
      have A := (ok_e a C h7).1 true
      subst h4
      have ty : ∀ pos, PE X (.Name (tyName n : Str) pos) (tC (.ty (tyName n))) := fun pos => pe_tyN hn (C.gl h6) (C.nob _ (List.contains_iff_mem.mp h5))
      refine goal_val (fun vw => pe_imp (pe_callB call_isi e3 e2 (by rfl) (pa_cons A (pa_cons (ty _) pa_nil (hs := rfl)) (hs := star_of h1)) (by decide) (by decide) (star_of h1) (by rfl)) fun σ H Q q => r_isi hn q) rfl
    · cases h
theorem ok_es : ∀ (es : Es) {sc : Scope} {W : WX} {X : Cx}, CtxOk T N W g sc Ns X → ∀ {xs : List Expr}, nost xs = true → chkEs T Ns sc es xs = true → PA X xs (tA X.K N W g es)
  | .nil, sc, W, X, C, xs, n, h => by
    simp only [chkEs, List.isEmpty_iff] at h
    subst h
    exact pa_imp pa_nil fun σ H Q q => a_nil q
  | .cons e es, sc, W, X, C, xs, n, h => by
    simp only [chkEs] at h
    split at h
    · simp only [Bool.and_eq_true, Bool.not_eq_true'] at h
      simp only [nost, List.all_cons, Bool.and_eq_true, Bool.not_eq_true'] at n
      exact pa_imp (pa_cons (pa_ar h.1.1 ((ok_e e C h.1.2).1 false)) (ok_es es C n.2 h.2) (hs := star_of n.1)) fun σ H Q q => a_cons q
    · cases h
theorem ok_as : ∀ (es : Es) {sc : Scope} {W : WX} {X : Cx}, CtxOk T N W g sc Ns X → ∀ {xs : List Expr}, nost xs = true → chkAs T Ns sc es xs = true → PA X xs (tA X.K N W g es) ∧ (xs = [] → ∀ σ H Q, tA X.K N W g es σ H Q → tNil σ H Q)
  | .nil, sc, W, X, C, xs, n, h => by
    simp only [chkAs, List.isEmpty_iff] at h
    subst h
    exact ⟨pa_imp pa_nil fun σ H Q q => a_nil q, fun _ σ H Q q => a_nil q⟩
  | .cons e es, sc, W, X, C, xs, n, h => by
    simp only [chkAs] at h
    split at h
    · rename_i x xs
      simp only [Bool.and_eq_true] at h
      simp only [nost, List.all_cons, Bool.and_eq_true, Bool.not_eq_true'] at n
      refine ⟨pa_imp (pa_cons (te := tAr X.K N W g e) ?_ (ok_as es C n.2 h.2).1 (hs := star_of n.1)) fun σ H Q q => a_cons q, fun z => by cases z⟩
      have h6 := h.1
      by_cases hb : isBor e = true
      · cases e <;> first | cases hb; done | skip
        rename_i i
        dsimp only at h6
        split at h6
        · exact pe_imp (C.name h6) fun σ H Q q => ar_bor q
        · cases h6
      · have h6' : chkE T Ns sc e x = true := by
          cases e <;> first | exact h6 | exact absurd rfl hb
        exact pa_ar (Bool.eq_false_iff.mpr hb) ((ok_e e C h6').1 false)
    · cases h
theorem ok_f : ∀ (es : Es) {sc : Scope} {W : WX} {X : Cx}, CtxOk T N W g sc Ns X → ∀ {xs : List Expr}, chkF T Ns sc es xs = true → PJ X xs (parts X.K N W g es)
  | .nil, sc, W, X, C, xs, h => by
    simp only [chkF, List.isEmpty_iff] at h
    subst h
    exact .nil
  | .cons e es, sc, W, X, C, xs, h => by
    simp only [chkF] at h
    split at h
    · rename_i x xs
      simp only [Bool.and_eq_true] at h
      refine .cons ?_ (ok_f es C h.2)
      have h6 := h.1
      split at h6
      · simp only [Bool.and_eq_true, beq_iff_eq] at h6
        obtain ⟨rfl, h6⟩ := h6
        exact pe_fmt ((ok_e e C h6).1 false)
      · split at h6
        · rename_i s
          split at h6
          · rw [beq_iff_eq.mp h6]
            refine pe_imp pe_str fun σ H Q q => ?_
            rcases r_k (d := .str s) rfl q with ⟨y, e1, e2, e3⟩ | ⟨i, e1, _⟩
            · cases e1
              exact e3
            · cases e1
          · cases h6
        · cases h6
    · cases h
theorem ok_i : ∀ (it : It) {sc : Scope} {W : WX} {X : Cx}, CtxOk T N W g sc Ns X → ∀ {tg ast : Expr}, chkI T Ns sc it ast = true → PI X tg ast (tI X.K N W g it)
  | .seq a, sc, W, X, C, tg, ast, h => by
    simp only [chkI] at h
    exact pi_imp (pi_seq ((ok_e a C h).1 true)) fun σ H Q q => i_seq q
  | .str a, sc, W, X, C, tg, ast, h => by
    simp only [chkI] at h
    exact pi_imp (pi_str ((ok_e a C h).1 true)) fun σ H Q q => i_str q
  | .rng a, sc, W, X, C, tg, ast, h => by
    simp only [chkI] at h
    split at h
    · simp only [Bool.and_eq_true, Bool.not_eq_true', List.isEmpty_iff] at h
      obtain ⟨⟨⟨rfl, h1⟩, h2⟩, h3⟩ := h
      obtain ⟨rfl, e2, e3⟩ := C.bl1 h2
      exact pi_imp (pi_range1 e3 e2 (pa_cons ((ok_e a C h3).1 true) pa_nil (hs := star_of h1)) (star_of h1)) fun σ H Q q => i_rng q
    · cases h
  | .rng2 a b, sc, W, X, C, tg, ast, h => by
    simp only [chkI] at h
    split at h
    · simp only [Bool.and_eq_true, Bool.not_eq_true', List.isEmpty_iff] at h
      obtain ⟨⟨⟨⟨⟨rfl, h1⟩, h1'⟩, h2⟩, h3⟩, h4⟩ := h
      obtain ⟨rfl, e2, e3⟩ := C.bl1 h2
      exact pi_imp (pi_range2 e3 e2 (pa_cons ((ok_e a C h3).1 true) (pa_cons ((ok_e b C h4).1 true) pa_nil (hs := star_of h1')) (hs := star_of h1)) ((star_of h1).trans (by rw [star_of h1']; rfl)) (star_of h1')) fun σ H Q q => i_rng2 q
    · cases h
end
end
end Ev

/-! Paths of owned things, written. -/
namespace Ev
open PySem PySem.Spec PyProof.Rows L2
section
variable {K : PySem.W.Frag} {N : Nm} {H H2 : Hp} {own own2 : Addr → Own} {σ : L2.St} {ρ : Env} {t : Nat} {r : Nat}
/-- the value at the path's end -/
def AtP (N : Nm) (r : Nat) (own : Addr → Own) (H : Hp) : List Acc → V → V → Prop
  | [], v, w => v = w
  | .f n :: as, v, w => ∃ a c dx fs x, v = .ref a ∧ H a = some (.ins (N.cls c) dx fs) ∧ own a = .sl r ∧ fs.lookup (N.fld n) = some x ∧ AtP N r own H as x w
  | .i j :: as, v, w => ∃ a vs x, v = .ref a ∧ H a = some (.lst vs) ∧ own a = .sl r ∧ vs[j]? = some x ∧ AtP N r own H as x w
theorem AtP.det : ∀ {as : List Acc} {v w w' : V}, AtP N r own H as v w → AtP N r own H as v w' → w = w'
  | [], v, w, w', h, h' => h.symm.trans h'
  | .f n :: as, v, w, w', h, h' => by
    obtain ⟨a, c, dx, fs, x, rfl, e1, _, e2, h⟩ := h
    obtain ⟨a', c', dx', fs', x', e0, e1', _, e2', h'⟩ := h'
    cases e0
    rw [e1] at e1'
    simp only [Option.some.injEq, HO.ins.injEq] at e1'
    obtain ⟨_, _, rfl⟩ := e1'
    rw [e2] at e2'
    cases e2'
    exact h.det h'
  | .i j :: as, v, w, w', h, h' => by
    obtain ⟨a, vs, x, rfl, e1, _, e2, h⟩ := h
    obtain ⟨a', vs', x', e0, e1', _, e2', h'⟩ := h'
    cases e0
    rw [e1] at e1'
    cases e1'
    rw [e2] at e2'
    cases e2'
    exact h.det h'
theorem AtP.keep {M : List Nat} (k : Kp M own H own2 H2) (hr : r ∉ M) : ∀ {as : List Acc} {v w : V}, AtP N r own H as v w → AtP N r own2 H2 as v w
  | [], v, w, h => h
  | .f n :: as, v, w, h => by
    obtain ⟨a, c, dx, fs, x, rfl, e1, e3, e2, h⟩ := h
    obtain ⟨z1, z2⟩ := k a _ e1 fun i hi z => by rw [e3] at z; cases z; exact hr hi
    exact ⟨a, c, dx, fs, x, rfl, z1, z2.trans e3, e2, h.keep k hr⟩
  | .i j :: as, v, w, h => by
    obtain ⟨a, vs, x, rfl, e1, e3, e2, h⟩ := h
    obtain ⟨z1, z2⟩ := k a _ e1 fun i hi z => by rw [e3] at z; cases z; exact hr hi
    exact ⟨a, vs, x, rfl, z1, z2.trans e3, e2, h.keep k hr⟩
theorem AtP.snoc_f {n : Nat} {a : Addr} {c : Nat} {dx : Addr} {fs : List (Str × V)} {x : V} (ha : H a = some (.ins (N.cls c) dx fs)) (ho : own a = .sl r) (hx : fs.lookup (N.fld n) = some x) : ∀ {as : List Acc} {v : V}, AtP N r own H as v (.ref a) → AtP N r own H (as ++ [.f n]) v x
  | [], v, h => ⟨a, c, dx, fs, x, h, ha, ho, hx, rfl⟩
  | .f m :: as, v, h => by
    obtain ⟨a', c', dx', fs', x', e0, e1, e3, e2, h⟩ := h
    exact ⟨a', c', dx', fs', x', e0, e1, e3, e2, h.snoc_f ha ho hx⟩
  | .i j :: as, v, h => by
    obtain ⟨a', vs, x', e0, e1, e3, e2, h⟩ := h
    exact ⟨a', vs, x', e0, e1, e3, e2, h.snoc_f ha ho hx⟩
theorem AtP.snoc_i {j : Nat} {a : Addr} {vs : List V} {x : V} (ha : H a = some (.lst vs)) (ho : own a = .sl r) (hx : vs[j]? = some x) : ∀ {as : List Acc} {v : V}, AtP N r own H as v (.ref a) → AtP N r own H (as ++ [.i j]) v x
  | [], v, h => ⟨a, vs, x, h, ha, ho, hx, rfl⟩
  | .f m :: as, v, h => by
    obtain ⟨a', c', dx', fs', x', e0, e1, e3, e2, h⟩ := h
    exact ⟨a', c', dx', fs', x', e0, e1, e3, e2, h.snoc_i ha ho hx⟩
  | .i j' :: as, v, h => by
    obtain ⟨a', vs', x', e0, e1, e3, e2, h⟩ := h
    exact ⟨a', vs', x', e0, e1, e3, e2, h.snoc_i ha ho hx⟩
theorem look_ix (inj : ∀ a b, N.fld a = N.fld b → a = b) {n : Nat} : ∀ {ks : List Nat} {fs : List (Str × V)} {j : Nat}, fs.map (·.1) = ks.map N.fld → fldIx ks n = some j → fs.lookup (N.fld n) = (fs.map (·.2))[j]?
  | [], fs, j, _, h => by cases h
  | k :: ks, [], j, e, h => by cases e
  | k :: ks, (g, x) :: fs, j, e, h => by
    simp only [List.map_cons, List.cons.injEq] at e
    unfold fldIx at h
    by_cases c : k = n
    · rw [if_pos c] at h
      cases h
      subst c
      rw [← e.1]
      simp
    · rw [if_neg c] at h
      have ne : (N.fld n == g) = false := by
        rw [e.1]
        exact beq_eq_false_iff_ne.mpr fun z => c (inj _ _ z).symm
      cases q : fldIx ks n with
      | none => rw [q] at h; cases h
      | some j' =>
        rw [q] at h
        cases h
        rw [List.lookup_cons, ne]
        simpa using look_ix inj e.2 q
theorem fldIx_lt {n : Nat} : ∀ {ks : List Nat} {j : Nat}, fldIx ks n = some j → j < ks.length
  | [], j, h => by cases h
  | k :: ks, j, h => by
    unfold fldIx at h
    by_cases c : k = n
    · rw [if_pos c] at h; cases h; simp
    · rw [if_neg c] at h
      cases q : fldIx ks n with
      | none => rw [q] at h; cases h
      | some j' => rw [q] at h; cases h; have := fldIx_lt q; simp only [List.length_cons]; omega
/-- what is written at b, what comes in from the way -/
structure Put (b : Addr) (r : Nat) (own own2 : Addr → Own) (H H2 : Hp) : Prop where
  fr : ∀ a o, H a = some o → a ≠ b → (∀ k, own a ≠ .tp k) → H2 a = some o ∧ own2 a = own a
  tp : ∀ a o, H a = some o → a ≠ b → own a = .tp 0 → H2 a = some o ∧ own2 a = .sl r
  ob : own b = .sl r
  ob2 : own2 b = .sl r
theorem Put.kf {b : Addr} (p : Put b r own own2 H H2) : KpF own H own2 H2 := fun a o h z => p.fr a o h (fun e => by subst e; rcases z with z | z <;> (rw [p.ob] at z; cases z)) fun k e => by rcases z with z | z <;> (rw [e] at z; cases z)
theorem Put.rep {b : Addr} (p : Put b r own own2 H H2) {i : Nat} {d : D} {v : V} {F : List Addr} (h : Rep K N H own (.sl i) d v F) (hb : b ∉ F) : Rep K N H2 own2 (.sl i) d v F :=
  Rep.carry p.kf d h fun a ha o ho => by
    obtain ⟨z, _⟩ := Rep.owned d h a ha
    obtain ⟨x, y⟩ := p.fr a o ho (fun e => hb (e ▸ ha)) fun k e => by rw [z] at e; cases e
    exact ⟨x, y.trans z⟩
theorem Put.reps {b : Addr} (p : Put b r own own2 H H2) {i : Nat} : ∀ {ds : List D} {vs : List V} {F : List Addr}, Reps K N H own (.sl i) ds vs F → b ∉ F → Reps K N H2 own2 (.sl i) ds vs F
  | [], vs, F, h, _ => h
  | d :: ds, vs, F, h, hb => by
    obtain ⟨v, vs', F1, F2, e1, e2, h1, h2⟩ := h
    subst e2
    rw [List.mem_append, not_or] at hb
    exact ⟨v, vs', F1, F2, e1, rfl, p.rep h1 hb.1, p.reps h2 hb.2⟩
theorem Put.way {b : Addr} (p : Put b r own own2 H H2) {d : D} {v : V} {F : List Addr} (h : Rep K N H own (.tp 0) d v F) : Rep K N H2 own2 (.sl r) d v F :=
  Rep.carry p.kf d h fun a ha o ho => by
    obtain ⟨z, _⟩ := Rep.owned d h a ha
    exact p.tp a o ho (fun e => by subst e; rw [p.ob] at z; cases z) z
/-- one of a row is another -/
theorem Reps.swap {b : Addr} (p : Put b r own own2 H H2) {x : D} {u : V} : ∀ {ds : List D} {vs : List V} {F : List Addr} {j : Nat}, Reps K N H own (.sl r) ds vs F → F.Nodup → ds[j]? = some x → vs[j]? = some u →
    ∃ Fx, Rep K N H own (.sl r) x u Fx ∧ Fx.Nodup ∧ (∀ a ∈ Fx, a ∈ F) ∧ (∀ (y : D) (w : V) (Fy : List Addr), Rep K N H2 own2 (.sl r) y w Fy → Fy.Nodup → (∀ a ∈ F, a ∉ Fx → a ≠ b) → (∀ a ∈ Fy, a ∈ Fx ∨ own a = .tp 0) → ∃ F2, Reps K N H2 own2 (.sl r) (ds.set j y) (vs.set j w) F2 ∧ F2.Nodup ∧ ∀ a ∈ F2, a ∈ F ∨ own a = .tp 0)
  | [], vs, F, j, h, n, e, e' => by simp at e
  | d :: ds, vs, F, 0, h, n, e, e' => by
    obtain ⟨v, vs', F1, F2, e1, e2, h1, h2⟩ := h
    subst e1 e2
    simp only [List.getElem?_cons_zero, Option.some.injEq] at e e'
    subst e e'
    rw [List.nodup_append] at n
    refine ⟨F1, h1, n.1, fun a ha => List.mem_append_left _ ha, fun y w Fy hy ny hb hf => ⟨Fy ++ F2, ⟨w, vs', Fy, F2, rfl, rfl, hy, p.reps h2 fun z => hb b (List.mem_append_right _ z) (fun z1 => n.2.2 b z1 b z rfl) rfl⟩, ?_, ?_⟩⟩
    · rw [List.nodup_append]
      refine ⟨ny, n.2.1, fun a ha c hc z => ?_⟩
      subst z
      rcases hf a ha with q | q
      · exact n.2.2 a q a hc rfl
      · have := (Reps.owned ds h2 a hc).1
        rw [q] at this
        cases this
    · intro a ha
      rcases List.mem_append.mp ha with q | q
      · rcases hf a q with q | q
        · exact .inl (List.mem_append_left _ q)
        · exact .inr q
      · exact .inl (List.mem_append_right _ q)
  | d :: ds, vs, F, j + 1, h, n, e, e' => by
    obtain ⟨v, vs', F1, F2, e1, e2, h1, h2⟩ := h
    subst e1 e2
    simp only [List.getElem?_cons_succ] at e e'
    rw [List.nodup_append] at n
    obtain ⟨Fx, g1, g2, g3, g4⟩ := Reps.swap p h2 n.2.1 e e'
    refine ⟨Fx, g1, g2, fun a ha => List.mem_append_right _ (g3 a ha), fun y w Fy hy ny hb hf => ?_⟩
    obtain ⟨F3, k1, k2, k3⟩ := g4 y w Fy hy ny (fun a ha => hb a (List.mem_append_right _ ha)) hf
    refine ⟨F1 ++ F3, ⟨v, vs'.set j w, F1, F3, rfl, rfl, p.rep h1 fun z => hb b (List.mem_append_left _ z) (fun z1 => n.2.2 b z b (g3 b z1) rfl) rfl, k1⟩, ?_, ?_⟩
    · rw [List.nodup_append]
      refine ⟨n.1, k2, fun a ha c hc z => ?_⟩
      subst z
      rcases k3 a hc with q | q
      · exact n.2.2 a ha a q rfl
      · have := (Rep.owned d h1 a ha).1
        rw [q] at this
        cases this
    · intro a ha
      rcases List.mem_append.mp ha with q | q
      · exact .inl (List.mem_append_left _ q)
      · rcases k3 a q with q | q
        · exact .inl (List.mem_append_right _ q)
        · exact .inr q
/-- what f does to the thing at b -/
def Leaf (K : PySem.W.Frag) (N : Nm) (b : Addr) (r : Nat) (own own2 : Addr → Own) (H H2 : Hp) (f : D → Option D) : Prop := ∀ x G x', Rep K N H own (.sl r) x (.ref b) G → G.Nodup → f x = some x' →
  b ∈ G ∧ ∃ G', Rep K N H2 own2 (.sl r) x' (.ref b) G' ∧ G'.Nodup ∧ ∀ a ∈ G', a ∈ G ∨ own a = .tp 0
theorem set_get {α : Type} {l : List α} {j : Nat} {x : α} (h : l[j]? = some x) : l.set j x = l := by
  apply List.ext_getElem?
  intro i
  by_cases z : j = i
  · subst z
    rw [List.getElem?_set_self (List.getElem?_eq_some_iff.mp h).1, h]
  · rw [List.getElem?_set_ne z]
theorem upd_ok {b : Addr} {f : D → Option D} (inj : ∀ a b, N.fld a = N.fld b → a = b) (p : Put b r own own2 H H2) (leaf : Leaf K N b r own own2 H H2 f) : ∀ {as : List Acc} {d d' : D} {v : V} {F : List Addr}, Rep K N H own (.sl r) d v F → F.Nodup → updA as f d = some d' → AtP N r own H as v (.ref b) →
    b ∈ F ∧ ∃ F', Rep K N H2 own2 (.sl r) d' v F' ∧ F'.Nodup ∧ ∀ a ∈ F', a ∈ F ∨ own a = .tp 0
  | [], d, d', v, F, h, n, e, at_ => by
    cases (show v = .ref b from at_)
    exact leaf d F d' h n e
  | .i j :: as, d, d', v, F, h, n, e, at_ => by
    cases d <;> first | (simp [updA] at e; done) | skip
    rename_i o xs
    cases o <;> first | (simp [updA] at e; done) | skip
    unfold updA at e
    cases hx : xs[j]? with
    | none => rw [hx] at e; cases e
    | some x =>
      rw [hx] at e
      dsimp only at e
      cases hy : updA as f x with
      | none => rw [hy] at e; cases e
      | some y =>
        rw [hy] at e
        cases e
        obtain ⟨a, vs, F', rfl, ha, ho, rfl, hr⟩ := h
        obtain ⟨a', vs', u, e0, e1, _, e2, at_⟩ := at_
        cases e0
        rw [ha] at e1
        cases e1
        rw [List.nodup_cons] at n
        -- the one below
        obtain ⟨Fx, g1, g2, g3, g4⟩ := Reps.swap p hr n.2 hx e2
        obtain ⟨m1, Fy, k1, k2, k3⟩ := upd_ok inj p leaf g1 g2 hy at_
        obtain ⟨F2, w1, w2, w3⟩ := g4 y u Fy k1 k2 (fun z hz hz2 e => hz2 (e ▸ m1)) k3
        have hab : a ≠ b := fun e => n.1 (e ▸ g3 b m1)
        obtain ⟨z1, z2⟩ := p.fr a _ ha hab fun k z => by rw [ho] at z; cases z
        refine ⟨List.mem_cons_of_mem _ (g3 b m1), a :: F2, ⟨a, vs, F2, rfl, z1, z2.trans ho, rfl, ?_⟩, ?_, ?_⟩
        · rw [set_get e2] at w1
          exact w1
        · rw [List.nodup_cons]
          refine ⟨fun z => ?_, w2⟩
          rcases w3 a z with q | q
          · exact n.1 q
          · rw [ho] at q; cases q
        · intro z hz
          rcases List.mem_cons.mp hz with q | q
          · exact .inl (q ▸ List.mem_cons_self)
          · exact (w3 z q).imp (fun q => List.mem_cons_of_mem _ q) id
  | .f m :: as, d, d', v, F, h, n, e, at_ => by
    cases d <;> first | (simp [updA] at e; done) | skip
    rename_i o c ks xs
    cases o <;> first | (simp [updA] at e; done) | skip
    unfold updA at e
    cases hj : fldIx ks m with
    | none => rw [hj] at e; cases e
    | some j =>
      rw [hj] at e
      dsimp only at e
      cases hx : xs[j]? with
      | none => rw [hx] at e; cases e
      | some x =>
        rw [hx] at e
        dsimp only at e
        cases hy : updA as f x with
        | none => rw [hy] at e; cases e
        | some y =>
          rw [hy] at e
          cases e
          obtain ⟨a, dx, fs, F', rfl, ha, ho, rfl, hk, hr⟩ := h
          obtain ⟨a', c', dx', fs', u, e0, e1, _, e2, at_⟩ := at_
          cases e0
          rw [ha] at e1
          simp only [Option.some.injEq, HO.ins.injEq] at e1
          obtain ⟨_, _, rfl⟩ := e1
          rw [look_ix inj hk hj] at e2
          rw [List.nodup_cons] at n
          obtain ⟨Fx, g1, g2, g3, g4⟩ := Reps.swap p hr n.2 hx e2
          obtain ⟨m1, Fy, k1, k2, k3⟩ := upd_ok inj p leaf g1 g2 hy at_
          obtain ⟨F2, w1, w2, w3⟩ := g4 y u Fy k1 k2 (fun z hz hz2 e => hz2 (e ▸ m1)) k3
          have hab : a ≠ b := fun e => n.1 (e ▸ g3 b m1)
          obtain ⟨z1, z2⟩ := p.fr a _ ha hab fun k z => by rw [ho] at z; cases z
          refine ⟨List.mem_cons_of_mem _ (g3 b m1), a :: F2, ⟨a, dx, fs, F2, rfl, z1, z2.trans ho, rfl, hk, ?_⟩, ?_, ?_⟩
          · rw [set_get e2] at w1
            exact w1
          · rw [List.nodup_cons]
            refine ⟨fun z => ?_, w2⟩
            rcases w3 a z with q | q
            · exact n.1 q
            · rw [ho] at q; cases q
          · intro z hz
            rcases List.mem_cons.mp hz with q | q
            · exact .inl (q ▸ List.mem_cons_self)
            · exact (w3 z q).imp (fun q => List.mem_cons_of_mem _ q) id
end
end Ev

/-! Paths: what is read and what is written. -/
namespace Ev
open PySem PySem.Spec PyProof.Rows L2
section
variable {K : PySem.W.Frag} {N : Nm} {H H2 : Hp} {own own2 : Addr → Own} {σ : L2.St} {ρ : Env} {t : Nat} {r : Nat}
/-- all that is on the way goes to the slot r -/
def toS (r : Nat) (own : Addr → Own) : Addr → Own := fun a => match own a with | .tp _ => .sl r | o => o
theorem toS_of {a : Addr} (h : ∀ k, own a ≠ .tp k) : toS r own a = own a := by
  unfold toS
  split
  · rename_i k e; exact absurd e (h k)
  · rfl
theorem toS_tp {a : Addr} {k : Nat} (h : own a = .tp k) : toS r own a = .sl r := by unfold toS; rw [h]
theorem toS_nt {a : Addr} {k : Nat} : toS r own a ≠ .tp k := by
  unfold toS
  split
  · exact fun z => by cases z
  · rename_i h; exact h k
theorem put_of {b : Addr} {o' : HO} (ob : own b = .sl r) : Put b r own (toS r own) H (upd H b o') :=
  ⟨fun a o h n k => ⟨by rw [upd_ne n]; exact h, toS_of k⟩, fun a o h n k => ⟨by rw [upd_ne n]; exact h, toS_tp k⟩, ob, (toS_of fun k z => by rw [ob] at z; cases z).trans ob⟩
/-- the slots behind a write -/
theorem upd_env {b : Addr} {f : D → Option D} {as : List Acc} {ρ' : Env} {v0 : V} (inj : ∀ a b, N.fld a = N.fld b → a = b) (env : EnvOk K N own σ H ρ 1) (p : Put b r own own2 H H2) (bnd : ∀ a k, own2 a ≠ .tp k) (leaf : Leaf K N b r own own2 H H2 f)
    (hu : updP ρ r as f = some ρ') (hs : σ[r]? = some (some v0)) (at_ : AtP N r own H as v0 (.ref b)) : EnvOk K N own2 σ H2 ρ' 0 := by
  unfold updP at hu
  cases h1 : getS ρ r with
  | none => rw [h1] at hu; cases hu
  | some d =>
    rw [h1] at hu
    dsimp only at hu
    cases h2 : updA as f d with
    | none => rw [h2] at hu; cases hu
    | some d' =>
      rw [h2] at hu
      cases hu
      obtain ⟨v, F, e1, rep, nd⟩ := env.sl r d h1
      rw [hs] at e1
      cases e1
      obtain ⟨hb, F', r', n', _⟩ := upd_ok inj p leaf rep nd h2 at_
      refine ⟨by rw [List.length_set]; exact env.len, fun a k z => absurd z (bnd a k), fun i x hx => ?_⟩
      by_cases z : r = i
      · subst z
        rw [getS_set_self (getS_lt h1)] at hx
        cases hx
        exact ⟨v0, F', hs, r', n'⟩
      · rw [getS_set_ne z] at hx
        obtain ⟨w, G, e2, r2, n2⟩ := env.sl i x hx
        refine ⟨w, G, e2, p.rep r2 fun q => ?_, n2⟩
        have := (Rep.owned x r2 b q).1
        rw [p.ob] at this
        cases this
        exact z rfl
/-! ### what is written -/
theorem Reps.len {ds : List D} {vs : List V} {F : List Addr} {tg : Own} (h : Reps K N H own tg ds vs F) : vs.length = ds.length := h.length
theorem leaf_putI {b : Addr} {vs : List V} {vd : V} {d : D} {Fd : List Addr} {k : Int} {j : Nat} (hb : H b = some (.lst vs)) (ob : own b = .sl r) (hd : Rep K N H own (.tp 0) d vd Fd) (nd : Fd.Nodup) (hj : ixN vs.length k = some j) :
    Leaf K N b r own (toS r own) H (upd H b (.lst (vs.set j vd))) (putI (.int k) d) := by
  intro x G x' hx ng e
  have p := put_of (H := H) (o' := .lst (vs.set j vd)) ob
  cases x <;> first | (simp [putI] at e; done) | skip
  rename_i o xs
  cases o <;> first | (simp [putI] at e; done) | skip
  simp only [putI] at e
  obtain ⟨a, vs', F', ea, h1, h2, rfl, hr⟩ := hx
  cases ea
  rw [hb] at h1
  cases h1
  rw [← hr.length, hj] at e
  cases e
  rw [List.nodup_cons] at ng
  have hl : j < vs.length := by
    have := (L2.ixN_seq hj).2.1
    exact this
  obtain ⟨u, hu⟩ : ∃ u, vs[j]? = some u := ⟨_, List.getElem?_eq_getElem hl⟩
  obtain ⟨x0, hx0⟩ : ∃ u, xs[j]? = some u := ⟨_, List.getElem?_eq_getElem (by rw [← hr.length]; exact hl)⟩
  obtain ⟨Fx, g1, g2, g3, g4⟩ := Reps.swap p hr ng.2 hx0 hu
  obtain ⟨F2, w1, w2, w3⟩ := g4 d vd Fd (p.way hd) nd (fun a ha _ e => ng.1 (e ▸ ha)) fun a ha => .inr (Rep.owned d hd a ha).1
  refine ⟨List.mem_cons_self, b :: F2, ⟨b, vs.set j vd, F2, rfl, upd_same, p.ob2, rfl, w1⟩, ?_, ?_⟩
  · rw [List.nodup_cons]
    refine ⟨fun z => ?_, w2⟩
    rcases w3 b z with q | q
    · exact ng.1 q
    · rw [ob] at q; cases q
  · intro a ha
    rcases List.mem_cons.mp ha with q | q
    · exact .inl (q ▸ List.mem_cons_self)
    · exact (w3 a q).imp (fun q => List.mem_cons_of_mem _ q) id
theorem leaf_putA {b : Addr} {vs : List V} {vd : V} {d : D} {Fd : List Addr} (hb : H b = some (.lst vs)) (ob : own b = .sl r) (hd : Rep K N H own (.tp 0) d vd Fd) (nd : Fd.Nodup) :
    Leaf K N b r own (toS r own) H (upd H b (.lst (vs ++ [vd]))) (putA d) := by
  intro x G x' hx ng e
  have p := put_of (H := H) (o' := .lst (vs ++ [vd])) ob
  cases x <;> first | (simp [putA] at e; done) | skip
  rename_i o xs
  cases o <;> first | (simp [putA] at e; done) | skip
  simp only [putA] at e
  split at e
  · cases e
    obtain ⟨a, vs', F', ea, h1, h2, rfl, hr⟩ := hx
    cases ea
    rw [hb] at h1
    cases h1
    rw [List.nodup_cons] at ng
    have one : Reps K N (upd H b (.lst (vs ++ [vd]))) (toS r own) (.sl r) [d] [vd] Fd := ⟨vd, [], Fd, [], rfl, by simp, p.way hd, rfl, rfl⟩
    refine ⟨List.mem_cons_self, b :: (F' ++ Fd), ⟨b, vs ++ [vd], F' ++ Fd, rfl, upd_same, p.ob2, rfl, (p.reps hr ng.1).append one⟩, ?_, ?_⟩
    · rw [List.nodup_cons, List.mem_append, List.nodup_append]
      refine ⟨fun z => z.elim ng.1 fun z => ?_, ng.2, nd, fun a ha c hc z => ?_⟩
      · have := (Rep.owned d hd b z).1
        rw [ob] at this
        cases this
      · subst z
        have h1 := (Rep.owned d hd a hc).1
        have h2 := (Reps.owned xs hr a ha).1
        rw [h1] at h2
        cases h2
    · intro a ha
      rcases List.mem_cons.mp ha with q | q
      · exact .inl (q ▸ List.mem_cons_self)
      · rcases List.mem_append.mp q with q | q
        · exact .inl (List.mem_cons_of_mem _ q)
        · exact .inr (Rep.owned d hd a q).1
  · cases e
theorem putF_some (inj : ∀ a b, N.fld a = N.fld b → a = b) {f : Nat} {y : V} : ∀ {ks : List Nat} {fs : List (Str × V)} {j : Nat}, fs.map (·.1) = ks.map N.fld → fldIx ks f = some j → (L2.putF (N.fld f) y fs).map (·.1) = ks.map N.fld ∧ (L2.putF (N.fld f) y fs).map (·.2) = (fs.map (·.2)).set j y
  | [], fs, j, _, h => by cases h
  | k :: ks, [], j, e, h => by cases e
  | k :: ks, (g, x) :: fs, j, e, h => by
    simp only [List.map_cons, List.cons.injEq] at e
    unfold fldIx at h
    unfold L2.putF
    by_cases c : k = f
    · rw [if_pos c] at h
      cases h
      subst c
      rw [if_pos e.1]
      simp [e.1, e.2]
    · rw [if_neg c] at h
      have ne : ¬ g = N.fld f := fun z => c (inj _ _ (e.1.symm.trans z))
      rw [if_neg ne]
      cases q : fldIx ks f with
      | none => rw [q] at h; cases h
      | some j' =>
        rw [q] at h
        cases h
        obtain ⟨a, b⟩ := putF_some inj (y := y) e.2 q
        simp [a, b, e.1]
theorem putF_none (inj : ∀ a b, N.fld a = N.fld b → a = b) {f : Nat} {y : V} : ∀ {ks : List Nat} {fs : List (Str × V)}, fs.map (·.1) = ks.map N.fld → fldIx ks f = none → (L2.putF (N.fld f) y fs).map (·.1) = (ks ++ [f]).map N.fld ∧ (L2.putF (N.fld f) y fs).map (·.2) = fs.map (·.2) ++ [y]
  | [], [], _, _ => ⟨rfl, rfl⟩
  | [], _ :: _, e, _ => by cases e
  | k :: ks, [], e, h => by cases e
  | k :: ks, (g, x) :: fs, e, h => by
    simp only [List.map_cons, List.cons.injEq] at e
    unfold fldIx at h
    unfold L2.putF
    by_cases c : k = f
    · rw [if_pos c] at h
      cases h
    · rw [if_neg c] at h
      have ne : ¬ g = N.fld f := fun z => c (inj _ _ (e.1.symm.trans z))
      rw [if_neg ne]
      cases q : fldIx ks f with
      | some j' => rw [q] at h; cases h
      | none =>
        obtain ⟨a, b⟩ := putF_none inj (y := y) e.2 q
        simp [a, b, e.1]
theorem leaf_putF {b : Addr} {c0 : Addr} {dx : Addr} {fs : List (Str × V)} {vd : V} {d : D} {Fd : List Addr} {f : Nat} (inj : ∀ a b, N.fld a = N.fld b → a = b) (hb : H b = some (.ins c0 dx fs)) (ob : own b = .sl r) (hd : Rep K N H own (.tp 0) d vd Fd) (nd : Fd.Nodup) :
    Leaf K N b r own (toS r own) H (upd H b (.ins c0 dx (L2.putF (N.fld f) vd fs))) (putF f d) := by
  intro x G x' hx ng e
  have p := put_of (H := H) (o' := .ins c0 dx (L2.putF (N.fld f) vd fs)) ob
  cases x <;> first | (simp [putF] at e; done) | skip
  rename_i o c ks xs
  cases o <;> first | (simp [putF] at e; done) | skip
  simp only [putF] at e
  obtain ⟨a, dx', fs', F', ea, h1, h2, rfl, hk, hr⟩ := hx
  cases ea
  rw [hb] at h1
  simp only [Option.some.injEq, HO.ins.injEq] at h1
  obtain ⟨rfl, rfl, rfl⟩ := h1
  rw [List.nodup_cons] at ng
  split at e
  rotate_left
  · cases e
  cases hj : fldIx ks f with
  | some j =>
    rw [hj] at e
    cases e
    obtain ⟨k1, k2⟩ := putF_some inj (y := vd) hk hj
    have hl : j < (fs.map (·.2)).length := by
      have := fldIx_lt hj
      have e2 := congrArg List.length hk
      simp only [List.length_map] at e2 ⊢
      omega
    obtain ⟨u, hu⟩ : ∃ u, (fs.map (·.2))[j]? = some u := ⟨_, List.getElem?_eq_getElem hl⟩
    obtain ⟨x0, hx0⟩ : ∃ u, xs[j]? = some u := ⟨_, List.getElem?_eq_getElem (by rw [← hr.length]; exact hl)⟩
    obtain ⟨Fx, g1, g2, g3, g4⟩ := Reps.swap p hr ng.2 hx0 hu
    obtain ⟨F2, w1, w2, w3⟩ := g4 d vd Fd (p.way hd) nd (fun a ha _ e => ng.1 (e ▸ ha)) fun a ha => .inr (Rep.owned d hd a ha).1
    refine ⟨List.mem_cons_self, b :: F2, ⟨b, dx, _, F2, rfl, upd_same, p.ob2, rfl, k1, by rw [k2]; exact w1⟩, ?_, ?_⟩
    · rw [List.nodup_cons]
      refine ⟨fun z => ?_, w2⟩
      rcases w3 b z with q | q
      · exact ng.1 q
      · rw [ob] at q; cases q
    · intro a ha
      rcases List.mem_cons.mp ha with q | q
      · exact .inl (q ▸ List.mem_cons_self)
      · exact (w3 a q).imp (fun q => List.mem_cons_of_mem _ q) id
  | none =>
    rw [hj] at e
    dsimp only at e
    · cases e
      obtain ⟨k1, k2⟩ := putF_none inj (y := vd) hk hj
      have one : Reps K N (upd H b (.ins (N.cls c) dx (L2.putF (N.fld f) vd fs))) (toS r own) (.sl r) [d] [vd] Fd := ⟨vd, [], Fd, [], rfl, by simp, p.way hd, rfl, rfl⟩
      refine ⟨List.mem_cons_self, b :: (F' ++ Fd), ⟨b, dx, _, F' ++ Fd, rfl, upd_same, p.ob2, rfl, k1, by rw [k2]; exact (p.reps hr ng.1).append one⟩, ?_, ?_⟩
      · rw [List.nodup_cons, List.mem_append, List.nodup_append]
        refine ⟨fun z => z.elim ng.1 fun z => ?_, ng.2, nd, fun a ha c hc z => ?_⟩
        · have := (Rep.owned d hd b z).1
          rw [ob] at this
          cases this
        · subst z
          have h1 := (Rep.owned d hd a hc).1
          have h2 := (Reps.owned xs hr a ha).1
          rw [h1] at h2
          cases h2
      · intro a ha
        rcases List.mem_cons.mp ha with q | q
        · exact .inl (q ▸ List.mem_cons_self)
        · rcases List.mem_append.mp q with q | q
          · exact .inl (List.mem_cons_of_mem _ q)
          · exact .inr (Rep.owned d hd a q).1
/-! ### what is read -/
theorem simp_tch : ∀ {e : E}, simp e = true → tch e = []
  | .k _, _ => rfl
  | .glob _, _ => rfl
  | .var _, _ => rfl
  | .fld o _, h => by
    simp only [simp] at h
    simp only [tch]
    exact simp_tch h
  | .idx o i, h => by
    simp only [simp, Bool.and_eq_true] at h
    simp only [tch, simp_tch h.1, simp_tch h.2, List.append_nil]
  | .bin _ a b, h => by
    simp only [simp, Bool.and_eq_true] at h
    simp only [tch, simp_tch h.1, simp_tch h.2, List.append_nil]
  | .un _ a, h => by
    simp only [simp] at h
    simp only [tch]
    exact simp_tch h
theorem guard_ok {α : Type} {b : Bool} {x : R α} {a : α} (h : R.guard b x = .ok a) : b = true ∧ x = .ok a := by
  cases b with
  | true => exact ⟨rfl, h⟩
  | false => cases h
theorem simp_env {g : G} : ∀ {e : E} {vw : Bool} {ρ ρ' : Env} {d : D}, simp e = true → ev g e vw ρ = .ok (d, ρ') → ρ' = ρ
  | .k _, vw, ρ, ρ', d, _, h => by
    simp only [ev] at h
    cases (guard_ok h).2
    rfl
  | .glob _, vw, ρ, ρ', d, _, h => by
    simp only [ev] at h
    cases (guard_ok h).2
    rfl
  | .var _, vw, ρ, ρ', d, _, h => by
    simp only [ev] at h
    split at h
    · cases (guard_ok h).2
      rfl
    · cases h
  | .fld o _, vw, ρ, ρ', d, s, h => by
    simp only [simp] at s
    simp only [ev] at h
    cases h1 : ev g o true ρ with
    | bad => rw [h1] at h; cases h
    | exn c p => rw [h1] at h; cases h
    | ok r =>
      obtain ⟨x, ρ1⟩ := r
      rw [h1] at h
      have := simp_env s h1
      subst this
      dsimp only [R.bind] at h
      split at h
      · cases (guard_ok h).2
        rfl
      · cases h
  | .idx o i, vw, ρ, ρ', d, s, h => by
    simp only [simp, Bool.and_eq_true] at s
    simp only [ev] at h
    cases h1 : ev g o true ρ with
    | bad => rw [h1] at h; cases h
    | exn c p => rw [h1] at h; cases h
    | ok r =>
      obtain ⟨x, ρ1⟩ := r
      rw [h1] at h
      have := simp_env s.1 h1
      subst this
      dsimp only [R.bind] at h
      cases h2 : ev g i true ρ1 with
      | bad => rw [h2] at h; cases h
      | exn c p => rw [h2] at h; cases h
      | ok r =>
        obtain ⟨y, ρ2⟩ := r
        rw [h2] at h
        have := simp_env s.2 h2
        subst this
        dsimp only at h
        have h := (guard_ok h).2
        split at h
        · cases (guard_ok h).2
          rfl
        · cases h
  | .bin op a b, vw, ρ, ρ', d, s, h => by
    simp only [simp, Bool.and_eq_true] at s
    simp only [ev] at h
    cases h1 : ev g a true ρ with
    | bad => rw [h1] at h; cases h
    | exn c p => rw [h1] at h; cases h
    | ok r =>
      obtain ⟨x, ρ1⟩ := r
      rw [h1] at h
      have := simp_env s.1 h1
      subst this
      dsimp only [R.bind] at h
      cases h2 : ev g b true ρ1 with
      | bad => rw [h2] at h; cases h
      | exn c p => rw [h2] at h; cases h
      | ok r =>
        obtain ⟨y, ρ2⟩ := r
        rw [h2] at h
        have := simp_env s.2 h2
        subst this
        dsimp only at h
        have h := (guard_ok h).2
        split at h
        · cases h
          rfl
        · cases h
  | .un op a, vw, ρ, ρ', d, s, h => by
    simp only [simp] at s
    simp only [ev] at h
    cases h1 : ev g a true ρ with
    | bad => rw [h1] at h; cases h
    | exn c p => rw [h1] at h; cases h
    | ok r =>
      obtain ⟨x, ρ1⟩ := r
      rw [h1] at h
      have := simp_env s h1
      subst this
      dsimp only [R.bind] at h
      split at h
      · cases h
        rfl
      · cases h
/-- the fields of a path -/
def pflds : E → List Nat
  | .fld o f => f :: pflds o | .idx o _ => pflds o | _ => []
/-- the reading of a path -/
def tPath (K : PySem.W.Frag) (N : Nm) (W : WX) (g : G) : E → TE
  | .var i => tVar i
  | .fld o f => tFld K (tPath K N W g o) (N.fld f)
  | .idx o i => tOp (rIx K) (tPath K N W g o) (tE K N W g i true)
  | _ => fun _ _ _ => False
/-- what stands at the path's end -/
theorem path_at {g : G} (inj : ∀ a b, N.fld a = N.fld b → a = b) (env : EnvOk K N own σ H ρ t) : ∀ {p : E} {as : List Acc} {x : D}, resv g p ρ = some (r, as, x) → ∃ v0 w G, σ[r]? = some (some v0) ∧ AtP N r own H as v0 w ∧ Rep K N H own (.sl r) x w G ∧ r = root p
  | .var i, as, x, h => by
    simp only [resv] at h
    split at h
    · rename_i d hd
      cases h
      obtain ⟨v, F, e1, rep, _⟩ := env.sl _ _ hd
      exact ⟨v, v, F, e1, rfl, rep, rfl⟩
    · cases h
  | .fld o f, as, x, h => by
    simp only [resv] at h
    split at h
    · rename_i r' a c ks vs ho
      split at h
      · rename_i j hj
        split at h
        · rename_i x' hx
          cases h
          obtain ⟨v0, w, G, e1, at_, rep, e2⟩ := path_at inj env ho
          obtain ⟨b, dx, fs, F', rfl, hb, ob, _, hk, hr⟩ := rep
          obtain ⟨u, F2, hu, ru, _, _⟩ := hr.get hx
          exact ⟨v0, u, F2, e1, AtP.snoc_f hb ob (by rw [look_ix inj hk hj]; exact hu) at_, ru, e2⟩
        · cases h
      · cases h
    · cases h
  | .idx o i, as, x, h => by
    simp only [resv] at h
    split at h
    · rename_i r' a xs ho
      split at h
      · split at h
        · rename_i j hj
          split at h
          · rename_i x' hx
            cases h
            obtain ⟨v0, w, G, e1, at_, rep, e2⟩ := path_at inj env ho
            obtain ⟨b, vs, F', rfl, hb, ob, _, hr⟩ := rep
            obtain ⟨u, F2, hu, ru, _, _⟩ := hr.get hx
            exact ⟨v0, u, F2, e1, AtP.snoc_i hb ob hu at_, ru, e2⟩
          · cases h
        · cases h
      · cases h
    · cases h
inductive PathI : E → Prop where
  | var (i : Nat) : PathI (.var i)
  | fld {o : E} (f : Nat) (h : PathI o) : PathI (.fld o f)
  | idx {o : E} (i : E) (h : PathI o) : PathI (.idx o i)
theorem path_of : ∀ {p : E}, isPath p = true → PathI p
  | .var i, _ => .var i
  | .fld o f, h => .fld f (path_of h)
  | .idx o i, h => .idx i (path_of h)
/-- the path is read -/
theorem path_pe {W : WX} {g : G} (inj : ∀ a b, N.fld a = N.fld b → a = b) (nf : Nat) (cl : ∀ c, Cls K (N.cls c)) (na : ∀ c f, f < nf → NoAttr K (N.cls c) (N.fld f)) {p : E} (hp : PathI p) : ∀ {as : List Acc} {x : D} {v0 w : V} {own : Addr → Own} {H : Hp} {t : Nat} {Q : VK}, resv g p ρ = some (r, as, x) → (∀ f ∈ pflds p, f < nf) → EnvOk K N own σ H ρ t → σ[r]? = some (some v0) → AtP N r own H as v0 w →
    (∀ own' H' t', Kp [] own H own' H' → EnvOk K N own' σ H' ρ t' → t ≤ t' → Q w H') → tPath K N W g p σ H Q := by
  induction hp with
  | var i =>
    intro as x v0 w own H t Q h fl env e1 at_ q
    simp only [resv] at h
    split at h
    · cases h
      cases (show v0 = w from at_)
      simp only [tPath]
      exact ⟨v0, e1, q own H t Kp.refl env (Nat.le_refl _)⟩
    · cases h
  | @fld o f _ ih =>
    intro as x v0 w own H t Q h fl env e1 at_ q
    simp only [resv] at h
    split at h
    · rename_i r' a c ks vs ho
      split at h
      · rename_i j hj
        split at h
        · rename_i x' hx
          cases h
          obtain ⟨v0', w', G, e1', at', rep, e2⟩ := path_at inj env ho
          rw [e1] at e1'
          cases e1'
          obtain ⟨b, dx, fs, F', rfl, hb, ob, _, hk, hr⟩ := rep
          obtain ⟨u, F2, hu, ru, _, _⟩ := hr.get hx
          have lk : fs.lookup (N.fld f) = some u := by rw [look_ix inj hk hj]; exact hu
          have := AtP.det (AtP.snoc_f hb ob lk at') at_
          subst this
          simp only [tPath]
          unfold tFld
          refine ih ho (fun f hf => fl f (by simp only [pflds, List.mem_cons]; exact .inr hf)) env e1 at' fun own' H' t' kp env' ht => ?_
          exact ⟨b, N.cls c, dx, fs, u, rfl, (kp b _ hb fun i hi => nomatch hi).1, cl c, na c f (fl f (by simp [pflds])), lk, q own' H' t' kp env' ht⟩
        · cases h
      · cases h
    · cases h
  | @idx o i _ ih =>
    intro as x v0 w own H t Q h fl env e1 at_ q
    simp only [resv] at h
    split at h
    · rename_i r' a xs ho
      split at h
      · rename_i k ρ2 hs hi
        split at h
        · rename_i j hj
          split at h
          · rename_i x' hx
            cases h
            obtain ⟨v0', w', G, e1', at', rep, e2⟩ := path_at inj env ho
            rw [e1] at e1'
            cases e1'
            obtain ⟨b, vs, F', rfl, hb, ob, _, hr⟩ := rep
            obtain ⟨u, F2, hu, ru, _, _⟩ := hr.get hx
            have := AtP.det (AtP.snoc_i hb ob hu at') at_
            subst this
            simp only [tPath]
            unfold tOp
            refine ih ho (fun f hf => fl f (by simp only [pflds]; exact hf)) env e1 at' fun own' H' t' kp env' ht => ⟨own', ρ, t', env', ?_⟩
            rw [hi]
            intro own2 H2 v F kp2 env2 rep2 _
            have e3 := simp_env hs hi
            subst e3
            rw [simp_tch hs] at kp2
            cases rep2.1
            have kp12 : Kp [] own H own2 H2 := (kp.trans kp2).mono fun i hi => by simpa using hi
            refine .inl ⟨b, vs, k, u, rfl, rfl, .inl (.inl (kp12 b _ hb fun i hi => nomatch hi).1), ?_, q own2 H2 (t' + 1) kp12 env2 (by omega)⟩
            show L2.atI vs k = some u
            unfold L2.atI
            rw [hr.length]
            have hj' : L2.ixN xs.length k = some j := hj
            rw [hj']
            exact hu
          · cases h
        · cases h
      · cases h
    · cases h
end
end Ev

/-! Statements: the readings. -/
namespace Ev
open PySem PySem.Spec PyProof.Rows L2
/-- the slots that a statement stores into -/
def asgS : S → List Nat
  | .seq a b => asgS a ++ asgS b | .asg i _ => [i] | .par ts _ => ts | .unp tg _ => tgs tg | .unpI _ _ ts _ => tgsL ts | .aug i _ _ => [i]
  | .ife _ a b => asgS a ++ asgS b | .whl _ b _ => asgS b | .fore tg _ b _ => tgs tg ++ asgS b | .tryx b _ i _ => i :: asgS b
  | _ => []
section
variable (K : PySem.W.Frag) (N : Nm) (W : WX)
/-- a later place -/
def Nxt (own : Addr → Own) (σ : L2.St) (H : Hp) (A : List Nat) (own' : Addr → Own) (σ' : L2.St) (H' : Hp) : Prop := KpF own H own' H' ∧ Agr A σ σ' ∧ σ'.length = σ.length
def PostS (r : R (Ev.Flow × Env)) (own : Addr → Own) (σ : L2.St) (H : Hp) (A : List Nat) (Z : Ends) : Prop := match r with
  | .ok (.nx, ρ') => ∀ own' σ' H', Nxt own σ H A own' σ' H' → EnvOk K N own' σ' H' ρ' 0 → Z.nx σ' H'
  | .ok (.bk, ρ') => ∀ own' σ' H', Nxt own σ H A own' σ' H' → EnvOk K N own' σ' H' ρ' 0 → Z.bk σ' H'
  | .ok (.ct, ρ') => ∀ own' σ' H', Nxt own σ H A own' σ' H' → EnvOk K N own' σ' H' ρ' 0 → Z.ct σ' H'
  | .ok (.rt d, ρ') => ∀ own' σ' H' v F, Nxt own σ H A own' σ' H' → EnvOk K N own' σ' H' ρ' 1 → Rep K N H' own' (.tp 0) d v F → F.Nodup → Z.rt v H'
  | .exn c p => ∀ own' σ' H' dx fs vp, Nxt own σ H A own' σ' H' → H' dx = some (.xd fs) → fs.lookup ("place" : Str) = some vp → Rep K N H' own' .fz p vp [] → W (.ref (N.xc c)) (some dx) σ' H'
  | .bad => False
def tSt (g : G) (st : S) : TS := fun Z σ H => ∃ own ρ, EnvOk K N own σ H ρ 0 ∧ PostS K N W (exec g st ρ) own σ H (asgS st) Z
end
section
variable {K : PySem.W.Frag} {N : Nm} {W : WX} {g : G} {σ σ1 σ2 : L2.St} {H H1 H2 : Hp} {own own1 own2 : Addr → Own} {ρ ρ1 : Env} {A A1 A2 : List Nat} {Z : Ends}
theorem Nxt.refl : Nxt own σ H A own σ H := ⟨KpF.refl, Agr.refl, rfl⟩
theorem Nxt.trans (a : Nxt own σ H A1 own1 σ1 H1) (b : Nxt own1 σ1 H1 A2 own2 σ2 H2) (s1 : ∀ i ∈ A1, i ∈ A) (s2 : ∀ i ∈ A2, i ∈ A) : Nxt own σ H A own2 σ2 H2 :=
  ⟨a.1.trans b.1, fun k hk => (b.2.1 k fun z => hk (s2 k z)).trans (a.2.1 k fun z => hk (s1 k z)), b.2.2.trans a.2.2⟩
theorem Nxt.kp {M : List Nat} (k : Kp M own H own1 H1) : Nxt own σ H [] own1 σ H1 := ⟨k.f, Agr.refl, rfl⟩
theorem PostS.later {r : R (Ev.Flow × Env)} (h : PostS K N W r own σ H A Z) (n : Nxt own σ H A1 own1 σ1 H1) (s1 : ∀ i ∈ A1, i ∈ A) (s2 : ∀ i ∈ A2, i ∈ A) : PostS K N W r own1 σ1 H1 A2 Z := by
  unfold PostS at h ⊢
  split at h
  · exact fun own' σ' H' q => h own' σ' H' (n.trans q s1 s2)
  · exact fun own' σ' H' q => h own' σ' H' (n.trans q s1 s2)
  · exact fun own' σ' H' q => h own' σ' H' (n.trans q s1 s2)
  · exact fun own' σ' H' v F q => h own' σ' H' v F (n.trans q s1 s2)
  · exact fun own' σ' H' dx fs vp q => h own' σ' H' dx fs vp (n.trans q s1 s2)
  · exact h
/-- an expression's error is the statement's -/
theorem exn_of {c : Nat} {p : D} (h : PostS K N W (.exn c p : R (Ev.Flow × Env)) own σ H A Z) : PostX K N W own σ H c p := fun own' H' dx fs vp kf => h own' σ H' dx fs vp ⟨kf, Agr.refl, rfl⟩
/-- all that is on the way is let go -/
theorem cut0 {t : Nat} (env : EnvOk K N own σ H ρ t) : EnvOk K N (cutO own 0) σ H ρ 0 := env.cut 0
theorem cut_f {t : Nat} : KpF own H (cutO own t) H := fun a o h z => ⟨h, cutO_of fun k q => by rcases z with z | z <;> (rw [z] at q; cases q)⟩
theorem toS_f {r : Nat} : KpF own H (toS r own) H := fun a o h z => ⟨h, toS_of fun k q => by rcases z with z | z <;> (rw [z] at q; cases q)⟩
theorem toS_env {t r : Nat} (env : EnvOk K N own σ H ρ t) : EnvOk K N (toS r own) σ H ρ 0 :=
  env.move (fun a k h => absurd h toS_nt) toS_f fun a o i h z _ => ⟨h, (toS_of fun k q => by rw [z] at q; cases q).trans z⟩
theorem s_seq {a b : S} (h : tSt K N W g (.seq a b) Z σ H) : tSeq (tSt K N W g a) (tSt K N W g b) Z σ H := by
  obtain ⟨own, ρ, env, post⟩ := h
  refine ⟨own, ρ, env, ?_⟩
  simp only [exec] at post
  cases h1 : exec g a ρ with
  | bad => rw [h1] at post; exact post.elim
  | exn c p => rw [h1] at post; exact fun own' σ' H' dx fs vp q => post own' σ' H' dx fs vp (Nxt.refl.trans q (A := asgS (.seq a b)) (A1 := []) (fun i hi => nomatch hi) fun i hi => List.mem_append_left _ hi)
  | ok r =>
    obtain ⟨fl, ρ1⟩ := r
    rw [h1] at post
    cases fl with
    | nx => exact fun own' σ' H' n env' => ⟨own', ρ1, env', PostS.later post n (fun i hi => List.mem_append_left _ hi) fun i hi => List.mem_append_right _ hi⟩
    | bk => exact fun own' σ' H' q => post own' σ' H' (Nxt.refl.trans q (A := asgS (.seq a b)) (A1 := []) (fun i hi => nomatch hi) fun i hi => List.mem_append_left _ hi)
    | ct => exact fun own' σ' H' q => post own' σ' H' (Nxt.refl.trans q (A := asgS (.seq a b)) (A1 := []) (fun i hi => nomatch hi) fun i hi => List.mem_append_left _ hi)
    | rt d => exact fun own' σ' H' v F q => post own' σ' H' v F (Nxt.refl.trans q (A := asgS (.seq a b)) (A1 := []) (fun i hi => nomatch hi) fun i hi => List.mem_append_left _ hi)
theorem s_skip (h : tSt K N W g .skip Z σ H) : tNext Z σ H := by
  obtain ⟨own, ρ, env, post⟩ := h
  exact post own σ H Nxt.refl env
theorem s_brk (h : tSt K N W g .brk Z σ H) : tBreak Z σ H := by
  obtain ⟨own, ρ, env, post⟩ := h
  exact post own σ H Nxt.refl env
theorem s_cnt (h : tSt K N W g .cnt Z σ H) : tCont Z σ H := by
  obtain ⟨own, ρ, env, post⟩ := h
  exact post own σ H Nxt.refl env
theorem s_retN (h : tSt K N W g .retN Z σ H) : tRetN Z σ H := by
  obtain ⟨own, ρ, env, post⟩ := h
  exact post own σ H .non [] Nxt.refl (env.up (by omega)) ⟨rfl, rfl⟩ List.nodup_nil
/-- an expression, then the rest -/
theorem s_exp {e : E} {vw : Bool} {f : D × Env → R (Ev.Flow × Env)} {Q : VK} (env : EnvOk K N own σ H ρ 0) (post : PostS K N W ((ev g e vw ρ).bind f) own σ H A Z)
    (go : ∀ d ρ1 own1 H1 v F, Kp (tch e) own H own1 H1 → EnvOk K N own1 σ H1 ρ1 1 → Rep K N H1 own1 (tagOf e 0) d v F → (vw = false → Rep K N H1 own1 (.tp 0) d v F) → F.Nodup → PostS K N W (f (d, ρ1)) own1 σ H1 A Z → Q v H1) : tE K N W g e vw σ H Q := by
  refine ⟨own, ρ, 0, env, ?_⟩
  cases h1 : ev g e vw ρ with
  | bad => rw [h1] at post; exact post.elim
  | exn c p => rw [h1] at post; exact exn_of post
  | ok r =>
    obtain ⟨d, ρ1⟩ := r
    rw [h1] at post
    intro own1 H1 v F kp env1 rep nd
    exact go d ρ1 own1 H1 v F kp env1 rep (fun z => by subst z; exact rep.way h1) nd (PostS.later post (Nxt.kp kp) (fun i hi => nomatch hi) fun i hi => hi)
theorem s_asg {i : Nat} {e : E} (h : tSt K N W g (.asg i e) Z σ H) : tAsg (tE K N W g e false) (gName i) Z σ H := by
  obtain ⟨own, ρ, env, post⟩ := h
  refine s_exp env post fun d ρ1 own1 H1 v F kp env1 _ rep nd post => ?_
  dsimp only at post
  cases hi : decide (i < ρ1.length) with
  | false => rw [hi] at post; exact post.elim
  | true =>
    rw [hi] at post
    refine post (toS i own1) _ H1 ⟨toS_f, fun k hk => ?_, List.length_set⟩ ((toS_env env1).set (of_decide_eq_true hi) (Rep.carry toS_f d (rep rfl) fun a ha o ho => ⟨ho, toS_tp (Rep.owned d (rep rfl) a ha).1⟩) nd)
    exact List.getElem?_set_ne fun z => hk (by subst z; exact List.mem_singleton.mpr rfl)
theorem s_unp {tg : Tg} {e : E} (h : tSt K N W g (.unp tg e) Z σ H) : tAsg (tE K N W g e true) (gT K tg) Z σ H := by
  obtain ⟨own, ρ, env, post⟩ := h
  refine s_exp env post fun d ρ1 own1 H1 v F kp env1 rep _ nd post => ?_
  dsimp only at post
  cases hb : bindT tg d ρ1 with
  | none => rw [hb] at post; exact post.elim
  | some ρ2 =>
    rw [hb] at post
    have post : ∀ own' σ' H', Nxt own1 σ H1 (tgs tg) own' σ' H' → EnvOk K N own' σ' H' ρ2 0 → Z.nx σ' H' := post
    refine bind_ok tg hb env1 rep fun σ' env2 ag => post (cutO own1 0) σ' H1 ⟨cut_f, ag, ?_⟩ (cut0 env2)
    rw [env2.len, bindT_length tg hb, ← env1.len]
theorem s_ret {e : E} (h : tSt K N W g (.ret e) Z σ H) : tRet (tE K N W g e false) Z σ H := by
  obtain ⟨own, ρ, env, post⟩ := h
  exact s_exp env post fun d ρ1 own1 H1 v F kp env1 _ rep nd post => post own1 σ H1 v F Nxt.refl env1 (rep rfl) nd
theorem s_drop {e : E} (h : tSt K N W g (.drop e) Z σ H) : tDrop (tE K N W g e false) Z σ H := by
  obtain ⟨own, ρ, env, post⟩ := h
  exact s_exp env post fun d ρ1 own1 H1 v F kp env1 _ rep nd post => post (cutO own1 0) σ H1 ⟨cut_f, Agr.refl, rfl⟩ (cut0 env1)
theorem PostS.mono {r : R (Ev.Flow × Env)} (h : PostS K N W r own σ H A Z) (s2 : ∀ i ∈ A2, i ∈ A) : PostS K N W r own σ H A2 Z := PostS.later (A1 := []) h Nxt.refl (fun i hi => nomatch hi) s2
/-- a test, then the rest -/
theorem s_tst {e : E} {f : Bool × Env → R (Ev.Flow × Env)} {Q : Bool → Hp → Prop} (env : EnvOk K N own σ H ρ 0) (post : PostS K N W (((ev g e true ρ).bind tBl).bind f) own σ H A Z)
    (go : ∀ b ρ1 own1 H1, EnvOk K N own1 σ H1 ρ1 0 → PostS K N W (f (b, ρ1)) own1 σ H1 A Z → Q b H1) : tT K N W g e σ H Q := by
  refine ⟨own, ρ, 0, env, ?_⟩
  cases h1 : (ev g e true ρ).bind tBl with
  | bad => rw [h1] at post; exact post.elim
  | exn c p => rw [h1] at post; exact exn_of post
  | ok r =>
    obtain ⟨d, ρ1⟩ := r
    rw [h1] at post
    intro own1 H1 kp env1
    exact go d ρ1 (cutO own1 0) H1 (cut0 env1) (PostS.later post ⟨kp.f.trans cut_f, Agr.refl (A := []), rfl⟩ (fun i hi => nomatch hi) fun i hi => hi)
theorem s_ife {c : E} {a b : S} (h : tSt K N W g (.ife c a b) Z σ H) : tIfS (tT K N W g c) (tSt K N W g a) (tSt K N W g b) Z σ H := by
  obtain ⟨own, ρ, env, post⟩ := h
  simp only [exec] at post
  refine s_tst env post fun t ρ1 own1 H1 env1 post => ?_
  cases t with
  | true => exact ⟨own1, ρ1, env1, PostS.mono post fun i hi => List.mem_append_left _ hi⟩
  | false => exact ⟨own1, ρ1, env1, PostS.mono post fun i hi => List.mem_append_right _ hi⟩
theorem s_whl {c : E} {b : S} {w : List Nat} (h : tSt K N W g (.whl c b w) Z σ H) : tWhile (tT K N W g c) (tSt K N W g b) Z σ H := by
  obtain ⟨own, ρ, env, post⟩ := h
  simp only [exec] at post
  refine ⟨fun m σ H => ∃ own ρ, EnvOk K N own σ H ρ 0 ∧ PostS K N W (whlL (fun ρ1 => (ev g c true ρ1).bind tBl) (exec g b) w m ρ) own σ H (asgS b) Z, ⟨FUEL, own, ρ, env, post⟩, ?_⟩
  rintro m σ H ⟨own, ρ, env, post⟩
  cases m with
  | zero => exact post.elim
  | succ m =>
    simp only [whlL] at post
    refine s_tst env post fun t ρ1 own1 H1 env1 post => ?_
    cases t with
    | false => exact post own1 σ H1 Nxt.refl env1
    | true =>
      simp only [if_true]
      refine ⟨_, fun σ' H' q => ⟨m, Nat.lt_succ_self m, q⟩, own1, ρ1, env1, ?_⟩
      cases h1 : exec g b ρ1 with
      | bad => rw [h1] at post; exact post.elim
      | exn c p => rw [h1] at post; exact post
      | ok r =>
        obtain ⟨fl, ρ2⟩ := r
        rw [h1] at post
        cases fl with
        | nx => exact fun own' σ' H' n env' => ⟨own', wipeE ρ2 w, env'.wipe w, PostS.later post n (fun i hi => hi) fun i hi => hi⟩
        | ct => exact fun own' σ' H' n env' => ⟨own', wipeE ρ2 w, env'.wipe w, PostS.later post n (fun i hi => hi) fun i hi => hi⟩
        | bk => exact fun own' σ' H' n env' => post own' σ' H' n (env'.wipe w)
        | rt d => exact post
theorem s_fore {tg : Tg} {it : It} {b : S} {w : List Nat} (h : tSt K N W g (.fore tg it b w) Z σ H) : tFor (tI K N W g it) (gT K tg) (tSt K N W g b) Z σ H := by
  obtain ⟨own, ρ, env, post⟩ := h
  simp only [exec] at post
  refine ⟨own, ρ, 0, env, ?_⟩
  cases h1 : evI g it ρ with
  | bad => rw [h1] at post; exact post.elim
  | exn c p => rw [h1] at post; exact exn_of post
  | ok r =>
    obtain ⟨xs, ρ1⟩ := r
    rw [h1] at post
    dsimp only [R.bind] at post
    intro own1 H1 J vs kp env1 src reps
    have post : PostS K N W (forL (fun d ρ2 => match bindT tg d ρ2 with | some ρ3 => exec g b ρ3 | none => .bad) w xs ρ1) own1 σ H1 (tgs tg ++ asgS b) Z := PostS.later post (Nxt.kp kp) (fun i hi => nomatch hi) fun i hi => hi
    refine ⟨fun i m σ' H' => ∃ own' ρ', m = xs.length - i ∧ KpF own1 H1 own' H' ∧ EnvOk K N own' σ' H' ρ' 0 ∧ PostS K N W (forL (fun d ρ2 => match bindT tg d ρ2 with | some ρ3 => exec g b ρ3 | none => .bad) w (xs.drop i) ρ') own' σ' H' (tgs tg ++ asgS b) Z, ⟨xs.length, own1, ρ1, by simp, KpF.refl, env1, post⟩, ?_⟩
    rintro i m σ' H' ⟨own', ρ', rfl, kf, env', post'⟩
    obtain ⟨s1, s2⟩ := src own' H' kf
    by_cases hi : i < xs.length
    · right
      obtain ⟨x, hx⟩ : ∃ x, xs[i]? = some x := ⟨_, List.getElem?_eq_getElem hi⟩
      obtain ⟨v, F', hv, rv, _, _⟩ := reps.get hx
      obtain ⟨g1, g2⟩ := s1 i v hv
      refine ⟨g1, _, fun σ2 H2 q => ⟨xs.length - (i + 1), by omega, q⟩, fun y H3 hy => ?_⟩
      obtain ⟨rfl, rfl⟩ := g2 y H3 hy
      rw [List.drop_eq_getElem_cons hi] at post'
      have ex : xs[i] = x := by rw [List.getElem?_eq_getElem hi] at hx; exact Option.some.inj hx
      rw [ex] at post'
      simp only [forL] at post'
      cases hb : bindT tg x ρ' with
      | none => rw [hb] at post'; exact post'.elim
      | some ρ2 =>
        rw [hb] at post'
        dsimp only at post'
        have rv2 : Rep K N H3 own' .fz x y F' := Rep.carry kf x rv fun a ha o ho => (kf a o ho (.inl (Rep.owned x rv a ha).1)).imp id fun q => q.trans (Rep.owned x rv a ha).1
        refine bind_ok tg hb env' rv2 fun σ2 env2 ag => ⟨own', ρ2, env2, ?_⟩
        have n0 : Nxt own' σ' H3 (tgs tg) own' σ2 H3 := ⟨KpF.refl, ag, by rw [env2.len, bindT_length tg hb, ← env'.len]⟩
        cases h2 : exec g b ρ2 with
        | bad => rw [h2] at post'; exact post'.elim
        | exn c p => rw [h2] at post'; exact fun own3 σ3 H3' dx fs vp q => post' own3 σ3 H3' dx fs vp (n0.trans q (fun i hi => List.mem_append_left _ hi) fun i hi => List.mem_append_right _ hi)
        | ok r =>
          obtain ⟨fl, ρ3⟩ := r
          rw [h2] at post'
          have more : ∀ own3 σ3 H4, Nxt own' σ2 H3 (asgS b) own3 σ3 H4 → EnvOk K N own3 σ3 H4 ρ3 0 → Nxt own' σ' H3 (tgs tg ++ asgS b) own3 σ3 H4 := fun own3 σ3 H4 n _ => n0.trans n (fun i hi => List.mem_append_left _ hi) fun i hi => List.mem_append_right _ hi
          cases fl with
          | nx => exact fun own3 σ3 H4 n env3 => ⟨own3, wipeE ρ3 w, rfl, kf.trans n.1, env3.wipe w, PostS.later post' (more own3 σ3 H4 n env3) (fun i hi => hi) fun i hi => hi⟩
          | ct => exact fun own3 σ3 H4 n env3 => ⟨own3, wipeE ρ3 w, rfl, kf.trans n.1, env3.wipe w, PostS.later post' (more own3 σ3 H4 n env3) (fun i hi => hi) fun i hi => hi⟩
          | bk => exact fun own3 σ3 H4 n env3 => post' own3 σ3 H4 (more own3 σ3 H4 n env3) (env3.wipe w)
          | rt d => exact fun own3 σ3 H4 v F n env3 => post' own3 σ3 H4 v F (n0.trans n (fun i hi => List.mem_append_left _ hi) fun i hi => List.mem_append_right _ hi) env3
    · left
      have hl : vs.length = xs.length := reps.length
      refine ⟨s2 i (by omega), ?_⟩
      rw [List.drop_eq_nil_of_le (by omega)] at post'
      exact post' own' σ' H' Nxt.refl env'
end
end Ev

/-! Statements that write at paths. -/
namespace Ev
open PySem PySem.Spec PyProof.Rows L2
section
variable {K : PySem.W.Frag} {N : Nm} {W : WX} {g : G} {σ σ1 σ2 : L2.St} {H H1 H2 : Hp} {own own1 own2 : Addr → Own} {ρ ρ1 : Env} {A A1 A2 : List Nat} {Z : Ends} {r t : Nat}
theorem AtP.keepS (k : ∀ a o, H a = some o → own a = .sl r → H2 a = some o ∧ own2 a = .sl r) : ∀ {as : List Acc} {v w : V}, AtP N r own H as v w → AtP N r own2 H2 as v w
  | [], v, w, h => h
  | .f n :: as, v, w, h => by
    obtain ⟨a, c, dx, fs, x, rfl, e1, e3, e2, h⟩ := h
    obtain ⟨z1, z2⟩ := k a _ e1 e3
    exact ⟨a, c, dx, fs, x, rfl, z1, z2, e2, h.keepS k⟩
  | .i j :: as, v, w, h => by
    obtain ⟨a, vs, x, rfl, e1, e3, e2, h⟩ := h
    obtain ⟨z1, z2⟩ := k a _ e1 e3
    exact ⟨a, vs, x, rfl, z1, z2, e2, h.keepS k⟩
/-- what is written stands at the path's end -/
theorem upd_at {f : D → Option D} (inj : ∀ a b, N.fld a = N.fld b → a = b) : ∀ {as : List Acc} {d d' : D} {v w : V} {F : List Addr}, Rep K N H own (.sl r) d v F → updA as f d = some d' → AtP N r own H as v w → ∃ x G x', Rep K N H own (.sl r) x w G ∧ f x = some x'
  | [], d, d', v, w, F, h, e, at_ => by
    cases (show v = w from at_)
    exact ⟨d, F, d', h, e⟩
  | .i j :: as, d, d', v, w, F, h, e, at_ => by
    cases d <;> first | (simp [updA] at e; done) | skip
    rename_i o xs
    cases o <;> first | (simp [updA] at e; done) | skip
    unfold updA at e
    cases hx : xs[j]? with
    | none => rw [hx] at e; cases e
    | some x =>
      rw [hx] at e
      dsimp only at e
      cases hy : updA as f x with
      | none => rw [hy] at e; cases e
      | some y =>
        obtain ⟨a, vs, F', rfl, ha, ho, rfl, hr⟩ := h
        obtain ⟨a', vs', u, e0, e1, _, e2, at_⟩ := at_
        cases e0
        rw [ha] at e1
        cases e1
        obtain ⟨u', Fx, q1, q2, q3, q4⟩ := hr.get hx
        rw [e2] at q1
        cases q1
        exact upd_at inj q2 hy at_
  | .f m :: as, d, d', v, w, F, h, e, at_ => by
    cases d <;> first | (simp [updA] at e; done) | skip
    rename_i o c ks xs
    cases o <;> first | (simp [updA] at e; done) | skip
    unfold updA at e
    cases hj : fldIx ks m with
    | none => rw [hj] at e; cases e
    | some j =>
      rw [hj] at e
      dsimp only at e
      cases hx : xs[j]? with
      | none => rw [hx] at e; cases e
      | some x =>
        rw [hx] at e
        dsimp only at e
        cases hy : updA as f x with
        | none => rw [hy] at e; cases e
        | some y =>
          obtain ⟨a, dx, fs, F', rfl, ha, ho, rfl, hk, hr⟩ := h
          obtain ⟨a', c', dx', fs', u, e0, e1, _, e2, at_⟩ := at_
          cases e0
          rw [ha] at e1
          simp only [Option.some.injEq, HO.ins.injEq] at e1
          obtain ⟨_, _, rfl⟩ := e1
          rw [look_ix inj hk hj] at e2
          obtain ⟨u', Fx, q1, q2, q3, q4⟩ := hr.get hx
          rw [e2] at q1
          cases q1
          exact upd_at inj q2 hy at_
theorem updP_at {f : D → Option D} {as : List Acc} {ρ' : Env} {v0 w : V} (inj : ∀ a b, N.fld a = N.fld b → a = b) (env : EnvOk K N own σ H ρ t) (hu : updP ρ r as f = some ρ') (hs : σ[r]? = some (some v0)) (at_ : AtP N r own H as v0 w) :
    ∃ x G x', Rep K N H own (.sl r) x w G ∧ f x = some x' := by
  unfold updP at hu
  cases h1 : getS ρ r with
  | none => rw [h1] at hu; cases hu
  | some d =>
    rw [h1] at hu
    dsimp only at hu
    cases h2 : updA as f d with
    | none => rw [h2] at hu; cases hu
    | some d' =>
      obtain ⟨v, F, e1, rep, nd⟩ := env.sl r d h1
      rw [hs] at e1
      cases e1
      exact upd_at inj rep h2 at_
/-- from t on let go: what stands at 0 stays -/
theorem cut1 {d : D} {v : V} {F : List Addr} (r : Rep K N H own (.tp 0) d v F) : Rep K N H (cutO own 1) (.tp 0) d v F :=
  Rep.carry cut_f d r fun a ha o ho => ⟨ho, (cutO_of fun k q => by rw [(Rep.owned d r a ha).1] at q; cases q; omega).trans (Rep.owned d r a ha).1⟩
theorem cutO_sl {a : Addr} {i k : Nat} (h : own a = .sl i) : cutO own k a = .sl i := (cutO_of fun k q => by rw [h] at q; cases q).trans h
/-- the write at a list, the value on the way -/
theorem write_at {f : D → Option D} {as : List Acc} {ρ' : Env} {b : Addr} {o' : HO} {v0 : V} (inj : ∀ a b, N.fld a = N.fld b → a = b) (env : EnvOk K N own σ H ρ 1) (ob : own b = .sl r) (leaf : Leaf K N b r own (toS r own) H (upd H b o') f)
    (hu : updP ρ r as f = some ρ') (hs : σ[r]? = some (some v0)) (at_ : AtP N r own H as v0 (.ref b)) : EnvOk K N (toS r own) σ (upd H b o') ρ' 0 ∧ KpF own H (toS r own) (upd H b o') :=
  ⟨upd_env inj env (put_of ob) (fun a k => toS_nt) leaf hu hs at_, (put_of ob).kf⟩
theorem s_setI {p i e : E} (inj : ∀ a b, N.fld a = N.fld b → a = b) (nf : Nat) (cl : ∀ c, Cls K (N.cls c)) (na : ∀ c f, f < nf → NoAttr K (N.cls c) (N.fld f)) (fl : ∀ f ∈ pflds p, f < nf) (h : tSt K N W g (.setI p i e) Z σ H) :
    tAsg (tE K N W g e false) (gSub (tPath K N W g p) (tE K N W g i true) rSetL) Z σ H := by
  obtain ⟨own, ρ, env, post⟩ := h
  simp only [exec] at post
  refine s_exp env post fun d ρ1 own1 H1 v F kp env1 _ rep nd post => ?_
  have rep := rep rfl
  dsimp only at post
  cases hc : (simp i && isPath p) with
  | false => rw [hc] at post; exact post.elim
  | true =>
    rw [hc] at post
    dsimp only [R.guard] at post
    simp only [Bool.and_eq_true] at hc
    split at post
    · rename_i r as x k ρx hr hi
      split at post
      · rename_i ρ2 hu
        obtain ⟨v0, w, G, e1, at_, _, _⟩ := path_at inj env1 hr
        refine path_pe inj nf cl na (path_of hc.2) hr fl env1 e1 at_ fun own2 H2 t2 kp2 env2 ht => ⟨own2, ρ1, t2, env2, ?_⟩
        rw [hi]
        intro own3 H3 kv F3 kp3 env3 rep3 _
        have z := simp_env hc.1 hi
        subst z
        rw [simp_tch hc.1] at kp3
        have kp13 : Kp [] own1 H1 own3 H3 := (kp2.trans kp3).mono fun i hi => by simpa using hi
        have env4 := env3.cut 1
        have at3 : AtP N r own3 H3 as v0 w := AtP.keep kp13 (by simp) at_
        have at4 : AtP N r (cutO own3 1) H3 as v0 w := AtP.keepS (fun a o h1 h2 => ⟨h1, cutO_sl h2⟩) at3
        obtain ⟨x1, G1, x1', rx, ex⟩ := updP_at inj env4 hu e1 at4
        have rd : Rep K N H3 (cutO own3 1) (.tp 0) d v F := cut1 (rep.keep kp13 fun i hi => nomatch hi)
        cases x1 <;> first | (simp [putI] at ex; done) | skip
        rename_i o xs
        cases o <;> first | (simp [putI] at ex; done) | skip
        cases k <;> first | (simp [putI] at ex; done) | skip
        rename_i k
        simp only [putI] at ex
        cases rep3.1
        obtain ⟨b, vs, F', rfl, hb, ob, _, hrs⟩ := rx
        split at ex
        · rename_i j hj
          rw [← hrs.length] at hj
          obtain ⟨env5, kf5⟩ := write_at inj env4 ob (leaf_putI hb ob rd nd hj) hu e1 at4
          refine ⟨b, vs, k, j, rfl, rfl, hb, hj, post _ σ _ ⟨(kp13.f.trans cut_f).trans kf5, Agr.refl, rfl⟩ env5⟩
        · cases ex
      · exact post.elim
    · exact post.elim
theorem s_setF {p e : E} {f : Nat} (inj : ∀ a b, N.fld a = N.fld b → a = b) (nf : Nat) (cl : ∀ c, Cls K (N.cls c)) (na : ∀ c f, f < nf → NoAttr K (N.cls c) (N.fld f)) (fl : ∀ f ∈ pflds p, f < nf) (hf : f < nf) (h : tSt K N W g (.setF p f e) Z σ H) :
    sFld K (tPath K N W g p) (tE K N W g e false) (N.fld f) Z σ H := by
  obtain ⟨own, ρ, env, post⟩ := h
  simp only [exec] at post
  refine s_exp env post fun d ρ1 own1 H1 v F kp env1 _ rep nd post => ?_
  have rep := rep rfl
  dsimp only at post
  cases hc : isPath p with
  | false => rw [hc] at post; exact post.elim
  | true =>
    rw [hc] at post
    dsimp only [R.guard] at post
    split at post
    · rename_i r as x hr
      split at post
      · rename_i ρ2 hu
        obtain ⟨v0, w, G, e1, at_, _, _⟩ := path_at inj env1 hr
        refine path_pe inj nf cl na (path_of hc) hr fl env1 e1 at_ fun own2 H2 t2 kp2 env2 ht => ?_
        have env4 := env2.cut 1
        have at4 : AtP N r (cutO own2 1) H2 as v0 w := AtP.keepS (fun a o h1 h2 => ⟨h1, cutO_sl h2⟩) (AtP.keep kp2 (by simp) at_)
        obtain ⟨x1, G1, x1', rx, ex⟩ := updP_at inj env4 hu e1 at4
        have rd : Rep K N H2 (cutO own2 1) (.tp 0) d v F := cut1 (rep.keep kp2 fun i hi => nomatch hi)
        cases x1 <;> first | (simp [putF] at ex; done) | skip
        rename_i o c ks xs
        cases o <;> first | (simp [putF] at ex; done) | skip
        simp only [putF] at ex
        obtain ⟨b, dx, fs, F', rfl, hb, ob, _, hk, hrs⟩ := rx
        split at ex
        · rename_i hl
          obtain ⟨env5, kf5⟩ := write_at inj env4 ob (leaf_putF (f := f) inj hb ob rd nd) hu e1 at4
          have e2 := congrArg List.length hk
          simp only [List.length_map] at e2
          exact ⟨b, N.cls c, dx, fs, rfl, hb, cl c, na c f hf, by omega, post _ σ _ ⟨(kp2.f.trans cut_f).trans kf5, Agr.refl, rfl⟩ env5⟩
        · cases ex
      · exact post.elim
    · exact post.elim
/-- the reading of p.append(e) -/
theorem s_app {p e : E} (inj : ∀ a b, N.fld a = N.fld b → a = b) (nf : Nat) (cl : ∀ c, Cls K (N.cls c)) (na : ∀ c f, f < nf → NoAttr K (N.cls c) (N.fld f)) (fl : ∀ f ∈ pflds p, f < nf) (h : tSt K N W g (.app p e) Z σ H) :
    tDrop (tBM K "list" rAppend (tPath K N W g p) (tCons (tE K N W g e false) tNil)) Z σ H := by
  have le := line_eq
  obtain ⟨own, ρ, env, post⟩ := h
  simp only [exec] at post
  cases hc : (isPath p && !(tch e).contains (root p)) with
  | false => rw [hc] at post; exact post.elim
  | true =>
    rw [hc] at post
    dsimp only [R.guard] at post
    simp only [Bool.and_eq_true, Bool.not_eq_true'] at hc
    split at post
    · rename_i r as xs0 hr
      obtain ⟨v0, w, G, e1, at_, rx0, hroot⟩ := path_at inj env hr
      have hn : r ∉ tch e := fun z => by
        have := List.contains_iff_mem.mpr z
        rw [hroot] at this
        rw [hc.2] at this
        cases this
      refine path_pe inj nf cl na (path_of hc.1) hr fl env e1 at_ fun own2 H2 t2 kp2 env2 ht => ?_
      have env2' := cut0 env2
      have at2 : AtP N r (cutO own2 0) H2 as v0 w := AtP.keepS (fun a o h1 h2 => ⟨h1, cutO_sl h2⟩) (AtP.keep kp2 (by simp) at_)
      have post2 := PostS.later post (own1 := cutO own2 0) (σ1 := σ) (H1 := H2) (A1 := []) (A2 := []) ⟨kp2.f.trans cut_f, Agr.refl, rfl⟩ (fun i hi => nomatch hi) (fun i hi => nomatch hi)
      -- the list is a list
      have ty : tyV K "list" w H2 ∧ tE K N W g e false σ H2 fun y H3 => rAppend w [y] H3 fun _ H4 => Z.nx σ H4 := by
        constructor
        · obtain ⟨b, vs, F', rfl, hb, _⟩ := rx0
          exact .inl ⟨rfl, vs, .inl (.inl (kp2 b _ hb fun i hi => nomatch hi).1)⟩
        · refine s_exp env2' post2 fun d ρ1 own3 H3 v F kp3 env3 _ rep nd post3 => ?_
          have rep := rep rfl
          dsimp only at post3
          split at post3
          · rename_i ρ2 hu
            have at3 : AtP N r own3 H3 as v0 w := AtP.keep kp3 hn at2
            obtain ⟨x1, G1, x1', rx, ex⟩ := updP_at inj env3 hu e1 at3
            cases x1 <;> first | (simp [putA] at ex; done) | skip
            rename_i o xs
            cases o <;> first | (simp [putA] at ex; done) | skip
            simp only [putA] at ex
            obtain ⟨b, vs, F', rfl, hb, ob, _, hrs⟩ := rx
            split at ex
            · rename_i hl
              obtain ⟨env5, kf5⟩ := write_at inj env3 ob (leaf_putA hb ob rep nd) hu e1 at3
              exact ⟨b, vs, v, rfl, rfl, hb, by rw [hrs.length, ← le]; exact hl, post3 _ σ _ ⟨kf5, Agr.refl, rfl⟩ env5⟩
            · cases ex
          · exact post3.elim
      exact ⟨ty.1, ty.2⟩
    · exact post.elim
end
end Ev

/-! More statements: stores side by side, stores with an operator, raise, try. -/
namespace Ev
open PySem PySem.Spec PyProof.Rows L2
section
variable {K : PySem.W.Frag} {N : Nm} {W : WX} {g : G} {σ σ1 σ2 : L2.St} {H H1 H2 : Hp} {own own1 own2 : Addr → Own} {ρ ρ1 : Env} {A A1 A2 : List Nat} {Z : Ends} {r t : Nat}
/-! ### a, b = x, y -/
def setV : List Nat → List V → L2.St → L2.St
  | i :: is, v :: vs, σ => setV is vs (σ.set i (some v))
  | _, _, σ => σ
def tParN (ts : List Nat) (ta : TA) : TS := fun D σ H => ta σ H fun vs H1 => vs.length = ts.length ∧ D.nx (setV ts vs σ) H1
/-- each value on the way to its slot -/
def parO (ts : List Nat) (own : Addr → Own) : Addr → Own := fun a => match own a with | .tp k => (match ts[k]? with | some i => .sl i | none => .fz) | o => o
theorem parO_of {ts : List Nat} {a : Addr} (h : ∀ k, own a ≠ .tp k) : parO ts own a = own a := by
  unfold parO
  split
  · rename_i k e; exact absurd e (h k)
  · rfl
theorem parO_tp {ts : List Nat} {a : Addr} {k i : Nat} (h : own a = .tp k) (hi : ts[k]? = some i) : parO ts own a = .sl i := by unfold parO; rw [h]; dsimp only; rw [hi]
theorem parO_nt {ts : List Nat} {a : Addr} {k : Nat} : parO ts own a ≠ .tp k := by
  unfold parO
  split
  · split <;> exact fun z => by cases z
  · rename_i h; exact h k
theorem parO_f {ts : List Nat} : KpF own H (parO ts own) H := fun a o h z => ⟨h, parO_of fun k q => by rcases z with z | z <;> (rw [z] at q; cases q)⟩
theorem set_all {ts0 : List Nat} : ∀ {ts : List Nat} {ds : List D} {vs : List V} {k : Nat} {ρ ρ' : Env} {σ : L2.St}, (∀ j i, ts[j]? = some i → ts0[k + j]? = some i) → EnvOk K N (parO ts0 own) σ H ρ 0 → ArgsR K N H own k ds vs → setAll ts ds ρ = some ρ' →
    EnvOk K N (parO ts0 own) (setV ts vs σ) H ρ' 0 ∧ Agr ts σ (setV ts vs σ) ∧ (setV ts vs σ).length = σ.length ∧ vs.length = ts.length
  | [], ds, vs, k, ρ, ρ', σ, hk, env, args, h => by
    cases ds with
    | cons d ds => simp [setAll] at h
    | nil =>
      cases h
      cases (show vs = [] from args)
      exact ⟨env, Agr.refl, rfl, rfl⟩
  | i :: is, ds, vs, k, ρ, ρ', σ, hk, env, args, h => by
    cases ds with
    | nil => simp [setAll] at h
    | cons d ds =>
      simp only [setAll] at h
      split at h
      · rename_i hi
        obtain ⟨v, vs', F, rfl, rep, nd, args'⟩ := args
        have h0 : ts0[k]? = some i := hk 0 i rfl
        have rep' : Rep K N H (parO ts0 own) (.sl i) d v F := Rep.carry parO_f d rep fun a ha o ho => ⟨ho, parO_tp (Rep.owned d rep a ha).1 h0⟩
        obtain ⟨e1, e2, e3, e4⟩ := set_all (ts := is) (k := k + 1) (fun j i' hj => by rw [Nat.add_assoc, Nat.add_comm 1 j]; exact hk (j + 1) i' hj) (env.set hi rep' nd) args' h
        refine ⟨e1, fun q hq => ?_, by rw [show setV (i :: is) (v :: vs') σ = setV is vs' (σ.set i (some v)) from rfl, e3, List.length_set], by simp [e4]⟩
        rw [List.mem_cons, not_or] at hq
        exact (e2 q hq.2).trans (List.getElem?_set_ne fun z => hq.1 z.symm)
      · cases h
theorem s_par {ts : List Nat} {es : Es} (h : tSt K N W g (.par ts es) Z σ H) : tParN ts (tA K N W g es) Z σ H := by
  obtain ⟨own, ρ, env, post⟩ := h
  simp only [exec] at post
  refine ⟨own, ρ, 0, env, ?_⟩
  cases h1 : evs g es ρ with
  | bad => rw [h1] at post; exact post.elim
  | exn c p => rw [h1] at post; exact exn_of post
  | ok r =>
    obtain ⟨ds, ρ1⟩ := r
    rw [h1] at post
    dsimp only [R.bind] at post
    intro own1 H1 vs kp env1 args lent
    split at post
    · rename_i ρ2 h2
      have env0 : EnvOk K N (parO ts own1) σ H1 ρ1 0 := env1.move (fun a k h => absurd h parO_nt) parO_f fun a o i h z _ => ⟨h, (parO_of fun k q => by rw [z] at q; cases q).trans z⟩
      obtain ⟨e1, e2, e3, e4⟩ := set_all (ts0 := ts) (ts := ts) (k := 0) (fun j i hj => by rw [Nat.zero_add]; exact hj) env0 args h2
      exact ⟨e4, post _ _ H1 ⟨kp.f.trans parO_f, e2, e3⟩ e1⟩
    · exact post.elim
/-! ### with an operator -/
/-- the two operators -/
def augB : Bop → Option (Operator × (Int → Int → Int))
  | .add => some (.Add, fun i j => i + j) | .sub => some (.Sub, fun i j => i - j) | _ => none
theorem ip_of {X : Cx} {op : Bop} {o : Operator} {f : Int → Int → Int} (h : augB op = some (o, f)) : PIp X o (ipI f) := by
  cases op <;> simp only [augB, Option.some.injEq, Prod.mk.injEq, reduceCtorEq] at h
  · obtain ⟨rfl, rfl⟩ := h; exact ip_add
  · obtain ⟨rfl, rfl⟩ := h; exact ip_sub
theorem in_of {X : Cx} {op : Bop} {o : Operator} {f : Int → Int → Int} (h : augB op = some (o, f)) : InOp X o (ipI f) := fun pins s σ H x y u v Q I rx ry q => ip_of h pins s σ H x y u v Q I rx ry q
theorem aug_int {op : Bop} {o : Operator} {f : Int → Int → Int} (h : augB op = some (o, f)) {x y d : D} (px : plainD x = true) (e : binD op x y = some d) : ∃ i j, x = .int i ∧ y = .int j ∧ d = .int (f i j) := by
  cases x <;> first | cases px; done | skip
  cases op <;> simp only [augB, Option.some.injEq, Prod.mk.injEq, reduceCtorEq] at h
  · obtain ⟨rfl, rfl⟩ := h
    cases y <;> simp only [binD, Option.some.injEq, reduceCtorEq] at e
    exact ⟨_, _, rfl, rfl, e.symm⟩
  · obtain ⟨rfl, rfl⟩ := h
    cases y <;> simp only [binD, Option.some.injEq, reduceCtorEq] at e
    exact ⟨_, _, rfl, rfl, e.symm⟩
theorem s_aug {i : Nat} {op : Bop} {e : E} {o : Operator} {f : Int → Int → Int} (ho : augB op = some (o, f)) (h : tSt K N W g (.aug i op e) Z σ H) : tAug i (tE K N W g e false) (ipI f) Z σ H := by
  obtain ⟨own, ρ, env, post⟩ := h
  simp only [exec] at post
  split at post
  · rename_i x hx
    obtain ⟨v0, F0, e1, r0, _⟩ := env.sl i x hx
    refine ⟨v0, e1, s_exp env post fun y ρ1 own1 H1 v F kp env1 _ rep nd post => ?_⟩
    have rep := rep rfl
    dsimp only at post
    cases hc : (plainD x && !(tch e).contains i) with
    | false => rw [hc] at post; exact post.elim
    | true =>
      rw [hc] at post
      simp only [Bool.and_eq_true] at hc
      dsimp only [R.guard] at post
      split at post
      · rename_i d hd
        obtain ⟨a, b, rfl, rfl, rfl⟩ := aug_int ho hc.1 hd
        cases r0.1
        cases rep.1
        have hi : i < ρ1.length := by
          rw [← env1.len]
          exact (List.getElem?_eq_some_iff.mp e1).1
        refine ⟨a, b, rfl, rfl, post (cutO own1 0) _ H1 ⟨cut_f, fun k hk => ?_, List.length_set⟩ ((cut0 env1).set hi (F := []) ⟨rfl, rfl⟩ List.nodup_nil)⟩
        exact List.getElem?_set_ne fun z => hk (by subst z; exact List.mem_singleton.mpr rfl)
      · exact post.elim
  · exact post.elim
theorem s_augF {p e : E} {f : Nat} {op : Bop} {o : Operator} {fn : Int → Int → Int} (inj : ∀ a b, N.fld a = N.fld b → a = b) (nf : Nat) (cl : ∀ c, Cls K (N.cls c)) (na : ∀ c f, f < nf → NoAttr K (N.cls c) (N.fld f)) (fl : ∀ f ∈ pflds p, f < nf) (hf : f < nf) (ho : augB op = some (o, fn)) (h : tSt K N W g (.augF p f op e) Z σ H) :
    sFldAug K (tPath K N W g p) (tE K N W g e true) (ipI fn) (N.fld f) Z σ H := by
  obtain ⟨own, ρ, env, post⟩ := h
  simp only [exec] at post
  cases hc : (isPath p && simp e) with
  | false => rw [hc] at post; exact post.elim
  | true =>
    rw [hc] at post
    dsimp only [R.guard] at post
    simp only [Bool.and_eq_true] at hc
    split at post
    · rename_i r as x y ρx hr he
      split at post
      · rename_i x' hx'
        cases hp : plainD x' with
        | false => rw [hp] at post; exact post.elim
        | true =>
          rw [hp] at post
          dsimp only at post
          split at post
          · rename_i d hd
            split at post
            · rename_i ρ2 hu
              obtain ⟨i, j, rfl, rfl, rfl⟩ := aug_int ho hp hd
              obtain ⟨v0, w, G, e1, at_, rx, _⟩ := path_at inj env hr
              cases x <;> first | (simp [fldD] at hx'; done) | skip
              rename_i fl' c ks ws
              obtain ⟨b0, dx0, fs0, G0, rfl, hb0, hk0, hr0, _, _⟩ := rx.insAt
              obtain ⟨vx, Fx, lk, rvx, _⟩ := fld_look inj hk0 hr0 hx'
              cases rvx.1
              refine path_pe inj nf cl na (path_of hc.1) hr fl env e1 at_ fun own2 H2 t2 kp2 env2 ht => ?_
              refine ⟨b0, N.cls c, dx0, fs0, .int i, rfl, (kp2 b0 _ hb0 fun i hi => nomatch hi).1, cl c, na c f hf, lk, own2, ρ, t2, env2, ?_⟩
              rw [he]
              intro own3 H3 vy F3 kp3 env3 rep3 _
              cases rep3.1
              have z := simp_env hc.2 he
              subst z
              rw [simp_tch hc.2] at kp3
              have kp13 : Kp [] own H own3 H3 := (kp2.trans kp3).mono fun i hi => by simpa using hi
              refine ⟨i, j, rfl, rfl, ?_⟩
              have env4 := env3.cut 1
              have at4 : AtP N r (cutO own3 1) H3 as v0 (.ref b0) := AtP.keepS (fun a o h1 h2 => ⟨h1, cutO_sl h2⟩) (AtP.keep kp13 (by simp) at_)
              obtain ⟨x1, G1, x1', rx1, ex⟩ := updP_at inj env4 hu e1 at4
              cases x1 <;> first | (simp [putF] at ex; done) | skip
              rename_i o1 c1 ks1 xs1
              cases o1 <;> first | (simp [putF] at ex; done) | skip
              simp only [putF] at ex
              obtain ⟨b, dx, fs, F', eb, hb, ob, _, hk, hrs⟩ := rx1
              cases eb
              have hb' := (kp13 b0 _ hb0 fun i hi => nomatch hi).1
              split at ex
              · rename_i hl
                have hd0 : Rep K N H3 (cutO own3 1) (.tp 0) (.int (fn i j)) (.int (fn i j)) [] := ⟨rfl, rfl⟩
                obtain ⟨env5, kf5⟩ := write_at inj env4 ob (leaf_putF (f := f) inj hb ob hd0 List.nodup_nil) hu e1 at4
                rw [hb] at hb'
                simp only [Option.some.injEq, HO.ins.injEq] at hb'
                obtain ⟨ec, rfl, rfl⟩ := hb'
                have e2 := congrArg List.length hk
                simp only [List.length_map] at e2
                rw [ec] at hb env5 kf5
                exact ⟨dx, fs, hb, by omega, post _ σ _ ⟨(kp13.f.trans cut_f).trans kf5, Agr.refl, rfl⟩ env5⟩
              · cases ex
            · exact post.elim
          · exact post.elim
      · exact post.elim
    · exact post.elim
/-! ### raise -/
theorem exo_gone {a C d : Addr} {fs : List (Str × V)} (h1 : H1 a = none) (hd : H1 d = none) (ne : d ≠ a) :
    upd (del (upd (upd (upd H1 a (exo a C none)) a (exo a C (some d))) d (exd d fs)) a) d (.xd fs) = upd H1 d (.xd fs) := by
  funext x
  by_cases z : x = d
  · subst z; rw [upd_same, upd_same]
  · rw [upd_ne z, upd_ne z]
    by_cases y : x = a
    · subst y; rw [del_same, h1]
    · rw [del_ne y, upd_ne z, upd_ne y, upd_ne y]
theorem s_raise {c : Nat} {e : E} (h : tSt K N W g (.raise c e) Z σ H) : tMkO (N.xc c) (spI (N.xc c)) [] (tCons (tE K N W g e false) tNil) σ H fun cls d H' => W cls d σ H' := by
  obtain ⟨own, ρ, env, post⟩ := h
  simp only [exec] at post
  refine s_exp env post fun d ρ1 own1 H1 v F kp env1 _ rep nd post => ?_
  have rep := rep rfl
  dsimp only at post
  cases hf : fro d with
  | false => rw [hf] at post; exact post.elim
  | true =>
    rw [hf] at post
    dsimp only [R.guard] at post
    refine ⟨by show 1 ≤ 1000; omega, fun a ha => ⟨a, v, rfl, upd_same, fun d' fs hd ne lk => ⟨rfl, d', fs, ?_, upd_same, ?_, ?_⟩⟩⟩
    · rw [upd_ne (Ne.symm ne), upd_same]
    · rw [upd_ne ne] at hd; exact hd
    · rw [upd_ne ne] at hd
      rw [exo_gone ha hd ne]
      have kp1 : Kp [] own1 H1 (updO own1 d' .fz) (upd H1 d' (.xd fs)) := kp_new hd
      exact post (updO own1 d' .fz) σ (upd H1 d' (.xd fs)) d' fs v ⟨kp1.f, Agr.refl, rfl⟩ upd_same lk (Rep.carry kp1.f d (rep.ofFro (t' := .fz) hf) fun a ha => nomatch ha)
end
end Ev

/-! The text against the annotations: statements. -/
namespace Ev
open PySem PySem.Spec PyProof.Rows L2
/-! ### stores side by side -/
def bk (sc : Scope) : ScopeKind := if sc.kind.isAnnotationScope then .function else sc.kind
def swN (sc : Scope) (line : Nat) : Expr → Option Str
  | .Name id pos => if sc.names.lookup id == some .local && pos.line == line then some id else none
  | _ => none
def swB (sc : Scope) (ts vs : List Expr) : Option (Option (List Str)) :=
  if (!(ts.length == 2 || ts.length == 3) || vs.length != ts.length || bk sc != .function) = true then some none
  else if vs.any isStar = true then some none
  else if ((ts.filterMap (swN sc ((ts.head?.map (·.pos.line)).getD 0))).length != ts.length || (ts.filterMap (swN sc ((ts.head?.map (·.pos.line)).getD 0))).eraseDups.length != (ts.filterMap (swN sc ((ts.head?.map (·.pos.line)).getD 0))).length) = true then some none
  else if vs.all (foldedForSure 8) = true then some none
  else if vs.all (constantsAlone 8) = true then none
  else some (some (ts.filterMap (swN sc ((ts.head?.map (·.pos.line)).getD 0))))
theorem sw_ok {ts vs : List Expr} {env : PySem.Env} {r : Option (List Str)} {k k2 : Nat} {p p2 : Pos} (h : swB env.scope ts vs = some r) : swappedStores [.Tuple ts k p] (.Tuple vs k2 p2) env = pure r := by
  have e1 : (fun x : Expr => match x with | .Starred _ _ => true | _ => false) = isStar := by funext e; cases e <;> rfl
  have e2 : ∀ l, (fun x : Expr => match x with | .Name id pos => if (env.kindOf id == some .local && pos.line == l) = true then some id else none | _ => none) = swN env.scope l := by intro l; funext e; cases e <;> rfl
  have key : swappedStores [.Tuple ts k p] (.Tuple vs k2 p2) env = (if (!(ts.length == 2 || ts.length == 3) || vs.length != ts.length || bk env.scope != .function) = true then pure none
    else if vs.any isStar = true then pure none
    else if ((ts.filterMap (swN env.scope ((ts.head?.map (·.pos.line)).getD 0))).length != ts.length || (ts.filterMap (swN env.scope ((ts.head?.map (·.pos.line)).getD 0))).eraseDups.length != (ts.filterMap (swN env.scope ((ts.head?.map (·.pos.line)).getD 0))).length) = true then pure none
    else if vs.all (foldedForSure 8) = true then pure none
    else if vs.all (constantsAlone 8) = true then (do
      let _ : PUnit ← unsupported "assign.tuple-of-constant-expressions:order-of-the-stores"
      pure (some (ts.filterMap (swN env.scope ((ts.head?.map (·.pos.line)).getD 0)))))
    else pure (some (ts.filterMap (swN env.scope ((ts.head?.map (·.pos.line)).getD 0))))) := by
    rw [← e1, ← e2]
    unfold swappedStores
    dsimp only
    rfl
  rw [key]
  unfold swB at h
  split at h
  · rename_i c; rw [if_pos c]; cases h; rfl
  · rename_i c
    rw [if_neg c]
    split at h
    · rename_i c; rw [if_pos c]; cases h; rfl
    · rename_i c
      rw [if_neg c]
      split at h
      · rename_i c; rw [if_pos c]; cases h; rfl
      · rename_i c
        rw [if_neg c]
        split at h
        · rename_i c; rw [if_pos c]; cases h; rfl
        · rename_i c
          rw [if_neg c]
          split at h
          · cases h
          · rename_i c; rw [if_neg c]; cases h; rfl
def isComp : Expr → Bool
  | .ListComp _ _ _ _ => true | .SetComp _ _ _ _ => true | .DictComp _ _ _ _ _ => true | _ => false
def isTup : Expr → Bool
  | .Tuple _ _ _ => true | _ => false
theorem sw_no {v : Expr} {tg : Option Expr} {l : Nat} {env : PySem.Env} (h : isComp v = false) : swapsWith v tg l env = pure false := by
  cases v <;> first | rfl | cases h
theorem sws_no {v : Expr} {t : Expr} {l : Nat} {env : PySem.Env} (h : isComp v = false) : swapsWithSole [t] v l env = pure false := sw_no h
theorem swt_no {v : Expr} {ts : List Expr} {k : Nat} {p : Pos} {env : PySem.Env} (h : isTup v = false) : swappedStores [.Tuple ts k p] v env = pure none := by
  cases v <;> first | rfl | cases h
/-- a list comprehension into a name on its own line -/
def swLc (sc : Scope) (y : Str) (py : Pos) (scope : Scope) (pos : Pos) : Bool := bk sc == .function && sc.names.lookup y == some .local && py.line == pos.line && !(scope.names.any fun (n, k) => n == y && (k == .local || k == .cell))
theorem swlc_ok {elt : Expr} {gs : List Comprehension} {scope : Scope} {pos py : Pos} {y : Str} {l : Nat} {env : PySem.Env} : swapsWith (.ListComp elt gs scope pos) (some (.Name y py)) l env = pure (swLc env.scope y py scope pos) := rfl
def isLc : E → Bool
  | .lc _ _ _ _ _ => true | _ => false
def locC (sc : Scope) (x : Str) : Bool := sc.names.lookup x == some .local
section
variable (T : Nt) (Ns : List Str)
def nmL (sc : Scope) (i : Nat) (x : Str) : Bool := (Ns[i]? == some x) && locB sc x
def nmsL (sc : Scope) : List Nat → List Expr → Bool
  | [], es => es.isEmpty
  | i :: is, es => (match es with | .Name x _ :: es => (Ns[i]? == some x) && locC sc x && nmsL sc is es | _ => false)
def isSwap : Option (Option (List Str)) → Bool
  | some (some _) => true | _ => false
def isNoSw : Option (Option (List Str)) → Bool
  | some none => true | _ => false
def chkH (sc : Scope) (i : Nat) : List (Option D) → List Expr → Bool
  | [], es => es.isEmpty
  | o :: hs, es => (match es with
      | e :: es => (match o with
          | some d => (match e with | .Constant c _ _ => chkK d c && isC d | _ => false)
          | none => (match e with | .Attribute (.Name y _) f _ => f == ("place" : Str) && nmB sc Ns i y | _ => false)) && chkH sc i hs es
      | [] => false)
mutual
def chkB (sc : Scope) : S → List Stmt → Bool
  | .seq a b, sts => (match sts with | s :: rest => chk1 sc a s && chkB sc b rest | [] => false)
  | .skip, sts => sts.isEmpty
  | _, _ => false
def chk1 (sc : Scope) : S → Stmt → Bool
  | .skip, st => (match st with | .Pass _ => true | .Expr (.Constant (.str _) _ _) _ => true | _ => false)
  | .seq _ _, _ => false
  | .asg i e, st => (match st with
      | .Assign [.Name x py] v _ => nmL Ns sc i x && (match v with
          | .ListComp _ _ scope pos => isLc e || !swLc sc x py scope pos
          | _ => !isComp v) && chkE T Ns sc e v
      | _ => false)
  | .par ts es, st => (match st with | .Assign [.Tuple ns _ _] (.Tuple vs _ _) _ => isSwap (swB sc ns vs) && (ts.length == 2 || ts.length == 3) && decide ts.Nodup && nmsL Ns sc ts ns && nost vs && chkEs T Ns sc es vs | _ => false)
  | .unp tg e, st => (match st with
      | .Assign [.Tuple ns k p] v _ => (match v with | .Tuple vs _ _ => isNoSw (swB sc ns vs) | _ => true) && !isComp v && chkG Ns sc tg (.Tuple ns k p) && chkE T Ns sc e v
      | _ => false)
  | .unpI p i ts e, st => (match st with
      | .Assign [.Tuple (.Subscript o ix sp :: ns) k tp] v _ => (match v with | .Tuple vs _ _ => isNoSw (swB sc (.Subscript o ix sp :: ns) vs) | _ => true) && !isComp v && nost ns && plIx ix && isPath p && chkE T Ns sc p o && chkE T Ns sc i ix && chkGs Ns sc ts ns && chkE T Ns sc e v
      | _ => false)
  | .setI p i e, st => (match st with | .Assign [.Subscript o ix _] v _ => !isComp v && plIx ix && isPath p && chkE T Ns sc p o && chkE T Ns sc i ix && chkE T Ns sc e v | _ => false)
  | .setF p f e, st => (match st with | .Assign [.Attribute o x _] v _ => !isComp v && (T.fld f == x) && Nat.blt f T.nf && isPath p && chkE T Ns sc p o && chkE T Ns sc e v | _ => false)
  | .aug i op e, st => (match st with | .AugAssign (.Name x _) o v _ => nmL Ns sc i x && (match augB op with | some (o', _) => o' == o | none => false) && chkE T Ns sc e v | _ => false)
  | .augF p f op e, st => (match st with | .AugAssign (.Attribute a x _) o v _ => (match augB op with | some (o', _) => o' == o | none => false) && (T.fld f == x) && Nat.blt f T.nf && isPath p && chkE T Ns sc p a && chkE T Ns sc e v | _ => false)
  | .app p e, st => (match st with | .Expr (.Call (.Attribute o m apos) [y] kws pos) _ => kws.isEmpty && m == ("append" : Str) && attrB o && !isStar y && (apos.endLine == pos.line) && isPath p && chkE T Ns sc p o && chkE T Ns sc e y | _ => false)
  | .drop e, st => (match st with | .Expr v _ => !isComp v && chkE T Ns sc e v | _ => false)
  | .ife c a b, st => (match st with | .If t x y _ => tsE c && chkE T Ns sc c t && chkB sc a x && chkB sc b y | _ => false)
  | .whl c b _, st => (match st with | .While t x [] _ => tsE c && chkE T Ns sc c t && chkB sc b x | _ => false)
  | .fore tg it b _, st => (match st with | .For t x y [] _ => !isSetE x && chkG Ns sc tg t && chkI T Ns sc it x && chkB sc b y | _ => false)
  | .ret e, st => (match st with | .Return (some v) _ => chkE T Ns sc e v | _ => false)
  | .retN, st => (match st with | .Return none _ => true | _ => false)
  | .brk, st => (match st with | .Break _ => true | _ => false)
  | .cnt, st => (match st with | .Continue _ => true | _ => false)
  | .raise c e, st => (match st with | .Raise (some (.Call (.Name x _) [y] kws _)) none _ => kws.isEmpty && (T.xn c == some x) && glB sc x && !dbg x && !isStar y && chkE T Ns sc e y | _ => false)
  | .tryx b c i h, st => (match st with
      | .Try body [.ExceptHandler (some (.Name x _)) (some n) [.Return (some (.Tuple es _ _)) _] _] [] [] _ => T.hx && (T.xn c == some x) && glB sc x && !dbg x && (Ns[i]? == some n) && locC sc n && nost es && chkH Ns sc i h es && chkB sc b body
      | _ => false)
end
end
end Ev

/-! From the text to the readings: the theorem of statements. -/
namespace Ev
open PySem PySem.Spec PyProof.Rows L2
/-- what is known of a place in a def's body -/
structure CtxS (T : Nt) (N : Nm) (W : WX) (g : G) (sc : Scope) (Ns : List Str) (X : Cx) : Prop extends CtxOk T N W g sc Ns X where
  se : X.env.scope = sc
  hp : PassesOwn (model X.prog X.w) X.A X.env X.xe
  hs : X.stack = X.env :: X.outer
  hf : X.env.frame = some X.env.locals
theorem CtxS.tr {T : Nt} {N : Nm} {W W' : WX} {g : G} {sc : Scope} {Ns : List Str} {X : Cx} (C : CtxS T N W g sc Ns X) (pn : List (Addr × Obj)) (xe : Value → Shared → Prop) (tk : Takes (X.tr pn xe) W') (hp : PassesOwn (model X.prog X.w) X.A X.env xe) : CtxS T N W' g sc Ns (X.tr pn xe) where
  hsc := C.hsc
  hN := C.hN
  tk := tk
  calm := C.calm
  nd := C.nd
  hu := C.hu
  fnc := C.fnc
  inj := C.inj
  tf := C.tf
  cls := C.cls
  nat := C.nat
  nob := C.nob
  glob := C.glob
  fn := C.fn
  mt := C.mt
  cn := C.cn
  hx := C.hx
  xn := C.xn
  se := C.se
  hp := hp
  hs := C.hs
  hf := C.hf
theorem pss_imp {X : Cx} {e : List Stmt} {t t' : TS} (h : PSs X e t) (i : ∀ D σ H, t' D σ H → t D σ H) : PSs X e t' := ⟨fun pins s σ H D I q => h.run pins s σ H D I (i D σ H q)⟩
theorem passX {X : Cx} : Passes (L2.CX X.prog X.w) X (fun _ _ _ => False) := fun _ _ _ _ _ _ _ h => by
  obtain ⟨_, _, _, _, _, _, _, _, _, _, _, _, z⟩ := h
  exact z.elim
section
variable {T : Nt} {N : Nm} {g : G} {Ns : List Str} {sc : Scope}
/-! ### paths -/
theorem ok_p {W : WX} {X : Cx} (C : CtxOk T N W g sc Ns X) {p : E} (hp : PathI p) : ∀ {ast : Expr}, chkE T Ns sc p ast = true → PE X ast (tPath X.K N W g p) ∧ ∀ f ∈ pflds p, f < T.nf := by
  induction hp with
  | var i =>
    intro ast h
    simp only [chkE] at h
    split at h
    · simp only [tPath]
      exact ⟨C.name h, fun f hf => by simp [pflds] at hf⟩
    · cases h
  | @fld o f _ ih =>
    intro ast h
    simp only [chkE] at h
    split at h
    · simp only [Bool.and_eq_true, beq_iff_eq] at h
      obtain ⟨⟨⟨h1, h2⟩, h3⟩, h4⟩ := h
      have hf : f < T.nf := by simpa [Nat.blt_eq] using h2
      obtain ⟨a, b⟩ := ih h4
      simp only [tPath]
      have h1' := (C.tf f).symm.trans h1
      subst h1'
      refine ⟨pe_fld a (attr_base h3), fun k hk => ?_⟩
      simp only [pflds, List.mem_cons] at hk
      rcases hk with rfl | hk
      · exact hf
      · exact b k hk
    · cases h
  | @idx o i _ ih =>
    intro ast h
    simp only [chkE] at h
    split at h
    · simp only [Bool.and_eq_true] at h
      obtain ⟨⟨h1, h2⟩, h3⟩ := h
      obtain ⟨a, b⟩ := ih h2
      simp only [tPath]
      exact ⟨pe_ix ix_seq a ((ok_e i C h3).1 true) (plIx_ok h1), fun k hk => b k (by simpa [pflds] using hk)⟩
    · cases h
theorem asg_sub {o i : Expr} {pos : Pos} {env : PySem.Env} (h : plIx i = true) : ∀ v, assign (.Subscript o i pos) env v = (do
      let ov ← holding [v] (eval o env)
      let iv ← holding [v, ov] (eval i env)
      standAt pos
      holding [v, ov, iv] (setItem ov iv v)
      release [v, ov, iv] []) := by
  intro v
  cases i <;> first | rfl | cases h
theorem CtxS.nm {W : WX} {X : Cx} (C : CtxS T N W g sc Ns X) {i : Nat} {x : Str} (h : nmL Ns sc i x = true) : X.N[i]? = some x ∧ L2.Loc X.env.scope x ∧ (X.fn x = true ∨ X.env.scope.names.lookup x = some .local) := by
  unfold nmL at h
  simp only [Bool.and_eq_true, beq_iff_eq] at h
  have hl := locB_ok h.2
  refine ⟨by rw [C.hN]; exact h.1, by rw [C.se]; exact hl, ?_⟩
  rcases hl with z | z
  · exact .inr (by rw [C.se]; exact z)
  · exact .inl (C.fnc _ z)
theorem nms_ok {W : WX} {X : Cx} (C : CtxS T N W g sc Ns X) : ∀ {ts : List Nat} {es : List Expr}, nmsL Ns sc ts es = true → ∃ xs : List (Str × Pos), es = xs.map (fun x => .Name x.1 x.2) ∧ xs.length = ts.length ∧ ∀ (j : Nat) (i : Nat) (x : Str × Pos), ts[j]? = some i → xs[j]? = some x → X.N[i]? = some x.1 ∧ X.env.scope.names.lookup x.1 = some .local
  | [], es, h => by
    simp only [nmsL, List.isEmpty_iff] at h
    subst h
    exact ⟨[], rfl, rfl, fun j i x a => by simp at a⟩
  | i :: is, es, h => by
    simp only [nmsL] at h
    split at h
    · rename_i x p es
      simp only [Bool.and_eq_true, beq_iff_eq, locC] at h
      obtain ⟨xs, rfl, e2, e3⟩ := nms_ok C h.2
      refine ⟨(x, p) :: xs, rfl, by simp [e2], fun j i' y a b => ?_⟩
      cases j with
      | zero =>
        simp only [List.getElem?_cons_zero, Option.some.injEq] at a b
        subst a b
        exact ⟨by rw [C.hN]; exact h.1.1, by rw [C.se]; exact h.1.2⟩
      | succ j =>
        simp only [List.getElem?_cons_succ] at a b
        exact e3 j i' y a b
    · cases h
theorem swn_names {l : Nat} : ∀ {xs : List (Str × Pos)} {ys : List Str}, ((xs.map fun x => (.Name x.1 x.2 : Expr)).filterMap (swN sc l)) = ys → ys.length = xs.length → ys = xs.map (·.1)
  | [], ys, h, _ => by subst h; rfl
  | (x, p) :: xs, ys, h, hl => by
    have le : ((xs.map fun x => (.Name x.1 x.2 : Expr)).filterMap (swN sc l)).length ≤ xs.length := by
      refine Nat.le_trans (List.length_filterMap_le _ _) ?_
      simp
    simp only [List.map_cons, List.filterMap_cons, swN] at h
    split at h
    · subst h
      simp only [List.length_cons] at hl
      omega
    · rename_i b hb
      split at hb
      · cases hb
        subst h
        simp only [List.length_cons, Nat.add_right_cancel_iff] at hl
        rw [swn_names (xs := xs) rfl hl]
        rfl
      · cases hb
theorem sw_names {xs : List (Str × Pos)} {vs : List Expr} {ys : List Str} (h : swB sc (xs.map fun x => .Name x.1 x.2) vs = some (some ys)) : ys = xs.map (·.1) ∧ vs.length = xs.length := by
  unfold swB at h
  split at h
  · cases h
  · rename_i c0
    split at h
    · cases h
    · split at h
      · cases h
      · rename_i c
        split at h
        · cases h
        · split at h
          · cases h
          · simp only [Option.some.injEq] at h
            simp only [Bool.or_eq_true, not_or, bne_iff_ne, ne_eq, Decidable.not_not, Bool.not_eq_true', Bool.not_eq_true] at c0 c
            refine ⟨swn_names h ?_, by simpa using c0.1.2⟩
            rw [← h]
            simpa using c.1
theorem par2_imp {i j : Nat} {ta : TA} {D : Ends} {σ : L2.St} {H : Hp} (h : tParN [i, j] ta D σ H) (mono : ∀ Q Q' : List V → Hp → Prop, (∀ vs H', Q vs H' → Q' vs H') → ta σ H Q → ta σ H Q') : tPar i j ta D σ H :=
  mono _ _ (fun vs H' q => by
    obtain ⟨e, q⟩ := q
    match vs, e, q with
    | [v, w], _, q => exact ⟨v, w, rfl, q⟩) h
theorem par3_imp {i j l : Nat} {ta : TA} {D : Ends} {σ : L2.St} {H : Hp} (h : tParN [i, j, l] ta D σ H) (mono : ∀ Q Q' : List V → Hp → Prop, (∀ vs H', Q vs H' → Q' vs H') → ta σ H Q → ta σ H Q') : tPar3 i j l ta D σ H :=
  mono _ _ (fun vs H' q => by
    obtain ⟨e, q⟩ := q
    match vs, e, q with
    | [u, v, w], _, q => exact ⟨u, v, w, rfl, q⟩) h
theorem tA_mono {K : PySem.W.Frag} {W : WX} {es : Es} {σ : L2.St} {H : Hp} {Q Q' : List V → Hp → Prop} (i : ∀ v H1, Q v H1 → Q' v H1) (h : tA K N W g es σ H Q) : tA K N W g es σ H Q' := by
  obtain ⟨own, ρ, t, env, post⟩ := h
  refine ⟨own, ρ, t, env, ?_⟩
  cases h1 : evs g es ρ with
  | bad => rw [h1] at post; exact post
  | exn c p => rw [h1] at post; exact post
  | ok r =>
    rw [h1] at post
    exact fun own' H' vs a b c d => i _ _ (post own' H' vs a b c d)
/-- a comprehension kept under its name -/
theorem ok_setLc {W : WX} {X : Cx} (C : CtxS T N W g sc Ns X) {i : Nat} {x : Str} {py pos spos : Pos} {e : E} {elt : Expr} {gs : List Comprehension} {scope : Scope} (hn : nmL Ns sc i x = true) (hsw : swLc sc x py scope pos = true) (hlc : isLc e = true) (h : chkE T Ns sc e (.ListComp elt gs scope pos) = true) :
    PS X (.Assign [.Name x py] (.ListComp elt gs scope pos) spos) (tAsg (tE X.K N W g e false) (gName i)) := by
  cases e <;> first | cases hlc; done | skip
  rename_i tg it c el own
  simp only [chkE] at h
  split at h
  · rename_i x' t iter ifs as scope' pos' heq
    cases heq
    simp only [Bool.and_eq_true, beq_iff_eq, Bool.not_eq_true'] at h
    obtain ⟨⟨⟨⟨⟨⟨⟨rfl, h1⟩, h2⟩, h3⟩, h4⟩, h5⟩, h6⟩, h7⟩ := h
    have hs : ∀ k ∈ tgs tg, k ∈ own := fun k hk => List.contains_iff_mem.mp (List.all_eq_true.mp h3 k hk)
    have hw : ∀ y, foldedSetIterable iter X.env y = pure y := by
      intro y
      cases iter <;> first | rfl | cases h1
    have hloc : X.env.scope.names.lookup x = some .local := by
      unfold swLc at hsw
      simp only [Bool.and_eq_true, beq_iff_eq] at hsw
      rw [C.se]
      exact hsw.1.1.2
    have hswx : swapsWith (.ListComp elt [⟨t, iter, ifs, 0⟩] scope pos) (some (.Name x py)) spos.line X.env = pure true := by
      rw [swlc_ok, C.se, hsw]
    refine ps_imp (ps_setLc C.calm (by rw [C.hN]; exact C.nd) (C.nm hn).1 hloc hswx (ok_i it C.toCtxOk h5) (by rw [C.hN]; exact C.hsc.blkOk (blkOk_by h2)) (fun s H A cl fp => ok_g (C.toCtxOk.blk s H scope cl A fp) tg h4) (tt := tCo X.K N g c) (g := gT X.K tg) (te := tE X.K N WF g el false) (fun s H A cl fp => ?_) (fun s H A cl fp => (ok_e el (C.toCtxOk.blk s H scope cl A fp) h7).1 false) hw) fun D σ H q => ?_
    · unfold tCo
      split at h6
      · rw [show isHole c = true from h6]
        exact pts_nil
      · simp only [Bool.and_eq_true, Bool.not_eq_true'] at h6
        rw [h6.1.1]
        exact pts_one ((ok_e c (C.toCtxOk.blk s H scope cl A fp) h6.2).2 h6.1.2).1
      · cases h6
    · rw [ownS_map]
      exact r_lc hs q
  · cases h
end
end Ev

/-! From the text to the readings: the theorem of statements, and the except clause. -/
namespace Ev
open PySem PySem.Spec PyProof.Rows L2
section
variable {K : PySem.W.Frag} {N : Nm} {W : WX} {g : G} {σ σ1 σ2 : L2.St} {H H1 H2 : Hp} {own own1 own2 : Addr → Own} {ρ ρ1 : Env} {Z : Ends}
theorem s_unpI {p i e : E} {ts : List Tg} (inj : ∀ a b, N.fld a = N.fld b → a = b) (nf : Nat) (cl : ∀ c, Cls K (N.cls c)) (na : ∀ c f, f < nf → NoAttr K (N.cls c) (N.fld f)) (fl : ∀ f ∈ pflds p, f < nf) (h : tSt K N W g (.unpI p i ts e) Z σ H) :
    tAsg (tE K N W g e true) (gSeq K (ts.length + 1) (gCons (gSub (tPath K N W g p) (tE K N W g i true) rSetL) (gTs K ts))) Z σ H := by
  obtain ⟨own, ρ, env, post⟩ := h
  simp only [exec] at post
  refine s_exp env post fun v ρ1 own1 H1 vv F kp env1 rep _ nd post => ?_
  dsimp only at post
  rcases v with _ | _ | _ | _ | l | _ | _ <;> first | exact post.elim | skip
  cases l with
  | nil => exact post.elim
  | cons d ds =>
    dsimp only at post
    cases hc : (fros (d :: ds) && (simp i && isPath p)) with
    | false => rw [hc] at post; exact post.elim
    | true =>
      rw [hc] at post
      dsimp only [R.guard] at post
      simp only [Bool.and_eq_true] at hc
      obtain ⟨hf, hsi, hpa⟩ := hc
      split at post
      · rename_i r as x k ρx hr hi
        split at post
        · rename_i ρ2 hu
          split at post
          · rename_i ρ3 hb
            obtain ⟨a, vs, rfl, ha, hrs⟩ := id rep
            have hrs0 : Reps K N H1 own1 (.tp 0) (d :: ds) vs [] := hrs.ofFros hf
            obtain ⟨v1, vs', F1, F2, rfl, eF, hr1, hr2⟩ := hrs0
            have eF1 : F1 = [] := (List.append_eq_nil_iff.mp eF.symm).1
            have eF2 : F2 = [] := (List.append_eq_nil_iff.mp eF.symm).2
            subst eF1 eF2
            refine .inl ⟨a, v1 :: vs', rfl, ha.sq, by rw [List.length_cons, hr2.length, binds_len (K := K) (N := N) (H := H) ts hb], v1, vs', rfl, ?_⟩
            obtain ⟨v0, w, G, e1, at_, _, _⟩ := path_at inj env1 hr
            refine path_pe inj nf cl na (path_of hpa) hr fl env1 e1 at_ fun own2 H2 t2 kp2 env2 ht => ⟨own2, ρ1, t2, env2, ?_⟩
            rw [hi]
            intro own3 H3 kv F3 kp3 env3 rep3 _
            have z := simp_env hsi hi
            subst z
            rw [simp_tch hsi] at kp3
            have kp13 : Kp [] own1 H1 own3 H3 := (kp2.trans kp3).mono fun i hi => by simpa using hi
            have env4 := env3.cut 1
            have at3 : AtP N r own3 H3 as v0 w := AtP.keep kp13 (by simp) at_
            have at4 : AtP N r (cutO own3 1) H3 as v0 w := AtP.keepS (fun a o h1 h2 => ⟨h1, cutO_sl h2⟩) at3
            obtain ⟨x1, G1, x1', rx, ex⟩ := updP_at inj env4 hu e1 at4
            have kf14 : KpF own1 H1 (cutO own3 1) H3 := kp13.f.trans cut_f
            have rd : Rep K N H3 (cutO own3 1) (.tp 0) d v1 [] := Rep.carry kf14 d hr1 fun a ha => nomatch ha
            cases x1 <;> first | (simp [putI] at ex; done) | skip
            rename_i o xs
            cases o <;> first | (simp [putI] at ex; done) | skip
            cases k <;> first | (simp [putI] at ex; done) | skip
            rename_i k
            simp only [putI] at ex
            cases rep3.1
            obtain ⟨b, vsx, F', rfl, hbb, ob, _, hrsx⟩ := rx
            split at ex
            · rename_i j hj
              rw [← hrsx.length] at hj
              obtain ⟨env5, kf5⟩ := write_at inj env4 ob (leaf_putI hbb ob rd List.nodup_nil hj) hu e1 at4
              refine ⟨b, vsx, k, j, rfl, rfl, hbb, hj, ?_⟩
              have hr5 : Reps K N _ _ (.tp 0) ds vs' [] := Reps.carry (kf14.trans kf5) ds hr2 fun a ha => nomatch ha
              exact binds_ok ts hb env5 hr5 fun σ' env6 ag => post _ σ' _ ⟨kf14.trans kf5, ag, by rw [env6.len, bindTs_length ts hb, ← env5.len]⟩ env6
            · cases ex
          · exact post.elim
        · exact post.elim
      · exact post.elim
/-! ### try .. except .. as e: return (.., e.place) -/
def tH (N : Nm) (a : Addr) (cls : Value) (d : Option Addr) (i : Nat) : Option D → TE
  | some c => tC (cV c)
  | none => fun σ H Q => ∃ c, tXf a cls d (N.xc c) "place" (tVar i) σ H Q
def tHs (N : Nm) (a : Addr) (cls : Value) (d : Option Addr) (i : Nat) : List (Option D) → TA
  | [] => tNil
  | o :: hs => tCons (tH N a cls d i o) (tHs N a cls d i hs)
def tSu (N : Nm) (i : Nat) (h : List (Option D)) (a : Addr) (cls : Value) (d : Option Addr) : TS := tRet (tTup (tHs N a cls d i h))
theorem hs_ok {a dx : Addr} {c i : Nat} {fs : List (Str × V)} {vp : V} {p : D} {σ : L2.St} (h1 : H dx = some (.xd fs)) (h2 : fs.lookup ("place" : Str) = some vp) (h3 : Rep K N H own .fz p vp []) (hs : σ[i]? = some (some (.ref a))) : ∀ {h : List (Option D)} {Q : List V → Hp → Prop}, (h.all fun o => match o with | some d => isC d | none => true) = true →
    (∀ vs, Reps K N H own .fz (hTup p h) vs [] → Q vs H) → tHs N a (.ref (N.xc c)) (some dx) i h σ H Q
  | [], Q, _, q => q [] ⟨rfl, rfl⟩
  | o :: hs', Q, hc, q => by
    simp only [List.all_cons, Bool.and_eq_true] at hc
    cases o with
    | some d =>
      exact hs_ok (h := hs') h1 h2 h3 hs hc.2 fun vs hv => q (cV d :: vs) ⟨cV d, vs, [], [], rfl, rfl, rep_c hc.1, hv⟩
    | none =>
      exact ⟨c, .ref a, hs, rfl, rfl, dx, fs, vp, rfl, h1, h2, hs_ok (h := hs') h1 h2 h3 hs hc.2 fun vs hv => q (vp :: vs) ⟨vp, vs, [], [], rfl, rfl, h3, hv⟩⟩
theorem hTup_len (p : D) (h : List (Option D)) : (hTup p h).length = h.length := List.length_map _
theorem s_try {b : S} {c i : Nat} {h : List (Option D)} (hx : ∀ c' c, PySem.W.exmOne K (.ref (N.xc c')) (.ref (N.xc c)) = some (g.sub c' c)) (hc : (h.all fun o => match o with | some d => isC d | none => true) = true)
    (hh : tSt K N W g (.tryx b c i h) Z σ H) : tSt K N (wAs K (.ref (N.xc c)) i (tSu N i h) W Z) g b Z σ H := by
  obtain ⟨own, ρ, env, post⟩ := hh
  refine ⟨own, ρ, env, ?_⟩
  simp only [exec] at post
  cases hgd : (decide (i < ρ.length) && decide (h.length ≤ 1000)) with
  | false => rw [hgd] at post; exact post.elim
  | true =>
  rw [hgd] at post
  dsimp only [R.guard] at post
  simp only [Bool.and_eq_true, decide_eq_true_eq] at hgd
  obtain ⟨hi0, hl⟩ := hgd
  have hi : i < σ.length := by rw [env.len]; exact hi0
  have low : ∀ {own' σ' H'}, Nxt own σ H (asgS b) own' σ' H' → Nxt own σ H (i :: asgS b) own' σ' H' := fun n => Nxt.refl.trans n (A1 := []) (fun i hi => nomatch hi) fun j hj => List.mem_cons_of_mem _ hj
  cases h1 : exec g b ρ with
  | bad => rw [h1] at post; exact post.elim
  | ok r =>
    obtain ⟨fl, ρ1⟩ := r
    rw [h1] at post
    cases fl with
    | nx => exact fun own' σ' H' n => post own' σ' H' (low n)
    | bk => exact fun own' σ' H' n => post own' σ' H' (low n)
    | ct => exact fun own' σ' H' n => post own' σ' H' (low n)
    | rt d => exact fun own' σ' H' v F n => post own' σ' H' v F (low n)
  | exn c' p =>
    rw [h1] at post
    intro own' σ' H' dx fs vp n e1 e2 e3
    refine ⟨g.sub c' c, hx c' c, fun hs a ha => ?_, fun hs => ?_⟩
    · dsimp only at post
      rw [hs] at post
      have hset : (σ'.set i (some (.ref a)))[i]? = some (some (.ref a)) := List.getElem?_set_self (by rw [n.2.2]; exact hi)
      refine hs_ok e1 e2 e3 hset hc fun vs hv => ⟨?_, fun p' hp' => ?_⟩
      · rw [hv.length, hTup_len, ← line_eq]
        exact Nat.le_trans hl (by decide)
      · have kp := kp_new (M := []) (own := own') (o := .tup vs) (u := .fz) hp'
        have hl2 : σ'.length = ρ.length := n.2.2.trans env.len
        refine post (cutO (updO own' p' .fz) 0) σ' _ _ [] (low ⟨(n.1.trans kp.f).trans cut_f, n.2.1, n.2.2⟩) ⟨by rw [List.length_map]; exact hl2, fun b k z => absurd (cutO_lt z) (by omega), fun j d hj => ?_⟩ ?_ List.nodup_nil
        · exfalso
          unfold getS at hj
          rw [List.getElem?_map] at hj
          cases q : ρ[j]? with
          | none => rw [q] at hj; cases hj
          | some o => rw [q] at hj; cases hj
        · have f1 : KpF own' H' (cutO (updO own' p' .fz) 0) (upd H' p' (.tup vs)) := kp.f.trans cut_f
          exact ⟨p', vs, rfl, .inl ⟨upd_same, (cutO_of fun k z => by rw [updO_same] at z; cases z).trans updO_same⟩, Reps.carry f1 _ hv fun a ha => nomatch ha⟩
    · dsimp only at post
      rw [hs] at post
      exact post own' σ' H' dx fs vp (low n) e1 e2 e3
end
end Ev

/-! From the text to the readings: the theorem of statements. -/
namespace Ev
open PySem PySem.Spec PyProof.Rows L2
section
variable {T : Nt} {N : Nm} {g : G} {Ns : List Str} {sc : Scope}
theorem chkH_ok {W : WX} {X : Cx} (C : CtxS T N W g sc Ns X) {i : Nat} {a : Addr} {oe : Obj} {cls : Value} {d : Option Addr} {pn : List (Addr × Obj)} (hz : Zc cls d oe) (hf : ∃ vs, oe.data = .fields vs) (hx : ∀ c, XfC X.K (N.xc c) ∧ PySem.W.findIn X.K (.ref (N.xc c)) "place" = some none) :
    ∀ {h : List (Option D)} {es : List Expr}, nost es = true → chkH Ns sc i h es = true → PA (X.suite a ((a, oe) :: pn)) es (tHs N a cls d i h) ∧ (h.all fun o => match o with | some d => isC d | none => true) = true
  | [], es, _, h => by
    simp only [chkH, List.isEmpty_iff] at h
    subst h
    exact ⟨pa_nil, rfl⟩
  | o :: hs, es, n, h => by
    simp only [chkH] at h
    split at h
    · rename_i e es
      simp only [Bool.and_eq_true] at h
      simp only [nost, List.all_cons, Bool.and_eq_true, Bool.not_eq_true'] at n
      obtain ⟨p1, p2⟩ := chkH_ok C hz hf hx (h := hs) n.2 h.2
      have h6 := h.1
      cases o with
      | some d =>
        dsimp only at h6
        split at h6
        · simp only [Bool.and_eq_true] at h6
          exact ⟨pa_cons (ok_k h6.1 h6.2) p1 (hs := star_of n.1), by simp only [List.all_cons, Bool.and_eq_true]; exact ⟨h6.2, p2⟩⟩
        · cases h6
      | none =>
        dsimp only at h6
        split at h6
        · rename_i y p f p'
          simp only [Bool.and_eq_true, beq_iff_eq] at h6
          obtain ⟨rfl, h7⟩ := h6
          have hv : PE (X.suite a ((a, oe) :: pn)) (.Name y p) (tVar i) := by
            unfold nmB at h7
            simp only [Bool.and_eq_true, beq_iff_eq, Bool.not_eq_true'] at h7
            obtain ⟨⟨⟨h1, h2⟩, h3⟩, h4⟩ := h7
            exact pe_var (by show X.N[i]? = _; rw [C.hN]; exact h1) (C.hsc.vis (visB_ok h2)) h3 h4
          have hp : PE (X.suite a ((a, oe) :: pn)) (.Attribute (.Name y p) ("place" : Str) p') (tH N a cls d i none) := ⟨fun pins s σ H Q I ⟨c, q⟩ => (pe_xf (hx c).1 (hx c).2 hz hf hv (attr_base rfl)).run pins s σ H Q I q⟩
          exact ⟨pa_cons hp p1 (hs := star_of n.1), by simp only [List.all_cons, Bool.and_eq_true]; exact ⟨True.intro, p2⟩⟩
        · cases h6
    · cases h
theorem chkH_all {i : Nat} : ∀ {h : List (Option D)} {es : List Expr}, chkH Ns sc i h es = true → (h.all fun o => match o with | some d => isC d | none => true) = true
  | [], es, _ => rfl
  | o :: hs, es, h => by
    simp only [chkH] at h
    split at h
    · simp only [Bool.and_eq_true] at h
      have p2 := chkH_all (h := hs) h.2
      have h6 := h.1
      simp only [List.all_cons, Bool.and_eq_true]
      refine ⟨?_, p2⟩
      cases o with
      | none => rfl
      | some d =>
        dsimp only at h6
        split at h6
        · simp only [Bool.and_eq_true] at h6
          exact h6.2
        · cases h6
    · cases h
def OkS (T : Nt) (N : Nm) (g : G) (Ns : List Str) (sc : Scope) (st : S) : Prop := ∀ {W : WX} {X : Cx}, CtxS T N W g sc Ns X → (∀ {ast : Stmt}, chk1 T Ns sc st ast = true → PS X ast (tSt X.K N W g st)) ∧ (∀ {sts : List Stmt}, chkB T Ns sc st sts = true → PSs X sts (tSt X.K N W g st))
set_option maxHeartbeats 1000000
theorem ok_s (st : S) : OkS T N g Ns sc st := by
  induction st with
  | skip =>
    intro W X C
    refine ⟨fun {ast} h => ?_, fun {sts} h => ?_⟩
    · simp only [chk1] at h
      split at h
      · exact ps_imp ps_pass fun D σ H q => s_skip q
      · exact ps_imp ps_doc fun D σ H q => s_skip q
      · cases h
    · simp only [chkB, List.isEmpty_iff] at h
      subst h
      exact pss_imp pss_nil fun D σ H q => s_skip q
  | seq a b iha ihb =>
    intro W X C
    refine ⟨fun {ast} h => absurd h (by simp [chk1]), fun {sts} h => ?_⟩
    simp only [chkB] at h
    split at h
    · simp only [Bool.and_eq_true] at h
      exact pss_imp (pss_cons ((iha C).1 h.1) ((ihb C).2 h.2)) fun D σ H q => s_seq q
    · cases h
  | asg i e =>
    intro W X C
    refine ⟨fun {ast} h => ?_, fun {sts} h => absurd h (by simp [chkB])⟩
    simp only [chk1] at h
    split at h
    · rename_i x py v pos
      simp only [Bool.and_eq_true] at h
      obtain ⟨⟨h1, h2⟩, h3⟩ := h
      obtain ⟨n1, n2, n3⟩ := C.nm h1
      have plain : swapsWith v (some (.Name x py)) pos.line X.env = pure false → PS X (.Assign [.Name x py] v pos) (tSt X.K N W g (.asg i e)) := fun hs =>
        ps_imp (ps_set (by rw [C.hN]; exact C.nd) n1 n2 ((ok_e e C.toCtxOk h3).1 false) hs n3) fun D σ H q => s_asg q
      split at h2
      · rename_i elt gs scope vp
        cases hsw : swLc sc x py scope vp with
        | true =>
          rw [hsw, Bool.not_true, Bool.or_false] at h2
          exact ps_imp (ok_setLc C h1 hsw h2 h3) fun D σ H q => s_asg q
        | false => exact plain (by rw [swlc_ok, C.se, hsw])
      · exact plain (sw_no (by simpa using h2))
    · cases h
  | par ts es =>
    intro W X C
    refine ⟨fun {ast} h => ?_, fun {sts} h => absurd h (by simp [chkB])⟩
    simp only [chk1] at h
    split at h
    · rename_i ns k tp vs k2 tp2 pos
      simp only [Bool.and_eq_true, decide_eq_true_eq, Bool.or_eq_true, beq_iff_eq] at h
      obtain ⟨⟨⟨⟨⟨h1, h2⟩, h3⟩, h4⟩, h5⟩, h6⟩ := h
      obtain ⟨xs, rfl, e2, e3⟩ := nms_ok C h4
      cases hsw : swB sc (xs.map fun x => .Name x.1 x.2) vs with
      | none => rw [hsw] at h1; cases h1
      | some o =>
        cases o with
        | none => rw [hsw] at h1; cases h1
        | some ys =>
          obtain ⟨rfl, hl⟩ := sw_names hsw
          have hw := sw_ok (env := X.env) (k := k) (p := tp) (k2 := k2) (p2 := tp2) (by rw [C.se]; exact hsw)
          have PAx := ok_es es C.toCtxOk h5 h6
          have nd : X.N.Nodup := by rw [C.hN]; exact C.nd
          rcases h2 with h2 | h2
          · match ts, h2, xs, e2, vs, hl, hw, PAx, e3, h3 with
            | [i, j], _, [x, y], _, [a, b], _, hw, PAx, e3, h3 =>
              obtain ⟨a1, b1⟩ := e3 0 i x rfl rfl
              obtain ⟨a2, b2⟩ := e3 1 j y rfl rfl
              have hij : i ≠ j := by simpa using h3
              exact ps_imp (ps_par C.calm nd a1 a2 hij b1 b2 PAx hw rfl) fun D σ H q => par2_imp (s_par q) fun Q Q' im => tA_mono im
          · match ts, h2, xs, e2, vs, hl, hw, PAx, e3, h3 with
            | [i, j, l], _, [x, y, z], _, [a, b, c], _, hw, PAx, e3, h3 =>
              obtain ⟨a1, b1⟩ := e3 0 i x rfl rfl
              obtain ⟨a2, b2⟩ := e3 1 j y rfl rfl
              obtain ⟨a3, b3⟩ := e3 2 l z rfl rfl
              have hn : (i ≠ j ∧ i ≠ l) ∧ j ≠ l := by simpa using h3
              exact ps_imp (ps_par3 C.calm nd a1 a2 a3 hn.1.1 hn.1.2 hn.2 b1 b2 b3 PAx hw rfl) fun D σ H q => par3_imp (s_par q) fun Q Q' im => tA_mono im
    · cases h
  | unp tg e =>
    intro W X C
    refine ⟨fun {ast} h => ?_, fun {sts} h => absurd h (by simp [chkB])⟩
    simp only [chk1] at h
    split at h
    · rename_i ns k tp v pos
      simp only [Bool.and_eq_true, Bool.not_eq_true'] at h
      obtain ⟨⟨⟨h1, h2⟩, h3⟩, h4⟩ := h
      have hw : swappedStores [.Tuple ns k tp] v X.env = pure none := by
        split at h1
        · rename_i vs k2 p2
          cases hsw : swB sc ns vs with
          | none => rw [hsw] at h1; cases h1
          | some o =>
            cases o with
            | some ys => rw [hsw] at h1; cases h1
            | none => exact sw_ok (by rw [C.se]; exact hsw)
        · rename_i hne
          exact swt_no (by cases v <;> first | rfl | exact absurd rfl (hne _ _ _))
      exact ps_imp (ps_asg ((ok_e e C.toCtxOk h4).1 true) (ok_g C.toCtxOk tg h3) (sws_no h2) hw rfl) fun D σ H q => s_unp q
    · cases h
  | unpI p i ts e =>
    intro W X C
    refine ⟨fun {ast} h => ?_, fun {sts} h => absurd h (by simp [chkB])⟩
    simp only [chk1] at h
    split at h
    · rename_i o ix sp ns k tp v pos
      simp only [Bool.and_eq_true, Bool.not_eq_true'] at h
      obtain ⟨⟨⟨⟨⟨⟨⟨⟨h1, h2⟩, hn⟩, h3⟩, h4⟩, h5⟩, h6⟩, h7⟩, h8⟩ := h
      have hw : swappedStores [.Tuple (.Subscript o ix sp :: ns) k tp] v X.env = pure none := by
        split at h1
        · rename_i vs k2 p2
          cases hsw : swB sc (.Subscript o ix sp :: ns) vs with
          | none => rw [hsw] at h1; cases h1
          | some o =>
            cases o with
            | some ys => rw [hsw] at h1; cases h1
            | none => exact sw_ok (by rw [C.se]; exact hsw)
        · rename_i hne
          exact swt_no (by cases v <;> first | rfl | exact absurd rfl (hne _ _ _))
      obtain ⟨pp, pf⟩ := ok_p C.toCtxOk (path_of h4) h5
      obtain ⟨pg, pl⟩ := ok_gs C.toCtxOk ts hn h7
      have n2 : nost (.Subscript o ix sp :: ns) = true := by
        simp only [nost, List.all_cons, Bool.and_eq_true]
        exact ⟨rfl, hn⟩
      have gl := gs_len (env := X.env) n2
      have PGx : PG X (.Tuple (.Subscript o ix sp :: ns) k tp) (gSeq X.K (ts.length + 1) (gCons (gSub (tPath X.K N W g p) (tE X.K N W g i true) rSetL) (gTs X.K ts))) :=
        pg_seq C.calm (pgs_cons (pg_sub pp ((ok_e i C.toCtxOk h6).1 true) set_list (asg_sub h3)) pg (by rw [gl.2.2, (gs_len (env := X.env) hn).2.2]; rfl)) (gl.1.trans (by simp [pl])) gl.2.1
      exact ps_imp (ps_asg ((ok_e e C.toCtxOk h8).1 true) PGx (sws_no h2) hw rfl) fun D σ H q => s_unpI C.inj T.nf C.cls C.nat pf q
    · cases h
  | setI p i e =>
    intro W X C
    refine ⟨fun {ast} h => ?_, fun {sts} h => absurd h (by simp [chkB])⟩
    simp only [chk1] at h
    split at h
    · simp only [Bool.and_eq_true, Bool.not_eq_true'] at h
      obtain ⟨⟨⟨⟨⟨h1, h2⟩, h3⟩, h4⟩, h5⟩, h6⟩ := h
      obtain ⟨pp, pf⟩ := ok_p C.toCtxOk (path_of h3) h4
      exact ps_imp (ps_asg ((ok_e e C.toCtxOk h6).1 false) (pg_sub pp ((ok_e i C.toCtxOk h5).1 true) set_list (asg_sub h2)) (sws_no h1) rfl rfl) fun D σ H q => s_setI C.inj T.nf C.cls C.nat pf q
    · cases h
  | setF p f e =>
    intro W X C
    refine ⟨fun {ast} h => ?_, fun {sts} h => absurd h (by simp [chkB])⟩
    simp only [chk1] at h
    split at h
    · simp only [Bool.and_eq_true, Bool.not_eq_true', beq_iff_eq] at h
      obtain ⟨⟨⟨⟨⟨h1, h2⟩, h3⟩, h4⟩, h5⟩, h6⟩ := h
      have hf : f < T.nf := by simpa [Nat.blt_eq] using h3
      obtain ⟨pp, pf⟩ := ok_p C.toCtxOk (path_of h4) h5
      have h1' := (C.tf f).symm.trans h2
      subst h1'
      exact ps_imp (ps_fld pp ((ok_e e C.toCtxOk h6).1 false) (sw_no h1)) fun D σ H q => s_setF C.inj T.nf C.cls C.nat pf hf q
    · cases h
  | aug i op e =>
    intro W X C
    refine ⟨fun {ast} h => ?_, fun {sts} h => absurd h (by simp [chkB])⟩
    simp only [chk1] at h
    split at h
    · simp only [Bool.and_eq_true] at h
      obtain ⟨⟨h1, h2⟩, h3⟩ := h
      obtain ⟨n1, n2, n3⟩ := C.nm h1
      split at h2
      · rename_i o' fn ho
        cases beq_iff_eq.mp h2
        exact ps_imp (ps_aug (by rw [C.hN]; exact C.nd) n1 n2 ((ok_e e C.toCtxOk h3).1 false) (ip_of ho) n3) fun D σ H q => s_aug ho q
      · cases h2
    · cases h
  | augF p f op e =>
    intro W X C
    refine ⟨fun {ast} h => ?_, fun {sts} h => absurd h (by simp [chkB])⟩
    simp only [chk1] at h
    split at h
    · simp only [Bool.and_eq_true, beq_iff_eq] at h
      obtain ⟨⟨⟨⟨⟨h1, h2⟩, h3⟩, h4⟩, h5⟩, h6⟩ := h
      have hf : f < T.nf := by simpa [Nat.blt_eq] using h3
      obtain ⟨pp, pf⟩ := ok_p C.toCtxOk (path_of h4) h5
      have h1' := (C.tf f).symm.trans h2
      subst h1'
      split at h1
      · rename_i o' fn ho
        cases beq_iff_eq.mp h1
        exact ps_imp (ps_fldaug pp ((ok_e e C.toCtxOk h6).1 true) (in_of ho)) fun D σ H q => s_augF C.inj T.nf C.cls C.nat pf hf ho q
      · cases h1
    · cases h
  | app p e =>
    intro W X C
    refine ⟨fun {ast} h => ?_, fun {sts} h => absurd h (by simp [chkB])⟩
    simp only [chk1] at h
    split at h
    · simp only [Bool.and_eq_true, beq_iff_eq, Bool.not_eq_true', List.isEmpty_iff] at h
      obtain ⟨⟨⟨⟨⟨⟨⟨rfl, rfl⟩, h2⟩, h3⟩, h4⟩, h5⟩, h6⟩, h7⟩ := h
      obtain ⟨pp, pf⟩ := ok_p C.toCtxOk (path_of h5) h6
      exact ps_imp (ps_expr (pe_bm F.plainAttrs_list F.slot_list_append F.type_list_append mt_append pp (pa_cons ((ok_e e C.toCtxOk h7).1 false) pa_nil (hs := star_of h3)) (attr_base h2) (by rw [star_of h3]; rfl) (beq_iff_eq.mpr h4) (star_of h3) rfl) rfl) fun D σ H q => s_app C.inj T.nf C.cls C.nat pf q
    · cases h
  | drop e =>
    intro W X C
    refine ⟨fun {ast} h => ?_, fun {sts} h => absurd h (by simp [chkB])⟩
    simp only [chk1] at h
    split at h
    · simp only [Bool.and_eq_true, Bool.not_eq_true'] at h
      exact ps_imp (ps_expr ((ok_e e C.toCtxOk h.2).1 false) (sw_no h.1)) fun D σ H q => s_drop q
    · cases h
  | ife c a b iha ihb =>
    intro W X C
    refine ⟨fun {ast} h => ?_, fun {sts} h => absurd h (by simp [chkB])⟩
    simp only [chk1] at h
    split at h
    · simp only [Bool.and_eq_true] at h
      obtain ⟨⟨⟨h1, h2⟩, h3⟩, h4⟩ := h
      exact ps_imp (ps_if ((ok_e c C.toCtxOk h2).2 h1).1 ((iha C).2 h3) ((ihb C).2 h4)) fun D σ H q => s_ife q
    · cases h
  | whl c b w ihb =>
    intro W X C
    refine ⟨fun {ast} h => ?_, fun {sts} h => absurd h (by simp [chkB])⟩
    simp only [chk1] at h
    split at h
    · simp only [Bool.and_eq_true] at h
      obtain ⟨⟨h1, h2⟩, h3⟩ := h
      exact ps_imp (ps_while C.hp ((ok_e c C.toCtxOk h2).2 h1).1 ((ihb C).2 h3)) fun D σ H q => s_whl q
    · cases h
  | fore tg it b w ihb =>
    intro W X C
    refine ⟨fun {ast} h => ?_, fun {sts} h => absurd h (by simp [chkB])⟩
    simp only [chk1] at h
    split at h
    · rename_i t x y pos
      simp only [Bool.and_eq_true, Bool.not_eq_true'] at h
      obtain ⟨⟨⟨h1, h2⟩, h3⟩, h4⟩ := h
      have hw : ∀ z, foldedSetIterable x X.env z = pure z := by
        intro z
        cases x <;> first | rfl | cases h1
      exact ps_imp (ps_for C.hp C.calm (ok_i it C.toCtxOk h3) (ok_g C.toCtxOk tg h2) ((ihb C).2 h4) hw) fun D σ H q => s_fore q
    · cases h
  | ret e =>
    intro W X C
    refine ⟨fun {ast} h => ?_, fun {sts} h => absurd h (by simp [chkB])⟩
    simp only [chk1] at h
    split at h
    · exact ps_imp (ps_ret ((ok_e e C.toCtxOk h).1 false)) fun D σ H q => s_ret q
    · cases h
  | retN =>
    intro W X C
    refine ⟨fun {ast} h => ?_, fun {sts} h => absurd h (by simp [chkB])⟩
    simp only [chk1] at h
    split at h
    · exact ps_imp ps_retN fun D σ H q => s_retN q
    · cases h
  | brk =>
    intro W X C
    refine ⟨fun {ast} h => ?_, fun {sts} h => absurd h (by simp [chkB])⟩
    simp only [chk1] at h
    split at h
    · exact ps_imp ps_break fun D σ H q => s_brk q
    · cases h
  | cnt =>
    intro W X C
    refine ⟨fun {ast} h => ?_, fun {sts} h => absurd h (by simp [chkB])⟩
    simp only [chk1] at h
    split at h
    · exact ps_imp ps_continue fun D σ H q => s_cnt q
    · cases h
  | raise c e =>
    intro W X C
    refine ⟨fun {ast} h => ?_, fun {sts} h => absurd h (by simp [chkB])⟩
    simp only [chk1] at h
    split at h
    · rename_i x p y kws cp pos
      simp only [Bool.and_eq_true, beq_iff_eq, Bool.not_eq_true', List.isEmpty_iff] at h
      obtain ⟨⟨⟨⟨⟨rfl, h1⟩, h2⟩, h3⟩, h4⟩, h5⟩ := h
      obtain ⟨k, fI, fd, ps, z1, z2, z3, z4, z5, z6, z7⟩ := C.xn c _ h1
      exact ps_imp (ps_raise C.calm C.tk (pmk_oex z2 z3 z4 z5 z6 z7 .nil passX (C.gl h2) z1 (pa_cons ((ok_e e C.toCtxOk h5).1 false) pa_nil (hs := star_of h4)) h3 (star_of h4) rfl)) fun D σ H q => s_raise q
    · cases h
  | tryx b c i h ihb =>
    intro W X C
    refine ⟨fun {ast} hh => ?_, fun {sts} h => absurd h (by simp [chkB])⟩
    simp only [chk1] at hh
    split at hh
    · rename_i body x np n es tk tp rp hp pos
      simp only [Bool.and_eq_true, beq_iff_eq, Bool.not_eq_true'] at hh
      obtain ⟨⟨⟨⟨⟨⟨⟨⟨h1, h2⟩, h3⟩, h4⟩, h5⟩, h6⟩, h7⟩, h8⟩, h9⟩ := hh
      obtain ⟨hx1, hx2⟩ := C.hx h1
      obtain ⟨k, fI, fd, ps, z1, z2, z3, z4, z5, z6, z7⟩ := C.xn c _ h2
      have hln : X.env.kindOf n = some .local := by
        unfold Env.kindOf
        rw [C.se]
        unfold locC at h6
        exact beq_iff_eq.mp h6
      have all := chkH_all h8
      refine ps_imp (ps_try_as (x := x) (n := n) (c := .ref (N.xc c)) (i := i) (tb := fun W' => tSt X.K N W' g b) (ts := tSu N i h) (Wout := W) C.hs C.hf (by rw [C.hN]; exact C.nd) (by rw [C.hN]; exact h5) hln ⟨C.gl h3, h4, .inl z1⟩ C.tk (fun W' pn xe tk hp => (ihb (C.tr pn xe tk hp)).2 h9) fun a oe cls d pn hz hf => ?_) fun D σ H q => ?_
      · exact pss_one (ps_ret (pe_tup (chkH_ok C hz hf hx2 h7 h8).1))
      · exact s_try hx1 all q
    · cases hh
end
end Ev

/-! The program's defs, level by level. -/
namespace Ev
open PySem PySem.Spec PyProof.Rows L2
structure FDef where
  np : Nat
  ns : List Str
  body : S
structure Prog where
  defs : Nat → Option FDef
  init : Nat → Nat
  glob : Nat → D
  sub : Nat → Nat → Bool
/-- what has become of the parameters -/
def kept (A : List Nat) (ρ : Env) : Nat → Nat → List (Option D)
  | _, 0 => []
  | k, n + 1 => (if A.contains k then none else getS ρ k) :: kept A ρ (k + 1) n
def runD (g : G) (fd : FDef) (ds : List D) : R (D × List (Option D)) := R.guard (ds.length == fd.np && decide (fd.np ≤ fd.ns.length)) (match exec g fd.body (ds.map some ++ List.replicate (fd.ns.length - fd.np) none) with
  | .ok (fl, ρ') => (match fl with | .nx => .ok (.non, kept (asgS fd.body) ρ' 0 fd.np) | .rt d => .ok (d, kept (asgS fd.body) ρ' 0 fd.np) | _ => .bad)
  | .exn c p => .exn c p
  | .bad => .bad)
def semG (P : Prog) : Nat → G
  | 0 => { call := fun _ _ => .bad, init := P.init, glob := P.glob, sub := P.sub }
  | n + 1 => { call := fun f ds => (match P.defs f with | some fd => runD (semG P n) fd ds | none => .bad), init := P.init, glob := P.glob, sub := P.sub }
/-- what must be known of the program as it stands in the heap -/
structure Facts (Pg : Prog) (T : Nt) (N : Nm) (ad : Nat → Addr) (fdt : Nat → FuncData) (ps : Nat → List Str) (prog : Program) (w : World) (K : PySem.W.Frag) (mg : Str → Option Value) (base : Heap) : Prop where
  inj : ∀ a b, N.fld a = N.fld b → a = b
  tf : ∀ f, T.fld f = N.fld f
  cls : ∀ c, Cls K (N.cls c)
  nat : ∀ c f, f < T.nf → NoAttr K (N.cls c) (N.fld f)
  nob : ∀ x ∈ T.bl, mg x = none
  glob : ∀ n x, T.gn n = some x → ∃ v u, mg x = some u ∧ RelV v u ∧ ∀ H own t, Rep K N H own t (Pg.glob n) v []
  hx : T.hx = true → (∀ c' c, PySem.W.exmOne K (.ref (N.xc c')) (.ref (N.xc c)) = some (Pg.sub c' c)) ∧ ∀ c, XfC K (N.xc c) ∧ PySem.W.findIn K (.ref (N.xc c)) "place" = some none
  xn : ∀ c x, T.xn c = some x → ∃ fI fd q, mg x = some (.ref (N.xc c)) ∧ OexC K (N.xc c) ∧ PySem.W.findIn K (.ref (N.xc c)) "__init__" = some (some (.ref fI)) ∧ PySem.W.typeIn K (.ref fI) = some (.type "function") ∧ FnOk prog w K mg base (L2.CX prog w) 8 fI fd q (spI (N.xc c)) ∧ Binds K fd q []
  fn : ∀ f x, T.fn f = some x → mg x = some (.ref (ad f)) ∧ PySem.W.keepIn K (.ref (ad f)) = true ∧ Binds K (fdt f) (ps f) []
  mt : ∀ c f m, T.mt c f = some m → Meth K (N.cls c) m (ad f) ∧ Binds K (fdt f) (ps f) [] ∧ ∀ j, N.fld j ≠ m
  cn : ∀ c x, T.cn c = some x → mg x = some (.ref (N.cls c)) ∧ Mk K (N.cls c) (ad (Pg.init c)) ∧ Binds K (fdt (Pg.init c)) (ps (Pg.init c)) []
  defs : ∀ f fd, Pg.defs f = some fd → ps f = fd.ns.take fd.np ∧ ∃ x qual st, Fun K x qual st (ad f) (fdt f) ∧ FnScope fd.ns (ps f) (defScope st) ∧ chkB T fd.ns (defScope st) fd.body (defBody st) = true
section
variable {Pg : Prog} {T : Nt} {N : Nm} {ad : Nat → Addr} {fdt : Nat → FuncData} {ps : Nat → List Str} {prog : Program} {w : World} {K : PySem.W.Frag} {mg : Str → Option Value} {base : Heap}
theorem semG_init (n : Nat) : (semG Pg n).init = Pg.init := by cases n <;> rfl
theorem semG_glob (n : Nat) : (semG Pg n).glob = Pg.glob := by cases n <;> rfl
theorem semG_sub (n : Nat) : (semG Pg n).sub = Pg.sub := by cases n <;> rfl
/-- the arguments in their slots -/
theorem args_env {own : Addr → Own} {H : Hp} : ∀ {ds : List D} {k : Nat} {vs : List V}, ArgsS K N H own k ds vs → ∀ (j : Nat) (d : D), ds[j]? = some d → ∃ v F, vs[j]? = some v ∧ Rep K N H own (.sl (k + j)) d v F ∧ F.Nodup
  | [], k, vs, h, j, d, e => by simp at e
  | d0 :: ds, k, vs, h, j, d, e => by
    obtain ⟨v, vs', F, rfl, r, nd, h'⟩ := h
    cases j with
    | zero =>
      simp only [List.getElem?_cons_zero, Option.some.injEq] at e
      subst e
      exact ⟨v, F, rfl, r, nd⟩
    | succ j =>
      simp only [List.getElem?_cons_succ] at e
      obtain ⟨v', F', a, b, c⟩ := args_env h' j d e
      refine ⟨v', F', a, ?_, c⟩
      rw [show k + (j + 1) = k + 1 + j by omega]
      exact b
theorem start_env {own : Addr → Own} {H : Hp} {ds : List D} {vs : List V} {Ns : List Str} (h : ArgsS K N H own 0 ds vs) (hn : ∀ a k, own a ≠ .tp k) : EnvOk K N own (start Ns vs) H (ds.map some ++ List.replicate (Ns.length - ds.length) none) 0 := by
  have hl := h.length
  refine ⟨by unfold L2.start; simp [hl], fun a k z => absurd z (hn a k), fun i d g => ?_⟩
  unfold getS at g
  have hi : i < ds.length := by
    apply Decidable.byContradiction
    intro c
    rw [List.getElem?_append_right (by simpa using Nat.le_of_not_lt c)] at g
    cases q : (List.replicate (Ns.length - ds.length) (none : Option D))[i - (ds.map some).length]? with
    | none => rw [q] at g; cases g
    | some o =>
      rw [q] at g
      have := List.eq_of_mem_replicate (List.mem_of_getElem? q)
      subst this
      cases g
  rw [List.getElem?_append_left (by simpa using hi), List.getElem?_map] at g
  cases q : ds[i]? with
  | none => rw [q] at g; cases g
  | some d' =>
    rw [q] at g
    cases g
    obtain ⟨v, F, a, b, c⟩ := args_env h i d q
    rw [Nat.zero_add] at b
    refine ⟨v, F, ?_, b, c⟩
    unfold L2.start
    rw [List.getElem?_append_left (by simpa [hl] using hi), List.getElem?_map, a]
    rfl
theorem kept_ret {own' : Addr → Own} {H' : Hp} {σ' : L2.St} {ρ' : Env} {A : List Nat} {t : Nat} {Ns : List Str} {vs : List V} (env : EnvOk K N own' σ' H' ρ' t) (ag : Agr A (start Ns vs) σ') : ∀ {n k : Nat}, n + k = vs.length → RetR K N H' own' k (kept A ρ' k n) (vs.drop k)
  | 0, k, h => by
    rw [List.drop_eq_nil_of_le (by omega)]
    exact True.intro
  | n + 1, k, h => by
    have hk : k < vs.length := by omega
    rw [List.drop_eq_getElem_cons hk]
    refine ⟨fun d e => ?_, kept_ret env ag (n := n) (by omega)⟩
    by_cases c : A.contains k = true
    · rw [if_pos c] at e; cases e
    · rw [if_neg c] at e
      obtain ⟨v, F, e1, r, nd⟩ := env.sl k d e
      have hm : k ∉ A := fun z => c (List.contains_iff_mem.mpr z)
      have e2 := ag k hm
      rw [e1] at e2
      unfold L2.start at e2
      rw [List.getElem?_append_left (by simpa using hk), List.getElem?_map, List.getElem?_eq_getElem hk] at e2
      simp only [Option.map_some, Option.some.injEq] at e2
      subst e2
      exact ⟨F, r, nd⟩
theorem levels (Fc : Facts Pg T N ad fdt ps prog w K mg base) : ∀ n f, FnOk prog w K mg base (L2.CX prog w) (2 * n + 8) (ad f) (fdt f) (ps f) (spC K N (semG Pg n).call f)
  | 0, f => ⟨fun vs H Q E h => by obtain ⟨_, _, _, _, z⟩ := h; exact z.elim, fun A outer s H args us vs Q E _ _ _ _ h => by obtain ⟨_, _, _, _, z⟩ := h; exact z.elim⟩
  | n + 1, f => by
    have ih := levels Fc n
    cases hd : Pg.defs f with
    | none =>
      have bad : ∀ vs H Q E, spC K N (semG Pg (n + 1)).call f vs H Q E → False := fun vs H Q E h => by
        obtain ⟨ds, own, _, _, z⟩ := h
        simp only [semG, hd] at z
      exact ⟨fun vs H Q E h => (bad vs H Q E h).elim, fun A outer s H args us vs Q E _ _ _ _ h => (bad vs H Q E h).elim⟩
    | some fd =>
      obtain ⟨hps, x, qual, st, F1, S1, hck⟩ := Fc.defs f fd hd
      rw [show 2 * (n + 1) + 8 = (2 * n + 9) + 1 by omega]
      have look : ∀ {vs H Q E}, spC K N (semG Pg (n + 1)).call f vs H Q E → ∃ ds own, ArgsS K N H own 0 ds vs ∧ (∀ a k, own a ≠ .tp k) ∧ ds.length = fd.np ∧ fd.np ≤ fd.ns.length ∧
          (match (match exec (semG Pg n) fd.body (ds.map some ++ List.replicate (fd.ns.length - fd.np) none) with
            | .ok (fl, ρ') => (match fl with | .nx => R.ok (D.non, kept (asgS fd.body) ρ' 0 fd.np) | .rt d => .ok (d, kept (asgS fd.body) ρ' 0 fd.np) | _ => .bad)
            | .exn c p => .exn c p
            | .bad => .bad) with
            | .ok (d, rs) => ∀ own' H' v F, KpF own H own' H' → Rep K N H' own' (.tp 0) d v F → F.Nodup → RetR K N H' own' 0 rs vs → Q v H'
            | .exn c p => ∀ own' H' dx fs vp, KpF own H own' H' → H' dx = some (.xd fs) → fs.lookup ("place" : Str) = some vp → Rep K N H' own' .fz p vp [] → E (.ref (N.xc c)) (some dx) H'
            | .bad => False) := fun {vs H Q E} h => by
        obtain ⟨ds, own, a, b, z⟩ := h
        simp only [semG, hd, runD] at z
        cases hc : (ds.length == fd.np && decide (fd.np ≤ fd.ns.length)) with
        | false => rw [hc] at z; exact z.elim
        | true =>
          rw [hc] at z
          simp only [Bool.and_eq_true, beq_iff_eq, decide_eq_true_eq] at hc
          exact ⟨ds, own, a, b, hc.1, hc.2, z⟩
      refine F1.okX S1 (fun vs H Q E h => ?_) fun cdv A outer s H vs Q E hr h => ?_
      · obtain ⟨ds, own, a, _, e1, e2, _⟩ := look h
        rw [a.length, e1, hps, List.length_take]
        omega
      · obtain ⟨ds, own, args, nt, e1, e2, post⟩ := look h
        have hr8 : Room (2 * n + 8) (A.deeper (envOfC qual (defScope st) s.heap.objs.size (ad f) cdv)) := hr.mono (by omega)
        have C : CtxS T N (fun cls d _ H => E cls d H) (semG Pg n) (defScope st) fd.ns (cxOf (L2.CX prog w) prog w K mg base fd.ns qual (defScope st) (ad f) cdv A outer s H E) := {
          hsc := ScOk.refl
          hN := rfl
          tk := takes_of rfl rfl rfl rfl
          calm := rfl
          nd := S1.nd
          hu := hr.units
          fnc := fun _ _ => rfl
          inj := Fc.inj
          tf := Fc.tf
          cls := Fc.cls
          nat := Fc.nat
          nob := Fc.nob
          glob := fun n' x h => by
            rw [semG_glob]
            exact Fc.glob n' x h
          fn := fun f' x h => by
            obtain ⟨a, b, c⟩ := Fc.fn f' x h
            exact ⟨_, ad f', fdt f', ps f', a, b, ih f', hr8, c⟩
          mt := fun c f' m h => by
            obtain ⟨a, b, d⟩ := Fc.mt c f' m h
            exact ⟨_, ad f', fdt f', ps f', a, ih f', hr8, b, d⟩
          cn := fun c x h => by
            obtain ⟨a, b, d⟩ := Fc.cn c x h
            refine ⟨2 * n + 8, ad (Pg.init c), fdt (Pg.init c), ps (Pg.init c), a, b, ?_, hr, d⟩
            rw [semG_init]
            exact ih (Pg.init c)
          hx := fun h => by
            rw [semG_sub]
            exact Fc.hx h
          xn := fun c x h => by
            obtain ⟨fI, fd', q, a, b, c', d, e, f'⟩ := Fc.xn c x h
            exact ⟨8, fI, fd', q, a, b, c', d, e, hr.mono (by omega), f'⟩
          se := rfl
          hp := passes_of rfl
          hs := rfl
          hf := rfl }
        refine ⟨_, (ok_s fd.body C).2 hck, own, _, start_env args nt, ?_⟩
        have hl := args.length
        rw [← e1] at post
        have ret : ∀ {own' σ' H' ρ' t}, Nxt own (start fd.ns vs) H (asgS fd.body) own' σ' H' → EnvOk K N own' σ' H' ρ' t → RetR K N H' own' 0 (kept (asgS fd.body) ρ' 0 ds.length) vs := fun n env => by
          have := kept_ret (vs := vs) env n.2.1 (n := ds.length) (k := 0) (by omega)
          rwa [List.drop_zero] at this
        cases hx : exec (semG Pg n) fd.body (ds.map some ++ List.replicate (fd.ns.length - ds.length) none) with
        | bad => rw [hx] at post; exact post.elim
        | exn c p =>
          rw [hx] at post
          exact fun own' σ' H' dx fs vp n => post own' H' dx fs vp n.1
        | ok r =>
          obtain ⟨fl, ρ'⟩ := r
          rw [hx] at post
          cases fl with
          | nx => exact fun own' σ' H' n env => post own' H' .non [] n.1 ⟨rfl, rfl⟩ List.nodup_nil (ret n env)
          | rt d => exact fun own' σ' H' v F n env rep nd => post own' H' v F n.1 rep nd (ret n env)
          | bk => exact post.elim
          | ct => exact post.elim
end
end Ev

/-! super().__init__(place) in an own exception's __init__, above ValueError or above another own exception. -/
namespace Ev
open PySem PySem.Spec PyProof.Rows L2 NdefX
section
open PySem.W
variable {X : Cx} {pins : List (Addr × Obj)} {σ : L2.St} {H : Hp} {s : Shared} {K : PySem.W.Frag} {a C D f cc cda : Addr} {E : Value → Shared → Prop}
/-- super(), as the base of an attribute -/
theorem super_base {body : List Stmt} {p0 p1 : Pos} {attr : Str} {whole : Sem Value} {fd : FuncData} {ar : Arg} {vs : Array Value} {file : Str} {tf : Tok} {oc ccl cl : Value} {od cdd cld : Option Addr} {osl ccs csl : Array (Option Value)} {cdD : ClassData} {Q : Value → Shared → Prop}
    (I : Inv X pins σ H s) (e : H a = some (exo a C none)) (h0 : X.N[0]? = some ar.arg) (hs : σ[0]? = some (some (.ref a)))
    (hks : X.env.kindOf "super" = some .globalImplicit) (hkc : X.env.kindOf "__class__" = some .free) (hka : X.env.kindOf ar.arg = some .local) (hat : (attr == ("__class__" : Str)) = false)
    (hfu : X.env.func = some f) (hf : X.K.lookup f = some ⟨oc, od, .func fd, osl⟩) (hp : (fd.params.posonlyargs ++ fd.params.args).head? = some ar)
    (hco : X.env.code = .ref cda) (hcode : X.K.lookup cda = some ⟨ccl, cdd, .fields vs, ccs⟩) (hvs : vs[2]? = some (.str file tf)) (hfile : ((X.prog.main.file : Str) == file) = true)
    (hcl : X.env.cells.lookup ("__class__" : Str) = some cc) (hcell : X.K.lookup cc = some ⟨cl, cld, .cell (some (.ref D)), csl⟩) (hD : clsIn X.K D = some cdD) (hsub : mroIn X.K C (.ref D) = some true) (hsuper : X.mg "super" = none)
    (htop : (X.prog.main.scope.names.lookup ("super" : Str)).isSome = false)
    (h : ∀ so h', Inv X pins σ H { s with heap := h' } → h'.get? so = some { cls := .type "super", dict := none, data := .fields #[.ref D, .ref a, .ref C], slots := #[] } → Q (.ref so) { s with heap := h' }) :
    _root_.PySem.wpAt (model X.prog X.w) X.A (.func body X.env) (attributeBase (.Call (.Name "super" p0) [] [] p1) attr X.env whole) Q E s := by
  have KI := I.kIn
  obtain ⟨t1, ho⟩ := exo_at I.hok e
  obtain ⟨oD, hD1, hD2⟩ : ∃ oD, s.heap.get? D = some oD ∧ oD.data = .cls cdD := by
    unfold clsIn at hD
    split at hD
    · rename_i c d cd' sl ho
      cases hD
      exact ⟨_, KI _ _ ho, rfl⟩
    · cases hD
  obtain ⟨mb, hb1, hb2⟩ := I.mod.blt
  obtain ⟨m, hn, hl⟩ := I.loc
  obtain ⟨u, ru, lk⟩ := hl 0 ar.arg (.ref a) h0 hs (.inl hka)
  obtain rfl : u = Value.ref a := ru
  have hm : m ar.arg = some (.ref a) := by
    rcases lk with ⟨_, q⟩ | ⟨q, _⟩
    · exact q
    · rcases q with q | q <;> (rw [hka] at q; cases q)
  refine ks_wpAt_super_base hks hkc hat hfu (KI _ _ hf) rfl hp hco (KI _ _ hcode) rfl hvs hfile htop ?_
  refine ks_loadName_global I.ok.kind hks (Calls.loadGlobal_builtin (by rw [I.ok.glob]; exact I.mod.glob.keeps I.bk) hsuper (by rw [I.ok.blt]; exact hb1.keeps I.bk) ((hb2 _ (by decide)).trans (by rfl)) ⟨rfl, ?_⟩)
  refine wpAny_loadName_free I.ok.kind hkc hcl ⟨_, KI _ _ hcell, rfl⟩ ?_
  refine wpAny_loadName_local I.ok.kind hka hn hm ?_
  obtain ⟨hh, g, d, t, os⟩ := s
  refine ks_wpAny_isType_cls hD1 hD2 ⟨rfl, ?_⟩
  refine ks_wpAny_call_super hD1 hD2 ho rfl (fun c z => by cases z) (looks_mroIn KI hsub) (fun h' e' k => ?_)
  exact h _ h' (I.kept (t' := t) k) e'
/-- ValueError.__init__ bound to the exception, called -/
theorem call_mwV {h : Heap} {g : Array GenState} {d : Drawn} {t : Nat} {os : OsState} {prog : Program} {w : World} {A : Around} {u t0 : Addr} {rest : List Value} {Q : Value → Shared → Prop} (KI : K.In h) (T : OexC K C)
    (he : h.get? a = some (HandSPX.excO C t0)) (hu : h.get? u = some (kxs_mw "ValueError.__init__" a)) (hrest : rest.length ≤ sizeLine)
    (hq : ∀ h' t1, (∀ b o, b ≠ a → h.get? b = some o → h'.get? b = some o) → h'.get? a = some (HandSPX.excO C t1) → Q .none ⟨h', g, d, t, os⟩) :
    wpAny (model prog w) A (call (.ref u) rest) Q E ⟨h, g, d, t, os⟩ := by
  obtain ⟨nm, q, N, bs, bm, sn, sub, ab, col, dd, k0, k1, k2, k3, k5, hC, hbm⟩ := T.cls
  refine wpAny_call (codeAny_of_tree ?_)
  show wpAny _ A.in1 (callAny (.ref u) ⟨rest, []⟩) _ _ _
  simp only [callAny]
  refine wpAny_bind (wpAny_load hu ?_)
  simp only [kxs_mw, show (Value.type "method-wrapper" == Value.type "method" || Value.type "method-wrapper" == Value.type "builtin_function_or_method" || Value.type "method-wrapper" == Value.type "method-wrapper") = true by decide, if_true]
  refine W.KFB.if_so (by decide) ?_
  refine wpAny_bind (ESX.check_bound F.excBase_ValueError (KI _ _ hC) he rfl ?_)
  refine wpAny_bind (wpAny_pure (wpAny_pure ?_))
  refine ⟨Code.quiet_builtin _ (by decide +kernel), codeAny_builtin F.excBase_ValueError.initEntry ?_⟩
  rw [Around.under_plainId F.excBase_ValueError.init.plain _]
  wp_walk
  refine hq _ h.objs.size (fun b o hb ho => ?_) ?_
  · rw [Heap.get?_update_other _ _ (Ne.symm hb)]
    exact Heap.get?_push_of_some _ ho
  · rw [Heap.get?_update_self _ (Heap.get?_push_of_some _ he) rfl]
    rfl
end
end Ev

/-! An own exception's __init__(self, place), over ValueError or over another own exception. -/
namespace Ev
open PySem PySem.Spec PyProof.Rows L2 NdefX
/-- the promise, the fields counted -/
def spN (n : Nat) (C : Addr) : Sp := fun vs H Q _ => ∃ a v, vs = [.ref a, v] ∧ H a = some (exo a C none) ∧ ∀ d fs, H d = none → d ≠ a → fs.length ≤ n → fs.lookup ("place" : Str) = some v → Q .non (upd (upd H a (exo a C (some d))) d (exd d fs))
theorem spN_spI {n : Nat} {C : Addr} {vs : List V} {H : Hp} {Q : VK} {E : XK} (h : spI C vs H Q E) : spN n C vs H Q E := by
  obtain ⟨a, v, e, ha, q⟩ := h
  exact ⟨a, v, e, ha, fun d fs h1 h2 _ h3 => q d fs h1 h2 h3⟩
section
variable {CX : CXT} {P : Program} {w : World} {K : PySem.W.Frag} {mg : Str → Option Value} {base : Heap} {N ps : List Str} {F : NF} {f cc : Addr} {k : Nat} {sp : Sp} {doc pm ctv : Value} {oc : Value} {od : Option Addr} {osl : Array (Option Value)}
/-- the rule of a def with the cell __class__ -/
theorem fn_cls (lk : K.lookup f = some ⟨oc, od, .func (F.fd doc pm ctv), osl⟩) (hcd : PySem.W.codeIn K (.ref F.c) F.qual = true) (hcl : F.cl = [(("__class__" : Str), cc)]) {co : Obj} {cv : Option Value} (hcc : K.lookup cc = some co) (hcv : co.data = .cell cv)
    (S : NScope N ps ["__class__"] F.scope) (len : ∀ vs H Q E, sp vs H Q E → vs.length = ps.length)
    (hbody : ∀ (A : Around) (outer : List PySem.Env) (s : Shared) (H : Hp) (vs : List V) (Q : VK) (E : XK) (s1 : Shared), Room k (A.deeper (envF F f s.heap.objs.size)) → sp vs H Q E → Inv (ncx CX P w K mg base N F f A outer s H E) [] (startF N vs [none]) H s1 →
      _root_.PySem.wpAt (model P w) (A.deeper (envF F f s.heap.objs.size)) (.func F.body (envF F f s.heap.objs.size)) (execs F.body (envF F f s.heap.objs.size)) (SP (ncx CX P w K mg base N F f A outer s H E) [] { nx := fun _ H' => Q .non H', rt := Q }) (ncx CX P w K mg base N F f A outer s H E).xe s1) :
    FnOk P w K mg base CX (k + 1) f (F.fd doc pm ctv) ps sp := by
  refine ⟨len, fun A outer s H args us vs Q E hr e0 hb r hsp => ?_⟩
  have hl := len _ _ _ _ hsp
  have KX : K.In s.heap := e0.mod.kin.keeps fun b o e => (e0.bs b o e).1
  have lim : s.heap.NoLimit := e0.mod.nolimit.keeps fun b o e => (e0.bs b o e).1
  refine ks_codeAny_call_defAt (fd := F.fd doc pm ctv) (body := F.body) (binds := ps.zip us) hr.depth (KX _ _ lk) rfl lim (PySem.W.codeRec_of KX hcd) rfl hb S.nocell (fun ⟨n, v⟩ hy => S.par n (List.of_mem_zip hy).1) (fun h₁ hns kp => ?_) S.co S.gen S.kind
  have C : CellsAt F.cl ["__class__"] [none] s.heap H := by
    obtain ⟨x1, x2⟩ := e0.bs _ _ (e0.mod.kin _ _ hcc)
    rw [hcl]
    refine ⟨rfl, fun y c h => ?_, fun x y c h1 h2 => ?_, fun i y h => ?_⟩
    · rw [List.lookup_cons] at h
      split at h
      · cases h
        exact ⟨x2, cv, co, x1, hcv⟩
      · cases h
    · rw [List.lookup_cons] at h1 h2
      split at h1
      · rename_i e1
        split at h2
        · rename_i e2
          exact (beq_iff_eq.mp e1).trans (beq_iff_eq.mp e2).symm
        · cases h2
      · cases h1
    · cases i with
      | zero =>
        simp only [List.getElem?_cons_zero, Option.some.injEq] at h
        subst h
        exact ⟨cc, by simp, fun v e => by simp at e⟩
      | succ i => simp at h
  have I := inv_startN (CX := CX) (N := N) (F := F) (f := f) (E := E) (tk := s.toks + (ps.zip us).length) S hr.hd e0 hl r C hns kp
  refine ks_wpAt_mono (hbody A outer s H vs Q E _ (hr.deeper _) hsp I) (fun fl s' hs => ?_) fun e s' x => x
  have fin : ∀ {σ' : L2.St} {H' : Hp} {v : V} {u : Value}, Inv (ncx CX P w K mg base N F f A outer s H E) [] σ' H' s' → RelV v u → Q v H' → CE outer P w H s Q u s' :=
    fun {σ' H' v u} J rv q => ⟨v, H', J.os, J.bare, J.base, J.hok, rv, q⟩
  cases fl with
  | ret u =>
    obtain ⟨v, σ', H', J, rv, q⟩ := hs
    exact fin J rv q
  | next =>
    obtain ⟨σ', H', J, q⟩ := hs
    exact fin (v := .non) J rfl q
  | brk =>
    obtain ⟨σ', H', J, q⟩ := hs
    exact q.elim
  | cont =>
    obtain ⟨σ', H', J, q⟩ := hs
    exact q.elim
end
theorem meth_formB {o : Expr} {m : Str} {apos pos : Pos} {es : List Expr} {env : PySem.Env} (hs : es.all (fun e => !isStar e) = true) (hl : es.length < 30) (hp : (apos.endLine == pos.line) = true) : eval (.Call (.Attribute o m apos) es [] pos) env = (do
      let ov ← attributeBase o m env (eval o env)
      standAt apos.atName
      let (f, first) ← holding [ov] (getMethod ov m (do return (← importBound o env).getD true))
      callWith pos f first (backTo pos (starEach es env)) []) := by
  have hf : methodCallForm (es.length + ([] : List Keyword).length) (backTo pos (starEach es env)) (backToKw pos (keywordEach [] env)) = true := by
    unfold methodCallForm
    have z := stars_of (pos := pos) (env := env) hs
    have : (backTo pos (starEach es env)).all (fun x => !x.1) = true := by
      rw [List.all_eq_not_any_not]
      simp only [Bool.not_not]
      rw [z]
      rfl
    rw [this]
    show (true && true && decide (es.length + 0 + 0 < 30)) = true
    simpa using hl
  rw [arm_eval_Call]
  unfold methodCall
  rw [hf]
  have h2 : methodCallPos true o env apos pos = pure pos := by
    unfold methodCallPos
    rw [hp]
    rfl
  rw [h2]
  rfl
end Ev

/-! The statement super().__init__(place). -/
namespace Ev
open PySem PySem.Spec PyProof.Rows L2 NdefX
section
open PySem.W
variable {X : Cx} {pins : List (Addr × Obj)} {σ : L2.St} {H : Hp} {s : Shared} {a C D f cc cda : Addr} {E : Value → Shared → Prop}
  {body : List Stmt} {p0 p1 p2 p3 p4 p5 : Pos} {fd : FuncData} {ar : Arg} {vs : Array Value} {file : Str} {tf : Tok} {oc ccl cl : Value} {od cdd cld : Option Addr} {osl ccs csl : Array (Option Value)} {cdD cdC : ClassData} {Q : PySem.Flow → Shared → Prop} {v : V}
/-- the name place, read -/
theorem ld_place (I : Inv X pins σ H s) (h1 : X.N[1]? = some ("place" : Str)) (hs1 : σ[1]? = some (some v)) (hkp : X.env.kindOf "place" = some .local) {Q : Value → Shared → Prop} (h : ∀ u, RelV v u → Q u s) : wpAny (model X.prog X.w) X.A (eval (.Name "place" p3) X.env) Q E s := by
  obtain ⟨m, hn, hl⟩ := I.loc
  obtain ⟨u, ru, lk⟩ := hl 1 "place" v h1 hs1 (.inl hkp)
  have hm : m "place" = some u := by
    rcases lk with ⟨_, q⟩ | ⟨q, _⟩
    · exact q
    · rcases q with q | q <;> (rw [hkp] at q; cases q)
  exact wpAny_Name (wpAny_loadName_local I.ok.kind hkp hn hm (h u ru)) (by decide)
/-- over ValueError -/
theorem st_superV (I : Inv X pins σ H s) (e : H a = some (exo a C none)) (h0 : X.N[0]? = some ar.arg) (hs : σ[0]? = some (some (.ref a))) (h1 : X.N[1]? = some ("place" : Str)) (hs1 : σ[1]? = some (some v))
    (hks : X.env.kindOf "super" = some .globalImplicit) (hkc : X.env.kindOf "__class__" = some .free) (hka : X.env.kindOf ar.arg = some .local) (hkp : X.env.kindOf "place" = some .local)
    (hfu : X.env.func = some f) (hf : X.K.lookup f = some ⟨oc, od, .func fd, osl⟩) (hp : (fd.params.posonlyargs ++ fd.params.args).head? = some ar)
    (hco : X.env.code = .ref cda) (hcode : X.K.lookup cda = some ⟨ccl, cdd, .fields vs, ccs⟩) (hvs : vs[2]? = some (.str file tf)) (hfile : ((X.prog.main.file : Str) == file) = true)
    (hcl : X.env.cells.lookup ("__class__" : Str) = some cc) (hcell : X.K.lookup cc = some ⟨cl, cld, .cell (some (.ref D)), csl⟩) (hD : clsIn X.K D = some cdD) (hsub : mroIn X.K C (.ref D) = some true) (hsuper : X.mg "super" = none)
    (htop : (X.prog.main.scope.names.lookup ("super" : Str)).isSome = false) (T : OexC X.K C) (hC : clsIn X.K C = some cdC) (hsup : ks_superIn X.K C D "__init__" = some (some (.builtin "ValueError.__init__"))) (hB : subIn X.K (.ref C) (.type "ValueError") = some true)
    (hop : nsIn X.K cStatics "thirdparty.any" = some none) (hline : (p2.endLine == p4.line) = true)
    (h : ∀ s', Inv X pins σ H s' → Q .next s') :
    _root_.PySem.wpAt (model X.prog X.w) X.A (.func body X.env) (PySem.exec (.Expr (.Call (.Attribute (.Call (.Name "super" p0) [] [] p1) "__init__" p2) [.Name "place" p3] [] p4) p5) X.env) Q E s := by
  refine ks_wpAt_Expr_any (ks_wpAt_MethodCall (super_base I e h0 hs hks hkc hka (by decide) hfu hf hp hco hcode hvs hfile hcl hcell hD hsub hsuper htop fun so h' I1 hso => ?_) (meth_formB rfl (by show 1 < 30; omega) hline)) I.quiet rfl
  obtain ⟨hh, g, d, t, os⟩ := s
  have KI := I1.kIn
  obtain ⟨t1, ho⟩ := exo_at I1.hok e
  have IA : InstAt h' a _ C none := ⟨ho, rfl, rfl, trivial⟩
  unfold ks_superIn at hsup
  rw [hC] at hsup
  refine kxs_getMethod kxs_ValueError hso (looks_opaque KI hop) (l₀ := cdC.mro) (fun A Q E s k q => wpAny_bind ((looks_clsIn KI hC) A _ E s k (wpAny_pure q))) rfl KI hsup (IA.type.andThen (looks_subIn KI hB)) (ks_ne KI IA hC) (by decide) ?_
  have I2 : Inv X pins σ H ⟨h'.push (kxs_mw "ValueError.__init__" a), g, d, t + 1, os⟩ := I1.kept (t' := t + 1) fun b o q => Heap.get?_push_of_some _ q
  have hu : (h'.push (kxs_mw "ValueError.__init__" a)).get? h'.objs.size = some (kxs_mw "ValueError.__init__" a) := Heap.get?_push_at rfl rfl
  refine kxs_callWith (i := "ValueError.__init__") (x := a) rfl (Calls.evalArgs_plain (spliced_more (ld_place I2 h1 hs1 hkp fun u ru => spliced_none ⟨hu, ?_⟩)))
  obtain ⟨t2, ho2⟩ := exo_at I2.hok e
  refine call_mwV I2.kIn T (t0 := t2) ho2 hu (by show 1 ≤ sizeLine; rw [sizeLine_eq]; omega) fun h3 t3 k hx => ?_
  have J := I2.write (h' := h3) (t' := t + 1) (x := a) (e := a) (o := exo a C none) (by rw [e]; exact True.intro) (.inl rfl) k ⟨_, hx⟩ (exo_ok hx)
  have eu : upd H a (exo a C none) = H := by
    funext b
    by_cases hb : b = a
    · rw [hb, upd_same, e]
    · rw [upd_ne hb]
  rw [eu] at J
  exact h _ J
/-- over another own exception -/
theorem st_superO {f2 : Addr} {fd2 : FuncData} {k2 n : Nat} {Hf : Addr → Hp} (I : Inv X pins σ H s) (e : H a = some (exo a C none)) (h0 : X.N[0]? = some ar.arg) (hs : σ[0]? = some (some (.ref a))) (h1 : X.N[1]? = some ("place" : Str)) (hs1 : σ[1]? = some (some v))
    (hks : X.env.kindOf "super" = some .globalImplicit) (hkc : X.env.kindOf "__class__" = some .free) (hka : X.env.kindOf ar.arg = some .local) (hkp : X.env.kindOf "place" = some .local)
    (hfu : X.env.func = some f) (hf : X.K.lookup f = some ⟨oc, od, .func fd, osl⟩) (hp : (fd.params.posonlyargs ++ fd.params.args).head? = some ar)
    (hco : X.env.code = .ref cda) (hcode : X.K.lookup cda = some ⟨ccl, cdd, .fields vs, ccs⟩) (hvs : vs[2]? = some (.str file tf)) (hfile : ((X.prog.main.file : Str) == file) = true)
    (hcl : X.env.cells.lookup ("__class__" : Str) = some cc) (hcell : X.K.lookup cc = some ⟨cl, cld, .cell (some (.ref D)), csl⟩) (hD : clsIn X.K D = some cdD) (hsub : mroIn X.K C (.ref D) = some true) (hsuper : X.mg "super" = none)
    (htop : (X.prog.main.scope.names.lookup ("super" : Str)).isSome = false) (hC : clsIn X.K C = some cdC) (hsup : ks_superIn X.K C D "__init__" = some (some (.ref f2))) (ht : typeIn X.K (.ref f2) = some (.type "function")) (hfi : fnIn X.K f2 = true)
    (hop : nsIn X.K cStatics "thirdparty.any" = some none) (hline : (p2.endLine == p4.line) = true)
    (F2 : FnOk X.prog X.w X.K X.mg X.base (L2.CX X.prog X.w) k2 f2 fd2 ["self", "place"] (spN n C)) (hr : Room k2 X.A) (hb : Binds X.K fd2 ["self", "place"] [])
    (h : ∀ d fs s', H d = none → d ≠ a → fs.length ≤ n → fs.lookup ("place" : Str) = some v → Inv X pins σ (upd (upd H a (exo a C (some d))) d (exd d fs)) s' → Q .next s') :
    _root_.PySem.wpAt (model X.prog X.w) X.A (.func body X.env) (PySem.exec (.Expr (.Call (.Attribute (.Call (.Name "super" p0) [] [] p1) "__init__" p2) [.Name "place" p3] [] p4) p5) X.env) Q E s := by
  refine ks_wpAt_Expr_any (ks_wpAt_MethodCall (super_base I e h0 hs hks hkc hka (by decide) hfu hf hp hco hcode hvs hfile hcl hcell hD hsub hsuper htop fun so h' I1 hso => ?_) (meth_formB rfl (by show 1 < 30; omega) hline)) I.quiet rfl
  obtain ⟨hh, g, d, t, os⟩ := s
  have KI := I1.kIn
  obtain ⟨t1, ho⟩ := exo_at I1.hok e
  have IA : InstAt h' a _ C none := ⟨ho, rfl, rfl, trivial⟩
  unfold ks_superIn at hsup
  rw [hC] at hsup
  obtain ⟨of, hof, hofc⟩ : ∃ of, h'.get? f2 = some of ∧ of.cls = .type "function" := by
    have ht' : (X.K.lookup f2).map (·.cls) = some (.type "function") := ht
    cases z : X.K.lookup f2 with
    | none => rw [z] at ht'; cases ht'
    | some of => rw [z] at ht'; exact ⟨of, KI _ _ z, Option.some.inj ht'⟩
  refine ks_wpAny_getMethod_super hso (looks_opaque KI hop) (l₀ := cdC.mro) (fun A Q E s k q => wpAny_bind ((looks_clsIn KI hC) A _ E s k (wpAny_pure q))) rfl KI hsup hof hofc (ks_ne KI IA hC) (by decide) ?_
  have I2 : Inv X pins σ H ⟨h'.push (methodObj (.ref f2) (.ref a)), g, d, t + 1, os⟩ := I1.kept (t' := t + 1) fun b o q => Heap.get?_push_of_some _ q
  have hu : (h'.push (methodObj (.ref f2) (.ref a))).get? h'.objs.size = some (methodObj (.ref f2) (.ref a)) := Heap.get?_push_at rfl rfl
  refine callWith_of (P := MethP X.K h'.objs.size f2 (.ref a)) rfl (keeps_M hfi) (Calls.evalArgs_plain (spliced_more (ld_place I2 h1 hs1 hkp fun u ru => spliced_none ⟨⟨hu, I2.kIn⟩, ?_⟩)))
  have r2 : Vals [V.ref a, v] [Value.ref a, u] := .cons rfl (.cons ru .nil)
  have bb := hb _ [Value.ref a, u] I2.kIn rfl
  refine wpAny_call (method_call hu (codeAny_mono (F2.run X.A X.stack _ H ⟨[Value.ref a, u], []⟩ [Value.ref a, u] [V.ref a, v] (fun v' H' => ∃ d fs, v' = .non ∧ H d = none ∧ d ≠ a ∧ fs.length ≤ n ∧ fs.lookup ("place" : Str) = some v ∧ H' = upd (upd H a (exo a C (some d))) d (exd d fs)) (fun _ _ _ => False) hr I2.env0 bb r2
    ⟨a, v, rfl, e, fun d fs q1 q2 q3 q4 => ⟨d, fs, rfl, q1, q2, q3, q4, rfl⟩⟩) fun r s' hq => ?_))
  cases r with
  | error er => obtain ⟨_, _, _, _, _, _, _, _, _, _, _, _, z⟩ := hq; exact z.elim
  | ok fl =>
    cases fl with
    | ret u' =>
      have hq' : CE X.stack X.prog X.w H ⟨h'.push (methodObj (.ref f2) (.ref a)), g, d, t + 1, os⟩ (fun v' H' => ∃ (d : Addr) (fs : List (Str × V)), v' = .non ∧ H d = none ∧ d ≠ a ∧ fs.length ≤ n ∧ fs.lookup ("place" : Str) = some v ∧ H' = upd (upd H a (exo a C (some d))) d (exd d fs)) u' s' := hq
      obtain ⟨v', H', I3, rv, dd, fs, rfl, q1, q2, q3, q4, rfl⟩ := I2.after hq'
      exact h dd fs _ q1 q2 q3 q4 I3
    | next => exact False.elim hq
    | brk => exact False.elim hq
    | cont => exact False.elim hq
end
end Ev

/-! An own exception's __init__(self, place). -/
namespace Ev
open PySem PySem.Spec PyProof.Rows L2 NdefX
/-- super().__init__(place) -/
def stSup (p0 p1 p2 p3 p4 p5 : Pos) : Stmt := .Expr (.Call (.Attribute (.Call (.Name "super" p0) [] [] p1) "__init__" p2) [.Name "place" p3] [] p4) p5
/-- self.place = place -/
def stPl (q1 q2 q3 q4 : Pos) : Stmt := .Assign [.Attribute (.Name "self" q1) "place" q2] (.Name "place" q3) q4
/-- self.name = '..' -/
def stNm (nm : Str) (j : Nat) (r1 r2 r3 r4 : Pos) : Stmt := .Assign [.Attribute (.Name "self" r1) "name" r2] (.Constant (.str nm) j r3) r4
/-- what the written part says of the def at f, in the class at D, for instances of the class at C -/
structure XDef (P : Program) (K : PySem.W.Frag) (mg : Str → Option Value) (C D f cc : Addr) (F : NF) (doc pm ctv : Value) : Prop where
  lk : ∃ oc od osl, K.lookup f = some ⟨oc, od, .func (F.fd doc pm ctv), osl⟩
  hcd : PySem.W.codeIn K (.ref F.c) F.qual = true
  hcl : F.cl = [(("__class__" : Str), cc)]
  head : ∃ ar : Arg, (F.params.posonlyargs ++ F.params.args).head? = some ar ∧ ar.arg = ("self" : Str)
  code : ∃ ccl cdd vs ccs file tf, K.lookup F.c = some ⟨ccl, cdd, .fields vs, ccs⟩ ∧ vs[2]? = some (.str file tf) ∧ ((P.main.file : Str) == file) = true
  cell : ∃ cl cld csl, K.lookup cc = some ⟨cl, cld, .cell (some (.ref D)), csl⟩
  hD : ∃ cd, PySem.W.clsIn K D = some cd
  sub : PySem.W.mroIn K C (.ref D) = some true
  nosup : mg "super" = none
  top : (P.main.scope.names.lookup ("super" : Str)).isSome = false
  hC : ∃ cd, PySem.W.clsIn K C = some cd
  hop : PySem.W.nsIn K cStatics "thirdparty.any" = some none
  S : NScope ["self", "place", "__class__"] ["self", "place"] ["__class__"] F.scope
  ks : F.scope.names.lookup ("super" : Str) = some .globalImplicit
  T : OexC K C
  fpl : PySem.W.findIn K (.ref C) "place" = some none
  fnm : PySem.W.findIn K (.ref C) "name" = some none
section
variable {P : Program} {w : World} {K : PySem.W.Frag} {mg : Str → Option Value} {base : Heap} {C D f cc : Addr} {F : NF} {doc pm ctv : Value} {k : Nat}
theorem pe_self {X : Cx} {p : Pos} (h0 : X.N[0]? = some ("self" : Str)) (hka : X.env.kindOf "self" = some .local) : PE X (.Name "self" p) (tVar 0) := pe_var h0 (.inl hka) (by decide) (by decide)
theorem ok_initV (d : XDef P K mg C D f cc F doc pm ctv) {p0 p1 p2 p3 p4 p5 q1 q2 q3 q4 r1 r2 r3 r4 : Pos} {nm : Str} {j : Nat} (hbd : F.body = [stSup p0 p1 p2 p3 p4 p5, stPl q1 q2 q3 q4, stNm nm j r1 r2 r3 r4]) (hline : (p2.endLine == p4.line) = true)
    (hsup : PySem.W.ks_superIn K C D "__init__" = some (some (.builtin "ValueError.__init__"))) (hB : PySem.W.subIn K (.ref C) (.type "ValueError") = some true) :
    FnOk P w K mg base (L2.CX P w) (k + 1) f (F.fd doc pm ctv) ["self", "place"] (spN 2 C) := by
  obtain ⟨oc, od, osl, lk⟩ := d.lk
  obtain ⟨ar, har, ea⟩ := d.head
  obtain ⟨ccl, cdd, vs, ccs, file, tf, hcode, hvs, hfile⟩ := d.code
  obtain ⟨cl, cld, csl, hcell⟩ := d.cell
  obtain ⟨cdD, hD⟩ := d.hD
  obtain ⟨cdC, hC⟩ := d.hC
  refine fn_cls lk d.hcd d.hcl hcell rfl d.S (fun vs H Q E h => by obtain ⟨_, _, rfl, _⟩ := h; rfl) fun A outer s H vs' Q E s1 hr hsp I => ?_
  obtain ⟨a, v, rfl, e, q⟩ := hsp
  have hka : F.scope.names.lookup ("self" : Str) = some .local := d.S.par _ (by simp)
  have hkp : F.scope.names.lookup ("place" : Str) = some .local := d.S.par _ (by simp)
  have hkc : F.scope.names.lookup ("__class__" : Str) = some .free := d.S.frk _ (by simp)
  rw [hbd]
  refine ks_wpAt_execs_cons (st_superV (X := ncx (L2.CX P w) P w K mg base ["self", "place", "__class__"] F f A outer s H E) (v := v) I e (by rw [ea]; rfl) rfl rfl rfl d.ks hkc (by rw [ea]; exact hka) hkp rfl lk har rfl hcode hvs hfile (by show F.cl.lookup _ = _; rw [d.hcl]; simp) hcell hD d.sub d.nosup d.top d.T hC hsup hB d.hop hline fun s' I2 => ?_)
  refine wpAt_of_wpAny ?_
  have ho : ∀ {p : Pos}, PE (ncx (L2.CX P w) P w K mg base ["self", "place", "__class__"] F f A outer s H E) (.Name "self" p) (tVar 0) := fun {p} => pe_self rfl hka
  have hv : ∀ {p : Pos}, PE (ncx (L2.CX P w) P w K mg base ["self", "place", "__class__"] F f A outer s H E) (.Name "place" p) (tVar 1) := fun {p} => pe_var rfl (.inl hkp) (by decide) (by decide)
  refine (pss_cons (ps_ost ho hv) (pss_one (ps_ost ho pe_str))).run [] s' _ H _ I2 ?_
  refine ⟨v, rfl, .ref a, rfl, a, C, rfl, d.T, d.fpl, .inl ⟨e, fun dx hd ne => ?_⟩⟩
  refine ⟨.ref a, rfl, a, C, rfl, d.T, d.fnm, .inr ⟨dx, [(("place" : Str), v)], upd_same, ?_, by simp, ?_⟩⟩
  · rw [upd_ne ne, upd_same]
  · have := q dx [(("name" : Str), .str nm), (("place" : Str), v)] hd ne (by simp) (by rfl)
    have eq : upd (upd (upd H dx (exd dx [(("place" : Str), v)])) a (exo a C (some dx))) dx (exd dx [(("name" : Str), .str nm), (("place" : Str), v)]) = upd (upd H a (exo a C (some dx))) dx (exd dx [(("name" : Str), .str nm), (("place" : Str), v)]) := by
      funext b
      by_cases z : b = dx
      · subst z; rw [upd_same, upd_same]
      · rw [upd_ne z, upd_ne z]
        by_cases y : b = a
        · subst y; rw [upd_same, upd_same]
        · rw [upd_ne y, upd_ne y, upd_ne z]
    show Q .non (upd (upd (upd H dx (exd dx [(("place" : Str), v)])) a (exo a C (some dx))) dx (exd dx [(("name" : Str), .str nm), (("place" : Str), v)]))
    rw [eq]
    exact this
theorem ok_initO (d : XDef P K mg C D f cc F doc pm ctv) {p0 p1 p2 p3 p4 p5 r1 r2 r3 r4 : Pos} {nm : Str} {j : Nat} (hbd : F.body = [stSup p0 p1 p2 p3 p4 p5, stNm nm j r1 r2 r3 r4]) (hline : (p2.endLine == p4.line) = true) {f2 : Addr} {fd2 : FuncData} {n : Nat} (hn : n ≤ 900)
    (hsup : PySem.W.ks_superIn K C D "__init__" = some (some (.ref f2))) (ht : PySem.W.typeIn K (.ref f2) = some (.type "function")) (hfi : PySem.W.fnIn K f2 = true) (F2 : FnOk P w K mg base (L2.CX P w) k f2 fd2 ["self", "place"] (spN n C)) (hb : Binds K fd2 ["self", "place"] []) :
    FnOk P w K mg base (L2.CX P w) (k + 1) f (F.fd doc pm ctv) ["self", "place"] (spN (n + 1) C) := by
  obtain ⟨oc, od, osl, lk⟩ := d.lk
  obtain ⟨ar, har, ea⟩ := d.head
  obtain ⟨ccl, cdd, vs, ccs, file, tf, hcode, hvs, hfile⟩ := d.code
  obtain ⟨cl, cld, csl, hcell⟩ := d.cell
  obtain ⟨cdD, hD⟩ := d.hD
  obtain ⟨cdC, hC⟩ := d.hC
  refine fn_cls lk d.hcd d.hcl hcell rfl d.S (fun vs H Q E h => by obtain ⟨_, _, rfl, _⟩ := h; rfl) fun A outer s H vs' Q E s1 hr hsp I => ?_
  obtain ⟨a, v, rfl, e, q⟩ := hsp
  have hka : F.scope.names.lookup ("self" : Str) = some .local := d.S.par _ (by simp)
  have hkp : F.scope.names.lookup ("place" : Str) = some .local := d.S.par _ (by simp)
  have hkc : F.scope.names.lookup ("__class__" : Str) = some .free := d.S.frk _ (by simp)
  rw [hbd]
  refine ks_wpAt_execs_cons (st_superO (X := ncx (L2.CX P w) P w K mg base ["self", "place", "__class__"] F f A outer s H E) (v := v) (Hf := fun _ => H) I e (by rw [ea]; rfl) rfl rfl rfl d.ks hkc (by rw [ea]; exact hka) hkp rfl lk har rfl hcode hvs hfile (by show F.cl.lookup _ = _; rw [d.hcl]; simp) hcell hD d.sub d.nosup d.top hC hsup ht hfi d.hop hline F2 hr hb fun dx fs s' hd ne hl hpl I2 => ?_)
  refine wpAt_of_wpAny ?_
  have ho : ∀ {p : Pos}, PE (ncx (L2.CX P w) P w K mg base ["self", "place", "__class__"] F f A outer s H E) (.Name "self" p) (tVar 0) := fun {p} => pe_self rfl hka
  refine (pss_one (ps_ost ho pe_str)).run [] s' _ _ _ I2 ?_
  refine ⟨.ref a, rfl, a, C, rfl, d.T, d.fnm, .inr ⟨dx, fs, ?_, upd_same, by omega, ?_⟩⟩
  · rw [upd_ne (Ne.symm ne), upd_same]
  · have := q dx ((("name" : Str), .str nm) :: fs) hd ne (by simp; omega) (by rw [List.lookup_cons, show (("place" : Str) == ("name" : Str)) = false by decide]; exact hpl)
    have eq : upd (upd (upd H a (exo a C (some dx))) dx (exd dx fs)) dx (exd dx ((("name" : Str), .str nm) :: fs)) = upd (upd H a (exo a C (some dx))) dx (exd dx ((("name" : Str), .str nm) :: fs)) := by
      funext b
      by_cases z : b = dx
      · subst z; rw [upd_same, upd_same]
      · rw [upd_ne z, upd_ne z, upd_ne z]
    show Q .non (upd (upd (upd H a (exo a C (some dx))) dx (exd dx fs)) dx (exd dx ((("name" : Str), .str nm) :: fs)))
    rw [eq]
    exact this
end
end Ev

/-! Working with the interpreter: blocks, loops, comprehensions, calls. -/
namespace Ev
def blk (l : List S) : S := l.foldr .seq .skip
def es (l : List E) : Es := l.foldr .cons .nil
theorem LINE_eq : LINE = 16777216 := rfl
theorem xb_ok {α β : Type} {a : α} {f : α → R β} : R.bind (.ok a) f = f a := rfl
theorem xb_exn {α β : Type} {c : Nat} {p : D} {f : α → R β} : R.bind (.exn c p) f = .exn c p := rfl
theorem xb_bad {α β : Type} {f : α → R β} : R.bind .bad f = .bad := rfl
theorem xg_t {α : Type} {r : R α} : R.guard true r = r := rfl
theorem blk_nil {g : G} {ρ : Env} : exec g (blk []) ρ = .ok (.nx, ρ) := rfl
theorem blk_cons {g : G} {a : S} {l : List S} {ρ : Env} : exec g (blk (a :: l)) ρ = (exec g a ρ).bind fun (fl, ρ1) => (match fl with | .nx => exec g (blk l) ρ1 | fl => .ok (fl, ρ1)) := rfl
theorem es_nil {g : G} {ρ : Env} : evs g (es []) ρ = .ok ([], ρ) := rfl
theorem es_cons {g : G} {a : E} {l : List E} {ρ : Env} : evs g (es (a :: l)) ρ = (ev g a false ρ).bind fun (d, ρ1) => (evs g (es l) ρ1).bind fun (ds, ρ2) => .ok (d :: ds, ρ2) := rfl
theorem tchs_nil : tchs (es []) = [] := rfl
theorem tchs_cons {a : E} {l : List E} : tchs (es (a :: l)) = tch a ++ tchs (es l) := rfl
theorem get0 {x : Option D} {ρ : Env} : getS (x :: ρ) 0 = x := by unfold getS; cases x <;> rfl
theorem getS1 {x : Option D} {ρ : Env} {i : Nat} : getS (x :: ρ) (i + 1) = getS ρ i := rfl
/-! ### the interpreter told by rules -/
section
variable {g : G}
theorem e_k {d : D} {z0 : Bool} {ρ : Env} : ev g (.k d) z0 ρ = R.guard (fro d) (.ok (d, ρ)) := by first | (rw [ev]; done) | (rw [ev]; rfl)
theorem e_glob {n : Nat} {z0 : Bool} {ρ : Env} : ev g (.glob n) z0 ρ = R.guard (fro (g.glob n)) (.ok (g.glob n, ρ)) := by first | (rw [ev]; done) | (rw [ev]; rfl)
theorem e_var {i : Nat} {vw : Bool} {ρ : Env} : ev g (.var i) vw ρ = (match getS ρ i with | some d => R.guard (vw || fro d) (.ok (d, ρ)) | none => .bad) := by first | (rw [ev]; done) | (rw [ev]; rfl)
theorem e_mv {i : Nat} {z0 : Bool} {ρ : Env} : ev g (.mv i) z0 ρ = (match getS ρ i with | some d => .ok (d, ρ.set i none) | none => .bad) := by first | (rw [ev]; done) | (rw [ev]; rfl)
theorem e_bor {i : Nat} {z0 : Bool} {ρ : Env} : ev g (.bor i) z0 ρ = (match getS ρ i with | some d => .ok (d, ρ.set i none) | none => .bad) := by first | (rw [ev]; done) | (rw [ev]; rfl)
theorem e_fz {i : Nat} {z0 : Bool} {ρ : Env} : ev g (.fz i) z0 ρ = (match getS ρ i with | some d => .ok (frz d, ρ.set i (some (frz d))) | none => .bad) := by first | (rw [ev]; done) | (rw [ev]; rfl)
theorem e_frz {e : E} {z0 : Bool} {ρ : Env} : ev g (.frz e) z0 ρ = (ev g e false ρ).bind fun (d, ρ1) => .ok (frz d, ρ1) := by first | (rw [ev]; done) | (rw [ev]; rfl)
theorem e_fld {o : E} {f : Nat} {vw : Bool} {ρ : Env} : ev g (.fld o f) vw ρ = (ev g o true ρ).bind fun (od, ρ1) => (match fldD od f with | some d => R.guard (!isPath o || vw || fro d) (.ok (d, ρ1)) | none => .bad) := by first | (rw [ev]; done) | (rw [ev]; rfl)
theorem e_idx {o : E} {i : E} {vw : Bool} {ρ : Env} : ev g (.idx o i) vw ρ = (ev g o true ρ).bind fun (od, ρ1) => (ev g i true ρ1).bind fun (id, ρ2) => R.guard (safe o od (tch i)) (match idxD od id with | some d => R.guard (!isPath o || vw || fro d) (.ok (d, ρ2)) | none => .bad) := by first | (rw [ev]; done) | (rw [ev]; rfl)
theorem e_slc {o : E} {lo : E} {hi : E} {z0 : Bool} {ρ : Env} : ev g (.slc o lo hi) z0 ρ = (ev g o true ρ).bind fun (od, ρ1) => (match lo with | .hole => R.ok (none, ρ1) | _ => (ev g lo true ρ1).bind pInt).bind fun (l, ρ2) => (match hi with | .hole => R.ok (none, ρ2) | _ => (ev g hi true ρ2).bind pInt).bind fun (h, ρ3) => R.guard (safe o od (tch lo ++ tch hi)) (match slcD od l h with | some d => .ok (d, ρ3) | none => .bad) := by first | (rw [ev]; done) | (rw [ev]; rfl)
theorem e_bin {op : Bop} {a : E} {b : E} {z0 : Bool} {ρ : Env} : ev g (.bin op a b) z0 ρ = (ev g a true ρ).bind fun (x, ρ1) => (ev g b true ρ1).bind fun (y, ρ2) => R.guard (safe a x (tch b)) (match binD op x y with | some d => .ok (d, ρ2) | none => .bad) := by first | (rw [ev]; done) | (rw [ev]; rfl)
theorem e_un {op : Uop} {a : E} {z0 : Bool} {ρ : Env} : ev g (.un op a) z0 ρ = (ev g a true ρ).bind fun (x, ρ1) => (match unD op x with | some d => .ok (d, ρ1) | none => .bad) := by first | (rw [ev]; done) | (rw [ev]; rfl)
theorem e_chn {p : Bop} {q : Bop} {a : E} {b : E} {c : E} {z0 : Bool} {ρ : Env} : ev g (.chn p q a b c) z0 ρ = (ev g a true ρ).bind fun (x, ρ1) => (ev g b true ρ1).bind fun (y, ρ2) => R.guard (safe a x (tch b)) (match binD p x y with
      | some (.bl true) => (ev g c true ρ2).bind fun (z, ρ3) => R.guard (safe b y (tch c)) (match binD q y z with | some d => .ok (d, ρ3) | none => .bad)
      | some (.bl false) => .ok (.bl false, ρ2)
      | _ => .bad) := by first | (rw [ev]; done) | (rw [ev]; rfl)
theorem e_and {a : E} {b : E} {z0 : Bool} {ρ : Env} : ev g (.and a b) z0 ρ = (ev g a true ρ).bind fun (x, ρ1) => (match x with | .bl true => (ev g b true ρ1).bind fun (y, ρ2) => (match y with | .bl c => .ok (.bl c, ρ2) | _ => .bad) | .bl false => .ok (.bl false, ρ1) | _ => .bad) := by first | (rw [ev]; done) | (rw [ev]; rfl)
theorem e_or {a : E} {b : E} {z0 : Bool} {ρ : Env} : ev g (.or a b) z0 ρ = (ev g a true ρ).bind fun (x, ρ1) => (match x with | .bl false => (ev g b true ρ1).bind fun (y, ρ2) => (match y with | .bl c => .ok (.bl c, ρ2) | _ => .bad) | .bl true => .ok (.bl true, ρ1) | _ => .bad) := by first | (rw [ev]; done) | (rw [ev]; rfl)
theorem e_ife {c : E} {a : E} {b : E} {z0 : Bool} {ρ : Env} : ev g (.ife c a b) z0 ρ = (ev g c true ρ).bind fun (x, ρ1) => (match x with | .bl true => ev g a false ρ1 | .bl false => ev g b false ρ1 | _ => .bad) := by first | (rw [ev]; done) | (rw [ev]; rfl)
theorem e_tup {es : Es} {z0 : Bool} {ρ : Env} : ev g (.tup es) z0 ρ = (evs g es ρ).bind fun (ds, ρ1) => R.guard (decide (ds.length ≤ LINE)) (.ok (.tup ds, ρ1)) := by first | (rw [ev]; done) | (rw [ev]; rfl)
theorem e_lst {es : Es} {z0 : Bool} {ρ : Env} : ev g (.lst es) z0 ρ = (evs g es ρ).bind fun (ds, ρ1) => R.guard (decide (ds.length ≤ LINE)) (.ok (.lst .ow ds, ρ1)) := by first | (rw [ev]; done) | (rw [ev]; rfl)
theorem e_fst {es : Es} {z0 : Bool} {ρ : Env} : ev g (.fst es) z0 ρ = (evF g es [] ρ).bind fun (s, ρ1) => .ok (.str s, ρ1) := by first | (rw [ev]; done) | (rw [ev]; rfl)
theorem e_call {f : Nat} {as : Es} {z0 : Bool} {ρ : Env} : ev g (.call f as) z0 ρ = (evs g as ρ).bind fun (ds, ρ1) => (g.call f ds).bind fun (d, rs) => .ok (d, backA as rs ρ1) := by first | (rw [ev]; done) | (rw [ev]; rfl)
theorem e_mcall {c : Nat} {f : Nat} {o : E} {as : Es} {z0 : Bool} {ρ : Env} : ev g (.mcall c f o as) z0 ρ = (ev g o false ρ).bind fun (od, ρ1) => R.guard (insC od c) ((evs g as ρ1).bind fun (ds, ρ2) => (g.call f (od :: ds)).bind fun (d, rs) => .ok (d, backA (.cons o as) rs ρ2)) := by first | (rw [ev]; done) | (rw [ev]; rfl)
theorem e_make {c : Nat} {as : Es} {z0 : Bool} {ρ : Env} : ev g (.make c as) z0 ρ = (evs g as ρ).bind fun (ds, ρ1) => (g.call (g.init c) (.ins .ow c [] [] :: ds)).bind fun (d, rs) => (match d, rs with | .non, some self :: rs => .ok (self, backA as rs ρ1) | _, _ => .bad) := by first | (rw [ev]; done) | (rw [ev]; rfl)
theorem e_isi {e : E} {t : Nat} {z0 : Bool} {ρ : Env} : ev g (.isi e t) z0 ρ = (ev g e true ρ).bind fun (x, ρ1) => (match isiD x t with | some b => .ok (.bl b, ρ1) | none => .bad) := by first | (rw [ev]; done) | (rw [ev]; rfl)
theorem x_skip {ρ : Env} : exec g .skip ρ = .ok (.nx, ρ) := by first | (rw [exec]; done) | (rw [exec]; rfl)
theorem x_seq {a : S} {b : S} {ρ : Env} : exec g (.seq a b) ρ = (exec g a ρ).bind fun (fl, ρ1) => (match fl with | .nx => exec g b ρ1 | fl => .ok (fl, ρ1)) := by first | (rw [exec]; done) | (rw [exec]; rfl)
theorem x_asg {i : Nat} {e : E} {ρ : Env} : exec g (.asg i e) ρ = (ev g e false ρ).bind fun (d, ρ1) => R.guard (decide (i < ρ1.length)) (.ok (.nx, ρ1.set i (some d))) := by first | (rw [exec]; done) | (rw [exec]; rfl)
theorem x_par {ts : List Nat} {es : Es} {ρ : Env} : exec g (.par ts es) ρ = (evs g es ρ).bind fun (ds, ρ1) => (match setAll ts ds ρ1 with | some ρ2 => .ok (.nx, ρ2) | none => .bad) := by first | (rw [exec]; done) | (rw [exec]; rfl)
theorem x_unp {tg : Tg} {e : E} {ρ : Env} : exec g (.unp tg e) ρ = (ev g e true ρ).bind fun (d, ρ1) => (match bindT tg d ρ1 with | some ρ2 => .ok (.nx, ρ2) | none => .bad) := by first | (rw [exec]; done) | (rw [exec]; rfl)
theorem x_setI {p : E} {i : E} {e : E} {ρ : Env} : exec g (.setI p i e) ρ = (ev g e false ρ).bind fun (d, ρ1) => R.guard (simp i && isPath p) (match resv g p ρ1, ev g i true ρ1 with
      | some (r, a, _), .ok (k, _) => (match updP ρ1 r a (putI k d) with | some ρ2 => .ok (.nx, ρ2) | none => .bad)
      | _, _ => .bad) := by first | (rw [exec]; done) | (rw [exec]; rfl)
theorem x_unpI {p : E} {i : E} {ts : List Tg} {e : E} {ρ : Env} : exec g (.unpI p i ts e) ρ = (ev g e true ρ).bind fun (v, ρ1) => (match v with
      | .tup (d :: ds) => R.guard (fros (d :: ds) && (simp i && isPath p)) (match resv g p ρ1, ev g i true ρ1 with
          | some (r, a, _), .ok (k, _) => (match updP ρ1 r a (putI k d) with
              | some ρ2 => (match bindTs ts ds ρ2 with | some ρ3 => .ok (.nx, ρ3) | none => .bad)
              | none => .bad)
          | _, _ => .bad)
      | _ => .bad) := by first | (rw [exec]; done) | (rw [exec]; rfl)
theorem x_setF {p : E} {f : Nat} {e : E} {ρ : Env} : exec g (.setF p f e) ρ = (ev g e false ρ).bind fun (d, ρ1) => R.guard (isPath p) (match resv g p ρ1 with
      | some (r, a, _) => (match updP ρ1 r a (putF f d) with | some ρ2 => .ok (.nx, ρ2) | none => .bad)
      | none => .bad) := by first | (rw [exec]; done) | (rw [exec]; rfl)
theorem x_aug {i : Nat} {op : Bop} {e : E} {ρ : Env} : exec g (.aug i op e) ρ = (match getS ρ i with
      | some x => (ev g e false ρ).bind fun (y, ρ1) => R.guard (plainD x && !(tch e).contains i) (match binD op x y with | some d => .ok (.nx, ρ1.set i (some d)) | none => .bad)
      | none => .bad) := by first | (rw [exec]; done) | (rw [exec]; rfl)
theorem x_augF {p : E} {f : Nat} {op : Bop} {e : E} {ρ : Env} : exec g (.augF p f op e) ρ = R.guard (isPath p && simp e) (match resv g p ρ, ev g e true ρ with
      | some (r, a, o), .ok (y, _) => (match fldD o f with
          | some x => R.guard (plainD x) (match binD op x y with | some d => (match updP ρ r a (putF f d) with | some ρ2 => .ok (.nx, ρ2) | none => .bad) | none => .bad)
          | none => .bad)
      | _, _ => .bad) := by first | (rw [exec]; done) | (rw [exec]; rfl)
theorem x_app {p : E} {e : E} {ρ : Env} : exec g (.app p e) ρ = R.guard (isPath p && !(tch e).contains (root p)) (match resv g p ρ with
      | some (r, a, .lst .ow _) => (ev g e false ρ).bind fun (d, ρ1) => (match updP ρ1 r a (putA d) with | some ρ2 => .ok (.nx, ρ2) | none => .bad)
      | _ => .bad) := by first | (rw [exec]; done) | (rw [exec]; rfl)
theorem x_drop {e : E} {ρ : Env} : exec g (.drop e) ρ = (ev g e false ρ).bind fun (_, ρ1) => .ok (.nx, ρ1) := by first | (rw [exec]; done) | (rw [exec]; rfl)
theorem x_ife {c : E} {a : S} {b : S} {ρ : Env} : exec g (.ife c a b) ρ = ((ev g c true ρ).bind tBl).bind fun (t, ρ1) => (match t with | true => exec g a ρ1 | false => exec g b ρ1) := by first | (rw [exec]; done) | (rw [exec]; rfl)
theorem x_whl {c : E} {b : S} {w : List Nat} {ρ : Env} : exec g (.whl c b w) ρ = whlL (fun ρ1 => (ev g c true ρ1).bind tBl) (exec g b) w FUEL ρ := by first | (rw [exec]; done) | (rw [exec]; rfl)
theorem x_fore {tg : Tg} {it : It} {b : S} {w : List Nat} {ρ : Env} : exec g (.fore tg it b w) ρ = (evI g it ρ).bind fun (xs, ρ1) => forL (fun d ρ2 => match bindT tg d ρ2 with | some ρ3 => exec g b ρ3 | none => .bad) w xs ρ1 := by first | (rw [exec]; done) | (rw [exec]; rfl)
theorem x_ret {e : E} {ρ : Env} : exec g (.ret e) ρ = (ev g e false ρ).bind fun (d, ρ1) => .ok (.rt d, ρ1) := by first | (rw [exec]; done) | (rw [exec]; rfl)
theorem x_retN {ρ : Env} : exec g .retN ρ = .ok (.rt .non, ρ) := by first | (rw [exec]; done) | (rw [exec]; rfl)
theorem x_brk {ρ : Env} : exec g .brk ρ = .ok (.bk, ρ) := by first | (rw [exec]; done) | (rw [exec]; rfl)
theorem x_cnt {ρ : Env} : exec g .cnt ρ = .ok (.ct, ρ) := by first | (rw [exec]; done) | (rw [exec]; rfl)
theorem x_raise {c : Nat} {e : E} {ρ : Env} : exec g (.raise c e) ρ = (ev g e false ρ).bind fun (d, _) => R.guard (fro d) (.exn c d) := by first | (rw [exec]; done) | (rw [exec]; rfl)
theorem x_tryx {b : S} {c : Nat} {i : Nat} {h : List (Option D)} {ρ : Env} : exec g (.tryx b c i h) ρ = R.guard (decide (i < ρ.length) && decide (h.length ≤ 1000)) (match exec g b ρ with
      | .exn c' p => (match g.sub c' c with | true => .ok (.rt (.tup (hTup p h)), ρ.map fun _ => none) | false => .exn c' p)
      | r => r) := by first | (rw [exec]; done) | (rw [exec]; rfl)
theorem ef_nil {acc : Tx} {ρ : Env} : evF g .nil acc ρ = .ok (acc, ρ) := by first | (rw [evF]; done) | (rw [evF]; rfl)
theorem ef_cons {e : E} {l : Es} {acc : Tx} {ρ : Env} : evF g (.cons e l) acc ρ = (ev g e false ρ).bind fun (d, ρ1) => (match partTx d with | some y => R.guard (decide (acc.length + y.length ≤ LINE)) (evF g l (acc ++ y) ρ1) | none => .bad) := by first | (rw [evF]; done) | (rw [evF]; rfl)
theorem efs_nil {acc : Tx} {ρ : Env} : evF g (es []) acc ρ = .ok (acc, ρ) := ef_nil.trans (by rfl)
theorem efs_cons {e : E} {l : List E} {acc : Tx} {ρ : Env} : evF g (es (e :: l)) acc ρ = (ev g e false ρ).bind fun (d, ρ1) => (match partTx d with | some y => R.guard (decide (acc.length + y.length ≤ LINE)) (evF g (es l) (acc ++ y) ρ1) | none => .bad) := ef_cons.trans (by rfl)
end
/-! ### places by whole numbers -/
theorem ixN_nat {n k : Nat} (h : k < n) : ixN n (k : Int) = some k := by
  show L2.ixN _ _ = _
  unfold L2.ixN
  rw [if_pos (by omega), if_pos (by omega)]; simp
theorem atI_nat {α : Type} {xs : List α} {k : Nat} : atI xs (k : Int) = xs[k]? := by
  show L2.atI _ _ = _
  unfold L2.atI L2.ixN
  rw [if_pos (by omega)]
  by_cases h : k < xs.length
  · rw [if_pos (by omega)]; simp
  · rw [if_neg (by omega)]; simp; omega
theorem atI_0 {α : Type} {xs : List α} : atI xs 0 = xs[0]? := atI_nat (k := 0)
theorem atI_1 {α : Type} {xs : List α} : atI xs 1 = xs[1]? := atI_nat (k := 1)
theorem atI_2 {α : Type} {xs : List α} : atI xs 2 = xs[2]? := atI_nat (k := 2)
theorem atI_3 {α : Type} {xs : List α} : atI xs 3 = xs[3]? := atI_nat (k := 3)
theorem atI_s {α : Type} {xs : List α} {k : Nat} : atI xs ((k : Int) + 1) = xs[k + 1]? := by
  rw [show ((k : Int) + 1) = ((k + 1 : Nat) : Int) by omega, atI_nat]
theorem cut_nat {α : Type} {t : List α} (a b : Nat) : cut t (some (a : Int)) (some (b : Int)) = (t.drop a).take (b - a) := by
  unfold cut
  rw [HT.sIx_nat, HT.sIx_nat]
  by_cases h : a ≤ t.length
  · rw [Nat.min_eq_left h]
    by_cases h2 : b ≤ t.length
    · rw [Nat.min_eq_left h2]
    · rw [Nat.min_eq_right (by omega), List.take_of_length_le (by simp), List.take_of_length_le (by simp; omega)]
  · rw [show min a t.length = t.length by omega, List.drop_eq_nil_of_le (Nat.le_refl _), List.drop_eq_nil_of_le (by omega)]
    simp
theorem cut_1 {α : Type} {t : List α} (a : Nat) : cut t (some (a : Int)) (some ((a : Int) + 1)) = (t.drop a).take 1 := by
  rw [show ((a : Int) + 1) = ((a + 1 : Nat) : Int) by omega, cut_nat, Nat.add_sub_cancel_left]
theorem cut_pk {α : Type} {t : List α} (a k : Nat) : cut t (some (a : Int)) (some ((a : Int) + (k : Int))) = (t.drop a).take k := by
  rw [show ((a : Int) + (k : Int)) = ((a + k : Nat) : Int) by omega, cut_nat, Nat.add_sub_cancel_left]
theorem cut_from {α : Type} {t : List α} (a : Nat) : cut t (some (a : Int)) none = t.drop a := by
  unfold cut
  rw [HT.sIx_nat, HT.sIx_none]
  by_cases h : a ≤ t.length
  · rw [Nat.min_eq_left h, List.take_of_length_le (by simp)]
  · rw [Nat.min_eq_right (by omega), List.drop_eq_nil_of_le (Nat.le_refl _), List.drop_eq_nil_of_le (by omega)]
    simp
theorem cut_to {α : Type} {t : List α} (b : Nat) : cut t none (some (b : Int)) = t.take b := by
  unfold cut
  rw [HT.sIx_nat, HT.sIx_none, List.drop_zero, Nat.sub_zero]
  by_cases h : b ≤ t.length
  · rw [Nat.min_eq_left h]
  · rw [Nat.min_eq_right (by omega), List.take_of_length_le (Nat.le_refl _), List.take_of_length_le (by omega)]
/-! ### lists of data -/
theorem fros_map {α : Type} {f : α → D} : ∀ {xs : List α}, (∀ x ∈ xs, fro (f x) = true) → fros (xs.map f) = true
  | [], _ => rfl
  | x :: xs, h => by
    simp only [List.map_cons, fros, Bool.and_eq_true]
    exact ⟨h x (by simp), fros_map fun y hy => h y (by simp [hy])⟩
theorem frzs_map {α : Type} {f g : α → D} : ∀ {xs : List α}, (∀ x ∈ xs, frz (f x) = g x) → frzs (xs.map f) = xs.map g
  | [], _ => rfl
  | x :: xs, h => by
    simp only [List.map_cons, frzs]
    rw [h x (by simp), frzs_map fun y hy => h y (by simp [hy])]
theorem okDs_map {α : Type} {f : α → D} {n : Nat} : ∀ {xs : List α}, (∀ x ∈ xs, okD (f x) n = true) → okDs (xs.map f) n = true
  | [], _ => rfl
  | x :: xs, h => by
    simp only [List.map_cons, okDs, Bool.and_eq_true]
    exact ⟨h x (by simp), okDs_map fun y hy => h y (by simp [hy])⟩
theorem fros_app {xs ys : List D} : fros (xs ++ ys) = (fros xs && fros ys) := by
  induction xs with
  | nil => rfl
  | cons x xs ih => simp [fros, ih, Bool.and_assoc]
/-- whole numbers -/
def dNs (xs : List Nat) : List D := xs.map fun (n : Nat) => D.int n
theorem dNs_get {xs : List Nat} {k : Nat} : (dNs xs)[k]? = (xs[k]?).map fun (n : Nat) => D.int n := by simp [dNs]
theorem dNs_len {xs : List Nat} : (dNs xs).length = xs.length := by simp [dNs]
theorem dNs_fros {xs : List Nat} : fros (dNs xs) = true := fros_map fun _ _ => rfl
theorem dNs_frzs {xs : List Nat} : frzs (dNs xs) = dNs xs := frzs_map fun _ _ => rfl
theorem dNs_okDs {xs : List Nat} {n : Nat} : okDs (dNs xs) n = true := okDs_map fun _ _ => by unfold okD; rfl
theorem dNs_app {xs ys : List Nat} : dNs xs ++ dNs ys = dNs (xs ++ ys) := by simp [dNs]
theorem dNs_set {xs : List Nat} {k v : Nat} : (dNs xs).set k (.int v) = dNs (xs.set k v) := by simp [dNs, List.map_set]
theorem dNs_gete {xs : List Nat} {k : Nat} (h : k < (dNs xs).length) : (dNs xs)[k] = .int (xs[k]'(by simpa [dNs] using h) : Nat) := by simp [dNs]
theorem dNs_map {α : Type} {xs : List α} {f : α → Nat} : xs.map (fun x => D.int (f x : Nat)) = dNs (xs.map f) := by simp [dNs]
theorem dNs_nil : dNs [] = [] := rfl
theorem eqDs_len : ∀ {xs ys : List D}, eqDs xs ys = true → xs.length = ys.length
  | [], [], _ => rfl
  | [], _ :: _, h => by cases h
  | _ :: _, [], h => by cases h
  | x :: xs, y :: ys, h => by
    simp only [eqDs, Bool.and_eq_true] at h
    simp [eqDs_len h.2]
theorem eqDs_refl {xs : List D} (h : ∀ x ∈ xs, eqD x x = true) : eqDs xs xs = true := by
  induction xs with
  | nil => rfl
  | cons x xs ih => simp only [eqDs, Bool.and_eq_true]; exact ⟨h x (by simp), ih fun y hy => h y (by simp [hy])⟩
theorem eqDs_map {α : Type} {f g : α → D} : ∀ {xs : List α}, (∀ x ∈ xs, eqD (f x) (g x) = true) → eqDs (xs.map f) (xs.map g) = true
  | [], _ => rfl
  | x :: xs, h => by
    simp only [List.map_cons, eqDs, Bool.and_eq_true]
    exact ⟨h x (by simp), eqDs_map fun y hy => h y (by simp [hy])⟩
theorem okD_non {n : Nat} : okD .non n = true := by simp [okD]
theorem okD_bl {n : Nat} {b : Bool} : okD (.bl b) n = true := by simp [okD]
theorem okD_int {n : Nat} {i : Int} : okD (.int i) n = true := by simp [okD]
theorem okD_str {n : Nat} {s : Tx} : okD (.str s) n = s.all (fun c => Nat.blt c 1114112) := by simp [okD]
theorem okD_tup {n : Nat} {xs : List D} : okD (.tup xs) (n + 1) = okDs xs n := by simp [okD]
theorem okD_lst {n : Nat} {o : Fl} {xs : List D} : okD (.lst o xs) (n + 1) = okDs xs n := by simp [okD]
theorem okDs_nil {n : Nat} : okDs [] n = true := rfl
theorem okDs_cons {n : Nat} {x : D} {xs : List D} : okDs (x :: xs) n = (okD x n && okDs xs n) := rfl
theorem eqD_non : eqD .non .non = true := rfl
theorem eqD_bl {a b : Bool} : eqD (.bl a) (.bl b) = (a == b) := rfl
theorem eqD_int {a b : Int} : eqD (.int a) (.int b) = (a == b) := rfl
theorem eqD_str {a b : Tx} : eqD (.str a) (.str b) = (a == b) := rfl
theorem eqD_tup {a b : List D} : eqD (.tup a) (.tup b) = eqDs a b := rfl
theorem eqD_lst {o p : Fl} {a b : List D} : eqD (.lst o a) (.lst p b) = eqDs a b := rfl
theorem eqD_tn {a : List D} : eqD (.tup a) .non = false := rfl
theorem eqD_nt {a : List D} : eqD .non (.tup a) = false := rfl
theorem eqD_sl {o : Fl} {a : Tx} {b : List D} : eqD (.lst o b) (.str a) = false := rfl
theorem eqD_ls {o : Fl} {a : Tx} {b : List D} : eqD (.str a) (.lst o b) = false := rfl
theorem eqD_is {i : Int} {a : Tx} : eqD (.int i) (.str a) = false := rfl
theorem eqD_si {i : Int} {a : Tx} : eqD (.str a) (.int i) = false := rfl
theorem eqDs_nil : eqDs [] [] = true := rfl
theorem eqDs_nc {x : D} {xs : List D} : eqDs [] (x :: xs) = false := rfl
theorem eqDs_cn {x : D} {xs : List D} : eqDs (x :: xs) [] = false := rfl
theorem eqDs_cons {x y : D} {xs ys : List D} : eqDs (x :: xs) (y :: ys) = (eqD x y && eqDs xs ys) := rfl
theorem small_nat {n : Nat} (h : n ≤ LINE) : small (n : Int) = true := by
  unfold small; rw [Nat.blt_eq, Int.natAbs_natCast]; unfold LINE at h; omega
theorem okR_nat {n : Nat} (h : n ≤ LINE) : okR (n : Int) = true := by
  unfold okR; rw [Nat.blt_eq, Int.natAbs_natCast]; unfold LINE at h; omega
mutual
theorem eqD_refl : ∀ (d : D) (n : Nat), okD d n = true → eqD d d = true
  | .non, _, _ => rfl
  | .bl b, _, _ => by simp [eqD]
  | .int i, _, _ => by simp [eqD]
  | .str s, _, _ => by simp [eqD]
  | .tup xs, 0, h => by simp [okD] at h
  | .lst o xs, 0, h => by simp [okD] at h
  | .tup xs, n + 1, h => by simp only [eqD]; exact eqDs_refl2 xs n (by simpa [okD] using h)
  | .lst o xs, n + 1, h => by simp only [eqD]; exact eqDs_refl2 xs n (by simpa [okD] using h)
  | .ins _ _ _ _, n, h => by simp [okD] at h
theorem eqDs_refl2 : ∀ (ds : List D) (n : Nat), okDs ds n = true → eqDs ds ds = true
  | [], _, _ => rfl
  | d :: ds, n, h => by
    simp only [okDs, Bool.and_eq_true] at h
    simp only [eqDs, Bool.and_eq_true]
    exact ⟨eqD_refl d n h.1, eqDs_refl2 ds n h.2⟩
end
theorem ne_same {d : D} (h : okD d 64 = true) : binD .ne d d = some (.bl false) := by
  simp only [binD, h, Bool.and_self, if_true, eqD_refl d 64 h, Bool.not_true]
theorem eq_same {d : D} (h : okD d 64 = true) : binD .eq d d = some (.bl true) := by
  simp only [binD, h, Bool.and_self, if_true, eqD_refl d 64 h]
theorem rng_get {n k a : Nat} (h : (List.range n)[k]? = some a) : k < n ∧ k = a := by
  simpa [List.getElem?_range, List.getElem?_eq_some_iff] using h
theorem set_range {α : Type} {n k : Nat} {f : Nat → α} {v : α} : ((List.range n).map f).set k v = (List.range n).map fun i => if i = k then v else f i := by
  apply List.ext_getElem?
  intro i
  by_cases h : k = i
  · subst h
    by_cases h2 : k < n
    · simp [h2]
    · simp [h2]
  · rw [List.getElem?_set_ne h]
    by_cases h2 : i < n
    · simp [h2, Ne.symm h]
    · simp [h2]
theorem map_range_congr {α : Type} {n : Nat} {f g : Nat → α} (h : ∀ i, i < n → f i = g i) : (List.range n).map f = (List.range n).map g := List.map_congr_left fun i hi => h i (by simpa using hi)
theorem toTexts_map {α : Type} {f : α → Tx} : ∀ {xs : List α}, toTexts (xs.map fun x => .str (f x)) = some (xs.map f)
  | [] => rfl
  | x :: xs => by simp only [List.map_cons, toTexts, toTexts_map (xs := xs)]
theorem intercalate_nil {α : Type} : ∀ (ts : List (List α)), List.intercalate [] ts = ts.flatten
  | [] => rfl
  | [t] => by simp [List.intercalate]
  | t :: u :: us => by
    have ih := intercalate_nil (u :: us)
    simp only [List.intercalate] at ih ⊢
    simp only [List.intersperse, List.flatten_cons, List.nil_append] at ih ⊢
    rw [ih]
theorem join0 {α : Type} {o : Fl} {f : α → Tx} {xs : List α} (h : (xs.map f).flatten.length ≤ LINE) : binD .join (.str []) (.lst o (xs.map fun x => .str (f x))) = some (.str (xs.map f).flatten) := by
  simp only [binD, toTexts_map]
  rw [List.length_nil, Nat.zero_mul, Nat.add_zero, ← List.length_flatten, if_pos h, intercalate_nil]
/-! ### slots wiped and back -/
theorem wipeE_at {ρ : Env} {i : Nat} : ∀ {w : List Nat}, (wipeE ρ w)[i]? = if i ∈ w then (ρ[i]?).map (fun _ => none) else ρ[i]?
  | [] => by simp [wipeE]
  | v :: w => by
    have ih := wipeE_at (ρ := ρ) (i := i) (w := w)
    simp only [wipeE, List.getElem?_set, wipeE_length]
    by_cases h : v = i
    · subst h
      by_cases h2 : v < ρ.length <;> simp [h2]
    · rw [if_neg h, ih]
      simp [List.mem_cons, Ne.symm h]
theorem backE_at {ρ ρ' : Env} {i : Nat} : ∀ {w : List Nat}, (backE ρ ρ' w)[i]? = if i ∈ w then (ρ'[i]?).map (fun _ => (match ρ[i]? with | some o => o | none => none)) else ρ'[i]?
  | [] => by simp [backE]
  | v :: w => by
    have ih := backE_at (ρ := ρ) (ρ' := ρ') (i := i) (w := w)
    simp only [backE, List.getElem?_set, backE_length]
    by_cases h : v = i
    · subst h
      by_cases h2 : v < ρ'.length
      · first | (simp [h2]; done) | (simp [h2]; rfl)
      · simp [h2]
    · rw [if_neg h, ih]
      simp [List.mem_cons, Ne.symm h]
theorem backE_wiped {ρ1 ρ2 : Env} {w : List Nat} (h : wipeE ρ2 w = wipeE ρ1 w) : backE ρ1 ρ2 w = ρ1 := by
  have hl : ρ2.length = ρ1.length := by
    have := congrArg List.length h
    simpa [wipeE_length] using this
  apply List.ext_getElem?
  intro i
  rw [backE_at]
  by_cases c : i ∈ w
  · rw [if_pos c]
    by_cases h2 : i < ρ1.length
    · simp [h2, hl]
    · simp [hl, h2]
  · rw [if_neg c]
    have := congrArg (fun l => l[i]?) h
    simpa [wipeE_at, c] using this
theorem wipeE_twice {ρ : Env} {w : List Nat} : wipeE (wipeE ρ w) w = wipeE ρ w := by
  apply List.ext_getElem?
  intro i
  rw [wipeE_at, wipeE_at]
  by_cases c : i ∈ w
  · simp [c]; cases ρ[i]? <;> rfl
  · simp [c]
/-! ### loops -/
theorem for_spec {g : G} {tg : Tg} {b : S} {w : List Nat} {σ α : Type} (env : σ → Env) (inj : α → D) (I : σ → List α → Prop) (spec : σ → List α → R (Flow × Env)) (h0 : ∀ s, I s [] → spec s [] = .ok (.nx, env s))
    (hb : ∀ s a as, I s (a :: as) → ∃ ρ1, bindT tg (inj a) (env s) = some ρ1 ∧ ((∃ ρ2 s', exec g b ρ1 = .ok (.nx, ρ2) ∧ wipeE ρ2 w = env s' ∧ I s' as ∧ spec s (a :: as) = spec s' as) ∨ (∃ d ρ2, exec g b ρ1 = .ok (.rt d, ρ2) ∧ spec s (a :: as) = .ok (.rt d, ρ2)) ∨ (∃ c p, exec g b ρ1 = .exn c p ∧ spec s (a :: as) = .exn c p))) :
    ∀ (xs : List α) (s : σ), I s xs → forL (fun d ρ2 => match bindT tg d ρ2 with | some ρ3 => exec g b ρ3 | none => .bad) w (xs.map inj) (env s) = spec s xs
  | [], s, hi => (h0 s hi).symm
  | a :: as, s, hi => by
    obtain ⟨ρ1, h1, h2⟩ := hb s a as hi
    simp only [List.map_cons, forL, h1]
    rcases h2 with ⟨ρ2, s', e1, e2, e3, e4⟩ | ⟨d, ρ2, e1, e2⟩ | ⟨c, p, e1, e2⟩
    · rw [e1, e4]
      simp only [xb_ok, e2]
      exact for_spec env inj I spec h0 hb as s' e3
    · rw [e1, e2]; rfl
    · rw [e1, e2]; rfl
theorem ex_forx {g : G} {tg : Tg} {it : It} {b : S} {w : List Nat} {ρ : Env} {σ α : Type} {xs : List α} {s0 : σ} (env : σ → Env) (inj : α → D) (I : σ → List α → Prop) (spec : σ → List α → R (Flow × Env)) (hi : evI g it ρ = .ok (xs.map inj, env s0)) (hI : I s0 xs) (h0 : ∀ s, I s [] → spec s [] = .ok (.nx, env s))
    (hb : ∀ s a as, I s (a :: as) → ∃ ρ1, bindT tg (inj a) (env s) = some ρ1 ∧ ((∃ ρ2 s', exec g b ρ1 = .ok (.nx, ρ2) ∧ wipeE ρ2 w = env s' ∧ I s' as ∧ spec s (a :: as) = spec s' as) ∨ (∃ d ρ2, exec g b ρ1 = .ok (.rt d, ρ2) ∧ spec s (a :: as) = .ok (.rt d, ρ2)) ∨ (∃ c p, exec g b ρ1 = .exn c p ∧ spec s (a :: as) = .exn c p))) :
    exec g (.fore tg it b w) ρ = spec s0 xs := by
  simp only [exec]
  rw [hi]
  exact for_spec env inj I spec h0 hb xs s0 hI
/-- a loop by a relation -/
theorem for_rel {g : G} {tg : Tg} {b : S} {w : List Nat} {σ α : Type} (env : σ → Env) (inj : α → D) (I : σ → List α → Prop) (P : σ → List α → R (Flow × Env) → Prop) (h0 : ∀ s, I s [] → P s [] (.ok (.nx, env s)))
    (hb : ∀ s a as, I s (a :: as) → ∃ ρ1, bindT tg (inj a) (env s) = some ρ1 ∧ ((∃ ρ2 s', exec g b ρ1 = .ok (.nx, ρ2) ∧ wipeE ρ2 w = env s' ∧ I s' as ∧ ∀ r, P s' as r → P s (a :: as) r) ∨ (∃ d ρ2, exec g b ρ1 = .ok (.rt d, ρ2) ∧ P s (a :: as) (.ok (.rt d, ρ2))) ∨ (∃ c p, exec g b ρ1 = .exn c p ∧ P s (a :: as) (.exn c p)))) :
    ∀ (xs : List α) (s : σ), I s xs → P s xs (forL (fun d ρ2 => match bindT tg d ρ2 with | some ρ3 => exec g b ρ3 | none => .bad) w (xs.map inj) (env s))
  | [], s, hi => h0 s hi
  | a :: as, s, hi => by
    obtain ⟨ρ1, h1, h2⟩ := hb s a as hi
    simp only [List.map_cons, forL, h1]
    rcases h2 with ⟨ρ2, s', e1, e2, e3, e4⟩ | ⟨d, ρ2, e1, e2⟩ | ⟨c, p, e1, e2⟩
    · rw [e1]
      simp only [xb_ok, e2]
      exact e4 _ (for_rel env inj I P h0 hb as s' e3)
    · rw [e1]; exact e2
    · rw [e1]; exact e2
theorem ex_forr {g : G} {tg : Tg} {it : It} {b : S} {w : List Nat} {ρ : Env} {σ α : Type} {xs : List α} {s0 : σ} (env : σ → Env) (inj : α → D) (I : σ → List α → Prop) (P : σ → List α → R (Flow × Env) → Prop) (hi : evI g it ρ = .ok (xs.map inj, env s0)) (hI : I s0 xs) (h0 : ∀ s, I s [] → P s [] (.ok (.nx, env s)))
    (hb : ∀ s a as, I s (a :: as) → ∃ ρ1, bindT tg (inj a) (env s) = some ρ1 ∧ ((∃ ρ2 s', exec g b ρ1 = .ok (.nx, ρ2) ∧ wipeE ρ2 w = env s' ∧ I s' as ∧ ∀ r, P s' as r → P s (a :: as) r) ∨ (∃ d ρ2, exec g b ρ1 = .ok (.rt d, ρ2) ∧ P s (a :: as) (.ok (.rt d, ρ2))) ∨ (∃ c p, exec g b ρ1 = .exn c p ∧ P s (a :: as) (.exn c p)))) :
    P s0 xs (exec g (.fore tg it b w) ρ) := by
  simp only [exec]
  rw [hi]
  exact for_rel env inj I P h0 hb xs s0 hI
/-- a while by a relation -/
theorem whl_rel {g : G} {c : E} {b : S} {w : List Nat} {σ : Type} (env : σ → Env) (I : σ → Prop) (μ : σ → Nat) (P : σ → R (Flow × Env) → Prop)
    (h : ∀ s, I s → (∃ ρ', (ev g c true (env s)).bind tBl = .ok (false, ρ') ∧ P s (.ok (.nx, ρ'))) ∨
      (∃ ρ1, (ev g c true (env s)).bind tBl = .ok (true, ρ1) ∧ ((∃ ρ2 s', exec g b ρ1 = .ok (.nx, ρ2) ∧ wipeE ρ2 w = env s' ∧ I s' ∧ μ s' < μ s ∧ ∀ r, P s' r → P s r) ∨ (∃ d ρ2, exec g b ρ1 = .ok (.rt d, ρ2) ∧ P s (.ok (.rt d, ρ2))) ∨ (∃ c p, exec g b ρ1 = .exn c p ∧ P s (.exn c p))))) :
    ∀ (n : Nat) (s : σ), I s → μ s < n → P s (whlL (fun ρ1 => (ev g c true ρ1).bind tBl) (exec g b) w n (env s))
  | 0, s, _, hm => absurd hm (by omega)
  | n + 1, s, hi, hm => by
    rcases h s hi with ⟨ρ', e1, e2⟩ | ⟨ρ1, e1, ⟨ρ2, s', e2, e3, e4, e5, e6⟩ | ⟨d, ρ2, e2, e3⟩ | ⟨c', p, e2, e3⟩⟩
    · simp only [whlL, e1, xb_ok]; exact e2
    · simp only [whlL, e1, xb_ok, e2, e3]
      exact e6 _ (whl_rel env I μ P h n s' e4 (by omega))
    · simp only [whlL, e1, xb_ok, e2]; exact e3
    · simp only [whlL, e1, xb_ok, e2, xb_exn]; exact e3
theorem ex_whlr {g : G} {c : E} {b : S} {w : List Nat} {σ : Type} (env : σ → Env) (I : σ → Prop) (μ : σ → Nat) (P : σ → R (Flow × Env) → Prop)
    (h : ∀ s, I s → (∃ ρ', (ev g c true (env s)).bind tBl = .ok (false, ρ') ∧ P s (.ok (.nx, ρ'))) ∨
      (∃ ρ1, (ev g c true (env s)).bind tBl = .ok (true, ρ1) ∧ ((∃ ρ2 s', exec g b ρ1 = .ok (.nx, ρ2) ∧ wipeE ρ2 w = env s' ∧ I s' ∧ μ s' < μ s ∧ ∀ r, P s' r → P s r) ∨ (∃ d ρ2, exec g b ρ1 = .ok (.rt d, ρ2) ∧ P s (.ok (.rt d, ρ2))) ∨ (∃ c p, exec g b ρ1 = .exn c p ∧ P s (.exn c p)))))
    (s : σ) (hi : I s) (hm : μ s < FUEL) : P s (exec g (.whl c b w) (env s)) := by
  simp only [exec]
  exact whl_rel env I μ P h FUEL s hi hm
/-- a loop without an end of its own -/
theorem ex_for {g : G} {tg : Tg} {it : It} {b : S} {w : List Nat} {ρ : Env} {σ α : Type} {xs : List α} {s0 : σ} (env : σ → Env) (inj : α → D) (I : σ → List α → Prop) (step : σ → α → σ) (hi : evI g it ρ = .ok (xs.map inj, env s0)) (hI : I s0 xs)
    (hb : ∀ s a as, I s (a :: as) → ∃ ρ1 ρ2, bindT tg (inj a) (env s) = some ρ1 ∧ exec g b ρ1 = .ok (.nx, ρ2) ∧ wipeE ρ2 w = env (step s a) ∧ I (step s a) as) :
    exec g (.fore tg it b w) ρ = .ok (.nx, env (xs.foldl step s0)) := by
  rw [ex_forx env inj I (fun s xs => .ok (.nx, env (xs.foldl step s))) hi hI (fun _ _ => rfl)]
  intro s a as h
  obtain ⟨ρ1, ρ2, h1, h2, h3, h4⟩ := hb s a as h
  exact ⟨ρ1, h1, .inl ⟨ρ2, step s a, h2, h3, h4, rfl⟩⟩
/-- a loop in which something is to be said of the state, told by the number of turns -/
theorem ex_fork {g : G} {tg : Tg} {it : It} {b : S} {w : List Nat} {ρ : Env} {α : Type} {xs : List α} (inj : α → D) (env : Nat → Env) (hi : evI g it ρ = .ok (xs.map inj, env 0))
    (hb : ∀ k a, xs[k]? = some a → ∃ ρ1 ρ2, bindT tg (inj a) (env k) = some ρ1 ∧ exec g b ρ1 = .ok (.nx, ρ2) ∧ wipeE ρ2 w = env (k + 1)) :
    exec g (.fore tg it b w) ρ = .ok (.nx, env xs.length) := by
  rw [ex_forx (σ := Nat) (s0 := 0) env inj (fun k as => xs.drop k = as) (fun k as => .ok (.nx, env (k + as.length))) hi rfl (fun _ _ => rfl)]
  · simp
  · intro k a as h
    have h1 : xs[k]? = some a := by
      have := congrArg (fun l => l[0]?) h
      simpa using this
    obtain ⟨ρ1, ρ2, h2, h3, h4⟩ := hb k a h1
    refine ⟨ρ1, h2, .inl ⟨ρ2, k + 1, h3, h4, ?_, ?_⟩⟩
    · have := congrArg (List.drop 1) h
      simpa [List.drop_drop] using this
    · simp only [List.length_cons]
      rw [show k + (as.length + 1) = k + 1 + as.length by omega]
theorem whl_spec {g : G} {c : E} {b : S} {w : List Nat} {σ : Type} (env : σ → Env) (I : σ → Prop) (μ : σ → Nat) (spec : σ → R (Flow × Env))
    (h : ∀ s, I s → (∃ ρ', (ev g c true (env s)).bind tBl = .ok (false, ρ') ∧ spec s = .ok (.nx, ρ')) ∨
      (∃ ρ1, (ev g c true (env s)).bind tBl = .ok (true, ρ1) ∧ ((∃ ρ2 s', exec g b ρ1 = .ok (.nx, ρ2) ∧ wipeE ρ2 w = env s' ∧ I s' ∧ μ s' < μ s ∧ spec s = spec s') ∨ (∃ d ρ2, exec g b ρ1 = .ok (.rt d, ρ2) ∧ spec s = .ok (.rt d, ρ2)) ∨ (∃ c p, exec g b ρ1 = .exn c p ∧ spec s = .exn c p)))) :
    ∀ (n : Nat) (s : σ), I s → μ s < n → whlL (fun ρ1 => (ev g c true ρ1).bind tBl) (exec g b) w n (env s) = spec s
  | 0, s, _, hm => absurd hm (by omega)
  | n + 1, s, hi, hm => by
    rcases h s hi with ⟨ρ', e1, e2⟩ | ⟨ρ1, e1, ⟨ρ2, s', e2, e3, e4, e5, e6⟩ | ⟨d, ρ2, e2, e3⟩ | ⟨c', p, e2, e3⟩⟩
    · simp only [whlL, e1, xb_ok, e2]
    · simp only [whlL, e1, xb_ok, e2, e3, e6]
      exact whl_spec env I μ spec h n s' e4 (by omega)
    · simp only [whlL, e1, xb_ok, e2, e3]
    · simp only [whlL, e1, xb_ok, e2, e3, xb_exn]
theorem ex_whl {g : G} {c : E} {b : S} {w : List Nat} {σ : Type} (env : σ → Env) (I : σ → Prop) (μ : σ → Nat) (spec : σ → R (Flow × Env))
    (h : ∀ s, I s → (∃ ρ', (ev g c true (env s)).bind tBl = .ok (false, ρ') ∧ spec s = .ok (.nx, ρ')) ∨
      (∃ ρ1, (ev g c true (env s)).bind tBl = .ok (true, ρ1) ∧ ((∃ ρ2 s', exec g b ρ1 = .ok (.nx, ρ2) ∧ wipeE ρ2 w = env s' ∧ I s' ∧ μ s' < μ s ∧ spec s = spec s') ∨ (∃ d ρ2, exec g b ρ1 = .ok (.rt d, ρ2) ∧ spec s = .ok (.rt d, ρ2)) ∨ (∃ c p, exec g b ρ1 = .exn c p ∧ spec s = .exn c p))))
    (s : σ) (hi : I s) (hm : μ s < FUEL) : exec g (.whl c b w) (env s) = spec s := by
  simp only [exec]
  exact whl_spec env I μ spec h FUEL s hi hm
/-- a loop that counts up -/
theorem ex_whln {g : G} {c : E} {b : S} {w : List Nat} (env : Nat → Env) (m : Nat) (hm : m < FUEL) (h1 : ∀ k, k < m → ∃ ρ1 ρ2, (ev g c true (env k)).bind tBl = .ok (true, ρ1) ∧ exec g b ρ1 = .ok (.nx, ρ2) ∧ wipeE ρ2 w = env (k + 1)) (h2 : (ev g c true (env m)).bind tBl = .ok (false, env m)) :
    exec g (.whl c b w) (env 0) = .ok (.nx, env m) := by
  refine ex_whl env (fun k => k ≤ m) (fun k => m - k) (fun _ => .ok (.nx, env m)) (fun k hk => ?_) 0 (Nat.zero_le _) (by omega)
  by_cases e : k = m
  · subst e; exact .inl ⟨_, h2, rfl⟩
  · obtain ⟨ρ1, ρ2, a, b, c⟩ := h1 k (by omega)
    exact .inr ⟨ρ1, a, .inl ⟨ρ2, k + 1, b, c, by omega, by omega, rfl⟩⟩
/-! ### comprehensions -/
/-- one turn, the own slots wiped ahead -/
def lcB (g : G) (tg : Tg) (c e : E) (d : D) (ρ : Env) : R (Option D × Env) := noX (match bindT tg d ρ with
      | some ρ2 => (match c with
          | .hole => (ev g e false ρ2).bind fun (y, ρ3) => .ok (some y, ρ3)
          | _ => (ev g c true ρ2).bind fun (b, ρ3) => (match b with | .bl true => (ev g e false ρ3).bind fun (y, ρ4) => .ok (some y, ρ4) | .bl false => .ok (none, ρ3) | _ => .bad))
      | none => .bad)
theorem lcB_eq {g : G} {tg : Tg} {c e : E} {own : List Nat} {d : D} {ρ : Env} : lcBody g tg c e own d ρ = lcB g tg c e d (wipeE ρ own) := by
  unfold lcBody lcB
  cases bindT tg d (wipeE ρ own) with
  | none => rfl
  | some ρ2 => cases c <;> rfl
theorem lcB_all {g : G} {tg : Tg} {e : E} {d y : D} {ρ ρ2 ρ3 : Env} (h1 : bindT tg d ρ = some ρ2) (h2 : ev g e false ρ2 = .ok (y, ρ3)) : lcB g tg .hole e d ρ = .ok (some y, ρ3) := by
  unfold lcB; rw [h1]; dsimp only; rw [h2]; rfl
theorem lcB_if {g : G} {tg : Tg} {c e : E} {d : D} {ρ ρ2 ρ3 : Env} {b : Bool} {o : Option D} (hc : c ≠ .hole) (h1 : bindT tg d ρ = some ρ2) (h2 : ev g c true ρ2 = .ok (.bl b, ρ2)) (h3 : b = true → ∃ y, ev g e false ρ2 = .ok (y, ρ3) ∧ o = some y) (h4 : b = false → o = none ∧ ρ3 = ρ2) : lcB g tg c e d ρ = .ok (o, ρ3) := by
  have key : lcB g tg c e d ρ = noX ((ev g c true ρ2).bind fun (b, ρ3) => (match b with | .bl true => (ev g e false ρ3).bind fun (y, ρ4) => R.ok (some y, ρ4) | .bl false => .ok (none, ρ3) | _ => .bad)) := by
    unfold lcB; rw [h1]
    cases c <;> first | rfl | exact absurd rfl hc
  rw [key, h2]
  cases b with
  | true => obtain ⟨y, e1, e2⟩ := h3 rfl; rw [xb_ok]; dsimp only; rw [e1, e2]; rfl
  | false => obtain ⟨e1, e2⟩ := h4 rfl; rw [e1, e2]; rfl
theorem lcL_map {g : G} {tg : Tg} {c e : E} {own : List Nat} {ρ1 : Env} {α : Type} {inj : α → D} {h : α → Option D} : ∀ (xs : List α) (ρ : Env), (∀ x ∈ xs, ∃ ρ2, lcB g tg c e (inj x) (wipeE ρ1 own) = .ok (h x, ρ2) ∧ wipeE ρ2 own = wipeE ρ1 own) → wipeE ρ own = wipeE ρ1 own →
    ∃ ρ', lcL (lcBody g tg c e own) (xs.map inj) ρ = .ok (xs.filterMap h, ρ') ∧ wipeE ρ' own = wipeE ρ1 own
  | [], ρ, _, hw => ⟨ρ, rfl, hw⟩
  | x :: xs, ρ, hx, hw => by
    obtain ⟨ρ2, e1, e2⟩ := hx x (by simp)
    obtain ⟨ρ', e3, e4⟩ := lcL_map xs ρ2 (fun y hy => hx y (by simp [hy])) e2
    refine ⟨ρ', ?_, e4⟩
    simp only [List.map_cons, lcL, lcB_eq]
    rw [hw, e1, xb_ok]
    dsimp only
    rw [e3, xb_ok]
    cases hh : h x with
    | none => simp [hh]
    | some y => simp [hh]
/-- a comprehension whose parts leave the slots -/
theorem ev_lcm {g : G} {tg : Tg} {it : It} {c e : E} {own : List Nat} {vw : Bool} {ρ ρ1 : Env} {α : Type} {inj : α → D} {xs : List α} (h : α → Option D) (hi : evI g it ρ = .ok (xs.map inj, ρ1)) (hl : xs.length ≤ LINE) (ho : (own.all (fun k => !(tch c ++ tch e).contains k)) = true)
    (hb : ∀ x ∈ xs, ∃ ρ2, lcB g tg c e (inj x) (wipeE ρ1 own) = .ok (h x, ρ2) ∧ wipeE ρ2 own = wipeE ρ1 own) : ev g (.lc tg it c e own) vw ρ = .ok (.lst .ow (xs.filterMap h), ρ1) := by
  rw [ev_lc, hi, xb_ok]
  dsimp only
  obtain ⟨ρ', e1, e2⟩ := lcL_map xs ρ1 hb rfl
  rw [show (decide ((xs.map inj).length ≤ LINE) && own.all (fun k => !(tch c ++ tch e).contains k)) = true by rw [ho, Bool.and_true, List.length_map]; exact decide_eq_true hl, xg_t, e1, xb_ok]
  dsimp only
  rw [backE_wiped e2]
theorem ev_lca {g : G} {tg : Tg} {it : It} {e : E} {own : List Nat} {vw : Bool} {ρ ρ1 : Env} {α : Type} {inj : α → D} {xs : List α} (h : α → D) (hi : evI g it ρ = .ok (xs.map inj, ρ1)) (hl : xs.length ≤ LINE) (ho : (own.all (fun k => !(tch .hole ++ tch e).contains k)) = true)
    (hb : ∀ x ∈ xs, ∃ ρ2 ρ3, bindT tg (inj x) (wipeE ρ1 own) = some ρ2 ∧ ev g e false ρ2 = .ok (h x, ρ3) ∧ wipeE ρ3 own = wipeE ρ1 own) : ev g (.lc tg it .hole e own) vw ρ = .ok (.lst .ow (xs.map h), ρ1) := by
  rw [ev_lcm (fun x => some (h x)) hi hl ho]
  · rw [← List.filterMap_eq_map]; rfl
  · intro x hx
    obtain ⟨ρ2, ρ3, a, b, c⟩ := hb x hx
    exact ⟨ρ3, lcB_all a b, c⟩
/-- a comprehension with a state -/
theorem lcL_st {g : G} {tg : Tg} {c e : E} {own : List Nat} {σ α : Type} {inj : α → D} {env : σ → Env} {I : σ → Prop} {Q : D → Prop} : ∀ (xs : List α) (s : σ) (ρ : Env), I s → wipeE ρ own = wipeE (env s) own → (∀ x ∈ xs, ∀ s, I s → ∃ s' y ρ2, lcB g tg c e (inj x) (wipeE (env s) own) = .ok (some y, ρ2) ∧ wipeE ρ2 own = wipeE (env s') own ∧ I s' ∧ Q y) →
    ∃ s' ys ρ', lcL (lcBody g tg c e own) (xs.map inj) ρ = .ok (ys, ρ') ∧ wipeE ρ' own = wipeE (env s') own ∧ I s' ∧ ys.length = xs.length ∧ ∀ y ∈ ys, Q y
  | [], s, ρ, hs, hw, _ => ⟨s, [], ρ, rfl, hw, hs, rfl, by simp⟩
  | x :: xs, s, ρ, hs, hw, hx => by
    obtain ⟨s1, y, ρ2, e1, e2, e3, e4⟩ := hx x (by simp) s hs
    obtain ⟨s', ys, ρ', e5, e6, e7, e8, e9⟩ := lcL_st xs s1 ρ2 e3 e2 (fun y hy => hx y (by simp [hy]))
    refine ⟨s', y :: ys, ρ', ?_, e6, e7, by simp [e8], by simp only [List.mem_cons, forall_eq_or_imp]; exact ⟨e4, e9⟩⟩
    simp only [List.map_cons, lcL, lcB_eq]
    rw [hw, e1, xb_ok]
    dsimp only
    rw [e5, xb_ok]
theorem ev_lcst {g : G} {tg : Tg} {it : It} {c e : E} {own : List Nat} {vw : Bool} {ρ : Env} {σ α : Type} {inj : α → D} {xs : List α} {s : σ} (env : σ → Env) (I : σ → Prop) (Q : D → Prop) (hi : evI g it ρ = .ok (xs.map inj, env s)) (hl : xs.length ≤ LINE) (ho : (own.all (fun k => !(tch c ++ tch e).contains k)) = true) (hs : I s)
    (hk : ∀ s', ∀ ρ', wipeE ρ' own = wipeE (env s') own → backE (env s) ρ' own = env s')
    (hb : ∀ x ∈ xs, ∀ s, I s → ∃ s' y ρ2, lcB g tg c e (inj x) (wipeE (env s) own) = .ok (some y, ρ2) ∧ wipeE ρ2 own = wipeE (env s') own ∧ I s' ∧ Q y) :
    ∃ s' ys, ev g (.lc tg it c e own) vw ρ = .ok (.lst .ow ys, env s') ∧ I s' ∧ ys.length = xs.length ∧ ∀ y ∈ ys, Q y := by
  obtain ⟨s', ys, ρ', e1, e2, e3, e4, e5⟩ := lcL_st xs s (env s) hs rfl hb
  refine ⟨s', ys, ?_, e3, e4, e5⟩
  rw [ev_lc, hi, xb_ok]
  dsimp only
  rw [show (decide ((xs.map inj).length ≤ LINE) && own.all (fun k => !(tch c ++ tch e).contains k)) = true by rw [ho, Bool.and_true, List.length_map]; exact decide_eq_true hl, xg_t, e1, xb_ok]
  dsimp only
  rw [hk s' ρ' e2]
theorem it_rng {g : G} {e : E} {ρ ρ1 : Env} {n : Nat} (h : ev g e true ρ = .ok (.int n, ρ1)) (hn : n ≤ LINE) : evI g (.rng e) ρ = .ok ((List.range n).map fun k => .int (k : Nat), ρ1) := by
  rw [evI, h, xb_ok]
  dsimp only
  rw [okR_nat hn, xg_t, Int.toNat_natCast]
theorem it_rng2 {g : G} {a b : E} {ρ ρ1 ρ2 : Env} {m n : Nat} (h1 : ev g a true ρ = .ok (.int m, ρ1)) (h2 : ev g b true ρ1 = .ok (.int n, ρ2)) (hm : m ≤ LINE) (hn : n ≤ LINE) : evI g (.rng2 a b) ρ = .ok ((List.range (n - m)).map fun k => .int ((k + m : Nat) : Int), ρ2) := by
  rw [evI, h1, xb_ok]
  dsimp only
  rw [h2, xb_ok]
  dsimp only
  rw [okR_nat hm, okR_nat hn, Bool.and_self, xg_t, show ((n : Int) - (m : Int)).toNat = n - m by omega]
  simp [Int.add_comm]
theorem it_l {g : G} {e : E} {ρ ρ1 : Env} {o : Fl} {xs : List D} (h : ev g e true ρ = .ok (.lst o xs, ρ1)) (hf : fros xs = true) (ho : (o.free || !isPath e) = true) : evI g (.seq e) ρ = .ok (xs, ρ1) := by
  rw [evI, h, xb_ok]
  dsimp only
  rw [hf, ho, Bool.and_self, xg_t]
theorem it_t {g : G} {e : E} {ρ ρ1 : Env} {xs : List D} (h : ev g e true ρ = .ok (.tup xs, ρ1)) (hf : fros xs = true) : evI g (.seq e) ρ = .ok (xs, ρ1) := by
  rw [evI, h, xb_ok]
  dsimp only
  rw [hf, xg_t]
theorem it_s {g : G} {e : E} {ρ ρ1 : Env} {s : Tx} (h : ev g e true ρ = .ok (.str s, ρ1)) : evI g (.str e) ρ = .ok (s.map fun c => .str [c], ρ1) := by
  rw [evI, h, xb_ok]
/-! ### calls -/
def noBor : Es → Bool
  | .nil => true
  | .cons e es => (match e with | .bor _ => false | _ => true) && noBor es
theorem backA_nb : ∀ {as : Es} {rs : List (Option D)} {ρ : Env}, noBor as = true → backA as rs ρ = ρ
  | .nil, rs, ρ, _ => by cases rs <;> rfl
  | .cons e as, [], ρ, _ => by cases e <;> rfl
  | .cons e as, r :: rs, ρ, h => by
    unfold noBor at h
    rw [Bool.and_eq_true] at h
    have ih := backA_nb (as := as) (rs := rs) (ρ := ρ) h.2
    cases e <;> first | exact ih | exact absurd h.1 (by simp)
theorem nb_es : noBor (es []) = true := rfl
theorem nb_cons {e : E} {l : List E} : noBor (es (e :: l)) = ((match e with | .bor _ => false | _ => true) && noBor (es l)) := rfl
theorem ev_callnb {g : G} {f : Nat} {as : Es} {vw : Bool} {ρ ρ1 : Env} {ds : List D} {d : D} {rs : List (Option D)} (h1 : evs g as ρ = .ok (ds, ρ1)) (h2 : g.call f ds = .ok (d, rs)) (nb : noBor as = true) : ev g (.call f as) vw ρ = .ok (d, ρ1) := by
  simp only [ev, h1, xb_ok, h2, backA_nb nb]
theorem call_succ {P : Prog} {m f : Nat} {fd : FDef} {ds : List D} (h : P.defs f = some fd) : (semG P (m + 1)).call f ds = runD (semG P m) fd ds := by
  show (match P.defs f with | some fd => runD (semG P m) fd ds | none => .bad) = _
  rw [h]
theorem run_rt {g : G} {fd : FDef} {ds : List D} {d : D} {ρ' : Env} (hn : (ds.length == fd.np && decide (fd.np ≤ fd.ns.length)) = true) {ρ0 : Env} (h0 : ds.map some ++ List.replicate (fd.ns.length - fd.np) none = ρ0) (h : exec g fd.body ρ0 = .ok (.rt d, ρ')) : runD g fd ds = .ok (d, kept (asgS fd.body) ρ' 0 fd.np) := by
  unfold runD; rw [hn, xg_t, h0, h]
theorem run_nx {g : G} {fd : FDef} {ds : List D} {ρ' : Env} (hn : (ds.length == fd.np && decide (fd.np ≤ fd.ns.length)) = true) {ρ0 : Env} (h0 : ds.map some ++ List.replicate (fd.ns.length - fd.np) none = ρ0) (h : exec g fd.body ρ0 = .ok (.nx, ρ')) : runD g fd ds = .ok (.non, kept (asgS fd.body) ρ' 0 fd.np) := by
  unfold runD; rw [hn, xg_t, h0, h]
theorem run_exn {g : G} {fd : FDef} {ds : List D} {c : Nat} {p : D} (hn : (ds.length == fd.np && decide (fd.np ≤ fd.ns.length)) = true) {ρ0 : Env} (h0 : ds.map some ++ List.replicate (fd.ns.length - fd.np) none = ρ0) (h : exec g fd.body ρ0 = .exn c p) : runD g fd ds = .exn c p := by
  unfold runD; rw [hn, xg_t, h0, h]
theorem exec_app {g : G} : ∀ (l1 l2 : List S) (ρ : Env), exec g (blk (l1 ++ l2)) ρ = (exec g (blk l1) ρ).bind fun (fl, ρ1) => (match fl with | .nx => exec g (blk l2) ρ1 | fl => .ok (fl, ρ1))
  | [], l2, ρ => rfl
  | a :: l1, l2, ρ => by
    have ih := exec_app (g := g) l1 l2
    show exec g (.seq a (blk (l1 ++ l2))) ρ = (exec g (.seq a (blk l1)) ρ).bind _
    simp only [exec]
    cases h : exec g a ρ with
    | bad => rfl
    | exn c p => rfl
    | ok r =>
      obtain ⟨fl, ρ1⟩ := r
      cases fl with
      | nx => exact ih ρ1
      | bk => rfl
      | ct => rfl
      | rt d => rfl
theorem blk_nx {g : G} {a : S} {l : List S} {ρ ρ1 : Env} {r : R (Flow × Env)} (h1 : exec g a ρ = .ok (.nx, ρ1)) (h2 : exec g (blk l) ρ1 = r) : exec g (blk (a :: l)) ρ = r := by
  rw [blk_cons, h1]; exact h2
theorem blk_rt {g : G} {a : S} {l : List S} {ρ ρ1 : Env} {d : D} (h1 : exec g a ρ = .ok (.rt d, ρ1)) : exec g (blk (a :: l)) ρ = .ok (.rt d, ρ1) := by
  rw [blk_cons, h1]; rfl
theorem blk_exn {g : G} {a : S} {l : List S} {ρ : Env} {c : Nat} {p : D} (h1 : exec g a ρ = .exn c p) : exec g (blk (a :: l)) ρ = .exn c p := by
  rw [blk_cons, h1]; rfl
theorem b_add {a b : Int} : binD .add (.int a) (.int b) = some (.int (a + b)) := rfl
theorem b_sub {a b : Int} : binD .sub (.int a) (.int b) = some (.int (a - b)) := rfl
theorem b_mul {a b : Int} : binD .mul (.int a) (.int b) = if small a || small b then some (.int (a * b)) else none := rfl
theorem b_fdiv {a b : Int} : binD .fdiv (.int a) (.int b) = if 0 < b && Nat.blt b.natAbs 1073741824 then some (.int (a / b)) else none := rfl
theorem b_mod {a b : Int} : binD .mod (.int a) (.int b) = if 0 < b then some (.int (a % b)) else none := rfl
theorem b_pow {a b : Int} : binD .pow (.int a) (.int b) = if 0 ≤ b && Nat.ble b.natAbs 1000000 && smallN a then some (.int (a ^ b.toNat)) else none := rfl
theorem b_eq {a b : D} : binD .eq a b = if okD a 64 && okD b 64 then some (.bl (eqD a b)) else none := by cases a <;> cases b <;> rfl
theorem b_ne {a b : D} : binD .ne a b = if okD a 64 && okD b 64 then some (.bl (!eqD a b)) else none := by cases a <;> cases b <;> rfl
theorem b_lt {a b : Int} : binD .lt (.int a) (.int b) = some (.bl (decide (a < b))) := rfl
theorem b_le {a b : Int} : binD .le (.int a) (.int b) = some (.bl (decide (a ≤ b))) := rfl
theorem b_gt {a b : Int} : binD .gt (.int a) (.int b) = some (.bl (decide (b < a))) := rfl
theorem b_ge {a b : Int} : binD .ge (.int a) (.int b) = some (.bl (decide (b ≤ a))) := rfl
theorem b_let {a b : List D} : binD .le (.tup a) (.tup b) = (match toInts a, toInts b with | some a, some b => some (.bl (lexLe a b)) | _, _ => none) := rfl
theorem b_adds {a b : Tx} : binD .add (.str a) (.str b) = if a.length + b.length ≤ LINE then some (.str (a ++ b)) else none := rfl
theorem b_addt {a b : List D} : binD .add (.tup a) (.tup b) = if fros a && fros b && !a.isEmpty && !b.isEmpty && decide (a.length + b.length ≤ LINE) then some (.tup (a ++ b)) else none := rfl
theorem b_addl {o p : Fl} {a b : List D} : binD .add (.lst o a) (.lst p b) = if o.wr && p.wr && fros a && fros b && decide (a.length + b.length ≤ LINE) then some (.lst .ow (a ++ b)) else none := rfl
def inT (c : Nat) (b : Tx) : Bool := b.contains c
theorem b_ins {c : Nat} {b : Tx} : binD .inn (.str [c]) (.str b) = some (.bl (inT c b)) := rfl
theorem b_int {a : D} {ys : List D} : binD .inn a (.tup ys) = if scalD a && ys.all scalD then some (.bl (ys.any fun y => eqD y a)) else none := by
  cases a with
  | str s => cases s with
    | nil => rfl
    | cons c t => cases t <;> rfl
  | _ => rfl
theorem b_join {s : Tx} {o : Fl} {xs : List D} : binD .join (.str s) (.lst o xs) = (match toTexts xs with | some ts => if (ts.map List.length).sum + s.length * ts.length ≤ LINE then some (.str (List.intercalate s ts)) else none | none => none) := rfl
theorem u_neg {a : Int} : unD .neg (.int a) = some (.int (-a)) := rfl
theorem u_not {b : Bool} : unD .not (.bl b) = some (.bl (!b)) := rfl
theorem u_isN  : unD .isN .non = some (.bl true) := rfl
theorem u_isNi {i : Int} : unD .isN (.int i) = some (.bl false) := rfl
theorem u_isNt {xs : List D} : unD .isN (.tup xs) = some (.bl false) := rfl
theorem u_notN  : unD .notN .non = some (.bl false) := rfl
theorem u_notNi {i : Int} : unD .notN (.int i) = some (.bl true) := rfl
theorem u_notNt {xs : List D} : unD .notN (.tup xs) = some (.bl true) := rfl
theorem u_lens {s : Tx} : unD .len (.str s) = if s.length ≤ LINE then some (.int s.length) else none := rfl
theorem u_lenl {o : Fl} {xs : List D} : unD .len (.lst o xs) = some (.int xs.length) := rfl
theorem u_lent {xs : List D} : unD .len (.tup xs) = some (.int xs.length) := rfl
theorem u_inti {a : Int} : unD .int (.int a) = some (.int a) := rfl
theorem u_intb {b : Bool} : unD .int (.bl b) = some (.int (if b then 1 else 0)) := rfl
theorem u_ints {s : Tx} : unD .int (.str s) = if s.length ≤ 600 then (match figs s with | some n => some (.int n) | none => none) else none := rfl
theorem u_tupl {o : Fl} {xs : List D} : unD .tuple (.lst o xs) = if fros xs then some (.tup xs) else none := rfl
theorem u_tupt {xs : List D} : unD .tuple (.tup xs) = if fros xs then some (.tup xs) else none := rfl
theorem u_lsl {o : Fl} {xs : List D} : unD .list (.lst o xs) = if fros xs then some (.lst .ow xs) else none := rfl
theorem u_lst {xs : List D} : unD .list (.tup xs) = if fros xs then some (.lst .ow xs) else none := rfl
theorem u_sorted {o : Fl} {xs : List D} : unD .sorted (.lst o xs) = (match toInts xs with | some ns => some (.lst .ow ((sortI ns).map .int)) | none => none) := rfl
theorem u_minD {o : Fl} {xs : List D} : unD .minD (.lst o xs) = (match toInts xs with | some ns => (match leastI ns with | some m => some (.int m) | none => some .non) | none => none) := rfl
theorem u_sum {o : Fl} {xs : List D} : unD .sum (.lst o xs) = (match toInts xs with | some ns => some (.int ns.sum) | none => none) := rfl
theorem u_all {o : Fl} {xs : List D} : unD .all (.lst o xs) = (match toBls xs with | some ns => some (.bl (ns.all id)) | none => none) := rfl
theorem u_any {o : Fl} {xs : List D} : unD .any (.lst o xs) = (match toBls xs with | some ns => some (.bl (ns.any id)) | none => none) := rfl
theorem i_l {o : Fl} {xs : List D} {k : Int} : idxD (.lst o xs) (.int k) = atI xs k := rfl
theorem i_t {xs : List D} {k : Int} : idxD (.tup xs) (.int k) = atI xs k := rfl
theorem i_s {s : Tx} {k : Int} : idxD (.str s) (.int k) = if s.length ≤ LINE then (match atI s k with | some c => some (.str [c]) | none => none) else none := rfl
theorem f_i {o : Fl} {c f : Nat} {ks : List Nat} {vs : List D} : fldD (.ins o c ks vs) f = fldOf ks vs f := rfl
theorem s_l {o : Fl} {xs : List D} {lo hi : Option Int} : slcD (.lst o xs) lo hi = if fros xs then some (.lst .ow (cut xs lo hi)) else none := rfl
theorem s_t {xs : List D} {lo hi : Option Int} : slcD (.tup xs) lo hi = if fros xs then some (.tup (cut xs lo hi)) else none := rfl
theorem s_s {s : Tx} {lo hi : Option Int} : slcD (.str s) lo hi = if s.length ≤ LINE then some (.str (cut s lo hi)) else none := rfl
theorem p_i {i : Int} {ρ : Env} : pInt (.int i, ρ) = .ok (some i, ρ) := rfl
theorem t_b {b : Bool} {ρ : Env} : tBl (.bl b, ρ) = .ok (b, ρ) := rfl
theorem wr_sh : Fl.sh.wr = true := rfl
theorem wr_ow : Fl.ow.wr = true := rfl
theorem wr_ro : Fl.ro.wr = false := rfl
theorem is_s {s : Tx} : isiD (.str s) 1 = some true := rfl
theorem is_st {xs : List D} : isiD (.tup xs) 1 = some false := rfl
theorem is_tt {xs : List D} : isiD (.tup xs) 2 = some true := rfl
theorem pt_s {s : Tx} : partTx (.str s) = if s.length ≤ LINE then some s else none := rfl
theorem fro_non : fro .non = true := by simp [fro]
theorem fro_bl {b : Bool} : fro (.bl b) = true := by simp [fro]
theorem fro_int {i : Int} : fro (.int i) = true := by simp [fro]
theorem fro_str {i : Tx} : fro (.str i) = true := by simp [fro]
theorem fro_tup {xs : List D} : fro (.tup xs) = fros xs := by simp [fro]
theorem fro_ow {xs : List D} : fro (.lst .ow xs) = false := by simp [fro]
theorem fro_sh {xs : List D} : fro (.lst .sh xs) = fros xs := by simp [fro]
theorem fro_ro {xs : List D} : fro (.lst .ro xs) = fros xs := by simp [fro]
theorem fro_iow {c : Nat} {ks : List Nat} {xs : List D} : fro (.ins .ow c ks xs) = false := by simp [fro]
theorem fro_ish {c : Nat} {ks : List Nat} {xs : List D} : fro (.ins .sh c ks xs) = fros xs := by simp [fro]
theorem fros_nil : fros [] = true := by simp [fros]
theorem fros_cons {x : D} {xs : List D} : fros (x :: xs) = (fro x && fros xs) := by simp [fros]
theorem frz_non : frz .non = .non := by simp [frz]
theorem frz_bl {b : Bool} : frz (.bl b) = .bl b := by simp [frz]
theorem frz_int {i : Int} : frz (.int i) = .int i := by simp [frz]
theorem frz_str {i : Tx} : frz (.str i) = .str i := by simp [frz]
theorem frz_tup {xs : List D} : frz (.tup xs) = .tup (frzs xs) := by simp [frz]
theorem frz_ow {xs : List D} : frz (.lst .ow xs) = .lst .sh (frzs xs) := by simp [frz]
theorem frz_sh {xs : List D} : frz (.lst .sh xs) = .lst .sh (frzs xs) := by simp [frz]
theorem frz_ro {xs : List D} : frz (.lst .ro xs) = .lst .ro (frzs xs) := by simp [frz]
theorem frz_iow {c : Nat} {ks : List Nat} {xs : List D} : frz (.ins .ow c ks xs) = .ins .sh c ks (frzs xs) := by simp [frz]
theorem frzs_nil : frzs [] = [] := by simp [frzs]
theorem frzs_cons {x : D} {xs : List D} : frzs (x :: xs) = frz x :: frzs xs := by simp [frzs]
theorem bt_nm {i : Nat} {d : D} {ρ : Env} : bindT (.nm i) d ρ = if fro d && decide (i < ρ.length) then some (ρ.set i (some d)) else none := by simp [bindT]
theorem bt_tt {ts : List Tg} {ds : List D} {ρ : Env} : bindT (.tp ts) (.tup ds) ρ = bindTs ts ds ρ := by simp [bindT]
theorem bt_tl {ts : List Tg} {o : Fl} {ds : List D} {ρ : Env} : bindT (.tp ts) (.lst o ds) ρ = bindTs ts ds ρ := by simp [bindT]
theorem bs_nil {ρ : Env} : bindTs [] [] ρ = some ρ := by simp [bindTs]
theorem bs_cons {t : Tg} {ts : List Tg} {d : D} {ds : List D} {ρ : Env} : bindTs (t :: ts) (d :: ds) ρ = (match bindT t d ρ with | some ρ' => bindTs ts ds ρ' | none => none) := by first | (simp [bindTs]; done) | (simp [bindTs]; rfl)
theorem sa_nil {ρ : Env} : setAll [] [] ρ = some ρ := by simp [setAll]
theorem sa_cons {i : Nat} {is : List Nat} {d : D} {ds : List D} {ρ : Env} : setAll (i :: is) (d :: ds) ρ = if i < ρ.length then setAll is ds (ρ.set i (some d)) else none := by simp [setAll]
theorem up_nil {f : D → Option D} {d : D} : updA [] f d = f d := by simp [updA]
theorem up_f {n : Nat} {r : List Acc} {f : D → Option D} {c : Nat} {ks : List Nat} {vs : List D} : updA (.f n :: r) f (.ins .ow c ks vs) = (match fldIx ks n with
      | some j => (match vs[j]? with | some x => (match updA r f x with | some y => some (.ins .ow c ks (vs.set j y)) | none => none) | none => none)
      | none => none) := by first | (simp [updA]; done) | (simp [updA]; rfl)
theorem up_i {j : Nat} {r : List Acc} {f : D → Option D} {xs : List D} : updA (.i j :: r) f (.lst .ow xs) = (match xs[j]? with | some x => (match updA r f x with | some y => some (.lst .ow (xs.set j y)) | none => none) | none => none) := by first | (simp [updA]; done) | (simp [updA]; rfl)
theorem pi_l {k : Int} {d : D} {xs : List D} : putI (.int k) d (.lst .ow xs) = (match ixN xs.length k with | some j => some (.lst .ow (xs.set j d)) | none => none) := by first | (simp [putI]; done) | (simp [putI]; rfl)
theorem pf_i {f : Nat} {d : D} {c : Nat} {ks : List Nat} {vs : List D} : putF f d (.ins .ow c ks vs) = if ks.length < 900 then (match fldIx ks f with
      | some j => some (.ins .ow c ks (vs.set j d))
      | none => some (.ins .ow c (ks ++ [f]) (vs ++ [d]))) else none := by first | (simp [putF]; done) | (simp [putF]; rfl)
theorem pa_l {d : D} {xs : List D} : putA d (.lst .ow xs) = if xs.length < LINE then some (.lst .ow (xs ++ [d])) else none := by simp [putA]
theorem rv_var {g : G} {i : Nat} {ρ : Env} : resv g (.var i) ρ = (match getS ρ i with | some d => some (i, [], d) | none => none) := by first | (simp [resv]; done) | (simp [resv]; rfl)
theorem rv_fld {g : G} {o : E} {f : Nat} {ρ : Env} : resv g (.fld o f) ρ = (match resv g o ρ with
      | some (r, a, .ins .ow _ ks vs) => (match fldIx ks f with | some j => (match vs[j]? with | some x => some (r, a ++ [.f f], x) | none => none) | none => none)
      | _ => none) := by first | (simp [resv]; done) | (simp [resv]; rfl)
theorem rv_idx {g : G} {o i : E} {ρ : Env} : resv g (.idx o i) ρ = (match resv g o ρ with
      | some (r, a, .lst .ow xs) => (match simp i, ev g i true ρ with
          | true, .ok (.int k, _) => (match ixN xs.length k with | some j => (match xs[j]? with | some x => some (r, a ++ [.i j], x) | none => none) | none => none)
          | _, _ => none)
      | _ => none) := by first | (simp [resv]; done) | (simp [resv]; rfl)
theorem bin_of {g : G} {op : Bop} {a b : E} {vw : Bool} {ρ ρ1 ρ2 : Env} {x y d : D} (h1 : ev g a true ρ = .ok (x, ρ1)) (h2 : ev g b true ρ1 = .ok (y, ρ2)) (hs : safe a x (tch b) = true) (h3 : binD op x y = some d) : ev g (.bin op a b) vw ρ = .ok (d, ρ2) := by
  rw [e_bin, h1, xb_ok]
  dsimp only
  rw [h2, xb_ok]
  dsimp only
  rw [hs, xg_t, h3]
theorem un_of {g : G} {op : Uop} {a : E} {vw : Bool} {ρ ρ1 : Env} {x d : D} (h1 : ev g a true ρ = .ok (x, ρ1)) (h3 : unD op x = some d) : ev g (.un op a) vw ρ = .ok (d, ρ1) := by
  rw [e_un, h1, xb_ok]
  dsimp only
  rw [h3]
theorem asg_of {g : G} {i : Nat} {e : E} {ρ ρ1 : Env} {d : D} (h : ev g e false ρ = .ok (d, ρ1)) (hi : i < ρ1.length) : exec g (.asg i e) ρ = .ok (.nx, ρ1.set i (some d)) := by
  rw [x_asg, h, xb_ok]
  dsimp only
  rw [decide_eq_true hi, xg_t]
theorem ret_of {g : G} {e : E} {ρ ρ1 : Env} {d : D} (h : ev g e false ρ = .ok (d, ρ1)) : exec g (.ret e) ρ = .ok (.rt d, ρ1) := by
  rw [x_ret, h, xb_ok]
-- working out
end Ev
local macro_rules
  | `(tactic| simp!) => `(tactic| simp -implicitDefEqProofs [Ev.blk_nil, Ev.blk_cons, Ev.es_nil, Ev.es_cons, Ev.tchs_nil, Ev.tchs_cons, Ev.xb_ok, Ev.xb_exn, Ev.xg_t, Ev.e_k, Ev.e_glob, Ev.e_var, Ev.e_mv, Ev.e_bor, Ev.e_fz, Ev.e_frz, Ev.e_fld, Ev.e_idx, Ev.e_slc, Ev.e_bin, Ev.e_un, Ev.e_chn, Ev.e_and, Ev.e_or, Ev.e_ife, Ev.e_tup, Ev.e_lst, Ev.e_fst, Ev.e_call, Ev.e_mcall, Ev.e_make, Ev.e_isi, Ev.x_skip, Ev.x_seq, Ev.x_asg, Ev.x_par, Ev.x_unp, Ev.x_setI, Ev.x_unpI, Ev.x_setF, Ev.x_aug, Ev.x_augF, Ev.x_app, Ev.x_drop, Ev.x_ife, Ev.x_whl, Ev.x_fore, Ev.x_ret, Ev.x_retN, Ev.x_brk, Ev.x_cnt, Ev.x_raise, Ev.x_tryx, Ev.efs_nil, Ev.efs_cons, Ev.get0, Ev.getS1, Ev.safe, Ev.isPath, Ev.tch, Ev.root, Ev.fldOf, Ev.atI_nat, Ev.atI_0, Ev.atI_1, Ev.atI_2, Ev.atI_3, Ev.atI_s, Ev.fro_non, Ev.fro_bl, Ev.fro_int, Ev.fro_str, Ev.fro_tup, Ev.fro_ow, Ev.fro_sh, Ev.fro_ro, Ev.fro_iow, Ev.fro_ish, Ev.fros_nil, Ev.fros_cons, Ev.frz_non, Ev.frz_bl, Ev.frz_int, Ev.frz_str, Ev.frz_tup, Ev.frz_ow, Ev.frz_sh, Ev.frz_ro, Ev.frz_iow, Ev.frzs_nil, Ev.frzs_cons, Ev.bt_nm, Ev.bt_tt, Ev.bt_tl, Ev.bs_nil, Ev.bs_cons, Ev.sa_nil, Ev.sa_cons, Ev.up_nil, Ev.up_f, Ev.up_i, Ev.pi_l, Ev.pf_i, Ev.pa_l, Ev.rv_var, Ev.rv_fld, Ev.rv_idx, Ev.plainD, Ev.simp, Ev.updP, Ev.wipeE, Ev.backA_nb, Ev.nb_es, Ev.nb_cons, Ev.dNs_get, Ev.dNs_len, Ev.dNs_fros, Ev.dNs_frzs, Ev.dNs_okDs, Ev.dNs_app, Ev.dNs_set, Ev.okD_non, Ev.okD_bl, Ev.okD_int, Ev.okD_str, Ev.okD_tup, Ev.okD_lst, Ev.okDs_nil, Ev.okDs_cons, Ev.eqD_non, Ev.eqD_bl, Ev.eqD_int, Ev.eqD_str, Ev.eqD_tup, Ev.eqD_lst, Ev.eqD_tn, Ev.eqD_nt, Ev.eqD_sl, Ev.eqD_ls, Ev.eqD_is, Ev.eqD_si, Ev.eqDs_nil, Ev.eqDs_nc, Ev.eqDs_cn, Ev.eqDs_cons, Ev.b_add, Ev.b_sub, Ev.b_mul, Ev.b_fdiv, Ev.b_mod, Ev.b_pow, Ev.b_eq, Ev.b_ne, Ev.b_lt, Ev.b_le, Ev.b_gt, Ev.b_ge, Ev.b_let, Ev.b_adds, Ev.b_addt, Ev.b_addl, Ev.b_ins, Ev.b_int, Ev.b_join, Ev.u_neg, Ev.u_not, Ev.u_isN, Ev.u_isNi, Ev.u_isNt, Ev.u_notN, Ev.u_notNi, Ev.u_notNt, Ev.u_lens, Ev.u_lenl, Ev.u_lent, Ev.u_inti, Ev.u_intb, Ev.u_ints, Ev.u_tupl, Ev.u_tupt, Ev.u_lsl, Ev.u_lst, Ev.u_sorted, Ev.u_minD, Ev.u_sum, Ev.u_all, Ev.u_any, Ev.i_l, Ev.i_t, Ev.i_s, Ev.f_i, Ev.s_l, Ev.s_t, Ev.s_s, Ev.p_i, Ev.t_b, Ev.is_s, Ev.is_st, Ev.is_tt, Ev.pt_s, Ev.wr_sh, Ev.wr_ow, Ev.wr_ro, Ev.LINE_eq, -getElem?_pos, List.getElem?_range, List.getElem?_cons_zero, List.getElem?_cons_succ])
  | `(tactic| simp! [$xs,*]) => `(tactic| simp -implicitDefEqProofs [Ev.blk_nil, Ev.blk_cons, Ev.es_nil, Ev.es_cons, Ev.tchs_nil, Ev.tchs_cons, Ev.xb_ok, Ev.xb_exn, Ev.xg_t, Ev.e_k, Ev.e_glob, Ev.e_var, Ev.e_mv, Ev.e_bor, Ev.e_fz, Ev.e_frz, Ev.e_fld, Ev.e_idx, Ev.e_slc, Ev.e_bin, Ev.e_un, Ev.e_chn, Ev.e_and, Ev.e_or, Ev.e_ife, Ev.e_tup, Ev.e_lst, Ev.e_fst, Ev.e_call, Ev.e_mcall, Ev.e_make, Ev.e_isi, Ev.x_skip, Ev.x_seq, Ev.x_asg, Ev.x_par, Ev.x_unp, Ev.x_setI, Ev.x_unpI, Ev.x_setF, Ev.x_aug, Ev.x_augF, Ev.x_app, Ev.x_drop, Ev.x_ife, Ev.x_whl, Ev.x_fore, Ev.x_ret, Ev.x_retN, Ev.x_brk, Ev.x_cnt, Ev.x_raise, Ev.x_tryx, Ev.efs_nil, Ev.efs_cons, Ev.get0, Ev.getS1, Ev.safe, Ev.isPath, Ev.tch, Ev.root, Ev.fldOf, Ev.atI_nat, Ev.atI_0, Ev.atI_1, Ev.atI_2, Ev.atI_3, Ev.atI_s, Ev.fro_non, Ev.fro_bl, Ev.fro_int, Ev.fro_str, Ev.fro_tup, Ev.fro_ow, Ev.fro_sh, Ev.fro_ro, Ev.fro_iow, Ev.fro_ish, Ev.fros_nil, Ev.fros_cons, Ev.frz_non, Ev.frz_bl, Ev.frz_int, Ev.frz_str, Ev.frz_tup, Ev.frz_ow, Ev.frz_sh, Ev.frz_ro, Ev.frz_iow, Ev.frzs_nil, Ev.frzs_cons, Ev.bt_nm, Ev.bt_tt, Ev.bt_tl, Ev.bs_nil, Ev.bs_cons, Ev.sa_nil, Ev.sa_cons, Ev.up_nil, Ev.up_f, Ev.up_i, Ev.pi_l, Ev.pf_i, Ev.pa_l, Ev.rv_var, Ev.rv_fld, Ev.rv_idx, Ev.plainD, Ev.simp, Ev.updP, Ev.wipeE, Ev.backA_nb, Ev.nb_es, Ev.nb_cons, Ev.dNs_get, Ev.dNs_len, Ev.dNs_fros, Ev.dNs_frzs, Ev.dNs_okDs, Ev.dNs_app, Ev.dNs_set, Ev.okD_non, Ev.okD_bl, Ev.okD_int, Ev.okD_str, Ev.okD_tup, Ev.okD_lst, Ev.okDs_nil, Ev.okDs_cons, Ev.eqD_non, Ev.eqD_bl, Ev.eqD_int, Ev.eqD_str, Ev.eqD_tup, Ev.eqD_lst, Ev.eqD_tn, Ev.eqD_nt, Ev.eqD_sl, Ev.eqD_ls, Ev.eqD_is, Ev.eqD_si, Ev.eqDs_nil, Ev.eqDs_nc, Ev.eqDs_cn, Ev.eqDs_cons, Ev.b_add, Ev.b_sub, Ev.b_mul, Ev.b_fdiv, Ev.b_mod, Ev.b_pow, Ev.b_eq, Ev.b_ne, Ev.b_lt, Ev.b_le, Ev.b_gt, Ev.b_ge, Ev.b_let, Ev.b_adds, Ev.b_addt, Ev.b_addl, Ev.b_ins, Ev.b_int, Ev.b_join, Ev.u_neg, Ev.u_not, Ev.u_isN, Ev.u_isNi, Ev.u_isNt, Ev.u_notN, Ev.u_notNi, Ev.u_notNt, Ev.u_lens, Ev.u_lenl, Ev.u_lent, Ev.u_inti, Ev.u_intb, Ev.u_ints, Ev.u_tupl, Ev.u_tupt, Ev.u_lsl, Ev.u_lst, Ev.u_sorted, Ev.u_minD, Ev.u_sum, Ev.u_all, Ev.u_any, Ev.i_l, Ev.i_t, Ev.i_s, Ev.f_i, Ev.s_l, Ev.s_t, Ev.s_s, Ev.p_i, Ev.t_b, Ev.is_s, Ev.is_st, Ev.is_tt, Ev.pt_s, Ev.wr_sh, Ev.wr_ow, Ev.wr_ro, Ev.LINE_eq, -getElem?_pos, List.getElem?_range, List.getElem?_cons_zero, List.getElem?_cons_succ, $xs,*])

/-! The annotated texts of law k49. -/
namespace Ev
def d0c0 : E := .lc (.nm 7) (.seq (.idx (.var 0) (.k (.int 0)))) .hole (.idx (.var 7) (.k (.int 0))) [7]
def d0b0 : S := blk [.asg 8 (.idx (.idx (.idx (.var 0) (.var 2)) (.var 6)) (.var 5)), .ife (.bin .ne (.var 8) (.idx (.var 3) (.var 6))) (blk [.app (.var 4) (.tup (es [(.var 2), (.var 5), (.var 6), (.var 8)])), .setI (.var 3) (.var 6) (.var 8)]) (blk [])]
def d0b1 : S := blk [.fore (.nm 6) (.rng (.un .len (.var 3))) d0b0 [6, 8]]
def d0b2 : S := blk [.fore (.nm 5) (.rng (.un .len (.idx (.idx (.var 0) (.var 2)) (.k (.int 0))))) d0b1 [5, 6, 8]]
/-- told_changes -/
def d0 : FDef := ⟨1, ["wave", "begin", "cycle", "here", "found", "time", "net", "bits", "bit"], blk [.asg 1 (.un .tuple d0c0), .par [3, 4] (es [(.un .list (.var 1)), (.lst (es []))]), .fore (.nm 2) (.rng (.un .len (.var 0))) d0b2 [2, 5, 6, 8], .ret (.tup (es [(.var 1), (.un .tuple (.var 4))]))]⟩
def d1c0 : E := .lc (.nm 10) (.seq (.fz 2)) .hole (.lst (es [])) [10]
def d1b0 : S := blk [.setI (.var 5) (.idx (.idx (.var 3) (.var 7)) (.k (.int 2))) (.idx (.idx (.var 3) (.var 7)) (.k (.int 3))), .aug 7 .add (.k (.int 1))]
def d1b0w : E := (.and (.bin .lt (.var 7) (.un .len (.var 3))) (.bin .eq (.slc (.idx (.var 3) (.var 7)) .hole (.k (.int 2))) (.tup (es [(.var 4), (.var 9)]))))
def d1b1 : S := blk [.app (.idx (.var 8) (.var 10)) (.idx (.var 5) (.var 10))]
def d1b2 : S := blk [.whl d1b0w d1b0 [], .fore (.nm 10) (.rng (.un .len (.var 2))) d1b1 [10]]
def d1b3 : S := blk [.asg 8 d1c0, .fore (.nm 9) (.rng (.var 1)) d1b2 [9, 10], .app (.var 6) (.fz 8)]
/-- waves_told -/
def d1 : FDef := ⟨4, ["cycles", "times", "begin", "changes", "cycle", "here", "found", "at", "rows", "time", "net"], blk [.par [5, 6, 7] (es [(.un .list (.var 2)), (.lst (es [])), (.k (.int 0))]), .fore (.nm 4) (.rng (.var 0)) d1b3 [4, 8, 9, 10], .ret (.fz 6)]⟩
def d2c0 : E := .lc (.nm 8) (.seq (.var 3)) .hole (.un .str (.var 8)) [8]
def d2b0 : S := blk [.ife (.bin .ne (.tup (es [(.var 5), (.var 6)])) (.var 2)) (blk [.app (.var 1) (.fst (es [(.k (.str [97, 116, 32])), (.var 5), (.k (.str [32])), (.var 6)]))]) (blk []), .app (.var 1) (.fst (es [(.var 7), (.k (.str [32])), (.var 8)])), .asg 2 (.tup (es [(.var 5), (.var 6)]))]
def d2c1 : E := .lc (.nm 9) (.seq (.fz 1)) .hole (.bin .add (.var 9) (.k (.str [10]))) [9]
/-- wave_file -/
def d2 : FDef := ⟨1, ["wave", "rows", "last", "begin", "changes", "cycle", "time", "net", "bit", "row"], blk [.unp (.tp [(.nm 3), (.nm 4)]) (.call 0 (es [(.var 0)])), .asg 1 (.lst (es [(.bin .add (.fst (es [(.glob 0), (.k (.str [32])), (.un .len (.var 0)), (.k (.str [32])), (.un .len (.idx (.idx (.var 0) (.k (.int 0))) (.k (.int 0)))), (.k (.str [32]))])) (.bin .join (.k (.str [])) d2c0))])), .asg 2 (.k .non), .fore (.tp [(.nm 5), (.nm 6), (.nm 7), (.nm 8)]) (.seq (.var 4)) d2b0 [5, 6, 7, 8], .ret (.bin .join (.k (.str [])) d2c1)]⟩
/-- WaveReader.__init__ -/
def d3 : FDef := ⟨2, ["self", "text"], blk [.setF (.var 0) 0 (.var 1), .setF (.var 0) 1 (.k (.int 0))]⟩
def d4b0 : S := blk [.ife (.bin .ne (.slc (.fld (.var 0) 0) (.fld (.var 0) 1) (.bin .add (.fld (.var 0) 1) (.k (.int 1)))) (.var 2)) (blk [.raise 0 (.fld (.var 0) 1)]) (blk []), .augF (.var 0) 1 .add (.k (.int 1))]
/-- WaveReader.signs -/
def d4 : FDef := ⟨2, ["self", "signs", "sign"], blk [.fore (.nm 2) (.str (.var 1)) d4b0 [2]]⟩
def d5b0 : S := blk [.aug 3 .add (.k (.int 1))]
def d5b0w : E := (.and (.bin .lt (.var 3) (.un .len (.fld (.var 0) 0))) (.and (.bin .inn (.idx (.fld (.var 0) 0) (.var 3)) (.glob 1)) (.bin .lt (.bin .sub (.var 3) (.fld (.var 0) 1)) (.k (.int 6)))))
/-- WaveReader.number -/
def d5 : FDef := ⟨3, ["self", "least", "limit", "end", "word"], blk [.asg 3 (.fld (.var 0) 1), .whl d5b0w d5b0 [], .asg 4 (.slc (.fld (.var 0) 0) (.fld (.var 0) 1) (.var 3)), .ife (.or (.bin .eq (.var 4) (.k (.str []))) (.or (.and (.bin .eq (.idx (.var 4) (.k (.int 0))) (.k (.str [48]))) (.bin .gt (.un .len (.var 4)) (.k (.int 1)))) (.un .not (.chn .le .lt (.var 1) (.un .int (.var 4)) (.var 2))))) (blk [.raise 0 (.fld (.var 0) 1)]) (blk []), .setF (.var 0) 1 (.var 3), .ret (.un .int (.var 4))]⟩
def d6b0 : S := blk [.app (.var 1) (.un .int (.idx (.fld (.var 0) 0) (.fld (.var 0) 1))), .augF (.var 0) 1 .add (.k (.int 1))]
def d6b0w : E := (.bin .inn (.slc (.fld (.var 0) 0) (.fld (.var 0) 1) (.bin .add (.fld (.var 0) 1) (.k (.int 1)))) (.tup (es [(.k (.str [48])), (.k (.str [49]))])))
/-- WaveReader.bits -/
def d6 : FDef := ⟨1, ["self", "found"], blk [.asg 1 (.lst (es [])), .whl d6b0w d6b0 [], .ife (.bin .eq (.un .len (.var 1)) (.k (.int 0))) (blk [.raise 0 (.fld (.var 0) 1)]) (blk []), .ret (.un .tuple (.var 1))]⟩
/-- read_waves -/
def d7 : FDef := ⟨1, ["text", "reader", "cycles", "times", "begin"], blk [.asg 1 (.make 0 (es [(.var 0)])), .drop (.mcall 0 4 (.bor 1) (es [(.bin .add (.glob 0) (.k (.str [32])))])), .asg 2 (.mcall 0 5 (.bor 1) (es [(.k (.int 1)), (.k (.int 1000))])), .drop (.mcall 0 4 (.bor 1) (es [(.k (.str [32]))])), .asg 3 (.mcall 0 5 (.bor 1) (es [(.k (.int 1)), (.k (.int 1000))])), .drop (.mcall 0 4 (.bor 1) (es [(.k (.str [32]))])), .asg 4 (.mcall 0 6 (.bor 1) (es [])), .drop (.mcall 0 4 (.bor 1) (es [(.k (.str [10]))])), .ret (.call 1 (es [(.var 2), (.var 3), (.var 4), (.call 8 (es [(.bor 1), (.var 2), (.var 3), (.var 4)]))]))]⟩
def d8b0 : S := blk [.asg 7 (.fld (.var 0) 1), .asg 12 (.mcall 0 5 (.bor 0) (es [(.var 10), (.un .len (.var 3))])), .drop (.mcall 0 4 (.bor 0) (es [(.k (.str [32]))])), .asg 13 (.mcall 0 5 (.bor 0) (es [(.k (.int 0)), (.k (.int 2))])), .ife (.bin .eq (.var 13) (.idx (.var 4) (.var 12))) (blk [.raise 0 (.var 7)]) (blk []), .drop (.mcall 0 4 (.bor 0) (es [(.k (.str [10]))])), .setI (.var 4) (.var 12) (.var 13), .app (.var 5) (.bin .add (.var 6) (.tup (es [(.var 12), (.var 13)]))), .par [10, 11] (es [(.bin .add (.var 12) (.k (.int 1))), (.bin .add (.var 11) (.k (.int 1)))])]
def d8b0w : E := (.and (.bin .lt (.fld (.var 0) 1) (.un .len (.fld (.var 0) 0))) (.or (.bin .eq (.var 11) (.k (.int 0))) (.bin .ne (.idx (.fld (.var 0) 0) (.fld (.var 0) 1)) (.k (.str [97])))))
def d8b1 : S := blk [.asg 7 (.fld (.var 0) 1), .drop (.mcall 0 4 (.bor 0) (es [(.k (.str [97, 116, 32]))])), .asg 8 (.mcall 0 5 (.bor 0) (es [(.k (.int 0)), (.var 1)])), .drop (.mcall 0 4 (.bor 0) (es [(.k (.str [32]))])), .asg 9 (.tup (es [(.var 8), (.mcall 0 5 (.bor 0) (es [(.k (.int 0)), (.var 2)]))])), .ife (.bin .le (.var 9) (.var 6)) (blk [.raise 0 (.var 7)]) (blk []), .drop (.mcall 0 4 (.bor 0) (es [(.k (.str [10]))])), .par [6, 10, 11] (es [(.var 9), (.k (.int 0)), (.k (.int 0))]), .whl d8b0w d8b0 [7, 12, 13], .ife (.bin .eq (.var 11) (.k (.int 0))) (blk [.raise 0 (.fld (.var 0) 1)]) (blk [])]
def d8b1w : E := (.bin .lt (.fld (.var 0) 1) (.un .len (.fld (.var 0) 0)))
/-- read_rows -/
def d8 : FDef := ⟨4, ["reader", "cycles", "times", "begin", "here", "found", "moment", "start", "cycle", "later", "least", "many", "net", "bit"], blk [.par [4, 5, 6] (es [(.un .list (.var 3)), (.lst (es [])), (.tup (es [(.k (.int 0)), (.k (.int 0))]))]), .whl d8b1w d8b1 [7, 8, 9, 10, 11, 12, 13], .ret (.un .tuple (.var 5))]⟩
def d9b0 : S := blk [.ife (.bin .ne (.idx (.idx (.idx (.var 0) (.var 2)) (.var 4)) (.var 3)) (.idx (.idx (.idx (.var 1) (.var 2)) (.var 4)) (.var 3))) (blk [.ret (.tup (es [(.var 2), (.var 3), (.var 4)]))]) (blk [])]
def d9b1 : S := blk [.fore (.nm 4) (.rng (.un .len (.idx (.var 0) (.var 2)))) d9b0 [4]]
def d9b2 : S := blk [.fore (.nm 3) (.rng (.un .len (.idx (.idx (.var 0) (.var 2)) (.k (.int 0))))) d9b1 [3, 4]]
/-- first_unlike_wave -/
def d9 : FDef := ⟨2, ["first", "second", "cycle", "time", "net"], blk [.fore (.nm 2) (.rng (.un .len (.var 0))) d9b2 [2, 3, 4], .ret (.k .non)]⟩
def d10c0 : E := .lc (.nm 3) (.seq (.fz 0)) .hole (.idx (.idx (.var 3) (.var 1)) (.var 2)) [3]
/-- taken_at -/
def d10 : FDef := ⟨3, ["wave", "net", "time", "cycle"], blk [.ret (.un .tuple d10c0)]⟩
def d11c0 : E := .lc (.tp [(.nm 4), (.nm 5), (.nm 6), (.nm 7)]) (.seq (.idx (.call 0 (es [(.var 0)])) (.k (.int 1)))) (.bin .eq (.var 6) (.var 1)) (.bin .add (.bin .mul (.var 4) (.var 2)) (.var 5)) [4, 5, 6, 7]
def d11c1 : E := .lc (.nm 8) (.rng (.bin .sub (.un .len (.var 3)) (.k (.int 1)))) .hole (.bin .sub (.idx (.var 3) (.bin .add (.var 8) (.k (.int 1)))) (.idx (.var 3) (.var 8))) [8]
/-- shortest_pulse -/
def d11 : FDef := ⟨2, ["wave", "net", "whole", "times", "cycle", "time", "one", "bit", "k"], blk [.asg 2 (.un .len (.idx (.idx (.var 0) (.k (.int 0))) (.k (.int 0)))), .asg 3 d11c0, .ret (.un .minD d11c1)]⟩
def d12c0 : E := .lc (.nm 3) (.seq (.fz 1)) .hole (.idx (.var 2) (.var 3)) [3]
def d12c1 : E := .lc (.nm 2) (.seq (.fz 0)) .hole d12c0 [2]
/-- some_nets -/
def d12 : FDef := ⟨2, ["wave", "nets", "cycle", "net"], blk [.ret d12c1]⟩
/-- _law_draw -/
def d13 : FDef := ⟨3, ["state", "script", "size", "digit", "cell", "mixed"], blk [.ife (.bin .eq (.idx (.var 0) (.k (.int 1))) (.k (.int 0))) (blk [.asg 4 (.k (.int 0)), .ife (.bin .gt (.un .len (.var 1)) (.k (.int 0))) (blk [.asg 4 (.idx (.var 1) (.bin .mod (.idx (.var 0) (.k (.int 0))) (.un .len (.var 1))))]) (blk []), .ife (.bin .lt (.var 4) (.k (.int 0))) (blk [.asg 4 (.bin .sub (.k (.int 1)) (.bin .mul (.k (.int 2)) (.var 4)))]) (blk []), .asg 5 (.bin .mod (.un .int (.bin .mul (.bin .add (.bin .add (.var 4) (.bin .mul (.idx (.var 0) (.k (.int 0))) (.k (.int 7919)))) (.k (.int 1))) (.k (.int 48271)))) (.k (.int 2147483647))), .setI (.var 0) (.k (.int 1)) (.bin .mod (.un .int (.bin .add (.bin .mul (.var 5) (.k (.int 69621))) (.bin .mul (.idx (.var 0) (.k (.int 0))) (.k (.int 104729))))) (.k (.int 4294967291))), .ife (.and (.bin .ge (.var 4) (.bin .pow (.k (.int 10)) (.k (.int 18)))) (.bin .lt (.idx (.var 0) (.k (.int 0))) (.un .len (.var 1)))) (blk [.setI (.var 0) (.k (.int 1)) (.var 4)]) (blk []), .setI (.var 0) (.k (.int 0)) (.bin .add (.idx (.var 0) (.k (.int 0))) (.k (.int 1)))]) (blk []), .asg 3 (.bin .mod (.un .int (.idx (.var 0) (.k (.int 1)))) (.var 2)), .setI (.var 0) (.k (.int 1)) (.bin .fdiv (.idx (.var 0) (.k (.int 1))) (.var 2)), .ret (.var 3)]⟩
def d14b0 : S := blk [.asg 2 (.bin .add (.var 2) (.idx (.var 3) (.var 1)))]
/-- _law_line -/
def d14 : FDef := ⟨2, ["wave", "net", "found", "cycle"], blk [.asg 2 (.lst (es [])), .fore (.nm 3) (.seq (.fz 0)) d14b0 [3], .ret (.fz 2)]⟩
def d15c0 : E := .lc (.nm 6) (.rng (.var 3)) .hole (.call 14 (es [(.var 0), (.var 6)])) [6]
def d15c1 : E := .lc (.nm 6) (.rng (.var 3)) (.bin .ne (.idx (.idx (.var 1) (.var 6)) (.var 2)) (.idx (.idx (.var 1) (.var 6)) (.bin .sub (.var 2) (.k (.int 1))))) (.tup (es [(.bin .fdiv (.var 2) (.var 4)), (.bin .sub (.var 2) (.bin .mul (.var 4) (.bin .fdiv (.var 2) (.var 4)))), (.var 6), (.idx (.idx (.var 1) (.var 6)) (.var 2))])) [6]
def d15b0 : S := blk [.asg 5 (.bin .add (.var 5) d15c1)]
/-- _law_changes -/
def d15 : FDef := ⟨1, ["wave", "lines", "at", "nets", "whole", "found", "net"], blk [.unp (.tp [(.nm 3), (.nm 4), (.nm 5)]) (.tup (es [(.un .len (.idx (.var 0) (.k (.int 0)))), (.un .len (.idx (.idx (.var 0) (.k (.int 0))) (.k (.int 0)))), (.frz (.lst (es [])))])), .asg 1 d15c0, .fore (.nm 2) (.rng2 (.k (.int 1)) (.bin .mul (.un .len (.var 0)) (.var 4))) d15b0 [2], .ret (.fz 5)]⟩
def d16c0 : E := .lc (.nm 7) (.seq (.idx (.var 0) (.k (.int 0)))) .hole (.un .str (.idx (.var 7) (.k (.int 0)))) [7]
def d16b0 : S := blk [.ife (.bin .ne (.var 2) (.tup (es [(.var 3), (.var 4)]))) (blk [.asg 1 (.bin .add (.bin .add (.bin .add (.bin .add (.bin .add (.var 1) (.k (.str [97, 116, 32]))) (.un .str (.var 3))) (.k (.str [32]))) (.un .str (.var 4))) (.k (.str [10])))]) (blk []), .par [1, 2] (es [(.bin .add (.bin .add (.bin .add (.bin .add (.var 1) (.un .str (.var 5))) (.k (.str [32]))) (.un .str (.var 6))) (.k (.str [10]))), (.tup (es [(.var 3), (.var 4)]))])]
/-- _law_text -/
def d16 : FDef := ⟨1, ["wave", "text", "last", "cycle", "time", "net", "bit", "bits"], blk [.asg 1 (.bin .add (.bin .add (.bin .add (.bin .add (.bin .add (.bin .add (.k (.str [119, 97, 118, 101, 115, 32])) (.un .str (.un .len (.var 0)))) (.k (.str [32]))) (.un .str (.un .len (.idx (.idx (.var 0) (.k (.int 0))) (.k (.int 0)))))) (.k (.str [32]))) (.bin .join (.k (.str [])) d16c0)) (.k (.str [10]))), .asg 2 (.k .non), .fore (.tp [(.nm 3), (.nm 4), (.nm 5), (.nm 6)]) (.seq (.call 15 (es [(.var 0)]))) d16b0 [3, 4, 5, 6], .ret (.var 1)]⟩
def d17c0 : E := .lc (.nm 3) (.rng (.un .len (.var 2))) (.bin .ne (.slc (.var 0) (.bin .add (.var 1) (.var 3)) (.bin .add (.bin .add (.var 1) (.var 3)) (.k (.int 1)))) (.idx (.var 2) (.var 3))) (.bin .add (.var 1) (.var 3)) [3]
/-- _law_match -/
def d17 : FDef := ⟨3, ["text", "at", "signs", "k"], blk [.ret (.idx (.bin .add d17c0 (.lst (es [(.k .non)]))) (.k (.int 0)))]⟩
def d18b0 : S := blk [.asg 4 (.bin .add (.var 4) (.k (.int 1)))]
def d18b0w : E := (.and (.bin .lt (.var 4) (.un .len (.var 0))) (.and (.bin .inn (.idx (.var 0) (.var 4)) (.k (.str [48, 49, 50, 51, 52, 53, 54, 55, 56, 57]))) (.bin .lt (.bin .sub (.var 4) (.var 1)) (.k (.int 6)))))
/-- _law_number -/
def d18 : FDef := ⟨4, ["text", "at", "least", "limit", "end", "word"], blk [.asg 4 (.var 1), .whl d18b0w d18b0 [], .asg 5 (.slc (.var 0) (.var 1) (.var 4)), .ife (.or (.bin .eq (.var 5) (.k (.str []))) (.or (.and (.bin .eq (.idx (.var 5) (.k (.int 0))) (.k (.str [48]))) (.bin .gt (.un .len (.var 5)) (.k (.int 1)))) (.un .not (.chn .le .lt (.var 2) (.un .int (.bin .add (.k (.str [48])) (.var 5))) (.var 3))))) (blk [.ret (.tup (es [(.k (.str [110, 111])), (.var 1)]))]) (blk []), .ret (.tup (es [(.un .int (.var 5)), (.var 4)]))]⟩
def d19b0 : S := blk [.ife (.isi (.var 4) 1) (blk [.asg 5 (.call 17 (es [(.var 0), (.var 1), (.var 4)])), .ife (.un .notN (.var 5)) (blk [.ret (.tup (es [(.k (.str [110, 111])), (.fz 5)]))]) (blk []), .asg 1 (.bin .add (.var 1) (.un .len (.var 4)))]) (blk [.asg 6 (.call 18 (es [(.var 0), (.var 1), (.idx (.var 4) (.k (.int 0))), (.idx (.var 4) (.k (.int 1)))])), .ife (.bin .eq (.idx (.var 6) (.k (.int 0))) (.k (.str [110, 111]))) (blk [.ret (.fz 6)]) (blk []), .par [3, 1] (es [(.bin .add (.var 3) (.lst (es [(.idx (.var 6) (.k (.int 0)))]))), (.idx (.var 6) (.k (.int 1)))])])]
/-- _law_steps -/
def d19 : FDef := ⟨3, ["text", "at", "wants", "found", "want", "bad", "told"], blk [.asg 3 (.lst (es [])), .fore (.nm 4) (.seq (.fz 2)) d19b0 [4, 5, 6], .ret (.tup (es [(.fz 3), (.var 1)]))]⟩
def d20b0 : S := blk [.asg 2 (.bin .add (.var 2) (.k (.int 1)))]
def d20b0w : E := (.and (.bin .lt (.var 2) (.un .len (.var 0))) (.bin .inn (.idx (.var 0) (.var 2)) (.k (.str [48, 49]))))
def d20c0 : E := .lc (.nm 12) (.str (.slc (.var 0) (.var 3) (.var 2))) .hole (.un .int (.var 12)) [12]
def d20b1 : S := blk [.asg 1 (.call 19 (es [(.var 0), (.var 3), (.lst (es [(.tup (es [(.var 10), (.un .len (.var 4))])), (.k (.str [32])), (.tup (es [(.k (.int 0)), (.k (.int 2))]))]))])), .ife (.bin .eq (.idx (.var 1) (.k (.int 0))) (.k (.str [110, 111]))) (blk [.ret (.fz 1)]) (blk []), .unp (.tp [(.nm 13), (.nm 14)]) (.idx (.var 1) (.k (.int 0))), .ife (.bin .eq (.idx (.var 6) (.var 13)) (.var 14)) (blk [.ret (.tup (es [(.k (.str [110, 111])), (.var 3)]))]) (blk []), .ife (.bin .ne (.slc (.var 0) (.idx (.var 1) (.k (.int 1))) (.bin .add (.idx (.var 1) (.k (.int 1))) (.k (.int 1)))) (.k (.str [10]))) (blk [.ret (.tup (es [(.k (.str [110, 111])), (.idx (.var 1) (.k (.int 1)))]))]) (blk []), .unpI (.var 6) (.var 13) [(.nm 3), (.nm 10), (.nm 11)] (.tup (es [(.var 14), (.bin .add (.idx (.var 1) (.k (.int 1))) (.k (.int 1))), (.bin .add (.var 13) (.k (.int 1))), (.bin .add (.var 11) (.k (.int 1)))])), .app (.var 7) (.bin .add (.var 5) (.tup (es [(.var 13), (.var 14)])))]
def d20b1w : E := (.and (.bin .lt (.var 3) (.un .len (.var 0))) (.or (.bin .eq (.var 11) (.k (.int 0))) (.bin .ne (.idx (.var 0) (.var 3)) (.k (.str [97])))))
def d20b2 : S := blk [.asg 1 (.call 19 (es [(.var 0), (.var 3), (.lst (es [(.k (.str [97, 116, 32])), (.tup (es [(.k (.int 0)), (.var 8)])), (.k (.str [32])), (.tup (es [(.k (.int 0)), (.var 9)]))]))])), .ife (.bin .eq (.idx (.var 1) (.k (.int 0))) (.k (.str [110, 111]))) (blk [.ret (.fz 1)]) (blk []), .ife (.bin .le (.un .tuple (.idx (.var 1) (.k (.int 0)))) (.var 5)) (blk [.ret (.tup (es [(.k (.str [110, 111])), (.var 3)]))]) (blk []), .ife (.bin .ne (.slc (.var 0) (.idx (.var 1) (.k (.int 1))) (.bin .add (.idx (.var 1) (.k (.int 1))) (.k (.int 1)))) (.k (.str [10]))) (blk [.ret (.tup (es [(.k (.str [110, 111])), (.idx (.var 1) (.k (.int 1)))]))]) (blk []), .unp (.tp [(.nm 5), (.nm 3), (.nm 10), (.nm 11)]) (.tup (es [(.un .tuple (.idx (.var 1) (.k (.int 0)))), (.bin .add (.idx (.var 1) (.k (.int 1))) (.k (.int 1))), (.k (.int 0)), (.k (.int 0))])), .ife (.bin .eq (.var 3) (.un .len (.var 0))) (blk [.ret (.tup (es [(.k (.str [110, 111])), (.var 3)]))]) (blk []), .whl d20b1w d20b1 [1, 13, 14]]
def d20b2w : E := (.bin .lt (.var 3) (.un .len (.var 0)))
/-- _law_read -/
def d20 : FDef := ⟨1, ["text", "told", "end", "at", "begin", "moment", "here", "moves", "cycles", "times", "least", "many", "sign", "net", "bit"], blk [.asg 1 (.call 19 (es [(.var 0), (.k (.int 0)), (.lst (es [(.k (.str [119, 97, 118, 101, 115, 32])), (.tup (es [(.k (.int 1)), (.k (.int 1000))])), (.k (.str [32])), (.tup (es [(.k (.int 1)), (.k (.int 1000))])), (.k (.str [32]))]))])), .ife (.bin .eq (.idx (.var 1) (.k (.int 0))) (.k (.str [110, 111]))) (blk [.ret (.fz 1)]) (blk []), .unp (.tp [(.tp [(.nm 8), (.nm 9)]), (.nm 3)]) (.var 1), .asg 2 (.var 3), .whl d20b0w d20b0 [], .ife (.or (.bin .eq (.var 2) (.var 3)) (.bin .ne (.slc (.var 0) (.var 2) (.bin .add (.var 2) (.k (.int 1)))) (.k (.str [10])))) (blk [.ret (.tup (es [(.k (.str [110, 111])), (.var 2)]))]) (blk []), .par [4, 3, 5] (es [d20c0, (.bin .add (.var 2) (.k (.int 1))), (.tup (es [(.k (.int 0)), (.k (.int 0))]))]), .par [6, 7] (es [(.un .list (.var 4)), (.lst (es []))]), .whl d20b2w d20b2 [1, 10, 11, 13, 14], .ret (.tup (es [(.k (.str [121, 101, 115])), (.call 21 (es [(.var 8), (.var 9), (.fz 4), (.fz 7)]))]))]⟩
def d21c0 : E := .lc (.nm 11) (.seq (.fz 2)) .hole (.lst (es [])) [11]
def d21b0 : S := blk [.setI (.var 5) (.idx (.var 10) (.k (.int 2))) (.idx (.var 10) (.k (.int 3)))]
def d21c1 : E := .lc (.nm 12) (.seq (.fz 7)) (.bin .eq (.slc (.var 12) .hole (.k (.int 2))) (.tup (es [(.var 4), (.var 9)]))) (.var 12) [12]
def d21b1 : S := blk [.app (.idx (.var 8) (.var 11)) (.idx (.var 5) (.var 11))]
def d21b2 : S := blk [.fore (.nm 10) (.seq d21c1) d21b0 [10], .fore (.nm 11) (.rng (.un .len (.var 2))) d21b1 [11]]
def d21b3 : S := blk [.asg 8 d21c0, .fore (.nm 9) (.rng (.var 1)) d21b2 [9, 10, 11], .app (.var 6) (.fz 8)]
/-- _law_made -/
def d21 : FDef := ⟨4, ["cycles", "times", "begin", "moves", "cycle", "here", "found", "left", "rows", "time", "move", "net", "one"], blk [.par [5, 6, 7] (es [(.un .list (.var 2)), (.lst (es [])), (.un .list (.var 3))]), .fore (.nm 4) (.rng (.var 0)) d21b3 [4, 8, 9, 10, 11], .ret (.fz 6)]⟩
/-- _law_asked -/
def d22 : FDef := ⟨1, ["text", "error"], blk [.tryx (blk [.ret (.tup (es [(.k (.str [121, 101, 115])), (.call 7 (es [(.var 0)]))]))]) 0 1 [some (.str [110, 111]), none]]⟩
def d23c0 : E := .lc (.nm 26) (.rng (.var 10)) .hole (.call 13 (es [(.bor 1), (.var 0), (.k (.int 2))])) [26]
def d23b0 : S := blk [.app (.idx (.var 2) (.un .neg (.k (.int 1)))) d23c0]
def d23b1 : S := blk [.app (.var 2) (.lst (es [])), .fore (.nm 7) (.rng (.var 11)) d23b0 [7]]
def d23c1 : E := .lc (.nm 24) (.seq (.idx (.var 2) (.k (.int 0)))) .hole (.idx (.var 24) (.k (.int 0))) [24]
def d23b2 : S := blk [.asg 14 (.call 13 (es [(.bor 1), (.var 0), (.bin .add (.un .len (.var 13)) (.k (.int 1)))])), .asg 15 (.k (.str [48, 49, 50, 51, 32, 10, 97, 116, 119, 118, 101, 115, 57])), .asg 16 (.idx (.var 15) (.call 13 (es [(.bor 1), (.var 0), (.un .len (.var 15))]))), .asg 17 (.idx (.lst (es [(.slc (.var 13) .hole (.var 14)), (.bin .add (.bin .add (.slc (.var 13) .hole (.var 14)) (.var 16)) (.slc (.var 13) (.var 14) .hole)), (.bin .add (.slc (.var 13) .hole (.var 14)) (.slc (.var 13) (.bin .add (.var 14) (.k (.int 1))) .hole)), (.bin .add (.bin .add (.slc (.var 13) .hole (.var 14)) (.var 16)) (.slc (.var 13) (.bin .add (.var 14) (.k (.int 1))) .hole))])) (.call 13 (es [(.bor 1), (.var 0), (.k (.int 4))]))), .ife (.bin .ne (.call 22 (es [(.var 17)])) (.call 20 (es [(.var 17)]))) (blk [.ret (.k (.bl false))]) (blk [])]
def d23c2 : E := .lc (.nm 25) (.seq (.var 21)) .hole (.var 25) [25]
def d23c3 : E := .lc (.nm 21) (.seq (.var 3)) .hole d23c2 [21]
def d23c4 : E := .lc (.nm 3) (.seq (.fz 2)) .hole d23c3 [3]
def d23c5 : E := .lc (.nm 14) (.rng2 (.k (.int 1)) (.un .len (.var 21))) (.bin .ne (.idx (.var 21) (.var 14)) (.idx (.var 21) (.bin .sub (.var 14) (.k (.int 1))))) (.var 14) [14]
def d23c6 : E := .lc (.nm 14) (.rng (.bin .sub (.un .len (.var 22)) (.k (.int 1)))) .hole (.bin .sub (.idx (.var 22) (.bin .add (.var 14) (.k (.int 1)))) (.idx (.var 22) (.var 14))) [14]
def d23c7 : E := .lc (.nm 3) (.seq (.fz 2)) .hole (.idx (.idx (.var 3) (.var 7)) (.var 20)) [3]
def d23b3 : S := blk [.asg 21 (.call 14 (es [(.fz 2), (.var 7)])), .asg 22 d23c5, .asg 23 d23c6, .ife (.or (.bin .ne (.call 11 (es [(.fz 2), (.var 7)])) (.idx (.bin .add (.un .sorted (.var 23)) (.lst (es [(.k .non)]))) (.k (.int 0)))) (.bin .ne (.call 10 (es [(.fz 2), (.var 7), (.fz 20)])) (.un .tuple d23c7))) (blk [.ret (.k (.bl false))]) (blk [])]
def d23c8 : E := .lc (.nm 14) (.rng (.k (.int 2))) .hole (.call 13 (es [(.bor 1), (.var 0), (.fz 11)])) [14]
def d23c9 : E := .lc (.nm 7) (.seq (.fz 8)) .hole (.idx (.var 3) (.var 7)) [7]
def d23c10 : E := .lc (.nm 3) (.seq (.fz 2)) .hole d23c9 [3]
/-- law -/
def d23 : FDef := ⟨1, ["script", "state", "wave", "cycle", "begin", "turn", "turned", "net", "some", "cycles", "times", "nets", "moves", "text", "k", "signs", "sign", "bent", "a", "b", "c", "line", "at", "gaps", "bits", "bit", "time"], blk [.asg 1 (.lst (es [(.k (.int 0)), (.k (.int 0))])), .unp (.tp [(.nm 9), (.nm 10), (.nm 11)]) (.tup (es [(.frz (.bin .add (.k (.int 1)) (.call 13 (es [(.bor 1), (.var 0), (.k (.int 3))])))), (.frz (.bin .add (.k (.int 1)) (.call 13 (es [(.bor 1), (.var 0), (.k (.int 4))])))), (.frz (.bin .add (.k (.int 1)) (.call 13 (es [(.bor 1), (.var 0), (.k (.int 3))]))))])), .asg 2 (.lst (es [])), .fore (.nm 3) (.rng (.var 9)) d23b1 [3, 7], .par [12, 13] (es [(.call 15 (es [(.fz 2)])), (.call 16 (es [(.fz 2)]))]), .asg 4 (.un .tuple d23c1), .ife (.or (.bin .ne (.call 0 (es [(.fz 2)])) (.tup (es [(.var 4), (.un .tuple (.var 12))]))) (.or (.bin .ne (.call 2 (es [(.fz 2)])) (.var 13)) (.or (.bin .ne (.call 22 (es [(.fz 13)])) (.tup (es [(.k (.str [121, 101, 115])), (.fz 2)]))) (.bin .ne (.call 20 (es [(.fz 13)])) (.tup (es [(.k (.str [121, 101, 115])), (.fz 2)])))))) (blk [.ret (.k (.bl false))]) (blk []), .ife (.or (.bin .ne (.call 1 (es [(.fz 9), (.fz 10), (.var 4), (.un .tuple (.var 12))])) (.var 2)) (.bin .ne (.call 1 (es [(.fz 9), (.fz 10), (.var 4), (.tup (es []))])) (.call 21 (es [(.fz 9), (.fz 10), (.var 4), (.lst (es []))])))) (blk [.ret (.k (.bl false))]) (blk []), .fore (.nm 5) (.rng (.k (.int 12))) d23b2 [5, 14, 15, 16, 17], .unp (.tp [(.nm 18), (.nm 19), (.nm 20)]) (.tup (es [(.frz (.call 13 (es [(.bor 1), (.var 0), (.fz 9)]))), (.frz (.call 13 (es [(.bor 1), (.var 0), (.fz 11)]))), (.frz (.call 13 (es [(.bor 1), (.var 0), (.fz 10)])))])), .asg 6 d23c4, .setI (.idx (.idx (.var 6) (.var 18)) (.var 19)) (.var 20) (.bin .sub (.k (.int 1)) (.idx (.idx (.idx (.var 6) (.var 18)) (.var 19)) (.var 20))), .ife (.or (.bin .ne (.call 9 (es [(.fz 2), (.fz 6)])) (.tup (es [(.fz 18), (.fz 20), (.fz 19)]))) (.or (.bin .ne (.call 9 (es [(.fz 6), (.fz 2)])) (.tup (es [(.fz 18), (.fz 20), (.fz 19)]))) (.un .notN (.call 9 (es [(.fz 2), (.fz 2)]))))) (blk [.ret (.k (.bl false))]) (blk []), .fore (.nm 7) (.rng (.var 11)) d23b3 [7, 21, 22, 23], .asg 8 d23c8, .ret (.and (.bin .eq (.call 12 (es [(.fz 2), (.fz 8)])) d23c10) (.and (.bin .eq (.call 22 (es [(.k (.str []))])) (.tup (es [(.k (.str [110, 111])), (.k (.int 0))]))) (.bin .eq (.call 22 (es [(.k (.str [119, 97, 118, 101, 115, 32, 49, 32, 50, 32, 48, 49, 10, 97, 116, 32, 48, 32, 49, 10]))])) (.tup (es [(.k (.str [110, 111])), (.k (.int 20))])))))]⟩
def defsL : List FDef := [d0, d1, d2, d3, d4, d5, d6, d7, d8, d9, d10, d11, d12, d13, d14, d15, d16, d17, d18, d19, d20, d21, d22, d23]
-- functions: 0 told_changes, 1 waves_told, 2 wave_file, 3 WaveReader.__init__, 4 WaveReader.signs, 5 WaveReader.number, 6 WaveReader.bits, 7 read_waves, 8 read_rows, 9 first_unlike_wave, 10 taken_at, 11 shortest_pulse, 12 some_nets, 13 _law_draw, 14 _law_line, 15 _law_changes, 16 _law_text, 17 _law_match, 18 _law_number, 19 _law_steps, 20 _law_read, 21 _law_made, 22 _law_asked, 23 law
-- classes: ['WaveReader'] fields: ['text', 'at'] consts: [('HEAD', "'waves'"), ('DIGITS', "'0123456789'")] excs: ['ChiptrueError', 'InvalidText'] builtins: ['int', 'isinstance', 'len', 'list', 'min', 'range', 'sorted', 'str', 'tuple']
def Pg49 : Prog := ⟨fun f => defsL[f]?, fun _ => 3, fun n => match n with | 0 => .str [119, 97, 118, 101, 115] | _ => .str [48, 49, 50, 51, 52, 53, 54, 55, 56, 57], fun _ _ => true⟩
end Ev

/-! The text of k49 against its annotations. -/
namespace Ev
open PySem PySem.Spec PyProof.Rows L2
def bodyOf : Option Stmt → List Stmt
  | some (.ClassDef _ _ _ b _ _ _ _ _ _ _) => b
  | _ => []
def stOf : Option Stmt → Stmt
  | some s => s
  | none => .Pass ⟨0, 0, 0, 0⟩
def top49 : List Stmt := PySem.Challenge.pw_chiptrue_k49_whole_waves_as_texts.main.body
/-- other names: nowhere in the program -/
def oddN (n : Nat) : Str := ⟨(List.replicate (n + 1) 126).toArray⟩
def fld49 : Nat → Str
  | 0 => "text" | 1 => "at" | n + 2 => oddN n
def fn49 : Nat → Option Str
  | 0 => some "told_changes" | 1 => some "waves_told" | 2 => some "wave_file" | 7 => some "read_waves" | 8 => some "read_rows" | 9 => some "first_unlike_wave" | 10 => some "taken_at" | 11 => some "shortest_pulse" | 12 => some "some_nets"
  | 13 => some "_law_draw" | 14 => some "_law_line" | 15 => some "_law_changes" | 16 => some "_law_text" | 17 => some "_law_match" | 18 => some "_law_number" | 19 => some "_law_steps" | 20 => some "_law_read" | 21 => some "_law_made" | 22 => some "_law_asked"
  | _ => none
def mt49 : Nat → Nat → Option Str
  | 0, 4 => some "signs" | 0, 5 => some "number" | 0, 6 => some "bits" | _, _ => none
def cn49 : Nat → Option Str
  | 0 => some "WaveReader" | _ => none
def gn49 : Nat → Option Str
  | 0 => some "HEAD" | 1 => some "DIGITS" | _ => none
def xn49 : Nat → Option Str
  | 0 => some "InvalidText" | _ => none
def T49 : Nt where
  fld := fld49
  nf := 2
  fn := fn49
  mt := mt49
  cn := cn49
  gn := gn49
  xn := xn49
  hx := true
  bl := ["len", "str", "int", "tuple", "list", "sorted", "range", "min", "isinstance"]
/-- where the def stands in the text -/
def stm49 : Nat → Stmt
  | 0 => stOf top49[6]? | 1 => stOf top49[7]? | 2 => stOf top49[8]? | 3 => stOf (bodyOf top49[9]?)[0]? | 4 => stOf (bodyOf top49[9]?)[1]? | 5 => stOf (bodyOf top49[9]?)[2]? | 6 => stOf (bodyOf top49[9]?)[3]?
  | n + 7 => stOf (if n < 6 then top49[n + 10]? else top49[n + 11]?)
def ck49 (f : Nat) : Bool := match defsL[f]? with | some fd => chkB T49 fd.ns (defScope (stm49 f)) fd.body (defBody (stm49 f)) | none => false
end Ev

/-! k49: what the kernel checks. -/
namespace Ev
open PySem PySem.Spec PyProof.Rows L2
theorem ck49_ok : (List.range 24).all ck49 = true := by decide +kernel
def sc49 (f : Nat) : Bool := match defsL[f]? with | some fd => C8.scC fd.ns (fd.ns.take fd.np) (defScope (stm49 f)) | none => false
theorem sc49_ok : (List.range 24).all sc49 = true := by decide +kernel
end Ev

/-! k49: the facts of the program in the heap. -/
namespace Ev
open PySem PySem.Spec PyProof.Rows L2 NdefX
theorem oddN_inj {a b : Nat} (h : oddN a = oddN b) : a = b := by
  unfold oddN at h
  have := congrArg (fun s : Str => s.cps.size) h
  simpa using this
theorem oddN_head {a : Nat} : (oddN a).cps[0]? = some 126 := by
  unfold oddN
  simp [List.replicate_succ]
theorem fld49_inj : ∀ a b, fld49 a = fld49 b → a = b
  | 0, 0, _ => rfl
  | 1, 1, _ => rfl
  | 0, 1, h => absurd h (by decide)
  | 1, 0, h => absurd h (by decide)
  | 0, b + 2, h => by
    have z := oddN_head (a := b)
    rw [← show fld49 (b + 2) = oddN b from rfl, ← h] at z
    exact absurd z (by decide)
  | 1, b + 2, h => by
    have z := oddN_head (a := b)
    rw [← show fld49 (b + 2) = oddN b from rfl, ← h] at z
    exact absurd z (by decide)
  | a + 2, 0, h => by
    have z := oddN_head (a := a)
    rw [← show fld49 (a + 2) = oddN a from rfl, h] at z
    exact absurd z (by decide)
  | a + 2, 1, h => by
    have z := oddN_head (a := a)
    rw [← show fld49 (a + 2) = oddN a from rfl, h] at z
    exact absurd z (by decide)
  | a + 2, b + 2, h => by rw [oddN_inj (show oddN a = oddN b from h)]
theorem fld49_ne {x : Str} (h0 : ("text" : Str) ≠ x) (h1 : ("at" : Str) ≠ x) (h2 : x.cps[0]? ≠ some 126) : ∀ j, fld49 j ≠ x
  | 0 => h0
  | 1 => h1
  | j + 2 => fun e => h2 (e ▸ oddN_head (a := j))
theorem exm_self49 {K : PySem.W.Frag} {S : Addr} (h1 : PySem.W.subIn K (.ref S) (.type "BaseException") = some true) (h2 : PySem.W.isClsIn K S = true) (h3 : PySem.W.typeIn K (.ref S) = some (.type "type")) (h4 : PySem.W.subIn K (.ref S) (.ref S) = some true) :
    PySem.W.exmOne K (.ref S) (.ref S) = some true := by
  have e1 : (PySem.W.subIn K (.ref S) (.type "BaseException") == some true) = true := by rw [h1] <;> rfl
  have e2 : ((PySem.W.clsIn K S).isSome && PySem.W.typeIn K (.ref S) == some (.type "type")) = true := by
    have h2' : (PySem.W.clsIn K S).isSome = true := h2
    rw [h2', h3] <;> rfl
  show (if (PySem.W.subIn K (.ref S) (.type "BaseException") == some true) = true then (if ((PySem.W.clsIn K S).isSome && PySem.W.typeIn K (.ref S) == some (.type "type")) = true then PySem.W.subIn K (.ref S) (.ref S) else none) else none) = some true
  rw [if_pos e1, if_pos e2]
  exact h4
/-- the two __init__ -/
def sE49 : Stmt := stOf (bodyOf top49[1]?)[0]?
def sI49 : Stmt := stOf (bodyOf top49[2]?)[0]?
def ps49 (f : Nat) : List Str := match defsL[f]? with | some fd => fd.ns.take fd.np | none => []
theorem pick {f : Nat} {fd : FDef} (h : defsL[f]? = some fd) : f < 24 := (List.getElem?_eq_some_iff.mp h).1
theorem cks {f : Nat} {fd : FDef} (h : defsL[f]? = some fd) : chkB T49 fd.ns (defScope (stm49 f)) fd.body (defBody (stm49 f)) = true ∧ FnScope fd.ns (ps49 f) (defScope (stm49 f)) := by
  have hf := pick h
  have a := List.all_eq_true.mp ck49_ok f (List.mem_range.mpr hf)
  have b := List.all_eq_true.mp sc49_ok f (List.mem_range.mpr hf)
  unfold ck49 at a
  unfold sc49 at b
  rw [h] at a b
  unfold ps49
  rw [h]
  exact ⟨a, C8.fnScope_by b⟩
/-- the plain law -/
def Pure49 : Prop := ∀ ns : List Int, ns.length ≤ 63 → ∃ rs, (semG Pg49 14).call 23 [.lst .ro (ns.map .int)] = .ok (.bl true, rs)
/-- the law's promise -/
def spLaw49 (K : PySem.W.Frag) : Sp := fun vs H Q _ => ∃ (a : Addr) (ns : List Int), vs = [.ref a] ∧ SqL K H a (ns.map V.int) ∧ ns.length ≤ 63 ∧ ∀ H', Q (.bl true) H'
theorem reps_ints49 {K : PySem.W.Frag} {N : Nm} {H : Hp} {own : Addr → Own} {t : Own} : ∀ ns : List Int, Reps K N H own t (ns.map D.int) (ns.map V.int) []
  | [] => ⟨rfl, rfl⟩
  | n :: ns => ⟨.int n, _, [], [], rfl, rfl, ⟨rfl, rfl⟩, reps_ints49 ns⟩
theorem law_sp {K : PySem.W.Frag} {N : Nm} {vs : List V} {H : Hp} {Q : VK} {E : XK} (pu : Pure49) (h : spLaw49 K vs H Q E) : spC K N (semG Pg49 14).call 23 vs H Q E := by
  obtain ⟨a, ns, rfl, hs, hl, q⟩ := h
  obtain ⟨rs, e⟩ := pu ns hl
  refine ⟨[.lst .ro (ns.map .int)], fun _ => .fz, ⟨.ref a, [], [], rfl, ⟨a, ns.map V.int, rfl, ?_, rfl, reps_ints49 ns⟩, List.nodup_nil, rfl⟩, fun _ _ z => Own.noConfusion z, ?_⟩
  · rcases hs with hs | hs
    · exact .inl ⟨hs, rfl⟩
    · exact .inr hs
  · rw [e]
    intro own' H' v F _ r _ _
    rw [r.1]
    exact q H'
/-- what the heap says of a def of the text -/
structure At49 (K : PySem.W.Frag) (x qual : Str) (st : Stmt) (f : Addr) (fd : FuncData) : Prop where
  fn : Fun K x qual st f fd
  kp : PySem.W.keepIn K (.ref f) = true
set_option maxHeartbeats 4000000
theorem facts49 {P : Program} {w : World} {K : PySem.W.Frag} {h : Heap} {fa : Addr} {mg : Str → Option Value} {CW XI XE g1 g2 cc1 cc2 cda1 cda2 f0 f1 f2 f3 f4 f5 f6 f7 f8 f9 f10 f11 f12 f13 f14 f15 f16 f17 f18 f19 f20 f21 f22 f23 : Addr} (pu : Pure49) (X : K.In h) (G : h.Ns mainGlobals mg) (hfa : mg "law" = some (.ref fa))
    {od0 an0 : Option Addr} {sl0 : Array (Option Value)} {oc0 kV0 dc0 pm0 cd0 ct0 : Value}
    {od1 an1 : Option Addr} {sl1 : Array (Option Value)} {oc1 kV1 dc1 pm1 cd1 ct1 : Value}
    {od2 an2 : Option Addr} {sl2 : Array (Option Value)} {oc2 kV2 dc2 pm2 cd2 ct2 : Value}
    {od3 an3 : Option Addr} {sl3 : Array (Option Value)} {oc3 kV3 dc3 pm3 cd3 ct3 : Value}
    {od4 an4 : Option Addr} {sl4 : Array (Option Value)} {oc4 kV4 dc4 pm4 cd4 ct4 : Value}
    {od5 an5 : Option Addr} {sl5 : Array (Option Value)} {oc5 kV5 dc5 pm5 cd5 ct5 : Value}
    {od6 an6 : Option Addr} {sl6 : Array (Option Value)} {oc6 kV6 dc6 pm6 cd6 ct6 : Value}
    {od7 an7 : Option Addr} {sl7 : Array (Option Value)} {oc7 kV7 dc7 pm7 cd7 ct7 : Value}
    {od8 an8 : Option Addr} {sl8 : Array (Option Value)} {oc8 kV8 dc8 pm8 cd8 ct8 : Value}
    {od9 an9 : Option Addr} {sl9 : Array (Option Value)} {oc9 kV9 dc9 pm9 cd9 ct9 : Value}
    {od10 an10 : Option Addr} {sl10 : Array (Option Value)} {oc10 kV10 dc10 pm10 cd10 ct10 : Value}
    {od11 an11 : Option Addr} {sl11 : Array (Option Value)} {oc11 kV11 dc11 pm11 cd11 ct11 : Value}
    {od12 an12 : Option Addr} {sl12 : Array (Option Value)} {oc12 kV12 dc12 pm12 cd12 ct12 : Value}
    {od13 an13 : Option Addr} {sl13 : Array (Option Value)} {oc13 kV13 dc13 pm13 cd13 ct13 : Value}
    {od14 an14 : Option Addr} {sl14 : Array (Option Value)} {oc14 kV14 dc14 pm14 cd14 ct14 : Value}
    {od15 an15 : Option Addr} {sl15 : Array (Option Value)} {oc15 kV15 dc15 pm15 cd15 ct15 : Value}
    {od16 an16 : Option Addr} {sl16 : Array (Option Value)} {oc16 kV16 dc16 pm16 cd16 ct16 : Value}
    {od17 an17 : Option Addr} {sl17 : Array (Option Value)} {oc17 kV17 dc17 pm17 cd17 ct17 : Value}
    {od18 an18 : Option Addr} {sl18 : Array (Option Value)} {oc18 kV18 dc18 pm18 cd18 ct18 : Value}
    {od19 an19 : Option Addr} {sl19 : Array (Option Value)} {oc19 kV19 dc19 pm19 cd19 ct19 : Value}
    {od20 an20 : Option Addr} {sl20 : Array (Option Value)} {oc20 kV20 dc20 pm20 cd20 ct20 : Value}
    {od21 an21 : Option Addr} {sl21 : Array (Option Value)} {oc21 kV21 dc21 pm21 cd21 ct21 : Value}
    {od22 an22 : Option Addr} {sl22 : Array (Option Value)} {oc22 kV22 dc22 pm22 cd22 ct22 : Value}
    {od23 an23 : Option Addr} {sl23 : Array (Option Value)} {oc23 kV23 dc23 pm23 cd23 ct23 : Value}
    (a0 : PySem.W.nsIn K mainGlobals "told_changes" = some (some (.ref f0)))
    (l0 : K.lookup f0 = some ⟨oc0, od0, .func (PySem.W.fnOf "told_changes" "told_changes" (defArgs (stm49 0)) (defBody (stm49 0)) (defScope (stm49 0)) .none kV0 dc0 pm0 an0 cd0 ct0), sl0⟩) (c0 : PySem.W.codeIn K cd0 "told_changes" = true) (k0 : PySem.W.keepIn K (.ref f0) = true)
    (a1 : PySem.W.nsIn K mainGlobals "waves_told" = some (some (.ref f1)))
    (l1 : K.lookup f1 = some ⟨oc1, od1, .func (PySem.W.fnOf "waves_told" "waves_told" (defArgs (stm49 1)) (defBody (stm49 1)) (defScope (stm49 1)) .none kV1 dc1 pm1 an1 cd1 ct1), sl1⟩) (c1 : PySem.W.codeIn K cd1 "waves_told" = true) (k1 : PySem.W.keepIn K (.ref f1) = true)
    (a2 : PySem.W.nsIn K mainGlobals "wave_file" = some (some (.ref f2)))
    (l2 : K.lookup f2 = some ⟨oc2, od2, .func (PySem.W.fnOf "wave_file" "wave_file" (defArgs (stm49 2)) (defBody (stm49 2)) (defScope (stm49 2)) .none kV2 dc2 pm2 an2 cd2 ct2), sl2⟩) (c2 : PySem.W.codeIn K cd2 "wave_file" = true) (k2 : PySem.W.keepIn K (.ref f2) = true)
    (a3 : PySem.W.findIn K (.ref CW) "__init__" = some (some (.ref f3))) (i3 : PySem.W.isFn K (.ref f3) = true)
    (l3 : K.lookup f3 = some ⟨oc3, od3, .func (PySem.W.fnOf "__init__" "WaveReader.__init__" (defArgs (stm49 3)) (defBody (stm49 3)) (defScope (stm49 3)) .none kV3 dc3 pm3 an3 cd3 ct3), sl3⟩) (c3 : PySem.W.codeIn K cd3 "WaveReader.__init__" = true) (k3 : PySem.W.keepIn K (.ref f3) = true)
    (a4 : PySem.W.findIn K (.ref CW) "signs" = some (some (.ref f4))) (i4 : PySem.W.isFn K (.ref f4) = true)
    (l4 : K.lookup f4 = some ⟨oc4, od4, .func (PySem.W.fnOf "signs" "WaveReader.signs" (defArgs (stm49 4)) (defBody (stm49 4)) (defScope (stm49 4)) .none kV4 dc4 pm4 an4 cd4 ct4), sl4⟩) (c4 : PySem.W.codeIn K cd4 "WaveReader.signs" = true) (k4 : PySem.W.keepIn K (.ref f4) = true)
    (a5 : PySem.W.findIn K (.ref CW) "number" = some (some (.ref f5))) (i5 : PySem.W.isFn K (.ref f5) = true)
    (l5 : K.lookup f5 = some ⟨oc5, od5, .func (PySem.W.fnOf "number" "WaveReader.number" (defArgs (stm49 5)) (defBody (stm49 5)) (defScope (stm49 5)) .none kV5 dc5 pm5 an5 cd5 ct5), sl5⟩) (c5 : PySem.W.codeIn K cd5 "WaveReader.number" = true) (k5 : PySem.W.keepIn K (.ref f5) = true)
    (a6 : PySem.W.findIn K (.ref CW) "bits" = some (some (.ref f6))) (i6 : PySem.W.isFn K (.ref f6) = true)
    (l6 : K.lookup f6 = some ⟨oc6, od6, .func (PySem.W.fnOf "bits" "WaveReader.bits" (defArgs (stm49 6)) (defBody (stm49 6)) (defScope (stm49 6)) .none kV6 dc6 pm6 an6 cd6 ct6), sl6⟩) (c6 : PySem.W.codeIn K cd6 "WaveReader.bits" = true) (k6 : PySem.W.keepIn K (.ref f6) = true)
    (a7 : PySem.W.nsIn K mainGlobals "read_waves" = some (some (.ref f7)))
    (l7 : K.lookup f7 = some ⟨oc7, od7, .func (PySem.W.fnOf "read_waves" "read_waves" (defArgs (stm49 7)) (defBody (stm49 7)) (defScope (stm49 7)) .none kV7 dc7 pm7 an7 cd7 ct7), sl7⟩) (c7 : PySem.W.codeIn K cd7 "read_waves" = true) (k7 : PySem.W.keepIn K (.ref f7) = true)
    (a8 : PySem.W.nsIn K mainGlobals "read_rows" = some (some (.ref f8)))
    (l8 : K.lookup f8 = some ⟨oc8, od8, .func (PySem.W.fnOf "read_rows" "read_rows" (defArgs (stm49 8)) (defBody (stm49 8)) (defScope (stm49 8)) .none kV8 dc8 pm8 an8 cd8 ct8), sl8⟩) (c8 : PySem.W.codeIn K cd8 "read_rows" = true) (k8 : PySem.W.keepIn K (.ref f8) = true)
    (a9 : PySem.W.nsIn K mainGlobals "first_unlike_wave" = some (some (.ref f9)))
    (l9 : K.lookup f9 = some ⟨oc9, od9, .func (PySem.W.fnOf "first_unlike_wave" "first_unlike_wave" (defArgs (stm49 9)) (defBody (stm49 9)) (defScope (stm49 9)) .none kV9 dc9 pm9 an9 cd9 ct9), sl9⟩) (c9 : PySem.W.codeIn K cd9 "first_unlike_wave" = true) (k9 : PySem.W.keepIn K (.ref f9) = true)
    (a10 : PySem.W.nsIn K mainGlobals "taken_at" = some (some (.ref f10)))
    (l10 : K.lookup f10 = some ⟨oc10, od10, .func (PySem.W.fnOf "taken_at" "taken_at" (defArgs (stm49 10)) (defBody (stm49 10)) (defScope (stm49 10)) .none kV10 dc10 pm10 an10 cd10 ct10), sl10⟩) (c10 : PySem.W.codeIn K cd10 "taken_at" = true) (k10 : PySem.W.keepIn K (.ref f10) = true)
    (a11 : PySem.W.nsIn K mainGlobals "shortest_pulse" = some (some (.ref f11)))
    (l11 : K.lookup f11 = some ⟨oc11, od11, .func (PySem.W.fnOf "shortest_pulse" "shortest_pulse" (defArgs (stm49 11)) (defBody (stm49 11)) (defScope (stm49 11)) .none kV11 dc11 pm11 an11 cd11 ct11), sl11⟩) (c11 : PySem.W.codeIn K cd11 "shortest_pulse" = true) (k11 : PySem.W.keepIn K (.ref f11) = true)
    (a12 : PySem.W.nsIn K mainGlobals "some_nets" = some (some (.ref f12)))
    (l12 : K.lookup f12 = some ⟨oc12, od12, .func (PySem.W.fnOf "some_nets" "some_nets" (defArgs (stm49 12)) (defBody (stm49 12)) (defScope (stm49 12)) .none kV12 dc12 pm12 an12 cd12 ct12), sl12⟩) (c12 : PySem.W.codeIn K cd12 "some_nets" = true) (k12 : PySem.W.keepIn K (.ref f12) = true)
    (a13 : PySem.W.nsIn K mainGlobals "_law_draw" = some (some (.ref f13)))
    (l13 : K.lookup f13 = some ⟨oc13, od13, .func (PySem.W.fnOf "_law_draw" "_law_draw" (defArgs (stm49 13)) (defBody (stm49 13)) (defScope (stm49 13)) .none kV13 dc13 pm13 an13 cd13 ct13), sl13⟩) (c13 : PySem.W.codeIn K cd13 "_law_draw" = true) (k13 : PySem.W.keepIn K (.ref f13) = true)
    (a14 : PySem.W.nsIn K mainGlobals "_law_line" = some (some (.ref f14)))
    (l14 : K.lookup f14 = some ⟨oc14, od14, .func (PySem.W.fnOf "_law_line" "_law_line" (defArgs (stm49 14)) (defBody (stm49 14)) (defScope (stm49 14)) .none kV14 dc14 pm14 an14 cd14 ct14), sl14⟩) (c14 : PySem.W.codeIn K cd14 "_law_line" = true) (k14 : PySem.W.keepIn K (.ref f14) = true)
    (a15 : PySem.W.nsIn K mainGlobals "_law_changes" = some (some (.ref f15)))
    (l15 : K.lookup f15 = some ⟨oc15, od15, .func (PySem.W.fnOf "_law_changes" "_law_changes" (defArgs (stm49 15)) (defBody (stm49 15)) (defScope (stm49 15)) .none kV15 dc15 pm15 an15 cd15 ct15), sl15⟩) (c15 : PySem.W.codeIn K cd15 "_law_changes" = true) (k15 : PySem.W.keepIn K (.ref f15) = true)
    (a16 : PySem.W.nsIn K mainGlobals "_law_text" = some (some (.ref f16)))
    (l16 : K.lookup f16 = some ⟨oc16, od16, .func (PySem.W.fnOf "_law_text" "_law_text" (defArgs (stm49 16)) (defBody (stm49 16)) (defScope (stm49 16)) .none kV16 dc16 pm16 an16 cd16 ct16), sl16⟩) (c16 : PySem.W.codeIn K cd16 "_law_text" = true) (k16 : PySem.W.keepIn K (.ref f16) = true)
    (a17 : PySem.W.nsIn K mainGlobals "_law_match" = some (some (.ref f17)))
    (l17 : K.lookup f17 = some ⟨oc17, od17, .func (PySem.W.fnOf "_law_match" "_law_match" (defArgs (stm49 17)) (defBody (stm49 17)) (defScope (stm49 17)) .none kV17 dc17 pm17 an17 cd17 ct17), sl17⟩) (c17 : PySem.W.codeIn K cd17 "_law_match" = true) (k17 : PySem.W.keepIn K (.ref f17) = true)
    (a18 : PySem.W.nsIn K mainGlobals "_law_number" = some (some (.ref f18)))
    (l18 : K.lookup f18 = some ⟨oc18, od18, .func (PySem.W.fnOf "_law_number" "_law_number" (defArgs (stm49 18)) (defBody (stm49 18)) (defScope (stm49 18)) .none kV18 dc18 pm18 an18 cd18 ct18), sl18⟩) (c18 : PySem.W.codeIn K cd18 "_law_number" = true) (k18 : PySem.W.keepIn K (.ref f18) = true)
    (a19 : PySem.W.nsIn K mainGlobals "_law_steps" = some (some (.ref f19)))
    (l19 : K.lookup f19 = some ⟨oc19, od19, .func (PySem.W.fnOf "_law_steps" "_law_steps" (defArgs (stm49 19)) (defBody (stm49 19)) (defScope (stm49 19)) .none kV19 dc19 pm19 an19 cd19 ct19), sl19⟩) (c19 : PySem.W.codeIn K cd19 "_law_steps" = true) (k19 : PySem.W.keepIn K (.ref f19) = true)
    (a20 : PySem.W.nsIn K mainGlobals "_law_read" = some (some (.ref f20)))
    (l20 : K.lookup f20 = some ⟨oc20, od20, .func (PySem.W.fnOf "_law_read" "_law_read" (defArgs (stm49 20)) (defBody (stm49 20)) (defScope (stm49 20)) .none kV20 dc20 pm20 an20 cd20 ct20), sl20⟩) (c20 : PySem.W.codeIn K cd20 "_law_read" = true) (k20 : PySem.W.keepIn K (.ref f20) = true)
    (a21 : PySem.W.nsIn K mainGlobals "_law_made" = some (some (.ref f21)))
    (l21 : K.lookup f21 = some ⟨oc21, od21, .func (PySem.W.fnOf "_law_made" "_law_made" (defArgs (stm49 21)) (defBody (stm49 21)) (defScope (stm49 21)) .none kV21 dc21 pm21 an21 cd21 ct21), sl21⟩) (c21 : PySem.W.codeIn K cd21 "_law_made" = true) (k21 : PySem.W.keepIn K (.ref f21) = true)
    (a22 : PySem.W.nsIn K mainGlobals "_law_asked" = some (some (.ref f22)))
    (l22 : K.lookup f22 = some ⟨oc22, od22, .func (PySem.W.fnOf "_law_asked" "_law_asked" (defArgs (stm49 22)) (defBody (stm49 22)) (defScope (stm49 22)) .none kV22 dc22 pm22 an22 cd22 ct22), sl22⟩) (c22 : PySem.W.codeIn K cd22 "_law_asked" = true) (k22 : PySem.W.keepIn K (.ref f22) = true)
    (a23 : PySem.W.nsIn K mainGlobals "law" = some (some (.ref f23)))
    (l23 : K.lookup f23 = some ⟨oc23, od23, .func (PySem.W.fnOf "law" "law" (defArgs (stm49 23)) (defBody (stm49 23)) (defScope (stm49 23)) .none kV23 dc23 pm23 an23 cd23 ct23), sl23⟩) (c23 : PySem.W.codeIn K cd23 "law" = true) (k23 : PySem.W.keepIn K (.ref f23) = true)
    (aW : PySem.W.nsIn K mainGlobals "WaveReader" = some (some (.ref CW))) (pgW : PySem.W.plainGet K CW Str.empty = true) (hdW : PySem.W.hasDictIn K CW = true) (poW : PySem.W.plainOver K CW = true) (saW : PySem.W.findIn K (.ref CW) "__setattr__" = some (some (.builtin "object.__setattr__"))) (mkW : PySem.W.makesIn K CW = true) (kcW : PySem.W.keepIn K (.ref CW) = true)
    (nT : PySem.W.findIn K (.ref CW) "text" = some none) (nA : PySem.W.findIn K (.ref CW) "at" = some none)
    {tH tD : Tok} (aH : PySem.W.nsIn K mainGlobals "HEAD" = some (some (.str "waves" tH))) (aD : PySem.W.nsIn K mainGlobals "DIGITS" = some (some (.str "0123456789" tD)))
    (n_len : PySem.W.nsIn K mainGlobals "len" = some none)
    (n_str : PySem.W.nsIn K mainGlobals "str" = some none)
    (n_int : PySem.W.nsIn K mainGlobals "int" = some none)
    (n_tuple : PySem.W.nsIn K mainGlobals "tuple" = some none)
    (n_list : PySem.W.nsIn K mainGlobals "list" = some none)
    (n_sorted : PySem.W.nsIn K mainGlobals "sorted" = some none)
    (n_range : PySem.W.nsIn K mainGlobals "range" = some none)
    (n_min : PySem.W.nsIn K mainGlobals "min" = some none)
    (n_isinstance : PySem.W.nsIn K mainGlobals "isinstance" = some none)
    (nsup : PySem.W.nsIn K mainGlobals "super" = some none) (hop : PySem.W.nsIn K cStatics "thirdparty.any" = some none)
    (aX : PySem.W.nsIn K mainGlobals "InvalidText" = some (some (.ref XI)))
    {nm q : Str} {N : Addr} {bs : List Value} {sn : List Str} {sub : List Value} {ab : Bool} {col : Option Bool} {dd : Option Addr} {m0 m1 m2 m3 m5 : Option Value}
    (xL : K.lookup XI = some (excClassObj nm q XI N bs [.ref XE, .type "ValueError", .type "Exception", .type "BaseException", .type "object"] true sn sub ab col dd m0 m1 m2 m3 m5 "ValueError.__new__"))
    (sa : PySem.W.findIn K (.ref XI) "__setattr__" = some (some (.builtin "object.__setattr__"))) (ga : PySem.W.findIn K (.ref XI) "__getattribute__" = some (some (.builtin "BaseException.__getattribute__"))) (gg : PySem.W.findIn K (.ref XI) "__getattr__" = some none) (np : PySem.W.findIn K (.ref XI) "place" = some none) (nn : PySem.W.findIn K (.ref XI) "name" = some none)
    (kX : PySem.W.keepIn K (.ref XI) = true) (eX : PySem.W.subIn K (.ref XI) (.type "BaseException") = some true) (tX : PySem.W.typeIn K (.ref XI) = some (.type "type")) (hX : PySem.W.hasDictIn K XI = true) (iX : PySem.W.isClsIn K XI = true) (sX : PySem.W.subIn K (.ref XI) (.ref XI) = some true) (vX : PySem.W.subIn K (.ref XI) (.type "ValueError") = some true)
    (iE : PySem.W.isClsIn K XE = true) (mI : PySem.W.mroIn K XI (.ref XI) = some true) (mE : PySem.W.mroIn K XI (.ref XE) = some true)
    (b1 : PySem.W.findIn K (.ref XI) "__init__" = some (some (.ref g1))) (tg1 : PySem.W.typeIn K (.ref g1) = some (.type "function"))
    {og1 og2 oa1 oa2 ob1 ob2 : Option Addr} {sg1 sg2 sa1 sa2 sb1 sb2 : Array (Option Value)} {xc1 xc2 ya1 ya2 yb1 yb2 d1 d2 e1 e2 u1 u2 : Value} {v1 v2 : Array Value} {fl1 fl2 : Str} {tf1 tf2 : Tok}
    (lg1 : K.lookup g1 = some ⟨xc1, og1, .func (PySem.W.fnX "__init__" "InvalidText.__init__" (defArgs sI49) (defBody sI49) (defScope sI49) [("__class__", cc1)] .none .none d1 e1 none (.ref cda1) u1), sg1⟩) (cg1 : PySem.W.codeIn K (.ref cda1) "InvalidText.__init__" = true)
    (ld1 : K.lookup cda1 = some ⟨ya1, oa1, .fields v1, sa1⟩) (lv1 : v1[2]? = some (.str fl1 tf1)) (lf1 : ((P.main.file : Str) == fl1) = true) (lc1 : K.lookup cc1 = some ⟨yb1, ob1, .cell (some (.ref XI)), sb1⟩)
    (lg2 : K.lookup g2 = some ⟨xc2, og2, .func (PySem.W.fnX "__init__" "ChiptrueError.__init__" (defArgs sE49) (defBody sE49) (defScope sE49) [("__class__", cc2)] .none .none d2 e2 none (.ref cda2) u2), sg2⟩) (cg2 : PySem.W.codeIn K (.ref cda2) "ChiptrueError.__init__" = true)
    (ld2 : K.lookup cda2 = some ⟨ya2, oa2, .fields v2, sa2⟩) (lv2 : v2[2]? = some (.str fl2 tf2)) (lf2 : ((P.main.file : Str) == fl2) = true) (lc2 : K.lookup cc2 = some ⟨yb2, ob2, .cell (some (.ref XE)), sb2⟩)
    (sp1 : PySem.W.ks_superIn K XI XI "__init__" = some (some (.ref g2))) (sp2 : PySem.W.ks_superIn K XI XE "__init__" = some (some (.builtin "ValueError.__init__"))) (tg2 : PySem.W.typeIn K (.ref g2) = some (.type "function")) (fi2 : PySem.W.fnIn K g2 = true)
    (htop : (P.main.scope.names.lookup ("super" : Str)).isSome = false) :
    ∃ fd : FuncData, (∀ (s : Shared) (u : Value), BindsTo s fd ⟨[u], []⟩ [("script", u)]) ∧ ∀ base : Heap, K.In base → base.Ns mainGlobals mg → FnOk P w K mg base (L2.CX P w) 36 fa fd ["script"] (spLaw49 K) := by
  have efa : f23 = fa := by
    have z := (PySem.W.mg_of X G a23).symm.trans hfa
    cases z
    rfl
  subst efa
  have F0 := fun_mk (st := stm49 0) l0 c0 k0
  have B0 : Binds K (PySem.W.fnOf "told_changes" "told_changes" (defArgs (stm49 0)) (defBody (stm49 0)) (defScope (stm49 0)) .none kV0 dc0 pm0 an0 cd0 ct0) (ps49 0) [] := F0.binds (ps := ps49 0) fun _ _ _ _ _ _ us hl => match us, hl with | [_], _ => rfl
  have F1 := fun_mk (st := stm49 1) l1 c1 k1
  have B1 : Binds K (PySem.W.fnOf "waves_told" "waves_told" (defArgs (stm49 1)) (defBody (stm49 1)) (defScope (stm49 1)) .none kV1 dc1 pm1 an1 cd1 ct1) (ps49 1) [] := F1.binds (ps := ps49 1) fun _ _ _ _ _ _ us hl => match us, hl with | [_, _, _, _], _ => rfl
  have F2 := fun_mk (st := stm49 2) l2 c2 k2
  have B2 : Binds K (PySem.W.fnOf "wave_file" "wave_file" (defArgs (stm49 2)) (defBody (stm49 2)) (defScope (stm49 2)) .none kV2 dc2 pm2 an2 cd2 ct2) (ps49 2) [] := F2.binds (ps := ps49 2) fun _ _ _ _ _ _ us hl => match us, hl with | [_], _ => rfl
  have F3 := fun_mk (st := stm49 3) l3 c3 k3
  have B3 : Binds K (PySem.W.fnOf "__init__" "WaveReader.__init__" (defArgs (stm49 3)) (defBody (stm49 3)) (defScope (stm49 3)) .none kV3 dc3 pm3 an3 cd3 ct3) (ps49 3) [] := F3.binds (ps := ps49 3) fun _ _ _ _ _ _ us hl => match us, hl with | [_, _], _ => rfl
  have F4 := fun_mk (st := stm49 4) l4 c4 k4
  have B4 : Binds K (PySem.W.fnOf "signs" "WaveReader.signs" (defArgs (stm49 4)) (defBody (stm49 4)) (defScope (stm49 4)) .none kV4 dc4 pm4 an4 cd4 ct4) (ps49 4) [] := F4.binds (ps := ps49 4) fun _ _ _ _ _ _ us hl => match us, hl with | [_, _], _ => rfl
  have F5 := fun_mk (st := stm49 5) l5 c5 k5
  have B5 : Binds K (PySem.W.fnOf "number" "WaveReader.number" (defArgs (stm49 5)) (defBody (stm49 5)) (defScope (stm49 5)) .none kV5 dc5 pm5 an5 cd5 ct5) (ps49 5) [] := F5.binds (ps := ps49 5) fun _ _ _ _ _ _ us hl => match us, hl with | [_, _, _], _ => rfl
  have F6 := fun_mk (st := stm49 6) l6 c6 k6
  have B6 : Binds K (PySem.W.fnOf "bits" "WaveReader.bits" (defArgs (stm49 6)) (defBody (stm49 6)) (defScope (stm49 6)) .none kV6 dc6 pm6 an6 cd6 ct6) (ps49 6) [] := F6.binds (ps := ps49 6) fun _ _ _ _ _ _ us hl => match us, hl with | [_], _ => rfl
  have F7 := fun_mk (st := stm49 7) l7 c7 k7
  have B7 : Binds K (PySem.W.fnOf "read_waves" "read_waves" (defArgs (stm49 7)) (defBody (stm49 7)) (defScope (stm49 7)) .none kV7 dc7 pm7 an7 cd7 ct7) (ps49 7) [] := F7.binds (ps := ps49 7) fun _ _ _ _ _ _ us hl => match us, hl with | [_], _ => rfl
  have F8 := fun_mk (st := stm49 8) l8 c8 k8
  have B8 : Binds K (PySem.W.fnOf "read_rows" "read_rows" (defArgs (stm49 8)) (defBody (stm49 8)) (defScope (stm49 8)) .none kV8 dc8 pm8 an8 cd8 ct8) (ps49 8) [] := F8.binds (ps := ps49 8) fun _ _ _ _ _ _ us hl => match us, hl with | [_, _, _, _], _ => rfl
  have F9 := fun_mk (st := stm49 9) l9 c9 k9
  have B9 : Binds K (PySem.W.fnOf "first_unlike_wave" "first_unlike_wave" (defArgs (stm49 9)) (defBody (stm49 9)) (defScope (stm49 9)) .none kV9 dc9 pm9 an9 cd9 ct9) (ps49 9) [] := F9.binds (ps := ps49 9) fun _ _ _ _ _ _ us hl => match us, hl with | [_, _], _ => rfl
  have F10 := fun_mk (st := stm49 10) l10 c10 k10
  have B10 : Binds K (PySem.W.fnOf "taken_at" "taken_at" (defArgs (stm49 10)) (defBody (stm49 10)) (defScope (stm49 10)) .none kV10 dc10 pm10 an10 cd10 ct10) (ps49 10) [] := F10.binds (ps := ps49 10) fun _ _ _ _ _ _ us hl => match us, hl with | [_, _, _], _ => rfl
  have F11 := fun_mk (st := stm49 11) l11 c11 k11
  have B11 : Binds K (PySem.W.fnOf "shortest_pulse" "shortest_pulse" (defArgs (stm49 11)) (defBody (stm49 11)) (defScope (stm49 11)) .none kV11 dc11 pm11 an11 cd11 ct11) (ps49 11) [] := F11.binds (ps := ps49 11) fun _ _ _ _ _ _ us hl => match us, hl with | [_, _], _ => rfl
  have F12 := fun_mk (st := stm49 12) l12 c12 k12
  have B12 : Binds K (PySem.W.fnOf "some_nets" "some_nets" (defArgs (stm49 12)) (defBody (stm49 12)) (defScope (stm49 12)) .none kV12 dc12 pm12 an12 cd12 ct12) (ps49 12) [] := F12.binds (ps := ps49 12) fun _ _ _ _ _ _ us hl => match us, hl with | [_, _], _ => rfl
  have F13 := fun_mk (st := stm49 13) l13 c13 k13
  have B13 : Binds K (PySem.W.fnOf "_law_draw" "_law_draw" (defArgs (stm49 13)) (defBody (stm49 13)) (defScope (stm49 13)) .none kV13 dc13 pm13 an13 cd13 ct13) (ps49 13) [] := F13.binds (ps := ps49 13) fun _ _ _ _ _ _ us hl => match us, hl with | [_, _, _], _ => rfl
  have F14 := fun_mk (st := stm49 14) l14 c14 k14
  have B14 : Binds K (PySem.W.fnOf "_law_line" "_law_line" (defArgs (stm49 14)) (defBody (stm49 14)) (defScope (stm49 14)) .none kV14 dc14 pm14 an14 cd14 ct14) (ps49 14) [] := F14.binds (ps := ps49 14) fun _ _ _ _ _ _ us hl => match us, hl with | [_, _], _ => rfl
  have F15 := fun_mk (st := stm49 15) l15 c15 k15
  have B15 : Binds K (PySem.W.fnOf "_law_changes" "_law_changes" (defArgs (stm49 15)) (defBody (stm49 15)) (defScope (stm49 15)) .none kV15 dc15 pm15 an15 cd15 ct15) (ps49 15) [] := F15.binds (ps := ps49 15) fun _ _ _ _ _ _ us hl => match us, hl with | [_], _ => rfl
  have F16 := fun_mk (st := stm49 16) l16 c16 k16
  have B16 : Binds K (PySem.W.fnOf "_law_text" "_law_text" (defArgs (stm49 16)) (defBody (stm49 16)) (defScope (stm49 16)) .none kV16 dc16 pm16 an16 cd16 ct16) (ps49 16) [] := F16.binds (ps := ps49 16) fun _ _ _ _ _ _ us hl => match us, hl with | [_], _ => rfl
  have F17 := fun_mk (st := stm49 17) l17 c17 k17
  have B17 : Binds K (PySem.W.fnOf "_law_match" "_law_match" (defArgs (stm49 17)) (defBody (stm49 17)) (defScope (stm49 17)) .none kV17 dc17 pm17 an17 cd17 ct17) (ps49 17) [] := F17.binds (ps := ps49 17) fun _ _ _ _ _ _ us hl => match us, hl with | [_, _, _], _ => rfl
  have F18 := fun_mk (st := stm49 18) l18 c18 k18
  have B18 : Binds K (PySem.W.fnOf "_law_number" "_law_number" (defArgs (stm49 18)) (defBody (stm49 18)) (defScope (stm49 18)) .none kV18 dc18 pm18 an18 cd18 ct18) (ps49 18) [] := F18.binds (ps := ps49 18) fun _ _ _ _ _ _ us hl => match us, hl with | [_, _, _, _], _ => rfl
  have F19 := fun_mk (st := stm49 19) l19 c19 k19
  have B19 : Binds K (PySem.W.fnOf "_law_steps" "_law_steps" (defArgs (stm49 19)) (defBody (stm49 19)) (defScope (stm49 19)) .none kV19 dc19 pm19 an19 cd19 ct19) (ps49 19) [] := F19.binds (ps := ps49 19) fun _ _ _ _ _ _ us hl => match us, hl with | [_, _, _], _ => rfl
  have F20 := fun_mk (st := stm49 20) l20 c20 k20
  have B20 : Binds K (PySem.W.fnOf "_law_read" "_law_read" (defArgs (stm49 20)) (defBody (stm49 20)) (defScope (stm49 20)) .none kV20 dc20 pm20 an20 cd20 ct20) (ps49 20) [] := F20.binds (ps := ps49 20) fun _ _ _ _ _ _ us hl => match us, hl with | [_], _ => rfl
  have F21 := fun_mk (st := stm49 21) l21 c21 k21
  have B21 : Binds K (PySem.W.fnOf "_law_made" "_law_made" (defArgs (stm49 21)) (defBody (stm49 21)) (defScope (stm49 21)) .none kV21 dc21 pm21 an21 cd21 ct21) (ps49 21) [] := F21.binds (ps := ps49 21) fun _ _ _ _ _ _ us hl => match us, hl with | [_, _, _, _], _ => rfl
  have F22 := fun_mk (st := stm49 22) l22 c22 k22
  have B22 : Binds K (PySem.W.fnOf "_law_asked" "_law_asked" (defArgs (stm49 22)) (defBody (stm49 22)) (defScope (stm49 22)) .none kV22 dc22 pm22 an22 cd22 ct22) (ps49 22) [] := F22.binds (ps := ps49 22) fun _ _ _ _ _ _ us hl => match us, hl with | [_], _ => rfl
  have F23 := fun_mk (st := stm49 23) l23 c23 k23
  have B23 : Binds K (PySem.W.fnOf "law" "law" (defArgs (stm49 23)) (defBody (stm49 23)) (defScope (stm49 23)) .none kV23 dc23 pm23 an23 cd23 ct23) (ps49 23) [] := F23.binds (ps := ps49 23) fun _ _ _ _ _ _ us hl => match us, hl with | [_], _ => rfl
  let fdt : Nat → FuncData := fun f => ([PySem.W.fnOf "told_changes" "told_changes" (defArgs (stm49 0)) (defBody (stm49 0)) (defScope (stm49 0)) .none kV0 dc0 pm0 an0 cd0 ct0, PySem.W.fnOf "waves_told" "waves_told" (defArgs (stm49 1)) (defBody (stm49 1)) (defScope (stm49 1)) .none kV1 dc1 pm1 an1 cd1 ct1, PySem.W.fnOf "wave_file" "wave_file" (defArgs (stm49 2)) (defBody (stm49 2)) (defScope (stm49 2)) .none kV2 dc2 pm2 an2 cd2 ct2, PySem.W.fnOf "__init__" "WaveReader.__init__" (defArgs (stm49 3)) (defBody (stm49 3)) (defScope (stm49 3)) .none kV3 dc3 pm3 an3 cd3 ct3, PySem.W.fnOf "signs" "WaveReader.signs" (defArgs (stm49 4)) (defBody (stm49 4)) (defScope (stm49 4)) .none kV4 dc4 pm4 an4 cd4 ct4, PySem.W.fnOf "number" "WaveReader.number" (defArgs (stm49 5)) (defBody (stm49 5)) (defScope (stm49 5)) .none kV5 dc5 pm5 an5 cd5 ct5, PySem.W.fnOf "bits" "WaveReader.bits" (defArgs (stm49 6)) (defBody (stm49 6)) (defScope (stm49 6)) .none kV6 dc6 pm6 an6 cd6 ct6, PySem.W.fnOf "read_waves" "read_waves" (defArgs (stm49 7)) (defBody (stm49 7)) (defScope (stm49 7)) .none kV7 dc7 pm7 an7 cd7 ct7, PySem.W.fnOf "read_rows" "read_rows" (defArgs (stm49 8)) (defBody (stm49 8)) (defScope (stm49 8)) .none kV8 dc8 pm8 an8 cd8 ct8, PySem.W.fnOf "first_unlike_wave" "first_unlike_wave" (defArgs (stm49 9)) (defBody (stm49 9)) (defScope (stm49 9)) .none kV9 dc9 pm9 an9 cd9 ct9, PySem.W.fnOf "taken_at" "taken_at" (defArgs (stm49 10)) (defBody (stm49 10)) (defScope (stm49 10)) .none kV10 dc10 pm10 an10 cd10 ct10, PySem.W.fnOf "shortest_pulse" "shortest_pulse" (defArgs (stm49 11)) (defBody (stm49 11)) (defScope (stm49 11)) .none kV11 dc11 pm11 an11 cd11 ct11, PySem.W.fnOf "some_nets" "some_nets" (defArgs (stm49 12)) (defBody (stm49 12)) (defScope (stm49 12)) .none kV12 dc12 pm12 an12 cd12 ct12, PySem.W.fnOf "_law_draw" "_law_draw" (defArgs (stm49 13)) (defBody (stm49 13)) (defScope (stm49 13)) .none kV13 dc13 pm13 an13 cd13 ct13, PySem.W.fnOf "_law_line" "_law_line" (defArgs (stm49 14)) (defBody (stm49 14)) (defScope (stm49 14)) .none kV14 dc14 pm14 an14 cd14 ct14, PySem.W.fnOf "_law_changes" "_law_changes" (defArgs (stm49 15)) (defBody (stm49 15)) (defScope (stm49 15)) .none kV15 dc15 pm15 an15 cd15 ct15, PySem.W.fnOf "_law_text" "_law_text" (defArgs (stm49 16)) (defBody (stm49 16)) (defScope (stm49 16)) .none kV16 dc16 pm16 an16 cd16 ct16, PySem.W.fnOf "_law_match" "_law_match" (defArgs (stm49 17)) (defBody (stm49 17)) (defScope (stm49 17)) .none kV17 dc17 pm17 an17 cd17 ct17, PySem.W.fnOf "_law_number" "_law_number" (defArgs (stm49 18)) (defBody (stm49 18)) (defScope (stm49 18)) .none kV18 dc18 pm18 an18 cd18 ct18, PySem.W.fnOf "_law_steps" "_law_steps" (defArgs (stm49 19)) (defBody (stm49 19)) (defScope (stm49 19)) .none kV19 dc19 pm19 an19 cd19 ct19, PySem.W.fnOf "_law_read" "_law_read" (defArgs (stm49 20)) (defBody (stm49 20)) (defScope (stm49 20)) .none kV20 dc20 pm20 an20 cd20 ct20, PySem.W.fnOf "_law_made" "_law_made" (defArgs (stm49 21)) (defBody (stm49 21)) (defScope (stm49 21)) .none kV21 dc21 pm21 an21 cd21 ct21, PySem.W.fnOf "_law_asked" "_law_asked" (defArgs (stm49 22)) (defBody (stm49 22)) (defScope (stm49 22)) .none kV22 dc22 pm22 an22 cd22 ct22, PySem.W.fnOf "law" "law" (defArgs (stm49 23)) (defBody (stm49 23)) (defScope (stm49 23)) .none kV23 dc23 pm23 an23 cd23 ct23] : List FuncData).getD f (PySem.W.fnOf "law" "law" (defArgs (stm49 23)) (defBody (stm49 23)) (defScope (stm49 23)) .none kV23 dc23 pm23 an23 cd23 ct23)
  refine ⟨fdt 23, fun s v => .of_eq rfl, fun base Kb Gb => ?_⟩
  have TI : OexC K XI := ⟨⟨nm, q, N, bs, _, sn, sub, ab, col, dd, m0, m1, m2, m3, m5, xL, rfl⟩, sa, eX, tX, kX⟩
  have clI : ∃ cd, PySem.W.clsIn K XI = some cd := Option.isSome_iff_exists.mp iX
  have clE : ∃ cd, PySem.W.clsIn K XE = some cd := Option.isSome_iff_exists.mp iE
  have ms : mg "super" = none := PySem.W.mg_none_of X G nsup
  have nI : NScope ["self", "place", "__class__"] ["self", "place"] ["__class__"] (defScope sI49) := nscope_by (by decide +kernel)
  have nE : NScope ["self", "place", "__class__"] ["self", "place"] ["__class__"] (defScope sE49) := nscope_by (by decide +kernel)
  have kI : (defScope sI49).names.lookup ("super" : Str) = some .globalImplicit := by decide +kernel
  have kE : (defScope sE49).names.lookup ("super" : Str) = some .globalImplicit := by decide +kernel
  have X1 : XDef P K mg XI XI g1 cc1 ⟨"__init__", "InvalidText.__init__", defArgs sI49, defBody sI49, defScope sI49, [("__class__", cc1)], cda1⟩ d1 e1 u1 :=
    ⟨⟨_, _, _, lg1⟩, cg1, rfl, ⟨_, rfl, rfl⟩, ⟨_, _, _, _, _, _, ld1, lv1, lf1⟩, ⟨_, _, _, lc1⟩, clI, mI, ms, htop, clI, hop, nI, kI, TI, np, nn⟩
  have X2 : XDef P K mg XI XE g2 cc2 ⟨"__init__", "ChiptrueError.__init__", defArgs sE49, defBody sE49, defScope sE49, [("__class__", cc2)], cda2⟩ d2 e2 u2 :=
    ⟨⟨_, _, _, lg2⟩, cg2, rfl, ⟨_, rfl, rfl⟩, ⟨_, _, _, _, _, _, ld2, lv2, lf2⟩, ⟨_, _, _, lc2⟩, clE, mE, ms, htop, clI, hop, nE, kE, TI, np, nn⟩
  have bI : ∀ (fd : FuncData), Binds K (PySem.W.fnX "__init__" "InvalidText.__init__" (defArgs sI49) (defBody sI49) (defScope sI49) [("__class__", cc1)] .none .none d1 e1 none (.ref cda1) u1) ["self", "place"] [] := fun _ => .all fun us hl => match us, hl with | [_, _], _ => rfl
  have bE : ∀ (fd : FuncData), Binds K (PySem.W.fnX "__init__" "ChiptrueError.__init__" (defArgs sE49) (defBody sE49) (defScope sE49) [("__class__", cc2)] .none .none d2 e2 none (.ref cda2) u2) ["self", "place"] [] := fun _ => .all fun us hl => match us, hl with | [_, _], _ => rfl
  have OE : FnOk P w K mg base (L2.CX P w) 7 g2 _ ["self", "place"] (spN 2 XI) := ok_initV X2 (k := 6) rfl (by decide +kernel) sp2 vX
  have OI : FnOk P w K mg base (L2.CX P w) 8 g1 _ ["self", "place"] (spN 3 XI) := ok_initO X1 (k := 7) rfl (by decide +kernel) (by decide) sp1 tg2 fi2 OE (bE (PySem.W.fnX "__init__" "ChiptrueError.__init__" (defArgs sE49) (defBody sE49) (defScope sE49) [("__class__", cc2)] .none .none d2 e2 none (.ref cda2) u2))
  have Fc : Facts Pg49 T49 ⟨fun _ => CW, fun _ => XI, fld49⟩ (fun f => ([f0, f1, f2, f3, f4, f5, f6, f7, f8, f9, f10, f11, f12, f13, f14, f15, f16, f17, f18, f19, f20, f21, f22, f23] : List Addr).getD f 0) fdt ps49 P w K mg base := {
    inj := fld49_inj
    tf := fun _ => rfl
    cls := fun _ => ⟨pgW, hdW, poW, saW⟩
    nat := fun c f hf => match f, hf with | 0, _ => nT | 1, _ => nA
    nob := fun x hx => by
      simp only [T49, List.mem_cons, List.not_mem_nil, or_false] at hx
      rcases hx with rfl | rfl | rfl | rfl | rfl | rfl | rfl | rfl | rfl
      · exact PySem.W.mg_none_of X G n_len
      · exact PySem.W.mg_none_of X G n_str
      · exact PySem.W.mg_none_of X G n_int
      · exact PySem.W.mg_none_of X G n_tuple
      · exact PySem.W.mg_none_of X G n_list
      · exact PySem.W.mg_none_of X G n_sorted
      · exact PySem.W.mg_none_of X G n_range
      · exact PySem.W.mg_none_of X G n_min
      · exact PySem.W.mg_none_of X G n_isinstance
    glob := fun n x hx => by
      match n, hx with
      | 0, hx => cases hx; exact ⟨.str "waves", _, PySem.W.mg_of X G aH, ⟨_, rfl⟩, fun H own t => ⟨by rfl, rfl⟩⟩
      | 1, hx => cases hx; exact ⟨.str "0123456789", _, PySem.W.mg_of X G aD, ⟨_, rfl⟩, fun H own t => ⟨by rfl, rfl⟩⟩
      | n + 2, hx => cases hx
    hx := fun _ => ⟨fun c' c => exm_self49 eX iX tX sX, fun c => ⟨⟨ga, gg, eX, hX⟩, np⟩⟩
    xn := fun c x hx => by
      match c, hx with
      | 0, hx => cases hx; exact ⟨g1, _, _, PySem.W.mg_of X G aX, TI, b1, tg1, OI.imp fun vs H Q E h => spN_spI h, bI (PySem.W.fnX "__init__" "InvalidText.__init__" (defArgs sI49) (defBody sI49) (defScope sI49) [("__class__", cc1)] .none .none d1 e1 none (.ref cda1) u1)⟩
      | c + 1, hx => cases hx
    fn := fun f x hx => by
      match f, hx with
      | 0, hx => cases hx; exact ⟨PySem.W.mg_of X G a0, k0, B0⟩
      | 1, hx => cases hx; exact ⟨PySem.W.mg_of X G a1, k1, B1⟩
      | 2, hx => cases hx; exact ⟨PySem.W.mg_of X G a2, k2, B2⟩
      | 3, hx => cases hx
      | 4, hx => cases hx
      | 5, hx => cases hx
      | 6, hx => cases hx
      | 7, hx => cases hx; exact ⟨PySem.W.mg_of X G a7, k7, B7⟩
      | 8, hx => cases hx; exact ⟨PySem.W.mg_of X G a8, k8, B8⟩
      | 9, hx => cases hx; exact ⟨PySem.W.mg_of X G a9, k9, B9⟩
      | 10, hx => cases hx; exact ⟨PySem.W.mg_of X G a10, k10, B10⟩
      | 11, hx => cases hx; exact ⟨PySem.W.mg_of X G a11, k11, B11⟩
      | 12, hx => cases hx; exact ⟨PySem.W.mg_of X G a12, k12, B12⟩
      | 13, hx => cases hx; exact ⟨PySem.W.mg_of X G a13, k13, B13⟩
      | 14, hx => cases hx; exact ⟨PySem.W.mg_of X G a14, k14, B14⟩
      | 15, hx => cases hx; exact ⟨PySem.W.mg_of X G a15, k15, B15⟩
      | 16, hx => cases hx; exact ⟨PySem.W.mg_of X G a16, k16, B16⟩
      | 17, hx => cases hx; exact ⟨PySem.W.mg_of X G a17, k17, B17⟩
      | 18, hx => cases hx; exact ⟨PySem.W.mg_of X G a18, k18, B18⟩
      | 19, hx => cases hx; exact ⟨PySem.W.mg_of X G a19, k19, B19⟩
      | 20, hx => cases hx; exact ⟨PySem.W.mg_of X G a20, k20, B20⟩
      | 21, hx => cases hx; exact ⟨PySem.W.mg_of X G a21, k21, B21⟩
      | 22, hx => cases hx; exact ⟨PySem.W.mg_of X G a22, k22, B22⟩
      | 23, hx => cases hx
      | n + 24, hx => cases hx
    mt := fun c f m hx => by
      match c, f, hx with
      | 0, 4, hx => cases hx; exact ⟨⟨a4, i4, k4⟩, B4, fld49_ne (by decide) (by decide) (by decide)⟩
      | 0, 5, hx => cases hx; exact ⟨⟨a5, i5, k5⟩, B5, fld49_ne (by decide) (by decide) (by decide)⟩
      | 0, 6, hx => cases hx; exact ⟨⟨a6, i6, k6⟩, B6, fld49_ne (by decide) (by decide) (by decide)⟩
    cn := fun c x hx => by
      match c, hx with
      | 0, hx => cases hx; exact ⟨PySem.W.mg_of X G aW, ⟨mkW, a3, i3, kcW⟩, B3⟩
      | c + 1, hx => cases hx
    defs := fun f fd hf => by
      have hf' : defsL[f]? = some fd := hf
      obtain ⟨h1, h2⟩ := cks hf'
      refine ⟨by unfold ps49; rw [hf'], ?_⟩
      have hlt := pick hf'
      match f, hlt, h1, h2 with
      | 0, _, h1, h2 => exact ⟨_, _, _, F0, h2, h1⟩
      | 1, _, h1, h2 => exact ⟨_, _, _, F1, h2, h1⟩
      | 2, _, h1, h2 => exact ⟨_, _, _, F2, h2, h1⟩
      | 3, _, h1, h2 => exact ⟨_, _, _, F3, h2, h1⟩
      | 4, _, h1, h2 => exact ⟨_, _, _, F4, h2, h1⟩
      | 5, _, h1, h2 => exact ⟨_, _, _, F5, h2, h1⟩
      | 6, _, h1, h2 => exact ⟨_, _, _, F6, h2, h1⟩
      | 7, _, h1, h2 => exact ⟨_, _, _, F7, h2, h1⟩
      | 8, _, h1, h2 => exact ⟨_, _, _, F8, h2, h1⟩
      | 9, _, h1, h2 => exact ⟨_, _, _, F9, h2, h1⟩
      | 10, _, h1, h2 => exact ⟨_, _, _, F10, h2, h1⟩
      | 11, _, h1, h2 => exact ⟨_, _, _, F11, h2, h1⟩
      | 12, _, h1, h2 => exact ⟨_, _, _, F12, h2, h1⟩
      | 13, _, h1, h2 => exact ⟨_, _, _, F13, h2, h1⟩
      | 14, _, h1, h2 => exact ⟨_, _, _, F14, h2, h1⟩
      | 15, _, h1, h2 => exact ⟨_, _, _, F15, h2, h1⟩
      | 16, _, h1, h2 => exact ⟨_, _, _, F16, h2, h1⟩
      | 17, _, h1, h2 => exact ⟨_, _, _, F17, h2, h1⟩
      | 18, _, h1, h2 => exact ⟨_, _, _, F18, h2, h1⟩
      | 19, _, h1, h2 => exact ⟨_, _, _, F19, h2, h1⟩
      | 20, _, h1, h2 => exact ⟨_, _, _, F20, h2, h1⟩
      | 21, _, h1, h2 => exact ⟨_, _, _, F21, h2, h1⟩
      | 22, _, h1, h2 => exact ⟨_, _, _, F22, h2, h1⟩
      | 23, _, h1, h2 => exact ⟨_, _, _, F23, h2, h1⟩
      | n + 24, hlt, _, _ => omega }
  exact (levels Fc 14 23).imp fun vs H Q E hq => law_sp pu hq
end Ev

/-! k49: waves, lines, bits at a time, some nets. -/
namespace Ev
/-- a wave of C cycles, N nets, T times -/
def wv (C N T : Nat) (b : Nat → Nat → Nat) : List (List (List Nat)) := (List.range C).map fun c => (List.range N).map fun n => (List.range T).map fun t => b n (c * T + t)
def dC (N T : Nat) (b : Nat → Nat → Nat) (c : Nat) : D := .lst .sh ((List.range N).map fun n => .lst .sh (dNs ((List.range T).map fun t => b n (c * T + t))))
def dW (C N T : Nat) (b : Nat → Nat → Nat) : D := .lst .sh ((List.range C).map fun c => dC N T b c)
section
variable {C N T : Nat} {b : Nat → Nat → Nat}
theorem froC (c : Nat) : fro (dC N T b c) = true := by
  simp only [dC, fro, Bool.true_and]
  exact fros_map fun _ _ => by simp only [fro, dNs_fros, Bool.true_and]
theorem frosW : fros ((List.range C).map fun c => dC N T b c) = true := fros_map fun c _ => froC c
theorem froW : fro (dW C N T b) = true := by simp only [dW, fro, frosW, Bool.true_and]
theorem frzC (c : Nat) : frz (dC N T b c) = dC N T b c := by
  simp only [dC, frz]
  congr 1
  exact frzs_map fun _ _ => by simp only [frz, dNs_frzs]
theorem frzsW : frzs ((List.range C).map fun c => dC N T b c) = (List.range C).map fun c => dC N T b c := frzs_map fun c _ => frzC c
theorem frzW : frz (dW C N T b) = dW C N T b := by simp only [dW, frz, frzsW]
theorem it_W {g : G} {ρ : Env} : evI g (.seq (.fz 0)) (some (dW C N T b) :: ρ) = .ok ((List.range C).map fun c => dC N T b c, some (dW C N T b) :: ρ) :=
  it_l (o := .sh) (by simp only [ev, get0, frzW]; rfl) frosW rfl
/-- a line's numbers -/
def lineN (C T : Nat) (b : Nat → Nat → Nat) (n : Nat) : List Nat := (List.range (C * T)).map (b n)
theorem lineN_succ {c n : Nat} : lineN (c + 1) T b n = lineN c T b n ++ (List.range T).map fun t => b n (c * T + t) := by
  unfold lineN
  rw [Nat.succ_mul, List.range_add, List.map_append, List.map_map]
  rfl
theorem lineN_len {n : Nat} : (lineN C T b n).length = C * T := by simp [lineN]
/-- _law_line -/
theorem line_ok {m n : Nat} (hn : n < N) (hl : C * T ≤ LINE) (hC : C ≤ LINE) : (semG Pg49 (m + 1)).call 14 [dW C N T b, .int n] = .ok (.lst .sh (dNs (lineN C T b n)), [some (dW C N T b), some (.int n)]) := by
  refine (call_succ (fd := d14) rfl).trans (run_rt (ρ0 := [some (dW C N T b), some (.int n), none, none]) (ρ' := [some (dW C N T b), some (.int n), some (.lst .sh (dNs (lineN C T b n))), none]) rfl rfl ?_)
  refine blk_nx (ρ1 := [some (dW C N T b), some (.int n), some (.lst .ow (dNs [])), none]) (by simp! [dNs]) ?_
  refine blk_nx (ρ1 := [some (dW C N T b), some (.int n), some (.lst .ow (dNs (lineN C T b n))), none]) ?_ (by simp!)
  have h := ex_fork (g := semG Pg49 m) (tg := .nm 3) (it := .seq (.fz 0)) (b := d14b0) (w := [3]) (ρ := [some (dW C N T b), some (.int n), some (.lst .ow (dNs [])), none]) (xs := List.range C) (fun c => dC N T b c) (fun c => [some (dW C N T b), some (.int n), some (.lst .ow (dNs (lineN c T b n))), none])
    (by rw [show lineN 0 T b n = [] by simp [lineN]]; exact it_W) ?_
  · rw [List.length_range] at h
    exact h
  · intro c a hc
    obtain ⟨hc', rfl⟩ : c < C ∧ c = a := by simpa [List.getElem?_range, List.getElem?_eq_some_iff] using hc
    refine ⟨[some (dW C N T b), some (.int n), some (.lst .ow (dNs (lineN c T b n))), some (dC N T b c)], [some (dW C N T b), some (.int n), some (.lst .ow (dNs (lineN (c + 1) T b n))), some (dC N T b c)], by simp! [froC], ?_, rfl⟩
    have hle : (c + 1) * T ≤ LINE := Nat.le_trans (Nat.mul_le_mul_right T hc') hl
    have h2 : c * T + T ≤ LINE := by rw [← Nat.succ_mul]; exact hle
    rw [lineN_succ]
    unfold d14b0
    simp! [dC, hn, List.getElem?_range, lineN_len, h2]
/-- taken_at -/
theorem taken_ok {m n t : Nat} (hn : n < N) (ht : t < T) (hC : C ≤ LINE) : (semG Pg49 (m + 1)).call 10 [dW C N T b, .int n, .int t] = .ok (.tup (dNs ((List.range C).map fun c => b n (c * T + t))), [some (dW C N T b), some (.int n), some (.int t)]) := by
  refine (call_succ (fd := d10) rfl).trans (run_rt (ρ0 := [some (dW C N T b), some (.int n), some (.int t), none]) (ρ' := [some (dW C N T b), some (.int n), some (.int t), none]) rfl rfl ?_)
  have h : ev (semG Pg49 m) d10c0 true [some (dW C N T b), some (.int n), some (.int t), none] = .ok (.lst .ow (dNs ((List.range C).map fun c => b n (c * T + t))), [some (dW C N T b), some (.int n), some (.int t), none]) := by
    rw [← dNs_map]
    refine ev_lca (inj := fun c => dC N T b c) (xs := List.range C) (fun c => .int (b n (c * T + t) : Nat)) ?_ (by simpa using hC) (by rfl) (fun c hc => ⟨[some (dW C N T b), some (.int n), some (.int t), some (dC N T b c)], [some (dW C N T b), some (.int n), some (.int t), some (dC N T b c)], ?_, ?_, rfl⟩)
    · exact it_W
    · simp! [froC]
    · simp! [dC, hn, ht]
  refine blk_rt ?_
  simp! [h]
end
end Ev

/-! k49: told_changes. -/
namespace Ev
/-- a change: cycle, time, net, bit -/
abbrev Ch := Nat × Nat × Nat × Nat
def dCh (x : Ch) : D := .tup [.int (x.1 : Nat), .int (x.2.1 : Nat), .int (x.2.2.1 : Nat), .int (x.2.2.2 : Nat)]
theorem fro_dCh {x : Ch} : fro (dCh x) = true := rfl
theorem frz_dCh {x : Ch} : frz (dCh x) = dCh x := rfl
def dChs (l : List Ch) : List D := l.map dCh
theorem dChs_fros {l : List Ch} : fros (dChs l) = true := fros_map fun _ _ => rfl
theorem dChs_frzs {l : List Ch} : frzs (dChs l) = dChs l := frzs_map fun _ _ => rfl
theorem dChs_app {l m : List Ch} : dChs l ++ dChs m = dChs (l ++ m) := by simp [dChs]
theorem dChs_len {l : List Ch} : (dChs l).length = l.length := by simp [dChs]
def chOne (T : Nat) (b : Nat → Nat → Nat) (k n : Nat) : Option Ch := if b n k = b n (k - 1) then none else some (k / T, k % T, n, b n k)
/-- the changes at a time -/
def chg (N T : Nat) (b : Nat → Nat → Nat) (k : Nat) : List Ch := (List.range N).filterMap (chOne T b k)
/-- the changes before a time -/
def chs (N T : Nat) (b : Nat → Nat → Nat) (k : Nat) : List Ch := (List.range k).flatMap (chg N T b)
def colN (N : Nat) (b : Nat → Nat → Nat) (k : Nat) : List Nat := (List.range N).map fun i => b i k
section
variable {C N T : Nat} {b : Nat → Nat → Nat}
theorem chs_succ {k : Nat} : chs N T b (k + 1) = chs N T b k ++ chg N T b k := by
  unfold chs
  rw [List.range_succ, List.flatMap_append]
  simp
theorem chg_len {k : Nat} : (chg N T b k).length ≤ N := by
  have := List.length_filterMap_le (chOne T b k) (List.range N)
  simpa [chg] using this
theorem chs_len {k : Nat} : (chs N T b k).length ≤ k * N := by
  induction k with
  | zero => simp [chs]
  | succ k ih =>
    rw [chs_succ, List.length_append, Nat.succ_mul]
    have := chg_len (N := N) (T := T) (b := b) (k := k)
    omega
def hrN (N : Nat) (b : Nat → Nat → Nat) (k n : Nat) : List Nat := (List.range N).map fun i => b i (if i < n then k else k - 1)
def fdN (N T : Nat) (b : Nat → Nat → Nat) (k n : Nat) : List Ch := chs N T b k ++ (List.range n).filterMap (chOne T b k)
theorem fdN_succ {k n : Nat} : fdN N T b k (n + 1) = fdN N T b k n ++ (chOne T b k n).toList := by
  unfold fdN
  rw [List.range_succ, List.filterMap_append, ← List.append_assoc]
  cases h : chOne T b k n <;> simp [h]
abbrev env0 (W BG H F : D) (c t n x : Option D) : Env := [some W, some BG, c, some H, some F, t, n, none, x]
/-- one net -/
theorem told_net {g : G} {c t n : Nat} {BG : D} (hc : c < C) (ht : t < T) (hn : n < N) (hl : (c * T + t) * N + N ≤ LINE) :
    ∃ ρ2, exec g d0b0 (env0 (dW C N T b) BG (.lst .ow (dNs (hrN N b (c * T + t) n))) (.lst .ow (dChs (fdN N T b (c * T + t) n))) (some (.int c)) (some (.int t)) (some (.int n)) none) = .ok (.nx, ρ2) ∧
      wipeE ρ2 [6, 8] = env0 (dW C N T b) BG (.lst .ow (dNs (hrN N b (c * T + t) (n + 1)))) (.lst .ow (dChs (fdN N T b (c * T + t) (n + 1)))) (some (.int c)) (some (.int t)) none none := by
  have h1 : b n (c * T + t) = b n (c * T + t - 1) → hrN N b (c * T + t) (n + 1) = hrN N b (c * T + t) n := fun e => map_range_congr fun i hi => by
    by_cases q : i = n
    · subst q; simp [e]
    · congr 1
      by_cases q2 : i < n
      · rw [if_pos q2, if_pos (by omega)]
      · rw [if_neg q2, if_neg (by omega)]
  have h2 : hrN N b (c * T + t) (n + 1) = (hrN N b (c * T + t) n).set n (b n (c * T + t)) := by
    unfold hrN
    rw [set_range]
    exact map_range_congr fun i hi => by
      by_cases q : i = n
      · subst q; simp
      · rw [if_neg q]
        congr 1
        by_cases q2 : i < n
        · rw [if_pos q2, if_pos (by omega)]
        · rw [if_neg q2, if_neg (by omega)]
  have h3 : (hrN N b (c * T + t) n)[n]? = some (b n (c * T + t - 1)) := by simp [hrN, hn]
  have hlen : (hrN N b (c * T + t) n).length = N := by simp [hrN]
  have hmod : (c * T + t) % T = t := by rw [Nat.mul_comm, Nat.mul_add_mod, Nat.mod_eq_of_lt ht]
  have hdiv : (c * T + t) / T = c := by rw [Nat.mul_comm, Nat.mul_add_div (by omega), Nat.div_eq_of_lt ht, Nat.add_zero]
  have h4 : (fdN N T b (c * T + t) n).length < LINE := by
    unfold fdN
    have h5 := chs_len (N := N) (T := T) (b := b) (k := c * T + t)
    have h6 := List.length_filterMap_le (chOne T b (c * T + t)) (List.range n)
    rw [List.length_range] at h6
    rw [List.length_append]
    unfold LINE at hl ⊢
    omega
  by_cases e : b n (c * T + t) = b n (c * T + t - 1)
  · refine ⟨env0 (dW C N T b) BG (.lst .ow (dNs (hrN N b (c * T + t) n))) (.lst .ow (dChs (fdN N T b (c * T + t) n))) (some (.int c)) (some (.int t)) (some (.int n)) (some (.int (b n (c * T + t)))), ?_, ?_⟩
    · unfold d0b0
      simp! [dW, dC, hc, hn, ht, h3, e]
    · rw [h1 e, fdN_succ, show chOne T b (c * T + t) n = none by simp [chOne, e]]
      simp [wipeE]
  · have e' : ((b n (c * T + t) : Int) == (b n (c * T + t - 1) : Int)) = false := by simp; omega
    refine ⟨env0 (dW C N T b) BG (.lst .ow (dNs (hrN N b (c * T + t) (n + 1)))) (.lst .ow (dChs (fdN N T b (c * T + t) (n + 1)))) (some (.int c)) (some (.int t)) (some (.int n)) (some (.int (b n (c * T + t)))), ?_, ?_⟩
    · unfold d0b0
      rw [fdN_succ, show chOne T b (c * T + t) n = some (c, t, n, b n (c * T + t)) by simp [chOne, e, hmod, hdiv], h2]
      simp! [dW, dC, hc, hn, ht, h3, e, e', ixN_nat, hlen, h4, dChs_len]
      simp [dChs, dCh]
    · rfl
/-- one time -/
theorem told_time {g : G} {c t : Nat} {BG : D} (hc : c < C) (ht : t < T) (hN : N ≤ LINE) (hl : (c * T + t) * N + N ≤ LINE) :
    exec g d0b1 (env0 (dW C N T b) BG (.lst .ow (dNs (hrN N b (c * T + t) 0))) (.lst .ow (dChs (fdN N T b (c * T + t) 0))) (some (.int c)) (some (.int t)) none none) =
      .ok (.nx, env0 (dW C N T b) BG (.lst .ow (dNs (hrN N b (c * T + t) N))) (.lst .ow (dChs (fdN N T b (c * T + t) N))) (some (.int c)) (some (.int t)) none none) := by
  have h := ex_fork (g := g) (tg := .nm 6) (it := .rng (.un .len (.var 3))) (b := d0b0) (w := [6, 8]) (ρ := env0 (dW C N T b) BG (.lst .ow (dNs (hrN N b (c * T + t) 0))) (.lst .ow (dChs (fdN N T b (c * T + t) 0))) (some (.int c)) (some (.int t)) none none) (xs := List.range N) (fun n => .int (n : Nat)) (fun n => env0 (dW C N T b) BG (.lst .ow (dNs (hrN N b (c * T + t) n))) (.lst .ow (dChs (fdN N T b (c * T + t) n))) (some (.int c)) (some (.int t)) none none)
    (it_rng (by simp! [hrN]) hN) (fun n a hn => ?_)
  · rw [List.length_range] at h
    exact blk_nx h rfl
  · obtain ⟨hn', rfl⟩ := rng_get hn
    obtain ⟨ρ2, e1, e2⟩ := told_net (g := g) (BG := BG) (b := b) hc ht hn' hl
    exact ⟨_, ρ2, rfl, e1, e2⟩
theorem hrN_next {k : Nat} : hrN N b k N = hrN N b (k + 1) 0 := map_range_congr fun i hi => by simp [hi]
theorem fdN_next {k : Nat} : fdN N T b k N = fdN N T b (k + 1) 0 := by
  unfold fdN
  rw [chs_succ]
  simp [chg]
theorem told_cycle {g : G} {c : Nat} {BG : D} (hc : c < C) (hN : N ≤ LINE) (h0 : 0 < N) (hT : T ≤ LINE) (hl : C * T * N ≤ LINE) :
    exec g d0b2 (env0 (dW C N T b) BG (.lst .ow (dNs (hrN N b (c * T) 0))) (.lst .ow (dChs (fdN N T b (c * T) 0))) (some (.int c)) none none none) =
      .ok (.nx, env0 (dW C N T b) BG (.lst .ow (dNs (hrN N b ((c + 1) * T) 0))) (.lst .ow (dChs (fdN N T b ((c + 1) * T) 0))) (some (.int c)) none none none) := by
  have h := ex_fork (g := g) (tg := .nm 5) (it := .rng (.un .len (.idx (.idx (.var 0) (.var 2)) (.k (.int 0))))) (b := d0b1) (w := [5, 6, 8]) (ρ := env0 (dW C N T b) BG (.lst .ow (dNs (hrN N b (c * T) 0))) (.lst .ow (dChs (fdN N T b (c * T) 0))) (some (.int c)) none none none) (xs := List.range T) (fun n => .int (n : Nat)) (fun t => env0 (dW C N T b) BG (.lst .ow (dNs (hrN N b (c * T + t) 0))) (.lst .ow (dChs (fdN N T b (c * T + t) 0))) (some (.int c)) none none none)
    (it_rng (by simp! [dW, dC, hc, h0]) hT) (fun t a ht => ?_)
  · rw [List.length_range] at h
    rw [Nat.succ_mul]
    exact blk_nx h rfl
  · obtain ⟨ht', rfl⟩ := rng_get ht
    have hk : c * T + t + 1 ≤ C * T := by
      have : (c + 1) * T ≤ C * T := Nat.mul_le_mul_right T hc
      rw [Nat.succ_mul] at this
      omega
    have hk2 : (c * T + t) * N + N ≤ LINE := by
      rw [← Nat.succ_mul]
      exact Nat.le_trans (Nat.mul_le_mul_right N hk) hl
    exact ⟨_, _, rfl, told_time (g := g) (BG := BG) (b := b) hc ht' hN hk2, by rw [hrN_next, fdN_next]; rfl⟩
/-- told_changes -/
theorem told_ok {m : Nat} (hC : 0 < C) (hT : 0 < T) (hN : 0 < N) (hC2 : C ≤ LINE) (hT2 : T ≤ LINE) (hN2 : N ≤ LINE) (hl : C * T * N ≤ LINE) :
    (semG Pg49 (m + 1)).call 0 [dW C N T b] = .ok (.tup [.tup (dNs (colN N b 0)), .tup (dChs (chs N T b (C * T)))], [some (dW C N T b)]) := by
  refine (call_succ (fd := d0) rfl).trans (run_rt (ρ0 := [some (dW C N T b), none, none, none, none, none, none, none, none]) (ρ' := env0 (dW C N T b) (.tup (dNs (colN N b 0))) (.lst .ow (dNs (hrN N b (C * T) 0))) (.lst .ow (dChs (fdN N T b (C * T) 0))) none none none none) rfl rfl ?_)
  have h1 : ev (semG Pg49 m) d0c0 true [some (dW C N T b), none, none, none, none, none, none, none, none] = .ok (.lst .ow (dNs (colN N b 0)), [some (dW C N T b), none, none, none, none, none, none, none, none]) := by
    unfold colN
    rw [← dNs_map]
    refine ev_lca (inj := fun n => .lst .sh (dNs ((List.range T).map fun t => b n (0 * T + t)))) (xs := List.range N) (fun n => .int (b n 0 : Nat)) ?_ (by simpa using hN2) (by rfl) (fun n hn => ⟨[some (dW C N T b), none, none, none, none, none, none, some (.lst .sh (dNs ((List.range T).map fun t => b n (0 * T + t)))), none], [some (dW C N T b), none, none, none, none, none, none, some (.lst .sh (dNs ((List.range T).map fun t => b n (0 * T + t)))), none], ?_, ?_, rfl⟩)
    · refine it_l (o := .sh) ?_ (fros_map fun _ _ => by simp only [fro, dNs_fros, Bool.true_and]) rfl
      simp! [dW, dC, hC]
    · simp!
    · simp! [hT]
  have h0 : hrN N b 0 0 = colN N b 0 := rfl
  have h00 : fdN N T b 0 0 = [] := rfl
  refine blk_nx (ρ1 := [some (dW C N T b), some (.tup (dNs (colN N b 0))), none, none, none, none, none, none, none]) (by simp! [h1]) ?_
  refine blk_nx (ρ1 := env0 (dW C N T b) (.tup (dNs (colN N b 0))) (.lst .ow (dNs (hrN N b 0 0))) (.lst .ow (dChs (fdN N T b 0 0))) none none none none) (by simp! [h0, h00, dChs]) ?_
  refine blk_nx (ρ1 := env0 (dW C N T b) (.tup (dNs (colN N b 0))) (.lst .ow (dNs (hrN N b (C * T) 0))) (.lst .ow (dChs (fdN N T b (C * T) 0))) none none none none) ?_ ?_
  · have h := ex_fork (g := semG Pg49 m) (tg := .nm 2) (it := .rng (.un .len (.var 0))) (b := d0b2) (w := [2, 5, 6, 8]) (ρ := env0 (dW C N T b) (.tup (dNs (colN N b 0))) (.lst .ow (dNs (hrN N b (0 * T) 0))) (.lst .ow (dChs (fdN N T b (0 * T) 0))) none none none none) (xs := List.range C) (fun n => .int (n : Nat)) (fun c => env0 (dW C N T b) (.tup (dNs (colN N b 0))) (.lst .ow (dNs (hrN N b (c * T) 0))) (.lst .ow (dChs (fdN N T b (c * T) 0))) none none none none)
      (it_rng (by simp! [dW]) hC2) (fun c a hc => ?_)
    · rw [List.length_range, Nat.zero_mul] at h
      exact h
    · obtain ⟨hc', rfl⟩ := rng_get hc
      exact ⟨_, _, rfl, told_cycle (g := semG Pg49 m) (BG := .tup (dNs (colN N b 0))) (b := b) hc' hN2 hN hT2 hl, rfl⟩
  · refine blk_rt ?_
    have h3 : fdN N T b (C * T) 0 = chs N T b (C * T) := by simp [fdN]
    rw [h3]
    simp! [dChs_fros]
end
end Ev

/-! k49: _law_changes. -/
namespace Ev
section
variable {C N T : Nat} {b : Nat → Nat → Nat}
def flK : Nat → Fl
  | 0 => .sh | _ + 1 => .ow
theorem flK_wr {k : Nat} : (flK k).wr = true := by cases k <;> rfl
theorem chs_one : chs N T b 1 = [] := by
  rw [chs_succ]
  have : chg N T b 0 = [] := by
    unfold chg
    rw [List.filterMap_eq_nil_iff]
    intro n _
    simp [chOne]
  simp [this, chs]
def dLn (C N T : Nat) (b : Nat → Nat → Nat) : D := .lst .ow ((List.range N).map fun n => .lst .sh (dNs (lineN C T b n)))
abbrev env15 (W L : D) (at' : Option D) (N T : Nat) (F x : Option D) : Env := [some W, some L, at', some (.int N), some (.int T), F, x]
theorem changes_net {g : G} {j : Nat} {F : Option D} (hj : j + 1 < C * T) (h0 : 0 < T) (hT : T < 1073741824) (hT2 : T ≤ LINE) (hN : N ≤ LINE) :
    ev g d15c1 true (env15 (dW C N T b) (dLn C N T b) (some (.int (j + 1 : Nat))) N T F none) = .ok (.lst .ow (dChs (chg N T b (j + 1))), env15 (dW C N T b) (dLn C N T b) (some (.int (j + 1 : Nat))) N T F none) := by
  have hch : dChs (chg N T b (j + 1)) = (List.range N).filterMap fun n => (chOne T b (j + 1) n).map dCh := by
    unfold dChs chg
    rw [List.map_filterMap]
  rw [hch]
  refine ev_lcm (inj := fun n => .int (n : Nat)) (xs := List.range N) (fun n => (chOne T b (j + 1) n).map dCh) (it_rng (by simp!) hN) (by simpa using hN) (by rfl) (fun n hn => ?_)
  have hn' : n < N := by simpa using hn
  have hj' : j < C * T := by omega
  have hr : ((j : Int) + 1) - (T : Int) * (((j : Int) + 1) / (T : Int)) = (((j : Int) + 1) % (T : Int)) := by
    have := Int.mul_ediv_add_emod ((j : Int) + 1) (T : Int)
    omega
  have hr0 : True := by
    trivial
  have hj1 : ((j : Int) + 1 - 1) = (j : Int) := by omega
  refine ⟨env15 (dW C N T b) (dLn C N T b) (some (.int (j + 1 : Nat))) N T F (some (.int n)), lcB_if (b := !(b n (j + 1) == b n j)) (ρ2 := env15 (dW C N T b) (dLn C N T b) (some (.int (j + 1 : Nat))) N T F (some (.int n))) (by simp) rfl ?_ (fun e => ?_) (fun e => ?_), rfl⟩
  · simp! [dLn, hn', hj, hj', lineN, hj1]
    rw [Bool.eq_iff_iff]
    simp
    omega
  · have e' : ¬ b n (j + 1) = b n j := by simpa using e
    refine ⟨dCh ((j + 1) / T, (j + 1) % T, n, b n (j + 1)), ?_, by simp [chOne, e']⟩
    simp! [dLn, hn', hj, hj', lineN, h0, hT, small_nat hT2, hr]
    simp [dCh]
  · have e' : b n (j + 1) = b n j := by simpa using e
    exact ⟨by simp [chOne, e'], rfl⟩
theorem lines_ok {m : Nat} {x1 x2 x5 : Option D} (hN : N ≤ LINE) (hC : C ≤ LINE) (hl : C * T ≤ LINE) : ev (semG Pg49 (m + 1)) d15c0 false [some (dW C N T b), x1, x2, some (.int N), some (.int T), x5, none] = .ok (dLn C N T b, [some (dW C N T b), x1, x2, some (.int N), some (.int T), x5, none]) := by
  unfold dLn
  refine ev_lca (inj := fun n => .int (n : Nat)) (xs := List.range N) (fun n => .lst .sh (dNs (lineN C T b n))) (it_rng (by simp!) hN) (by simpa using hN) (by rfl) (fun n hn => ⟨[some (dW C N T b), x1, x2, some (.int N), some (.int T), x5, some (.int n)], [some (dW C N T b), x1, x2, some (.int N), some (.int T), x5, some (.int n)], rfl, ?_, rfl⟩)
  have hn' : n < N := by simpa using hn
  exact ev_callnb (by simp! [froW]) (line_ok hn' hl hC) (by rfl)
/-- _law_changes -/
theorem changes_ok {m : Nat} (hC : 0 < C) (hT : 0 < T) (hN : 0 < N) (hC2 : C ≤ LINE) (hT2 : T ≤ LINE) (hN2 : N ≤ LINE) (hl : C * T ≤ LINE) (hl2 : C * T * N ≤ LINE) :
    (semG Pg49 (m + 2)).call 15 [dW C N T b] = .ok (.lst .sh (dChs (chs N T b (C * T))), [some (dW C N T b)]) := by
  have hCT : 0 < C * T := Nat.mul_pos hC hT
  refine (call_succ (fd := d15) rfl).trans (run_rt (ρ0 := [some (dW C N T b), none, none, none, none, none, none]) (ρ' := [some (dW C N T b), some (dLn C N T b), none, some (.int N), some (.int T), some (.lst .sh (dChs (chs N T b (C * T)))), none]) rfl rfl ?_)
  refine blk_nx (ρ1 := [some (dW C N T b), none, none, some (.int N), some (.int T), some (.lst .sh []), none]) (by simp! [dW, dC, hC, hN]) ?_
  refine blk_nx (ρ1 := [some (dW C N T b), some (dLn C N T b), none, some (.int N), some (.int T), some (.lst .sh []), none]) (by simp! [lines_ok hN2 hC2 hl]) ?_
  refine blk_nx (ρ1 := [some (dW C N T b), some (dLn C N T b), none, some (.int N), some (.int T), some (.lst (flK (C * T - 1)) (dChs (chs N T b (C * T)))), none]) ?_ ?_
  · have hi : evI (semG Pg49 (m + 1)) (.rng2 (.k (.int 1)) (.bin .mul (.un .len (.var 0)) (.var 4))) [some (dW C N T b), some (dLn C N T b), none, some (.int N), some (.int T), some (.lst .sh []), none] = .ok ((List.range (C * T - 1)).map (fun k => .int ((k + 1 : Nat) : Int)), [some (dW C N T b), some (dLn C N T b), none, some (.int N), some (.int T), some (.lst (flK 0) (dChs (chs N T b (0 + 1)))), none]) := by
      rw [chs_one]
      exact it_rng2 (m := 1) (n := C * T) (ρ1 := [some (dW C N T b), some (dLn C N T b), none, some (.int N), some (.int T), some (.lst .sh []), none]) (by simp!) (by simp! [dW, small_nat hT2, flK, dChs]) (by decide) hl
    have h := ex_fork (g := semG Pg49 (m + 1)) (tg := .nm 2) (it := .rng2 (.k (.int 1)) (.bin .mul (.un .len (.var 0)) (.var 4))) (b := d15b0) (w := [2]) (ρ := [some (dW C N T b), some (dLn C N T b), none, some (.int N), some (.int T), some (.lst .sh []), none]) (xs := List.range (C * T - 1)) (fun k => .int ((k + 1 : Nat) : Int)) (fun k => [some (dW C N T b), some (dLn C N T b), none, some (.int N), some (.int T), some (.lst (flK k) (dChs (chs N T b (k + 1)))), none])
      hi (fun k a hk => ?_)
    · rw [List.length_range, Nat.sub_add_cancel hCT] at h
      exact h
    · obtain ⟨hk', rfl⟩ := rng_get hk
      have hk2 : k + 1 < C * T := by omega
      have h1 := changes_net (g := semG Pg49 (m + 1)) (b := b) (N := N) (F := some (.lst (flK k) (dChs (chs N T b (k + 1))))) hk2 hT (by unfold LINE at hT2; omega) hT2 hN2
      have hb : (chs N T b (k + 1)).length + (chg N T b (k + 1)).length ≤ LINE := by
        rw [← List.length_append, ← chs_succ]
        exact Nat.le_trans chs_len (Nat.le_trans (Nat.mul_le_mul_right N (show k + 1 + 1 ≤ C * T by omega)) hl2)
      refine ⟨env15 (dW C N T b) (dLn C N T b) (some (.int (k + 1 : Nat))) N T (some (.lst (flK k) (dChs (chs N T b (k + 1))))) none, env15 (dW C N T b) (dLn C N T b) (some (.int (k + 1 : Nat))) N T (some (.lst .ow (dChs (chs N T b (k + 1 + 1))))) none, rfl, ?_, rfl⟩
      rw [chs_succ (k := k + 1), ← dChs_app]
      revert h1 hb
      generalize k + 1 = q
      intro h1 hb
      unfold d15b0
      simp! [h1, flK_wr, dChs_fros, dChs_len, hb, show tch d15c1 = [] from rfl]
  · refine blk_rt ?_
    simp! [dChs_frzs]
    cases h : C * T - 1 <;> simp [flK, frz_sh, frz_ow, dChs_frzs]
end
end Ev

/-! k49: the texts of waves. -/
namespace Ev
theorem digs10 : ∀ n : Nat, n < 10 → digs (n : Int) = [48 + n] := by
  intro n h
  have : ∀ m : Fin 10, digs ((m.1 : Nat) : Int) = [48 + m.1] := by decide
  exact this ⟨n, h⟩
theorem u_str1 {n : Nat} (h : n < 10) : unD .str (.int (n : Nat)) = some (.str [48 + n]) := by
  simp only [unD]
  rw [if_pos (by rw [Int.natAbs_natCast]; exact Nat.lt_of_lt_of_le h (by decide)), digs10 n h]
theorem pt_int1 {n : Nat} (h : n < 10) : partTx (.int (n : Nat)) = some [48 + n] := by
  simp only [partTx]
  rw [if_pos (by rw [Int.natAbs_natCast]; exact Nat.lt_of_lt_of_le h (by decide)), digs10 n h]
def dLast : Option (Nat × Nat) → D
  | none => .non | some (c, t) => .tup [.int (c : Nat), .int (t : Nat)]
theorem dLast_some {c t : Nat} : dLast (some (c, t)) = .tup [.int (c : Nat), .int (t : Nat)] := rfl
theorem fro_last {l : Option (Nat × Nat)} : fro (dLast l) = true := by
  cases l with
  | none => rfl
  | some p => rfl
theorem ok_last {l : Option (Nat × Nat)} : okD (dLast l) 64 = true := by
  cases l with
  | none => simp [dLast, okD]
  | some p => simp [dLast, okD, okDs]
theorem eq_last {l : Option (Nat × Nat)} {c t : Nat} : eqD (dLast l) (.tup [.int (c : Nat), .int (t : Nat)]) = decide (l = some (c, t)) := by
  cases l with
  | none => simp [dLast, eqD]
  | some p =>
    obtain ⟨a, b⟩ := p
    simp only [dLast, eqD_tup, eqDs_cons, eqDs_nil, eqD_int, Bool.and_true]
    rw [Bool.eq_iff_iff]
    simp
    omega
theorem eq_last2 {l : Option (Nat × Nat)} {c t : Nat} : eqD (.tup [.int (c : Nat), .int (t : Nat)]) (dLast l) = decide (l = some (c, t)) := by
  cases l with
  | none => simp [dLast, eqD]
  | some p =>
    obtain ⟨a, b⟩ := p
    simp only [dLast, eqD_tup, eqDs_cons, eqDs_nil, eqD_int, Bool.and_true]
    rw [Bool.eq_iff_iff]
    simp
    omega
/-- rows without their ends -/
def atRow (c t : Nat) : Tx := [97, 116, 32, 48 + c, 32, 48 + t]
def netRow (n b : Nat) : Tx := [48 + n, 32, 48 + b]
def rowsL : Option (Nat × Nat) → List Ch → List Tx
  | _, [] => []
  | l, x :: xs => (if l ≠ some (x.1, x.2.1) then [atRow x.1 x.2.1] else []) ++ netRow x.2.2.1 x.2.2.2 :: rowsL (some (x.1, x.2.1)) xs
def rowsT (l : Option (Nat × Nat)) (xs : List Ch) : Tx := ((rowsL l xs).map (· ++ [10])).flatten
def lt10 (x : Ch) : Prop := x.1 < 10 ∧ x.2.1 < 10 ∧ x.2.2.1 < 10 ∧ x.2.2.2 < 10
theorem rowsT_cons {l : Option (Nat × Nat)} {x : Ch} {xs : List Ch} : rowsT l (x :: xs) = (if l ≠ some (x.1, x.2.1) then atRow x.1 x.2.1 ++ [10] else []) ++ (netRow x.2.2.1 x.2.2.2 ++ [10]) ++ rowsT (some (x.1, x.2.1)) xs := by
  unfold rowsT
  rw [rowsL]
  by_cases h : l ≠ some (x.1, x.2.1)
  · rw [if_pos h, if_pos h]; simp
  · rw [if_neg h, if_neg h]; simp
theorem rowsT_len : ∀ {l : Option (Nat × Nat)} {xs : List Ch}, (rowsT l xs).length ≤ 11 * xs.length
  | _, [] => by simp [rowsT, rowsL]
  | l, x :: xs => by
    have ih := rowsT_len (l := some (x.1, x.2.1)) (xs := xs)
    rw [rowsT_cons]
    by_cases h : l ≠ some (x.1, x.2.1)
    · rw [if_pos h]; simp [atRow, netRow]; omega
    · rw [if_neg h]; simp [netRow]; omega
def hdT (C N T : Nat) (b : Nat → Nat → Nat) : Tx := [119, 97, 118, 101, 115, 32] ++ [48 + C] ++ [32] ++ [48 + T] ++ [32] ++ (List.range N).map (fun n => 48 + b n 0)
/-- a wave's text -/
def waveT (C N T : Nat) (b : Nat → Nat → Nat) : Tx := hdT C N T b ++ [10] ++ rowsT none (chs N T b (C * T))
section
variable {C N T : Nat} {b : Nat → Nat → Nat}
abbrev env16 (W : D) (tx : Tx) (l : Option (Nat × Nat)) : Env := [some W, some (.str tx), some (dLast l), none, none, none, none, none]
theorem text_row {g : G} {W : D} {tx : Tx} {l : Option (Nat × Nat)} {x : Ch} (hx : lt10 x) (hl : tx.length + 11 ≤ LINE) :
    ∃ ρ1 ρ2, bindT (.tp [(.nm 3), (.nm 4), (.nm 5), (.nm 6)]) (dCh x) (env16 W tx l) = some ρ1 ∧ exec g d16b0 ρ1 = .ok (.nx, ρ2) ∧ wipeE ρ2 [3, 4, 5, 6] = env16 W (tx ++ rowsT l [x]) (some (x.1, x.2.1)) := by
  obtain ⟨h1, h2, h3, h4⟩ := hx
  obtain ⟨c, t, n, bt⟩ := x
  dsimp only at h1 h2 h3 h4
  refine ⟨[some W, some (.str tx), some (dLast l), some (.int c), some (.int t), some (.int n), some (.int bt), none], [some W, some (.str (tx ++ rowsT l [(c, t, n, bt)])), some (dLast (some (c, t))), some (.int c), some (.int t), some (.int n), some (.int bt), none], rfl, ?_, rfl⟩
  rw [rowsT_cons]
  unfold LINE at hl
  have hL : ∀ m, 16777205 ≤ m → List.length tx ≤ m := fun m hm => by omega
  unfold d16b0
  by_cases h : l = some (c, t)
  · rw [if_neg (by simpa using h)]
    simp! [ok_last, eq_last, u_str1 h1, u_str1 h2, u_str1 h3, u_str1 h4, rowsT, rowsL, h, fro_last, hL, netRow, dLast_some]
  · rw [if_pos h]
    simp! [ok_last, eq_last, u_str1 h1, u_str1 h2, u_str1 h3, u_str1 h4, rowsT, rowsL, h, fro_last, hL, netRow, atRow, dLast_some]
theorem text_fold {xs : List Ch} : ∀ {tx : Tx} {l : Option (Nat × Nat)}, (xs.foldl (fun (s : Tx × Option (Nat × Nat)) x => (s.1 ++ rowsT s.2 [x], some (x.1, x.2.1))) (tx, l)).1 = tx ++ rowsT l xs := by
  induction xs with
  | nil => intro tx l; simp [rowsT, rowsL]
  | cons x xs ih =>
    intro tx l
    rw [List.foldl_cons, ih, rowsT_cons, rowsT_cons (xs := xs)]
    simp [rowsT, rowsL]
theorem chs_lt10 (hC : C ≤ 9) (hT : T ≤ 9) (hN : N ≤ 9) (hb : ∀ n k, b n k < 10) {K : Nat} (hK : K ≤ C * T) : ∀ x ∈ chs N T b K, lt10 x := by
  intro x hx
  simp only [chs, List.mem_flatMap, List.mem_range, chg, List.mem_filterMap] at hx
  obtain ⟨k, hk, n, hn, e⟩ := hx
  unfold chOne at e
  split at e
  · cases e
  · cases e
    have h1 : k / T < C := Nat.div_lt_of_lt_mul (by rw [Nat.mul_comm]; omega)
    have h2 : T = 0 ∨ k % T < T := by
      rcases Nat.eq_zero_or_pos T with h | h
      · exact .inl h
      · exact .inr (Nat.mod_lt _ h)
    refine ⟨by omega, ?_, by show n < 10; omega, hb _ _⟩
    show k % T < 10
    rcases h2 with h | h
    · subst h; omega
    · omega
theorem hd_line {C' T' N' : Nat} (hC : C' ≤ 9) (hT : T' ≤ 9) (hN : N' ≤ 9) : C' * T' * N' ≤ 729 := by
  calc C' * T' * N' ≤ 9 * 9 * 9 := Nat.mul_le_mul (Nat.mul_le_mul hC hT) hN
    _ = 729 := rfl
theorem waveT_len (hC : C ≤ 9) (hT : T ≤ 9) (hN : N ≤ 9) : (waveT C N T b).length ≤ 9000 := by
  unfold waveT hdT
  have h1 := rowsT_len (l := none) (xs := chs N T b (C * T))
  have h2 := chs_len (N := N) (T := T) (b := b) (k := C * T)
  have h3 := hd_line hC hT hN
  simp
  omega
/-- _law_text -/
theorem text_ok {m : Nat} (hC : 0 < C) (hT : 0 < T) (hN : 0 < N) (hC2 : C ≤ 9) (hT2 : T ≤ 9) (hN2 : N ≤ 9) (hb : ∀ n k, b n k < 10) :
    (semG Pg49 (m + 3)).call 16 [dW C N T b] = .ok (.str (waveT C N T b), [some (dW C N T b)]) := by
  have hl3 := hd_line hC2 hT2 hN2
  have hCT : C * T ≤ 81 := Nat.mul_le_mul hC2 hT2
  have hN3 : N ≤ LINE := Nat.le_trans hN2 (by decide)
  have hC3 : C ≤ LINE := Nat.le_trans hC2 (by decide)
  have hT3 : T ≤ LINE := Nat.le_trans hT2 (by decide)
  have hll := rowsT_len (l := none) (xs := chs N T b (C * T))
  have hcl := chs_len (N := N) (T := T) (b := b) (k := C * T)
  have hc := changes_ok (m := m) (b := b) hC hT hN hC3 hT3 hN3 (Nat.le_trans hCT (by decide)) (Nat.le_trans hl3 (by decide))
  refine (call_succ (fd := d16) rfl).trans (run_rt (ρ0 := [some (dW C N T b), none, none, none, none, none, none, none]) (ρ' := [some (dW C N T b), some (.str (waveT C N T b)), some (dLast ((chs N T b (C * T)).foldl (fun (s : Tx × Option (Nat × Nat)) x => (s.1 ++ rowsT s.2 [x], some (x.1, x.2.1))) (hdT C N T b ++ [10], none)).2), none, none, none, none, none]) rfl rfl ?_)
  have h1 : ev (semG Pg49 (m + 2)) d16c0 true [some (dW C N T b), none, none, none, none, none, none, none] = .ok (.lst .ow ((List.range N).map fun n => .str [48 + b n 0]), [some (dW C N T b), none, none, none, none, none, none, none]) := by
    refine ev_lca (inj := fun n => .lst .sh (dNs ((List.range T).map fun t => b n (0 * T + t)))) (xs := List.range N) (fun n => .str [48 + b n 0]) ?_ (by simpa using hN3) (by rfl) (fun n hn => ⟨[some (dW C N T b), none, none, none, none, none, none, some (.lst .sh (dNs ((List.range T).map fun t => b n (0 * T + t))))], [some (dW C N T b), none, none, none, none, none, none, some (.lst .sh (dNs ((List.range T).map fun t => b n (0 * T + t))))], ?_, ?_, rfl⟩)
    · refine it_l (o := .sh) ?_ (fros_map fun _ _ => by simp only [fro, dNs_fros, Bool.true_and]) rfl
      simp! [dW, dC, hC]
    · simp!
    · simp! [hT, u_str1 (hb _ _)]
  have hfl : ((List.range N).map fun n => [48 + b n 0]).flatten = (List.range N).map fun n => 48 + b n 0 := by
    generalize List.range N = l
    induction l with
    | nil => rfl
    | cons x l ih => simp [ih]
  have h2 : binD .join (.str []) (.lst .ow ((List.range N).map fun n => .str [48 + b n 0])) = some (.str ((List.range N).map fun n => 48 + b n 0)) := by
    rw [join0 (by rw [hfl]; simpa using hN3), hfl]
  have hN4 : N + 10 ≤ 16777216 := by omega
  have hL : ∀ m, 16777205 ≤ m → N ≤ m := fun m hm => by omega
  refine blk_nx (ρ1 := [some (dW C N T b), some (.str (hdT C N T b ++ [10])), none, none, none, none, none, none]) ?_ ?_
  · have hu1 := u_str1 (n := C) (by omega)
    have hu2 := u_str1 (n := T) (by omega)
    have hlen : ((List.range N).map fun n => 48 + b n 0).length = N := by simp
    have hp : ev (semG Pg49 (m + 2)) (.bin .add (.bin .add (.bin .add (.bin .add (.k (.str [119, 97, 118, 101, 115, 32])) (.un .str (.un .len (.var 0)))) (.k (.str [32]))) (.un .str (.un .len (.idx (.idx (.var 0) (.k (.int 0))) (.k (.int 0)))))) (.k (.str [32]))) true [some (dW C N T b), none, none, none, none, none, none, none] = .ok (.str ([119, 97, 118, 101, 115, 32] ++ [48 + C] ++ [32] ++ [48 + T] ++ [32]), [some (dW C N T b), none, none, none, none, none, none, none]) := by
      simp! [dW, dC, hC, hN, hu1, hu2]
    refine asg_of (ρ1 := [some (dW C N T b), none, none, none, none, none, none, none]) (bin_of (x := .str (hdT C N T b)) (y := .str [10]) (bin_of hp (bin_of (x := .str []) (by simp!) h1 (by rfl) h2) (by rfl) ?_) (by simp!) (by rfl) ?_) (by simp)
    · rw [b_adds, if_pos (by simp [LINE]; omega)]
      rfl
    · rw [b_adds, if_pos (by simp [LINE, hdT]; omega)]
  refine blk_nx (ρ1 := env16 (dW C N T b) (hdT C N T b ++ [10]) none) (by simp! [dLast]) ?_
  refine blk_nx (ρ1 := [some (dW C N T b), some (.str (waveT C N T b)), some (dLast ((chs N T b (C * T)).foldl (fun (s : Tx × Option (Nat × Nat)) x => (s.1 ++ rowsT s.2 [x], some (x.1, x.2.1))) (hdT C N T b ++ [10], none)).2), none, none, none, none, none]) ?_ (blk_rt (by simp!))
  have h := ex_for (g := semG Pg49 (m + 2)) (tg := .tp [(.nm 3), (.nm 4), (.nm 5), (.nm 6)]) (it := .seq (.call 15 (es [(.var 0)]))) (b := d16b0) (w := [3, 4, 5, 6]) (ρ := env16 (dW C N T b) (hdT C N T b ++ [10]) none) (xs := chs N T b (C * T)) (s0 := (hdT C N T b ++ [10], none)) (fun s => env16 (dW C N T b) s.1 s.2) dCh (fun s as => s.1.length + 11 * as.length ≤ LINE ∧ ∀ x ∈ as, lt10 x) (fun s x => (s.1 ++ rowsT s.2 [x], some (x.1, x.2.1)))
    (it_l (o := .sh) (ev_callnb (by simp! [froW]) hc (by rfl)) dChs_fros rfl) ⟨by unfold LINE; simp [hdT]; omega, chs_lt10 hC2 hT2 hN2 hb (Nat.le_refl _)⟩ (fun s x as hI => ?_)
  · rw [text_fold] at h
    exact h
  · obtain ⟨h1, h2⟩ := hI
    rw [List.length_cons] at h1
    obtain ⟨ρ1, ρ2, e1, e2, e3⟩ := text_row (g := semG Pg49 (m + 2)) (W := dW C N T b) (tx := s.1) (l := s.2) (h2 x (by simp)) (by omega)
    refine ⟨ρ1, ρ2, e1, e2, e3, ?_, fun y hy => h2 y (by simp [hy])⟩
    have := rowsT_len (l := s.2) (xs := [x])
    simp at this ⊢
    omega
/-! ### wave_file -/
theorem glob49 {m : Nat} : (semG Pg49 m).glob 0 = .str [119, 97, 118, 101, 115] := by rw [semG_glob]; rfl
theorem glob49b {m : Nat} : (semG Pg49 m).glob 1 = .str [48, 49, 50, 51, 52, 53, 54, 55, 56, 57] := by rw [semG_glob]; rfl
def dTs (l : List Tx) : List D := l.map .str
theorem dTs_app {l m : List Tx} : dTs l ++ dTs m = dTs (l ++ m) := by simp [dTs]
theorem dTs_len {l : List Tx} : (dTs l).length = l.length := by simp [dTs]
theorem dTs_one {l : List Tx} {t : Tx} : dTs l ++ [.str t] = dTs (l ++ [t]) := by simp [dTs]
abbrev env2 (W B Cs : D) (rows : List Tx) (l : Option (Nat × Nat)) : Env := [some W, some (.lst .ow (dTs rows)), some (dLast l), some B, some Cs, none, none, none, none, none]
theorem file_row {g : G} {W B Cs : D} {rows : List Tx} {l : Option (Nat × Nat)} {x : Ch} (hx : lt10 x) (hl : rows.length + 2 ≤ LINE) :
    ∃ ρ1 ρ2, bindT (.tp [(.nm 5), (.nm 6), (.nm 7), (.nm 8)]) (dCh x) (env2 W B Cs rows l) = some ρ1 ∧ exec g d2b0 ρ1 = .ok (.nx, ρ2) ∧ wipeE ρ2 [5, 6, 7, 8] = env2 W B Cs (rows ++ rowsL l [x]) (some (x.1, x.2.1)) := by
  obtain ⟨h1, h2, h3, h4⟩ := hx
  obtain ⟨c, t, n, bt⟩ := x
  dsimp only at h1 h2 h3 h4
  refine ⟨[some W, some (.lst .ow (dTs rows)), some (dLast l), some B, some Cs, some (.int c), some (.int t), some (.int n), some (.int bt), none], [some W, some (.lst .ow (dTs (rows ++ rowsL l [(c, t, n, bt)]))), some (dLast (some (c, t))), some B, some Cs, some (.int c), some (.int t), some (.int n), some (.int bt), none], rfl, ?_, rfl⟩
  unfold LINE at hl
  have hL : ∀ m, 16777214 ≤ m → rows.length ≤ m := fun m hm => by omega
  have hL2 : ∀ m, 16777215 ≤ m → rows.length < m := fun m hm => by omega
  have hL3 : rows.length + 1 < 16777216 := by omega
  unfold d2b0
  by_cases h : l = some (c, t)
  · simp! [ok_last, eq_last2, pt_int1 h1, pt_int1 h2, pt_int1 h3, pt_int1 h4, rowsL, h, fro_last, hL, hL2, netRow, dLast_some, dTs_len]
    simp [dTs]
  · simp! [ok_last, eq_last2, pt_int1 h1, pt_int1 h2, pt_int1 h3, pt_int1 h4, rowsL, h, fro_last, hL, hL2, hL3, netRow, atRow, dLast_some, dTs_len]
    simp [dTs]
theorem file_fold {xs : List Ch} : ∀ {rows : List Tx} {l : Option (Nat × Nat)}, (xs.foldl (fun (s : List Tx × Option (Nat × Nat)) x => (s.1 ++ rowsL s.2 [x], some (x.1, x.2.1))) (rows, l)).1 = rows ++ rowsL l xs := by
  induction xs with
  | nil => intro rows l; simp [rowsL]
  | cons x xs ih =>
    intro rows l
    rw [List.foldl_cons, ih, rowsL, rowsL]
    simp [rowsL]
theorem rowsL_len : ∀ {l : Option (Nat × Nat)} {xs : List Ch}, (rowsL l xs).length ≤ 2 * xs.length
  | _, [] => by simp [rowsL]
  | l, x :: xs => by
    have ih := rowsL_len (l := some (x.1, x.2.1)) (xs := xs)
    rw [rowsL]
    by_cases h : l ≠ some (x.1, x.2.1)
    · rw [if_pos h]; simp; omega
    · rw [if_neg h]; simp; omega
theorem rowsL_short : ∀ {l : Option (Nat × Nat)} {xs : List Ch} {r : Tx}, r ∈ rowsL l xs → r.length ≤ 6
  | _, [], r, h => by simp [rowsL] at h
  | l, x :: xs, r, h => by
    rw [rowsL] at h
    by_cases c : l ≠ some (x.1, x.2.1)
    · rw [if_pos c] at h
      simp only [List.cons_append, List.nil_append, List.mem_cons] at h
      rcases h with h | h | h
      · rw [h]; simp [atRow]
      · rw [h]; simp [netRow]
      · exact rowsL_short h
    · rw [if_neg c] at h
      simp only [List.nil_append, List.mem_cons] at h
      rcases h with h | h
      · rw [h]; simp [netRow]
      · exact rowsL_short h
/-- wave_file -/
theorem file_ok {m : Nat} (hC : 0 < C) (hT : 0 < T) (hN : 0 < N) (hC2 : C ≤ 9) (hT2 : T ≤ 9) (hN2 : N ≤ 9) (hb : ∀ n k, b n k < 10) :
    (semG Pg49 (m + 2)).call 2 [dW C N T b] = .ok (.str (waveT C N T b), [some (dW C N T b)]) := by
  have hl3 := hd_line hC2 hT2 hN2
  have hN3 : N ≤ LINE := Nat.le_trans hN2 (by decide)
  have hC3 : C ≤ LINE := Nat.le_trans hC2 (by decide)
  have hT3 : T ≤ LINE := Nat.le_trans hT2 (by decide)
  have hcl := chs_len (N := N) (T := T) (b := b) (k := C * T)
  have hll := rowsL_len (l := none) (xs := chs N T b (C * T))
  have hc := told_ok (m := m) (b := b) hC hT hN hC3 hT3 hN3 (Nat.le_trans hl3 (by decide))
  let B : D := .tup (dNs (colN N b 0))
  let Cs : D := .tup (dChs (chs N T b (C * T)))
  let rows := hdT C N T b :: rowsL none (chs N T b (C * T))
  let lst := ((chs N T b (C * T)).foldl (fun (s : List Tx × Option (Nat × Nat)) x => (s.1 ++ rowsL s.2 [x], some (x.1, x.2.1))) ([hdT C N T b], none)).2
  have hu1 := pt_int1 (n := C) (by omega)
  have hu2 := pt_int1 (n := T) (by omega)
  have hrl : rows.length ≤ 2000 := by simp [rows]; omega
  refine (call_succ (fd := d2) rfl).trans (run_rt (ρ0 := [some (dW C N T b), none, none, none, none, none, none, none, none, none]) (ρ' := [some (dW C N T b), some (.lst .sh (dTs rows)), some (dLast lst), some B, some Cs, none, none, none, none, none]) rfl rfl ?_)
  refine blk_nx (ρ1 := [some (dW C N T b), none, none, some B, some Cs, none, none, none, none, none]) ?_ ?_
  · have := ev_callnb (g := semG Pg49 (m + 1)) (f := 0) (as := es [(.var 0)]) (vw := true) (ρ := [some (dW C N T b), none, none, none, none, none, none, none, none, none]) (ρ1 := [some (dW C N T b), none, none, none, none, none, none, none, none, none]) (by simp! [froW]) hc (by rfl)
    rw [x_unp, this]
    simp! [dChs_fros, B, Cs]
  have h1 : ev (semG Pg49 (m + 1)) d2c0 true [some (dW C N T b), none, none, some B, some Cs, none, none, none, none, none] = .ok (.lst .ow ((List.range N).map fun n => .str [48 + b n 0]), [some (dW C N T b), none, none, some B, some Cs, none, none, none, none, none]) := by
    refine ev_lca (inj := fun n => .int (b n 0 : Nat)) (xs := List.range N) (fun n => .str [48 + b n 0]) ?_ (by simpa using hN3) (by rfl) (fun n hn => ⟨[some (dW C N T b), none, none, some B, some Cs, none, none, none, some (.int (b n 0 : Nat)), none], [some (dW C N T b), none, none, some B, some Cs, none, none, none, some (.int (b n 0 : Nat)), none], ?_, ?_, rfl⟩)
    · refine it_t (xs := (List.range N).map fun n => .int (b n 0 : Nat)) ?_ (fros_map fun _ _ => by simp [fro])
      simp! [B, colN, dNs]
    · simp!
    · simp! [u_str1 (hb _ _)]
  have hfl : ((List.range N).map fun n => [48 + b n 0]).flatten = (List.range N).map fun n => 48 + b n 0 := by
    generalize List.range N = l
    induction l with
    | nil => rfl
    | cons x l ih => simp [ih]
  have h2 : binD .join (.str []) (.lst .ow ((List.range N).map fun n => .str [48 + b n 0])) = some (.str ((List.range N).map fun n => 48 + b n 0)) := by
    rw [join0 (by rw [hfl]; simpa using hN3), hfl]
  refine blk_nx (ρ1 := [some (dW C N T b), some (.lst .ow (dTs [hdT C N T b])), none, some B, some Cs, none, none, none, none, none]) ?_ ?_
  · have hp : ev (semG Pg49 (m + 1)) (.fst (es [(.glob 0), (.k (.str [32])), (.un .len (.var 0)), (.k (.str [32])), (.un .len (.idx (.idx (.var 0) (.k (.int 0))) (.k (.int 0)))), (.k (.str [32]))])) true [some (dW C N T b), none, none, some B, some Cs, none, none, none, none, none] = .ok (.str ([119, 97, 118, 101, 115, 32] ++ [48 + C] ++ [32] ++ [48 + T] ++ [32]), [some (dW C N T b), none, none, some B, some Cs, none, none, none, none, none]) := by
      simp! [dW, dC, hC, hN, hu1, hu2, glob49]
    have hq : ev (semG Pg49 (m + 1)) (.bin .add (.fst (es [(.glob 0), (.k (.str [32])), (.un .len (.var 0)), (.k (.str [32])), (.un .len (.idx (.idx (.var 0) (.k (.int 0))) (.k (.int 0)))), (.k (.str [32]))])) (.bin .join (.k (.str [])) d2c0)) false [some (dW C N T b), none, none, some B, some Cs, none, none, none, none, none] = .ok (.str (hdT C N T b), [some (dW C N T b), none, none, some B, some Cs, none, none, none, none, none]) := by
      refine bin_of hp (bin_of (x := .str []) (by simp!) h1 (by rfl) h2) (by rfl) ?_
      rw [b_adds, if_pos (by simp [LINE]; omega)]
      rfl
    refine asg_of (ρ1 := [some (dW C N T b), none, none, some B, some Cs, none, none, none, none, none]) (d := .lst .ow (dTs [hdT C N T b])) ?_ (by simp)
    rw [e_lst, es_cons, hq]
    simp! [dTs]
  refine blk_nx (ρ1 := env2 (dW C N T b) B Cs [hdT C N T b] none) (by simp! [dLast]) ?_
  refine blk_nx (ρ1 := env2 (dW C N T b) B Cs rows lst) ?_ (blk_rt (ret_of (bin_of (x := .str []) (y := .lst .ow (rows.map fun r => .str (r ++ [10]))) (ρ1 := env2 (dW C N T b) B Cs rows lst) (by simp!) ?_ (by rfl) ?_)))
  · have h := ex_for (g := semG Pg49 (m + 1)) (tg := .tp [(.nm 5), (.nm 6), (.nm 7), (.nm 8)]) (it := .seq (.var 4)) (b := d2b0) (w := [5, 6, 7, 8]) (ρ := env2 (dW C N T b) B Cs [hdT C N T b] none) (xs := chs N T b (C * T)) (s0 := ([hdT C N T b], none)) (fun s => env2 (dW C N T b) B Cs s.1 s.2) dCh (fun s as => s.1.length + 2 * as.length ≤ LINE ∧ ∀ x ∈ as, lt10 x) (fun s x => (s.1 ++ rowsL s.2 [x], some (x.1, x.2.1)))
      (it_t (by simp! [Cs]; rfl) dChs_fros) ⟨by simp [LINE]; omega, chs_lt10 hC2 hT2 hN2 hb (Nat.le_refl _)⟩ (fun s x as hI => ?_)
    · rw [file_fold] at h
      exact h
    · obtain ⟨h1, h2⟩ := hI
      rw [List.length_cons] at h1
      obtain ⟨ρ1, ρ2, e1, e2, e3⟩ := file_row (g := semG Pg49 (m + 1)) (W := dW C N T b) (B := B) (Cs := Cs) (rows := s.1) (l := s.2) (h2 x (by simp)) (by omega)
      refine ⟨ρ1, ρ2, e1, e2, e3, ?_, fun y hy => h2 y (by simp [hy])⟩
      have := rowsL_len (l := s.2) (xs := [x])
      simp at this ⊢
      omega
  · have hd : ∀ r ∈ rows, r.length ≤ 100 := by
      intro r hr
      simp only [rows, List.mem_cons] at hr
      rcases hr with hr | hr
      · rw [hr]; simp [hdT]; omega
      · exact Nat.le_trans (rowsL_short hr) (by decide)
    refine ev_lca (inj := .str) (xs := rows) (ρ1 := [some (dW C N T b), some (.lst .sh (dTs rows)), some (dLast lst), some B, some Cs, none, none, none, none, none]) (fun r => .str (r ++ [10])) ?_ (Nat.le_trans hrl (by decide)) (by rfl) (fun r hr => ⟨[some (dW C N T b), some (.lst .sh (dTs rows)), some (dLast lst), some B, some Cs, none, none, none, none, some (.str r)], [some (dW C N T b), some (.lst .sh (dTs rows)), some (dLast lst), some B, some Cs, none, none, none, none, some (.str r)], ?_, ?_, rfl⟩)
    · have hfz : frzs (dTs rows) = dTs rows := frzs_map fun _ _ => frz_str
      refine it_l (o := .sh) ?_ (fros_map fun _ _ => fro_str) rfl
      simp! [hfz]
      rfl
    · simp!
    · have := hd r hr
      have hL : r.length ≤ 16777215 := by omega
      simp! [hL]
  · have hw : (rows.map (· ++ [10])).flatten = waveT C N T b := by simp [rows, waveT, rowsT]
    rw [join0 (f := fun r => r ++ [10]) (by rw [hw]; exact Nat.le_trans (waveT_len hC2 hT2 hN2) (by decide)), hw]
end
end Ev

/-! k49: the reader. -/
namespace Ev
/-- texts that are asked -/
structure Tok (t : Tx) : Prop where
  len : t.length ≤ 1000000
  cp : ∀ c ∈ t, c < 1114112
theorem Tok.line {t : Tx} (h : Tok t) : t.length ≤ LINE := Nat.le_trans h.len (by decide)
theorem ok_take {t : Tx} (h : Tok t) (p k : Nat) : (((t.drop p).take k).all fun c => Nat.blt c 1114112) = true := by
  rw [List.all_eq_true]
  exact fun x hx => by rw [Nat.blt_eq]; exact h.cp x (List.mem_of_mem_drop (List.mem_of_mem_take hx))
theorem ok_all {cs : Tx} (h : ∀ c ∈ cs, c < 1114112) : (cs.all fun c => Nat.blt c 1114112) = true := by
  rw [List.all_eq_true]
  exact fun x hx => by rw [Nat.blt_eq]; exact h x hx
/-- the first place, from p on, where the text is not as asked -/
def misT (t : Tx) : Nat → Tx → Option Nat
  | _, [] => none
  | p, c :: cs => if (t.drop p).take 1 = [c] then misT t (p + 1) cs else some p
/-- a reader -/
abbrev dRd (t : Tx) (p : Nat) : D := .ins .ow 0 [0, 1] [.str t, .int p]
theorem fo0 {a b : D} : fldOf [0, 1] [a, b] 0 = some a := rfl
theorem fo1 {a b : D} : fldOf [0, 1] [a, b] 1 = some b := rfl
theorem fx0 : fldIx [0, 1] 0 = some 0 := rfl
theorem fx1 : fldIx [0, 1] 1 = some 1 := rfl
theorem init_ok {m : Nat} {t : Tx} : (semG Pg49 (m + 1)).call 3 [.ins .ow 0 [] [], .str t] = .ok (.non, [some (dRd t 0), some (.str t)]) := by
  refine (call_succ (fd := d3) rfl).trans (run_nx (ρ0 := [some (.ins .ow 0 [] []), some (.str t)]) (ρ' := [some (dRd t 0), some (.str t)]) rfl rfl ?_)
  unfold d3
  simp! [fldIx]
theorem signs_ok {m : Nat} {t cs : Tx} {p : Nat} (h : Tok t) (hc : ∀ c ∈ cs, c < 1114112) : (semG Pg49 (m + 1)).call 4 [dRd t p, .str cs] = (match misT t p cs with
      | none => .ok (.non, [some (dRd t (p + cs.length)), some (.str cs)])
      | some q => .exn 0 (.int q)) := by
  have hx := ex_forx (g := semG Pg49 m) (tg := .nm 2) (it := .str (.var 1)) (b := d4b0) (w := [2]) (ρ := [some (dRd t p), some (.str cs), none]) (xs := cs) (s0 := p) (fun q => [some (dRd t q), some (.str cs), none]) (fun c => .str [c]) (fun _ as => ∀ c ∈ as, c < 1114112) (fun q as => match misT t q as with
      | none => .ok (.nx, [some (dRd t (q + as.length)), some (.str cs), none])
      | some r => .exn 0 (.int r)) (it_s (by simp!)) hc (fun _ _ => rfl) (fun q c as hI => ?_)
  · cases hm : misT t p cs with
    | none =>
      rw [hm] at hx
      exact (call_succ (fd := d4) rfl).trans (run_nx (ρ0 := [some (dRd t p), some (.str cs), none]) (ρ' := [some (dRd t (p + cs.length)), some (.str cs), none]) rfl rfl (blk_nx hx rfl))
    | some q =>
      rw [hm] at hx
      exact (call_succ (fd := d4) rfl).trans (run_exn (ρ0 := [some (dRd t p), some (.str cs), none]) rfl rfl (blk_exn hx))
  · refine ⟨[some (dRd t q), some (.str cs), some (.str [c])], by simp!, ?_⟩
    have hc' : Nat.blt c 1114112 = true := by rw [Nat.blt_eq]; exact hI c (by simp)
    have h2 := ok_take h q 1
    by_cases e : (t.drop q).take 1 = [c]
    · refine .inl ⟨[some (dRd t (q + 1)), some (.str cs), some (.str [c])], q + 1, ?_, rfl, fun x hx => hI x (by simp [hx]), ?_⟩
      · unfold d4b0
        rw [e] at h2
        have : t.length ≤ 16777216 := h.line
        simp! [fo0, fo1, fx1, cut_1, this, e, h2]
      · simp only [misT, if_pos e, List.length_cons]
        rw [show q + 1 + as.length = q + (as.length + 1) by omega]
    · refine .inr (.inr ⟨0, .int q, ?_, by simp only [misT, if_neg e]⟩)
      unfold d4b0
      have : t.length ≤ 16777216 := h.line
      have e2 : ((t.drop q).take 1 == [c]) = false := by simpa using e
      simp! [fo0, fo1, fx1, cut_1, this, h2, hc', e2]
end Ev

/-! k49: numbers and bits that are read. -/
namespace Ev
def isDig (c : Nat) : Bool := Nat.ble 48 c && Nat.ble c 57
def isBit (c : Nat) : Bool := c == 48 || c == 49
theorem digs_in (c : Nat) : inT c [48, 49, 50, 51, 52, 53, 54, 55, 56, 57] = isDig c := by
  unfold isDig inT
  rw [Bool.eq_iff_iff]
  simp
  omega
def wordT (t : Tx) (p : Nat) : Tx := ((t.drop p).take 6).takeWhile isDig
def valT (s : Tx) : Nat := s.foldl (fun n c => n * 10 + (c - 48)) 0
def numBad (w : Tx) (lo hi : Nat) : Bool := w.isEmpty || ((w.head? == some 48 && decide (1 < w.length)) || !(decide (lo ≤ valT w) && decide (valT w < hi)))
/-- the number that stands at p, and the place behind it -/
def numT (t : Tx) (lo hi p : Nat) : Option (Nat × Nat) := if numBad (wordT t p) lo hi then none else some (valT (wordT t p), p + (wordT t p).length)
theorem tw_lt {α : Type} {f : α → Bool} : ∀ {l : List α} {k : Nat}, k < (l.takeWhile f).length → ∃ c, l[k]? = some c ∧ f c = true
  | [], k, h => by simp at h
  | x :: l, k, h => by
    rw [List.takeWhile_cons] at h
    cases hx : f x with
    | false => simp [hx] at h
    | true =>
      simp only [hx, if_true, List.length_cons] at h
      cases k with
      | zero => exact ⟨x, rfl, hx⟩
      | succ k =>
        obtain ⟨c, a, b⟩ := tw_lt (f := f) (l := l) (k := k) (by omega)
        exact ⟨c, by simpa using a, b⟩
theorem tw_end {α : Type} {f : α → Bool} : ∀ {l : List α} {c : α}, l[(l.takeWhile f).length]? = some c → f c = false
  | [], c, h => by simp at h
  | x :: l, c, h => by
    rw [List.takeWhile_cons] at h
    cases hx : f x with
    | false =>
      simp only [hx, Bool.false_eq_true, if_false, List.length_nil, List.getElem?_cons_zero, Option.some.injEq] at h
      rw [← h]; exact hx
    | true =>
      simp only [hx, if_true, List.length_cons, List.getElem?_cons_succ] at h
      exact tw_end h
theorem tw_take {α : Type} {f : α → Bool} : ∀ {l : List α}, l.take (l.takeWhile f).length = l.takeWhile f
  | [] => rfl
  | x :: l => by
    rw [List.takeWhile_cons]
    cases hx : f x with
    | false => simp
    | true => simp [tw_take (l := l)]
theorem word_len {t : Tx} {p : Nat} : (wordT t p).length ≤ 6 := by
  unfold wordT
  have h1 := (List.takeWhile_prefix isDig (l := (t.drop p).take 6)).length_le
  rw [List.length_take] at h1
  omega
theorem word_take {t : Tx} {p : Nat} : (t.drop p).take (wordT t p).length = wordT t p := by
  have h1 := tw_take (f := isDig) (l := (t.drop p).take 6)
  have h2 : (wordT t p).length ≤ 6 := word_len
  unfold wordT at h2 ⊢
  rw [List.take_take, Nat.min_eq_left h2] at h1
  exact h1
theorem word_all {t : Tx} {p : Nat} : (wordT t p).all isDig = true := by
  unfold wordT
  generalize (t.drop p).take 6 = l
  induction l with
  | nil => rfl
  | cons x l ih =>
    rw [List.takeWhile_cons]
    cases hx : isDig x with
    | false => simp
    | true => simp only [if_true, List.all_cons, hx, ih, Bool.and_self]
theorem word_at {t : Tx} {p k : Nat} (h : k < (wordT t p).length) : ∃ c, t[p + k]? = some c ∧ isDig c = true ∧ k < 6 := by
  have h6 := word_len (t := t) (p := p)
  obtain ⟨c, a, b⟩ := tw_lt (show k < (((t.drop p).take 6).takeWhile isDig).length from h)
  refine ⟨c, ?_, b, by omega⟩
  rw [List.getElem?_take_of_lt (by omega), List.getElem?_drop] at a
  exact a
theorem word_end {t : Tx} {p c : Nat} (h6 : (wordT t p).length < 6) (h : t[p + (wordT t p).length]? = some c) : isDig c = false := by
  refine tw_end (l := (t.drop p).take 6) ?_
  show ((t.drop p).take 6)[(wordT t p).length]? = some c
  rw [List.getElem?_take_of_lt h6, List.getElem?_drop]
  exact h
theorem figs_all {s : Tx} (h0 : s ≠ []) (h : s.all isDig = true) : figs s = some ((valT s : Nat) : Int) := by
  unfold figs
  rw [if_neg (by simpa using h0), if_pos (by simpa [isDig] using h)]
  rfl
theorem word_ne {t : Tx} {p : Nat} (h : wordT t p ≠ []) : p < t.length := by
  apply Decidable.byContradiction
  intro c
  apply h
  unfold wordT
  rw [List.drop_eq_nil_of_le (by omega)]
  rfl
theorem lt_of_at {t : Tx} {k c : Nat} (h : t[k]? = some c) : k < t.length := (List.getElem?_eq_some_iff.mp h).1
abbrev env5 (t : Tx) (p lo hi : Nat) (e w : Option D) : Env := [some (dRd t p), some (.int lo), some (.int hi), e, w]
theorem numw_t {m : Nat} {t : Tx} {p lo hi k : Nat} (h : Tok t) (hk : k < (wordT t p).length) : (ev (semG Pg49 m) d5b0w true (env5 t p lo hi (some (.int (p + k : Nat))) none)).bind tBl = .ok (true, env5 t p lo hi (some (.int (p + k : Nat))) none) := by
  obtain ⟨c, h1, h2, h3⟩ := word_at hk
  have h4 := lt_of_at h1
  have hl : t.length ≤ 16777216 := h.line
  have h5 : ((p : Int) + (k : Int) < (t.length : Int)) := by omega
  have hat : atI t ((p : Int) + (k : Int)) = some c := by rw [← Int.natCast_add, atI_nat]; exact h1
  have hd : ((p : Int) + (k : Int) - (p : Int) < 6) := by omega
  unfold d5b0w
  simp! [fo0, fo1, hl, h5, hat, digs_in, h2, hd, glob49b]
theorem numw_f {m : Nat} {t : Tx} {p lo hi : Nat} (h : Tok t) : (ev (semG Pg49 m) d5b0w true (env5 t p lo hi (some (.int (p + (wordT t p).length : Nat))) none)).bind tBl = .ok (false, env5 t p lo hi (some (.int (p + (wordT t p).length : Nat))) none) := by
  have hl : t.length ≤ 16777216 := h.line
  generalize hk : (wordT t p).length = k
  by_cases h5 : p + k < t.length
  · have h5' : ((p : Int) + (k : Int) < (t.length : Int)) := by omega
    have h1 : t[p + k]? = some (t[p + k]) := List.getElem?_eq_getElem h5
    have hat : atI t ((p : Int) + (k : Int)) = some (t[p + k]) := by rw [← Int.natCast_add, atI_nat]; exact h1
    by_cases h6 : k < 6
    · have h2 := word_end (t := t) (p := p) (c := t[p + k]) (by omega) (by rw [hk]; exact h1)
      unfold d5b0w
      simp! [fo0, fo1, hl, h5', hat, digs_in, h2, glob49b]
    · have hd : ¬ ((p : Int) + (k : Int) - (p : Int) < 6) := by omega
      have h7 : k ≤ 6 := by have := word_len (t := t) (p := p); omega
      unfold d5b0w
      cases hc : isDig t[p + k] with
      | true => simp! [fo0, fo1, hl, h5', hat, digs_in, hc, hd, glob49b]
      | false => simp! [fo0, fo1, hl, h5', hat, digs_in, hc, glob49b]
  · have h5' : ¬ ((p : Int) + (k : Int) < (t.length : Int)) := by omega
    unfold d5b0w
    simp! [fo0, fo1, hl, h5']
theorem num_loop {m : Nat} {t : Tx} {p lo hi : Nat} (h : Tok t) : exec (semG Pg49 m) (.whl d5b0w d5b0 []) (env5 t p lo hi (some (.int p)) none) = .ok (.nx, env5 t p lo hi (some (.int (p + (wordT t p).length : Nat))) none) := by
  refine ex_whln (fun k => env5 t p lo hi (some (.int (p + k : Nat))) none) (wordT t p).length ?_ (fun k hk => ⟨_, env5 t p lo hi (some (.int (p + (k + 1) : Nat))) none, numw_t h hk, ?_, rfl⟩) (numw_f h)
  · have := word_len (t := t) (p := p)
    exact Nat.lt_of_le_of_lt this (by decide)
  · unfold d5b0
    simp!
    omega
theorem dig_cp {c : Nat} (h : isDig c = true) : c < 1114112 := by
  unfold isDig at h
  rw [Bool.and_eq_true, Nat.ble_eq, Nat.ble_eq] at h
  omega
theorem word_cp {t : Tx} {p : Nat} : ((wordT t p).all fun c => Nat.blt c 1114112) = true := by
  rw [List.all_eq_true]
  intro x hx
  rw [Nat.blt_eq]
  exact dig_cp (List.all_eq_true.mp word_all x hx)
theorem word_cut {t : Tx} {p : Nat} : cut t (some (p : Int)) (some ((p : Int) + ((wordT t p).length : Int))) = wordT t p := by rw [cut_pk, word_take]
theorem num_cond {g : G} {t : Tx} {p lo hi : Nat} {e : Option D} : (ev g (.or (.bin .eq (.var 4) (.k (.str []))) (.or (.and (.bin .eq (.idx (.var 4) (.k (.int 0))) (.k (.str [48]))) (.bin .gt (.un .len (.var 4)) (.k (.int 1)))) (.un .not (.chn .le .lt (.var 1) (.un .int (.var 4)) (.var 2))))) true (env5 t p lo hi e (some (.str (wordT t p))))).bind tBl = .ok (numBad (wordT t p) lo hi, env5 t p lo hi e (some (.str (wordT t p)))) := by
  have hcp := word_cp (t := t) (p := p)
  have hal := word_all (t := t) (p := p)
  have hlen := word_len (t := t) (p := p)
  revert hcp hal hlen
  generalize wordT t p = w
  intro hcp hal hlen
  cases w with
  | nil => simp! [numBad]
  | cons c cs =>
    have hf := figs_all (s := c :: cs) (by simp) hal
    have hl1 : cs.length ≤ 16777215 := by simp at hlen; omega
    have hl2 : cs.length ≤ 599 := by simp at hlen; omega
    rw [List.all_cons, Bool.and_eq_true] at hcp
    unfold numBad
    by_cases h1 : c = 48
    · subst h1
      by_cases h2 : cs = []
      · subst h2
        by_cases h3 : lo ≤ valT [48]
        · simp! [hcp, hf, h3]
        · simp! [hcp, hf, h3]
      · have h4 : 0 < cs.length := List.length_pos_iff.mpr h2
        have h4i : (1 : Int) < (cs.length : Int) + 1 := by omega
        simp! [hcp, hl1, h4, h4i]
    · have h1' : (c == 48) = false := by simpa using h1
      by_cases h3 : lo ≤ valT (c :: cs)
      · simp! [hcp, hf, h3, h1', h1, hl1, hl2]
      · simp! [hcp, hf, h3, h1', h1, hl1, hl2]
theorem num_ok {m : Nat} {t : Tx} {p lo hi : Nat} (h : Tok t) : (semG Pg49 (m + 1)).call 5 [dRd t p, .int lo, .int hi] = (match numT t lo hi p with
      | none => .exn 0 (.int p)
      | some (v, q) => .ok (.int v, [some (dRd t q), some (.int lo), some (.int hi)])) := by
  have hl : t.length ≤ 16777216 := h.line
  have h1 : exec (semG Pg49 m) (.asg 3 (.fld (.var 0) 1)) (env5 t p lo hi none none) = .ok (.nx, env5 t p lo hi (some (.int p)) none) := by simp! [fo0, fo1]
  have h2 := num_loop (m := m) (lo := lo) (hi := hi) (p := p) h
  have h3 : exec (semG Pg49 m) (.asg 4 (.slc (.fld (.var 0) 0) (.fld (.var 0) 1) (.var 3))) (env5 t p lo hi (some (.int (p + (wordT t p).length : Nat))) none) = .ok (.nx, env5 t p lo hi (some (.int (p + (wordT t p).length : Nat))) (some (.str (wordT t p)))) := by simp! [fo0, fo1, hl, word_cut]
  have hc := num_cond (g := semG Pg49 m) (t := t) (p := p) (lo := lo) (hi := hi) (e := some (.int (p + (wordT t p).length : Nat)))
  cases hb : numBad (wordT t p) lo hi with
  | true =>
    rw [hb] at hc
    rw [show numT t lo hi p = none by unfold numT; rw [hb]; rfl]
    refine (call_succ (fd := d5) rfl).trans (run_exn (ρ0 := env5 t p lo hi none none) rfl rfl (blk_nx h1 (blk_nx h2 (blk_nx h3 (blk_exn ?_)))))
    rw [x_ife, hc]
    simp! [fo1]
  | false =>
    rw [hb] at hc
    rw [show numT t lo hi p = some (valT (wordT t p), p + (wordT t p).length) by unfold numT; rw [hb]; rfl]
    refine (call_succ (fd := d5) rfl).trans (run_rt (ρ0 := env5 t p lo hi none none) (ρ' := env5 t (p + (wordT t p).length) lo hi (some (.int (p + (wordT t p).length : Nat))) (some (.str (wordT t p)))) rfl rfl (blk_nx h1 (blk_nx h2 (blk_nx h3 (blk_nx (ρ1 := env5 t p lo hi (some (.int (p + (wordT t p).length : Nat))) (some (.str (wordT t p)))) ?_ (blk_nx (ρ1 := env5 t (p + (wordT t p).length) lo hi (some (.int (p + (wordT t p).length : Nat))) (some (.str (wordT t p)))) ?_ (blk_rt ?_)))))))
    · rw [x_ife, hc]
      simp!
    · simp! [fo1, fx1]
    · have hw : wordT t p ≠ [] := by intro e; rw [e] at hb; simp [numBad] at hb
      have hf := figs_all hw word_all
      have hl2 : (wordT t p).length ≤ 600 := Nat.le_trans word_len (by decide)
      simp! [hf, hl2]
/-! ### bits -/
def bitsT (t : Tx) (p : Nat) : Tx := (t.drop p).takeWhile isBit
theorem bits_all {t : Tx} {p : Nat} : ∀ c ∈ bitsT t p, isBit c = true := by
  unfold bitsT
  generalize t.drop p = l
  induction l with
  | nil => simp
  | cons x l ih =>
    rw [List.takeWhile_cons]
    cases hx : isBit x with
    | false => simp
    | true => simp only [if_true, List.mem_cons, forall_eq_or_imp, hx, true_and]; exact ih
theorem bits_at {t : Tx} {p k : Nat} (h : k < (bitsT t p).length) : ∃ c, t[p + k]? = some c ∧ (bitsT t p)[k]? = some c ∧ isBit c = true := by
  obtain ⟨c, a, b⟩ := tw_lt (show k < ((t.drop p).takeWhile isBit).length from h)
  have h1 := tw_take (f := isBit) (l := t.drop p)
  refine ⟨c, by rw [List.getElem?_drop] at a; exact a, ?_, b⟩
  show ((t.drop p).takeWhile isBit)[k]? = some c
  rw [← h1, List.getElem?_take_of_lt (show k < ((t.drop p).takeWhile isBit).length from h)]
  exact a
theorem bits_end {t : Tx} {p c : Nat} (h : t[p + (bitsT t p).length]? = some c) : isBit c = false := by
  refine tw_end (l := t.drop p) ?_
  rw [List.getElem?_drop]
  exact h
theorem take1_at {t : Tx} {q c : Nat} (h : t[q]? = some c) : (t.drop q).take 1 = [c] := by
  have h1 : (t.drop q)[0]? = some c := by rw [List.getElem?_drop]; exact h
  cases hd : t.drop q with
  | nil => rw [hd] at h1; cases h1
  | cons x l => rw [hd] at h1; simp at h1; simp [h1]
theorem take1_none {t : Tx} {q : Nat} (h : t.length ≤ q) : (t.drop q).take 1 = [] := by rw [List.drop_eq_nil_of_le h]; rfl
def bitN (c : Nat) : Nat := c - 48
theorem figs_bit {c : Nat} (h : isBit c = true) : figs [c] = some ((bitN c : Nat) : Int) := by
  unfold isBit at h
  rw [Bool.or_eq_true, beq_iff_eq, beq_iff_eq] at h
  rcases h with rfl | rfl <;> rfl
theorem bits_ok {m : Nat} {t : Tx} {p : Nat} (h : Tok t) : (semG Pg49 (m + 1)).call 6 [dRd t p] = (match bitsT t p with
      | [] => .exn 0 (.int p)
      | c :: cs => .ok (.tup (dNs ((c :: cs).map bitN)), [some (dRd t (p + (c :: cs).length))])) := by
  have hl : t.length ≤ 16777216 := h.line
  have hbl : (bitsT t p).length ≤ t.length := by
    have := (List.takeWhile_prefix isBit (l := t.drop p)).length_le
    rw [List.length_drop] at this
    unfold bitsT
    omega
  have h2 : exec (semG Pg49 m) (.whl d6b0w d6b0 []) [some (dRd t p), some (.lst .ow (dNs []))] = .ok (.nx, [some (dRd t (p + (bitsT t p).length)), some (.lst .ow (dNs ((bitsT t p).map bitN)))]) := by
    have hx := ex_whln (g := semG Pg49 m) (c := d6b0w) (b := d6b0) (w := []) (fun k => [some (dRd t (p + k)), some (.lst .ow (dNs (((bitsT t p).take k).map bitN)))]) (bitsT t p).length ?_ (fun k hk => ?_) ?_
    · simpa using hx
    · have := h.len
      exact Nat.lt_of_le_of_lt (show (bitsT t p).length ≤ 1000000 by omega) (by decide)
    · obtain ⟨c, a, b, hb⟩ := bits_at hk
      refine ⟨[some (dRd t (p + k)), some (.lst .ow (dNs (((bitsT t p).take k).map bitN)))], [some (dRd t (p + (k + 1))), some (.lst .ow (dNs (((bitsT t p).take (k + 1)).map bitN)))], ?_, ?_, rfl⟩
      · have h3 := take1_at a
        have h4 := cut_1 (t := t) (p + k)
        rw [h3] at h4
        simp only [Int.natCast_add] at h4
        unfold isBit at hb
        rw [Bool.or_eq_true, beq_iff_eq, beq_iff_eq] at hb
        unfold d6b0w
        rcases hb with rfl | rfl <;> simp! [fo0, fo1, hl, h4, scalD]
      · have hat : atI t ((p : Int) + (k : Int)) = some c := by rw [← Int.natCast_add, atI_nat]; exact a
        have hf := figs_bit hb
        have e : ((bitsT t p).take (k + 1)).map bitN = ((bitsT t p).take k).map bitN ++ [bitN c] := by
          rw [List.take_add_one, b]; simp
        have hk2 : min k (bitsT t p).length < 16777216 := by omega
        rw [e, ← dNs_app]
        unfold d6b0
        simp! [fo0, fo1, fx1, hl, hat, hf, hk2]
        exact ⟨by omega, by simp [dNs]⟩
    · have hn : (t.drop (p + (bitsT t p).length)).take 1 = [] ∨ ∃ c, (t.drop (p + (bitsT t p).length)).take 1 = [c] ∧ isBit c = false := by
        by_cases hq : p + (bitsT t p).length < t.length
        · have a := List.getElem?_eq_getElem hq
          exact .inr ⟨_, take1_at a, bits_end a⟩
        · exact .inl (take1_none (by omega))
      revert hn
      generalize (bitsT t p).length = k
      intro hn
      have h4 := cut_1 (t := t) (p + k)
      simp only [Int.natCast_add] at h4
      unfold d6b0w
      rcases hn with hn | ⟨c, hn, hb⟩
      · rw [hn] at h4
        simp! [fo0, fo1, hl, h4, scalD]
      · rw [hn] at h4
        unfold isBit at hb
        rw [Bool.or_eq_false_iff, beq_eq_false_iff_ne, beq_eq_false_iff_ne] at hb
        simp! [fo0, fo1, hl, h4, scalD, Ne.symm hb.1, Ne.symm hb.2]
  have h1 : exec (semG Pg49 m) (.asg 1 (.lst (es []))) [some (dRd t p), none] = .ok (.nx, [some (dRd t p), some (.lst .ow (dNs []))]) := by simp! [dNs]
  cases hb : bitsT t p with
  | nil =>
    rw [hb] at h2
    refine (call_succ (fd := d6) rfl).trans (run_exn (ρ0 := [some (dRd t p), none]) rfl rfl (blk_nx h1 (blk_nx h2 (blk_exn ?_))))
    simp! [fo1]
  | cons c cs =>
    rw [hb] at h2
    refine (call_succ (fd := d6) rfl).trans (run_rt (ρ0 := [some (dRd t p), none]) (ρ' := [some (dRd t (p + (c :: cs).length)), some (.lst .ow (dNs ((c :: cs).map bitN)))]) rfl rfl (blk_nx h1 (blk_nx h2 (blk_nx (ρ1 := [some (dRd t (p + (c :: cs).length)), some (.lst .ow (dNs ((c :: cs).map bitN)))]) ?_ (blk_rt ?_)))))
    · have : (((cs.length : Int) + 1) == 0) = false := by rw [beq_eq_false_iff_ne]; omega
      simp! [this]
    · simp!
end Ev

/-! k49: _law_match, _law_number, _law_steps. -/
namespace Ev
def dO : Option Nat → D
  | none => .non | some p => .int p
def misK (t : Tx) (p : Nat) (cs : Tx) (k : Nat) : Option D := if (t.drop (p + k)).take 1 = [(cs[k]?).getD 0] then none else some (.int (p + k : Nat))
theorem mis_head {t : Tx} : ∀ {cs : Tx} {p : Nat}, ((List.range cs.length).filterMap (misK t p cs) ++ [D.non])[0]? = some (dO (misT t p cs))
  | [], p => rfl
  | c :: cs, p => by
    have ih := mis_head (t := t) (cs := cs) (p := p + 1)
    rw [List.length_cons, List.range_succ_eq_map, List.filterMap_cons, List.filterMap_map]
    have e : (misK t p (c :: cs) ∘ Nat.succ) = misK t (p + 1) cs := by
      funext k
      simp only [Function.comp, misK, Nat.succ_eq_add_one, List.getElem?_cons_succ]
      rw [show p + (k + 1) = p + 1 + k by omega]
    rw [e, misT]
    by_cases h : (t.drop p).take 1 = [c]
    · rw [show misK t p (c :: cs) 0 = none by simp [misK, h], if_pos h]
      exact ih
    · rw [show misK t p (c :: cs) 0 = some (.int (p : Nat)) by simp [misK, h], if_neg h]
      simp [dO]
theorem match_ok {m : Nat} {t cs : Tx} {p : Nat} (h : Tok t) (hc : ∀ c ∈ cs, c < 1114112) (hn : cs.length ≤ 1000) : (semG Pg49 (m + 1)).call 17 [.str t, .int p, .str cs] = .ok (dO (misT t p cs), [some (.str t), some (.int p), some (.str cs)]) := by
  have hl : t.length ≤ 16777216 := h.line
  have hl2 : cs.length ≤ 16777216 := by omega
  refine (call_succ (fd := d17) rfl).trans (run_rt (ρ0 := [some (.str t), some (.int p), some (.str cs), none]) (ρ' := [some (.str t), some (.int p), some (.str cs), none]) rfl rfl (blk_rt (ret_of ?_)))
  have h1 : ev (semG Pg49 m) d17c0 true [some (.str t), some (.int p), some (.str cs), none] = .ok (.lst .ow ((List.range cs.length).filterMap (misK t p cs)), [some (.str t), some (.int p), some (.str cs), none]) := by
    refine ev_lcm (inj := fun k => .int (k : Nat)) (xs := List.range cs.length) (misK t p cs) (it_rng (by simp! [hl2]) hl2) (by simpa using hl2) (by rfl) (fun k hk => ?_)
    have hk' : k < cs.length := by simpa using hk
    obtain ⟨c, hck⟩ : ∃ c, cs[k]? = some c := ⟨_, List.getElem?_eq_getElem hk'⟩
    have h2 := ok_take h (p + k) 1
    have hcc : Nat.blt c 1114112 = true := by rw [Nat.blt_eq]; exact hc c (List.mem_of_getElem? hck)
    have h4 := cut_1 (t := t) (p + k)
    simp only [Int.natCast_add] at h4
    refine ⟨[some (.str t), some (.int p), some (.str cs), some (.int k)], lcB_if (b := !((t.drop (p + k)).take 1 == [c])) (ρ2 := [some (.str t), some (.int p), some (.str cs), some (.int k)]) (by simp) rfl ?_ (fun e => ?_) (fun e => ?_), rfl⟩
    · simp! [hl, hl2, hck, h2, hcc, h4]
    · have e' : ¬ (t.drop (p + k)).take 1 = [c] := by simpa using e
      exact ⟨.int (p + k : Nat), by simp!, by simp [misK, hck, e']⟩
    · have e' : (t.drop (p + k)).take 1 = [c] := by simpa using e
      exact ⟨by simp [misK, hck, e'], rfl⟩
  have hf : fros ((List.range cs.length).filterMap (misK t p cs)) = true := by
    generalize List.range cs.length = l
    induction l with
    | nil => rfl
    | cons k l ih =>
      rw [List.filterMap_cons]
      cases hk : misK t p cs k with
      | none => exact ih
      | some d =>
        unfold misK at hk
        split at hk
        · cases hk
        · cases hk; simp [fros_cons, ih, fro_int]
  have hlen : ((List.range cs.length).filterMap (misK t p cs)).length < 16777216 := by
    have := List.length_filterMap_le (misK t p cs) (List.range cs.length)
    rw [List.length_range] at this
    omega
  have h3 := mis_head (t := t) (cs := cs) (p := p)
  have h2 : ev (semG Pg49 m) (.bin .add d17c0 (.lst (es [(.k .non)]))) true [some (.str t), some (.int p), some (.str cs), none] = .ok (.lst .ow ((List.range cs.length).filterMap (misK t p cs) ++ [.non]), [some (.str t), some (.int p), some (.str cs), none]) := by
    refine bin_of h1 (y := .lst .ow [.non]) (by simp!) (by rfl) ?_
    rw [b_addl]
    simp [hf, fros, fro, LINE, wr_ow]
    omega
  rw [e_idx, h2, xb_ok]
  simp! [h3]
/-! ### numbers -/
abbrev env18 (t : Tx) (p lo hi : Nat) (e w : Option D) : Env := [some (.str t), some (.int p), some (.int lo), some (.int hi), e, w]
theorem lnumw_t {m : Nat} {t : Tx} {p lo hi k : Nat} (h : Tok t) (hk : k < (wordT t p).length) : (ev (semG Pg49 m) d18b0w true (env18 t p lo hi (some (.int (p + k : Nat))) none)).bind tBl = .ok (true, env18 t p lo hi (some (.int (p + k : Nat))) none) := by
  obtain ⟨c, h1, h2, h3⟩ := word_at hk
  have h4 := lt_of_at h1
  have hl : t.length ≤ 16777216 := h.line
  have h5 : ((p : Int) + (k : Int) < (t.length : Int)) := by omega
  have hat : atI t ((p : Int) + (k : Int)) = some c := by rw [← Int.natCast_add, atI_nat]; exact h1
  have hd : ((p : Int) + (k : Int) - (p : Int) < 6) := by omega
  unfold d18b0w
  simp! [hl, h5, hat, digs_in, h2, hd]
theorem lnumw_f {m : Nat} {t : Tx} {p lo hi : Nat} (h : Tok t) : (ev (semG Pg49 m) d18b0w true (env18 t p lo hi (some (.int (p + (wordT t p).length : Nat))) none)).bind tBl = .ok (false, env18 t p lo hi (some (.int (p + (wordT t p).length : Nat))) none) := by
  have hl : t.length ≤ 16777216 := h.line
  generalize hk : (wordT t p).length = k
  by_cases h5 : p + k < t.length
  · have h5' : ((p : Int) + (k : Int) < (t.length : Int)) := by omega
    have h1 : t[p + k]? = some (t[p + k]) := List.getElem?_eq_getElem h5
    have hat : atI t ((p : Int) + (k : Int)) = some (t[p + k]) := by rw [← Int.natCast_add, atI_nat]; exact h1
    by_cases h6 : k < 6
    · have h2 := word_end (t := t) (p := p) (c := t[p + k]) (by omega) (by rw [hk]; exact h1)
      unfold d18b0w
      simp! [hl, h5', hat, digs_in, h2]
    · have hd : ¬ ((p : Int) + (k : Int) - (p : Int) < 6) := by omega
      have h7 : k ≤ 6 := by have := word_len (t := t) (p := p); omega
      unfold d18b0w
      cases hc : isDig t[p + k] with
      | true => simp! [hl, h5', hat, digs_in, hc, hd]
      | false => simp! [hl, h5', hat, digs_in, hc]
  · have h5' : ¬ ((p : Int) + (k : Int) < (t.length : Int)) := by omega
    unfold d18b0w
    simp! [hl, h5']
theorem lnum_loop {m : Nat} {t : Tx} {p lo hi : Nat} (h : Tok t) : exec (semG Pg49 m) (.whl d18b0w d18b0 []) (env18 t p lo hi (some (.int p)) none) = .ok (.nx, env18 t p lo hi (some (.int (p + (wordT t p).length : Nat))) none) := by
  refine ex_whln (fun k => env18 t p lo hi (some (.int (p + k : Nat))) none) (wordT t p).length ?_ (fun k hk => ⟨_, env18 t p lo hi (some (.int (p + (k + 1) : Nat))) none, lnumw_t h hk, ?_, rfl⟩) (lnumw_f h)
  · have := word_len (t := t) (p := p)
    exact Nat.lt_of_le_of_lt this (by decide)
  · unfold d18b0
    simp!
    omega
theorem lnum_cond {g : G} {t : Tx} {p lo hi : Nat} {e : Option D} : (ev g (.or (.bin .eq (.var 5) (.k (.str []))) (.or (.and (.bin .eq (.idx (.var 5) (.k (.int 0))) (.k (.str [48]))) (.bin .gt (.un .len (.var 5)) (.k (.int 1)))) (.un .not (.chn .le .lt (.var 2) (.un .int (.bin .add (.k (.str [48])) (.var 5))) (.var 3))))) true (env18 t p lo hi e (some (.str (wordT t p))))).bind tBl = .ok (numBad (wordT t p) lo hi, env18 t p lo hi e (some (.str (wordT t p)))) := by
  have hcp := word_cp (t := t) (p := p)
  have hal := word_all (t := t) (p := p)
  have hlen := word_len (t := t) (p := p)
  revert hcp hal hlen
  generalize wordT t p = w
  intro hcp hal hlen
  cases w with
  | nil => simp! [numBad]
  | cons c cs =>
    have hf : figs (48 :: c :: cs) = some ((valT (c :: cs) : Nat) : Int) := figs_all (s := 48 :: c :: cs) (by simp) (by rw [List.all_cons, hal]; rfl)
    have hl1 : cs.length ≤ 16777215 := by simp at hlen; omega
    have hl2 : cs.length ≤ 598 := by simp at hlen; omega
    have hl3 : 1 + (cs.length + 1) ≤ 16777216 := by omega
    have hl4 : cs.length ≤ 16777214 := by omega
    rw [List.all_cons, Bool.and_eq_true] at hcp
    unfold numBad
    by_cases h1 : c = 48
    · subst h1
      by_cases h2 : cs = []
      · subst h2
        by_cases h3 : lo ≤ valT [48]
        · simp! [hcp, hf, h3]
        · simp! [hcp, hf, h3]
      · have h4 : 0 < cs.length := List.length_pos_iff.mpr h2
        have h4i : (1 : Int) < (cs.length : Int) + 1 := by omega
        simp! [hcp, hl1, h4, h4i]
    · have h1' : (c == 48) = false := by simpa using h1
      by_cases h3 : lo ≤ valT (c :: cs)
      · simp! [hcp, hf, h3, h1', h1, hl1, hl2, hl3, hl4]
      · simp! [hcp, hf, h3, h1', h1, hl1, hl2, hl3, hl4]
def dNo (p : Nat) : D := .tup [.str [110, 111], .int p]
theorem lnum_ok {m : Nat} {t : Tx} {p lo hi : Nat} (h : Tok t) : (semG Pg49 (m + 1)).call 18 [.str t, .int p, .int lo, .int hi] = .ok ((match numT t lo hi p with
      | none => dNo p
      | some (v, q) => .tup [.int v, .int q]), [some (.str t), some (.int p), some (.int lo), some (.int hi)]) := by
  have hl : t.length ≤ 16777216 := h.line
  have h1 : exec (semG Pg49 m) (.asg 4 (.var 1)) (env18 t p lo hi none none) = .ok (.nx, env18 t p lo hi (some (.int p)) none) := by simp!
  have h2 := lnum_loop (m := m) (lo := lo) (hi := hi) (p := p) h
  have h3 : exec (semG Pg49 m) (.asg 5 (.slc (.var 0) (.var 1) (.var 4))) (env18 t p lo hi (some (.int (p + (wordT t p).length : Nat))) none) = .ok (.nx, env18 t p lo hi (some (.int (p + (wordT t p).length : Nat))) (some (.str (wordT t p)))) := by simp! [hl, word_cut]
  have hc := lnum_cond (g := semG Pg49 m) (t := t) (p := p) (lo := lo) (hi := hi) (e := some (.int (p + (wordT t p).length : Nat)))
  cases hb : numBad (wordT t p) lo hi with
  | true =>
    rw [hb] at hc
    rw [show numT t lo hi p = none by unfold numT; rw [hb]; rfl]
    refine (call_succ (fd := d18) rfl).trans (run_rt (ρ0 := env18 t p lo hi none none) (ρ' := env18 t p lo hi (some (.int (p + (wordT t p).length : Nat))) (some (.str (wordT t p)))) rfl rfl (blk_nx h1 (blk_nx h2 (blk_nx h3 (blk_rt ?_)))))
    rw [x_ife, hc]
    simp! [dNo]
  | false =>
    rw [hb] at hc
    rw [show numT t lo hi p = some (valT (wordT t p), p + (wordT t p).length) by unfold numT; rw [hb]; rfl]
    refine (call_succ (fd := d18) rfl).trans (run_rt (ρ0 := env18 t p lo hi none none) (ρ' := env18 t p lo hi (some (.int (p + (wordT t p).length : Nat))) (some (.str (wordT t p)))) rfl rfl (blk_nx h1 (blk_nx h2 (blk_nx h3 (blk_nx (ρ1 := env18 t p lo hi (some (.int (p + (wordT t p).length : Nat))) (some (.str (wordT t p)))) ?_ (blk_rt ?_))))))
    · rw [x_ife, hc]
      simp!
    · have hw : wordT t p ≠ [] := by intro e; rw [e] at hb; simp [numBad] at hb
      have hf := figs_all hw word_all
      have hl2 : (wordT t p).length ≤ 600 := Nat.le_trans word_len (by decide)
      simp! [hf, hl2]
end Ev

/-! k49: _law_steps. -/
namespace Ev
inductive Wn where | s (cs : Tx) | n (lo hi : Nat)
def dWn : Wn → D
  | .s cs => .str cs | .n lo hi => .tup [.int (lo : Nat), .int (hi : Nat)]
def okW : Wn → Prop
  | .s cs => (∀ c ∈ cs, c < 1114112) ∧ cs.length ≤ 1000 | .n _ _ => True
/-- numbers and signs, one behind the other -/
def stepsT (t : Tx) : List Wn → Nat → Except Nat (List Nat × Nat)
  | [], p => .ok ([], p)
  | .s cs :: ws, p => (match misT t p cs with | some q => .error q | none => stepsT t ws (p + cs.length))
  | .n lo hi :: ws, p => (match numT t lo hi p with | none => .error p | some (v, q) => (match stepsT t ws q with | .ok (vs, r) => .ok (v :: vs, r) | .error r => .error r))
def dSteps : Except Nat (List Nat × Nat) → D
  | .error q => dNo q
  | .ok (vs, q) => .tup [.lst .sh (dNs vs), .int q]
abbrev env19 (t : Tx) (ws : List Wn) (s : List Nat × Nat) : Env := [some (.str t), some (.int s.2), some (.lst .sh (ws.map dWn)), some (.lst .ow (dNs s.1)), none, none, none]
theorem frz_Wn (w : Wn) : frz (dWn w) = dWn w := by cases w <;> simp [dWn, frz, frzs]
theorem fro_Wn (w : Wn) : fro (dWn w) = true := by cases w <;> simp [dWn, fro, fros]
theorem steps_ok {m : Nat} {t : Tx} {p : Nat} {ws : List Wn} {o : Fl} (h : Tok t) (hw : ∀ w ∈ ws, okW w) (ho : frz (.lst o (ws.map dWn)) = .lst .sh (ws.map dWn)) (hwl : ws.length ≤ 1000) : ∃ rs, (semG Pg49 (m + 2)).call 19 [.str t, .int p, .lst o (ws.map dWn)] = .ok (dSteps (stepsT t ws p), rs) := by
  have hx := ex_forr (g := semG Pg49 (m + 1)) (tg := .nm 4) (it := .seq (.fz 2)) (b := d19b0) (w := [4, 5, 6]) (ρ := [some (.str t), some (.int p), some (.lst o (ws.map dWn)), some (.lst .ow (dNs [])), none, none, none]) (xs := ws) (s0 := ([], p)) (env19 t ws) dWn (fun s as => (∀ w ∈ as, okW w) ∧ s.1.length + as.length ≤ 1000)
    (fun s as r => match stepsT t as s.2 with
      | .error q => ∃ ρ2, r = .ok (.rt (dNo q), ρ2)
      | .ok (vs, q) => r = .ok (.nx, env19 t ws (s.1 ++ vs, q)))
    (it_l (o := .sh) (by simp! [ho]) (fros_map fun w _ => fro_Wn w) rfl) ⟨hw, by simpa using hwl⟩ (fun s hI => by simp [stepsT]) (fun s a as hI => ?_)
  · have h1 : exec (semG Pg49 (m + 1)) (.asg 3 (.lst (es []))) [some (.str t), some (.int p), some (.lst o (ws.map dWn)), none, none, none, none] = .ok (.nx, [some (.str t), some (.int p), some (.lst o (ws.map dWn)), some (.lst .ow (dNs [])), none, none, none]) := by simp! [dNs]
    dsimp only at hx
    cases hs : stepsT t ws p with
    | error q =>
      rw [hs] at hx
      obtain ⟨ρ2, e⟩ := hx
      exact ⟨_, (call_succ (fd := d19) rfl).trans (run_rt (ρ0 := [some (.str t), some (.int p), some (.lst o (ws.map dWn)), none, none, none, none]) rfl rfl (blk_nx h1 (blk_rt e)))⟩
    | ok r =>
      obtain ⟨vs, q⟩ := r
      rw [hs] at hx
      refine ⟨_, (call_succ (fd := d19) rfl).trans (run_rt (ρ0 := [some (.str t), some (.int p), some (.lst o (ws.map dWn)), none, none, none, none]) (ρ' := [some (.str t), some (.int q), some (.lst .sh (ws.map dWn)), some (.lst .sh (dNs vs)), none, none, none]) rfl rfl (blk_nx h1 (blk_nx hx (blk_rt ?_))))⟩
      simp! [dSteps]
  · obtain ⟨hI, hI2⟩ := hI
    obtain ⟨fd, p⟩ := s
    dsimp only at hI2 ⊢
    refine ⟨[some (.str t), some (.int p), some (.lst .sh (ws.map dWn)), some (.lst .ow (dNs fd)), some (dWn a), none, none], by simp! [fro_Wn], ?_⟩
    cases a with
    | s cs =>
      obtain ⟨hc, hcl⟩ := hI (.s cs) (by simp)
      have hl2 : cs.length ≤ 16777216 := by omega
      have hm := match_ok (m := m) (p := p) h hc hcl
      cases hq : misT t p cs with
      | none =>
        rw [hq] at hm
        refine .inl ⟨[some (.str t), some (.int (p + cs.length : Nat)), some (.lst .sh (ws.map dWn)), some (.lst .ow (dNs fd)), some (.str cs), some .non, none], (fd, p + cs.length), ?_, rfl, ⟨fun w hw => hI w (by simp [hw]), by simp at hI2 ⊢; omega⟩, ?_⟩
        · unfold d19b0
          simp! [dWn, hm, dO, hl2]
        · intro r hr
          simp only [stepsT, hq]
          exact hr
      | some q =>
        rw [hq] at hm
        refine .inr (.inl ⟨dNo q, [some (.str t), some (.int p), some (.lst .sh (ws.map dWn)), some (.lst .ow (dNs fd)), some (.str cs), some (.int q), none], ?_, ?_⟩)
        · unfold d19b0
          simp! [dWn, hm, dO, dNo]
        · simp only [stepsT, hq]
          exact ⟨_, rfl⟩
    | n lo hi =>
      have hm := lnum_ok (m := m) (p := p) (lo := lo) (hi := hi) h
      have hfd : fd.length + 1 ≤ 16777216 := by simp at hI2; omega
      have hfd' : fd.length ≤ 16777215 := by omega
      have hfd2 : fd.length < 16777216 := by omega
      cases hq : numT t lo hi p with
      | none =>
        rw [hq] at hm
        refine .inr (.inl ⟨dNo p, [some (.str t), some (.int p), some (.lst .sh (ws.map dWn)), some (.lst .ow (dNs fd)), some (dWn (.n lo hi)), none, some (dNo p)], ?_, ?_⟩)
        · unfold d19b0
          simp! [dWn, hm, dNo]
        · simp only [stepsT, hq]
          exact ⟨_, rfl⟩
      | some v =>
        obtain ⟨v, q⟩ := v
        rw [hq] at hm
        refine .inl ⟨[some (.str t), some (.int q), some (.lst .sh (ws.map dWn)), some (.lst .ow (dNs (fd ++ [v]))), some (dWn (.n lo hi)), none, some (.tup [.int v, .int q])], (fd ++ [v], q), ?_, rfl, ⟨fun w hw => hI w (by simp [hw]), by simp at hI2 ⊢; omega⟩, ?_⟩
        · rw [← dNs_app]
          unfold d19b0
          simp! [dWn, hm, hfd, hfd', hfd2]
          simp [dNs]
        · intro r hr
          simp only [stepsT, hq]
          dsimp only at hr
          cases hs : stepsT t as q with
          | error q' => rw [hs] at hr; exact hr
          | ok r' =>
            rw [hs] at hr
            obtain ⟨vs, r'⟩ := r'
            simpa using hr
end Ev

/-! k49: rows of a text. -/
namespace Ev
theorem numT_some {t : Tx} {lo hi p v q : Nat} (h : numT t lo hi p = some (v, q)) : p < q ∧ q ≤ t.length ∧ lo ≤ v ∧ v < hi := by
  unfold numT at h
  cases hb : numBad (wordT t p) lo hi with
  | true => rw [hb] at h; cases h
  | false =>
    rw [hb] at h
    simp only [Bool.false_eq_true, if_false, Option.some.injEq, Prod.mk.injEq] at h
    obtain ⟨rfl, rfl⟩ := h
    have hw : wordT t p ≠ [] := by intro e; rw [e] at hb; simp [numBad] at hb
    have h0 := List.length_pos_iff.mpr hw
    have h1 := congrArg List.length (word_take (t := t) (p := p))
    rw [List.length_take, List.length_drop] at h1
    have h2 := word_ne hw
    unfold numBad at hb
    simp only [Bool.or_eq_false_iff, Bool.not_eq_false', Bool.and_eq_true, decide_eq_true_eq] at hb
    exact ⟨by omega, by omega, hb.2.2.1, hb.2.2.2⟩
theorem misT_none : ∀ {t : Tx} {cs : Tx} {p : Nat}, misT t p cs = none → cs ≠ [] → p + cs.length ≤ t.length
  | t, [], p, _, h => absurd rfl h
  | t, c :: cs, p, h, _ => by
    rw [misT] at h
    split at h
    · rename_i e
      have hp : p < t.length := by
        apply Decidable.byContradiction
        intro c
        rw [take1_none (by omega)] at e
        cases e
      cases cs with
      | nil => exact hp
      | cons d ds =>
        have := misT_none h (by simp)
        simp only [List.length_cons] at this ⊢
        omega
    · cases h
theorem misT1 {t : Tx} {p c : Nat} : misT t p [c] = if (t.drop p).take 1 = [c] then none else some p := by simp [misT]
def rowW (least N : Nat) : List Wn := [.n least N, .s [32], .n 0 2]
def atW (C T : Nat) : List Wn := [.s [97, 116, 32], .n 0 C, .s [32], .n 0 T]
def hdW : List Wn := [.s [119, 97, 118, 101, 115, 32], .n 1 1000, .s [32], .n 1 1000, .s [32]]
/-- a row of a net: net, bit, the place behind it -/
def rowP (t : Tx) (N : Nat) (here : List Nat) (least p : Nat) : Except Nat (Nat × Nat × Nat) := match stepsT t (rowW least N) p with
  | .error q => .error q
  | .ok (vs, q) => if (here[(vs[0]?).getD 0]?).getD 0 = (vs[1]?).getD 0 then .error p else if (t.drop q).take 1 = [10] then .ok ((vs[0]?).getD 0, (vs[1]?).getD 0, q + 1) else .error q
/-- the steps of a row, one by one -/
theorem row_steps (t : Tx) (N least p : Nat) : (∃ q, stepsT t (rowW least N) p = .error q ∧ ((numT t least N p = none ∧ q = p) ∨ (∃ v p1, numT t least N p = some (v, p1) ∧ ((misT t p1 [32] = some q) ∨ (misT t p1 [32] = none ∧ numT t 0 2 (p1 + 1) = none ∧ q = p1 + 1))))) ∨
    (∃ v p1 b q, stepsT t (rowW least N) p = .ok ([v, b], q) ∧ numT t least N p = some (v, p1) ∧ misT t p1 [32] = none ∧ numT t 0 2 (p1 + 1) = some (b, q)) := by
  unfold rowW
  simp only [stepsT]
  cases h1 : numT t least N p with
  | none => exact .inl ⟨p, rfl, .inl ⟨rfl, rfl⟩⟩
  | some r =>
    obtain ⟨v, p1⟩ := r
    dsimp only
    cases h2 : misT t p1 [32] with
    | some q => exact .inl ⟨q, rfl, .inr ⟨v, p1, rfl, .inl h2⟩⟩
    | none =>
      dsimp only [List.length_cons, List.length_nil]
      cases h3 : numT t 0 2 (p1 + 1) with
      | none => exact .inl ⟨p1 + 1, rfl, .inr ⟨v, p1, rfl, .inr ⟨h2, h3, rfl⟩⟩⟩
      | some r =>
        obtain ⟨b, q⟩ := r
        exact .inr ⟨v, p1, b, q, rfl, rfl, h2, h3⟩
theorem nl_lt {t : Tx} {q : Nat} (h : (t.drop q).take 1 = [10]) : q < t.length := by
  apply Decidable.byContradiction
  intro c
  rw [take1_none (by omega)] at h
  cases h
theorem rowP_ok {t : Tx} {N least p n b q : Nat} {here : List Nat} (h : rowP t N here least p = .ok (n, b, q)) : p < q ∧ q ≤ t.length ∧ least ≤ n ∧ n < N ∧ b < 2 ∧ (here[n]?).getD 0 ≠ b := by
  unfold rowP at h
  rcases row_steps t N least p with ⟨q', e, _⟩ | ⟨v, p1, b', q', e, h1, h2, h3⟩
  · rw [e] at h; cases h
  · rw [e] at h
    dsimp only at h
    simp only [List.getElem?_cons_zero, List.getElem?_cons_succ, Option.getD_some] at h
    split at h
    · cases h
    · rename_i hne
      split at h
      · rename_i hnl
        simp only [Except.ok.injEq, Prod.mk.injEq] at h
        obtain ⟨rfl, rfl, rfl⟩ := h
        have a := numT_some h1
        have b := numT_some h3
        have c := nl_lt hnl
        exact ⟨by omega, by omega, a.2.2.1, a.2.2.2, b.2.2.2, hne⟩
      · cases h
structure InS where
  here : List Nat
  found : List Ch
  p : Nat
  least : Nat
  many : Nat
def innC (t : Tx) (s : InS) : Bool := decide (s.p < t.length) && (s.many == 0 || !(t[s.p]? == some 97))
/-- rows of nets -/
def innP (t : Tx) (N : Nat) (mo : Nat × Nat) : Nat → InS → Except Nat InS
  | 0, s => .ok s
  | f + 1, s => if innC t s = true then (match rowP t N s.here s.least s.p with
      | .error q => .error q
      | .ok (n, b, q) => innP t N mo f ⟨s.here.set n b, s.found ++ [(mo.1, mo.2, n, b)], q, n + 1, s.many + 1⟩) else .ok s
/-! ### the reader goes on -/
section
variable {g : G}
theorem mc_ok {t : Tx} {p q f : Nat} {as : Es} {vw : Bool} {ρt : Env} {ds : List D} {d : D} {rs : List (Option D)} (h1 : evs g as (none :: ρt) = .ok (ds, none :: ρt)) (h2 : g.call f (dRd t p :: ds) = .ok (d, some (dRd t q) :: rs)) (nb : noBor as = true) : ev g (.mcall 0 f (.bor 0) as) vw (some (dRd t p) :: ρt) = .ok (d, some (dRd t q) :: ρt) := by
  rw [e_mcall, e_bor, get0]
  dsimp only
  rw [xb_ok]
  dsimp only
  rw [show insC (dRd t p) 0 = true from rfl, xg_t, show (some (dRd t p) :: ρt).set 0 none = none :: ρt from rfl, h1, xb_ok]
  dsimp only
  rw [h2, xb_ok]
  dsimp only
  rw [show backA (.cons (.bor 0) as) (some (dRd t q) :: rs) (none :: ρt) = backA as rs (some (dRd t q) :: ρt) from rfl, backA_nb nb]
theorem mc_exn {t : Tx} {p f c : Nat} {as : Es} {vw : Bool} {ρt : Env} {ds : List D} {d : D} (h1 : evs g as (none :: ρt) = .ok (ds, none :: ρt)) (h2 : g.call f (dRd t p :: ds) = .exn c d) : ev g (.mcall 0 f (.bor 0) as) vw (some (dRd t p) :: ρt) = .exn c d := by
  rw [e_mcall, e_bor, get0]
  dsimp only
  rw [xb_ok]
  dsimp only
  rw [show insC (dRd t p) 0 = true from rfl, xg_t, show (some (dRd t p) :: ρt).set 0 none = none :: ρt from rfl, h1, xb_ok]
  dsimp only
  rw [h2, xb_exn]
theorem drop_of {e : E} {ρ ρ1 : Env} {d : D} (h : ev g e false ρ = .ok (d, ρ1)) : exec g (.drop e) ρ = .ok (.nx, ρ1) := by
  rw [x_drop, h, xb_ok]
theorem drop_exn {e : E} {ρ : Env} {c : Nat} {d : D} (h : ev g e false ρ = .exn c d) : exec g (.drop e) ρ = .exn c d := by
  rw [x_drop, h, xb_exn]
theorem asg_exn {i : Nat} {e : E} {ρ : Env} {c : Nat} {d : D} (h : ev g e false ρ = .exn c d) : exec g (.asg i e) ρ = .exn c d := by
  rw [x_asg, h, xb_exn]
end
section
variable {m : Nat} {t : Tx}
theorem sg_ok {p : Nat} {cs : Tx} {vw : Bool} {ρt : Env} (h : Tok t) (hc : ∀ c ∈ cs, c < 1114112) (hm : misT t p cs = none) : ev (semG Pg49 (m + 1)) (.mcall 0 4 (.bor 0) (es [(.k (.str cs))])) vw (some (dRd t p) :: ρt) = .ok (.non, some (dRd t (p + cs.length)) :: ρt) := by
  have h2 := signs_ok (m := m) (p := p) h hc
  rw [hm] at h2
  exact mc_ok (by simp!) h2 (by rfl)
theorem sg_exn {p q : Nat} {cs : Tx} {vw : Bool} {ρt : Env} (h : Tok t) (hc : ∀ c ∈ cs, c < 1114112) (hm : misT t p cs = some q) : ev (semG Pg49 (m + 1)) (.mcall 0 4 (.bor 0) (es [(.k (.str cs))])) vw (some (dRd t p) :: ρt) = .exn 0 (.int q) := by
  have h2 := signs_ok (m := m) (p := p) h hc
  rw [hm] at h2
  exact mc_exn (by simp!) h2
theorem nm_ok {p lo hi v q : Nat} {a b : E} {vw : Bool} {ρt : Env} (h : Tok t) (ha : evs (semG Pg49 (m + 1)) (es [a, b]) (none :: ρt) = .ok ([.int lo, .int hi], none :: ρt)) (nb : noBor (es [a, b]) = true) (hm : numT t lo hi p = some (v, q)) : ev (semG Pg49 (m + 1)) (.mcall 0 5 (.bor 0) (es [a, b])) vw (some (dRd t p) :: ρt) = .ok (.int v, some (dRd t q) :: ρt) := by
  have h2 := num_ok (m := m) (p := p) (lo := lo) (hi := hi) h
  rw [hm] at h2
  exact mc_ok ha h2 nb
theorem nm_exn {p lo hi : Nat} {a b : E} {vw : Bool} {ρt : Env} (h : Tok t) (ha : evs (semG Pg49 (m + 1)) (es [a, b]) (none :: ρt) = .ok ([.int lo, .int hi], none :: ρt)) (hm : numT t lo hi p = none) : ev (semG Pg49 (m + 1)) (.mcall 0 5 (.bor 0) (es [a, b])) vw (some (dRd t p) :: ρt) = .exn 0 (.int p) := by
  have h2 := num_ok (m := m) (p := p) (lo := lo) (hi := hi) h
  rw [hm] at h2
  exact mc_exn ha h2
abbrev env8 (t : Tx) (C T : Nat) (BG : List Nat) (mo : Nat × Nat) (x8 x9 : Option D) (s : InS) (x7 x12 x13 : Option D) : Env := [some (dRd t s.p), some (.int C), some (.int T), some (.tup (dNs BG)), some (.lst .ow (dNs s.here)), some (.lst .ow (dChs s.found)), some (.tup [.int (mo.1 : Nat), .int (mo.2 : Nat)]), x7, x8, x9, some (.int s.least), some (.int s.many), x12, x13]
theorem row_read {C T : Nat} {BG : List Nat} {mo : Nat × Nat} {x7 x8 x9 : Option D} {s : InS} (h : Tok t) (hh : s.here.length = BG.length) (hf : s.found.length < LINE) :
    (match rowP t BG.length s.here s.least s.p with
      | .error q => exec (semG Pg49 (m + 1)) d8b0 (env8 t C T BG mo x8 x9 s x7 none none) = .exn 0 (.int q)
      | .ok (n, b, q) => ∃ ρ2, exec (semG Pg49 (m + 1)) d8b0 (env8 t C T BG mo x8 x9 s x7 none none) = .ok (.nx, ρ2) ∧ wipeE ρ2 [7, 12, 13] = env8 t C T BG mo x8 x9 ⟨s.here.set n b, s.found ++ [(mo.1, mo.2, n, b)], q, n + 1, s.many + 1⟩ none none none) := by
  obtain ⟨here, found, p, least, many⟩ := s
  dsimp only at hh hf ⊢
  have h0 : exec (semG Pg49 (m + 1)) (.asg 7 (.fld (.var 0) 1)) (env8 t C T BG mo x8 x9 ⟨here, found, p, least, many⟩ x7 none none) = .ok (.nx, env8 t C T BG mo x8 x9 ⟨here, found, p, least, many⟩ (some (.int p)) none none) := by simp! [fo1]
  have c32 : ∀ c ∈ [32], c < 1114112 := by decide
  have c10 : ∀ c ∈ [10], c < 1114112 := by decide
  unfold rowP
  rcases row_steps t BG.length least p with ⟨q', e, hq⟩ | ⟨v, p1, b, q, e, h1, h2, h3⟩
  · rw [e]
    dsimp only
    refine blk_nx h0 ?_
    rcases hq with ⟨h1, rfl⟩ | ⟨v, p1, h1, hq⟩
    · exact blk_exn (asg_exn (nm_exn h (by simp!) h1))
    · refine blk_nx (asg_of (nm_ok h (by simp!) (by rfl) h1) (by simp)) ?_
      rcases hq with h2 | ⟨h2, h3, rfl⟩
      · exact blk_exn (drop_exn (sg_exn h c32 h2))
      · refine blk_nx (drop_of (sg_ok h c32 h2)) ?_
        exact blk_exn (asg_exn (nm_exn (lo := 0) (hi := 2) h (by simp!) h3))
  · rw [e]
    dsimp only
    simp only [List.getElem?_cons_zero, List.getElem?_cons_succ, Option.getD_some]
    have a := numT_some h1
    have hv : v < here.length := by omega
    obtain ⟨x, hx⟩ : ∃ x, here[v]? = some x := ⟨_, List.getElem?_eq_getElem hv⟩
    rw [hx, Option.getD_some]
    have pre : ∀ r, exec (semG Pg49 (m + 1)) (blk [.ife (.bin .eq (.var 13) (.idx (.var 4) (.var 12))) (blk [.raise 0 (.var 7)]) (blk []), .drop (.mcall 0 4 (.bor 0) (es [(.k (.str [10]))])), .setI (.var 4) (.var 12) (.var 13), .app (.var 5) (.bin .add (.var 6) (.tup (es [(.var 12), (.var 13)]))), .par [10, 11] (es [(.bin .add (.var 12) (.k (.int 1))), (.bin .add (.var 11) (.k (.int 1)))])]) (env8 t C T BG mo x8 x9 ⟨here, found, q, least, many⟩ (some (.int p)) (some (.int v)) (some (.int b))) = r → exec (semG Pg49 (m + 1)) d8b0 (env8 t C T BG mo x8 x9 ⟨here, found, p, least, many⟩ x7 none none) = r := fun r hr =>
      blk_nx h0 (blk_nx (asg_of (nm_ok h (by simp!) (by rfl) h1) (by simp)) (blk_nx (drop_of (sg_ok h c32 h2)) (blk_nx (asg_of (nm_ok (lo := 0) (hi := 2) h (by simp!) (by rfl) h3) (by simp)) hr)))
    by_cases hxb : x = b
    · rw [if_pos hxb]
      refine pre _ (blk_exn ?_)
      simp! [hx, hxb]
    · rw [if_neg hxb]
      have hxb' : ((b : Int) == (x : Int)) = false := by rw [beq_eq_false_iff_ne]; omega
      have i1 : exec (semG Pg49 (m + 1)) (.ife (.bin .eq (.var 13) (.idx (.var 4) (.var 12))) (blk [.raise 0 (.var 7)]) (blk [])) (env8 t C T BG mo x8 x9 ⟨here, found, q, least, many⟩ (some (.int p)) (some (.int v)) (some (.int b))) = .ok (.nx, env8 t C T BG mo x8 x9 ⟨here, found, q, least, many⟩ (some (.int p)) (some (.int v)) (some (.int b))) := by simp! [hx, hxb']
      by_cases hn : (t.drop q).take 1 = [10]
      · rw [if_pos hn]
        dsimp only
        refine ⟨env8 t C T BG mo x8 x9 ⟨here.set v b, found ++ [(mo.1, mo.2, v, b)], q + 1, v + 1, many + 1⟩ (some (.int p)) (some (.int v)) (some (.int b)), pre _ (blk_nx i1 (blk_nx (drop_of (sg_ok h c10 (by rw [misT1, if_pos hn]))) ?_)), rfl⟩
        have hf' : found.length < 16777216 := hf
        have e2 : dChs (found ++ [(mo.1, mo.2, v, b)]) = dChs found ++ [.tup [.int (mo.1 : Nat), .int (mo.2 : Nat), .int (v : Nat), .int (b : Nat)]] := by simp [dChs, dCh]
        simp! [ixN_nat hv, dChs_len, hf', e2]
      · rw [if_neg hn]
        exact pre _ (blk_nx i1 (blk_exn (drop_exn (sg_exn h c10 (by rw [misT1, if_neg hn])))))
end
end Ev

/-! k49: read_rows. -/
namespace Ev
/-- the steps of a moment, one by one -/
theorem at_steps (t : Tx) (C T p : Nat) : (∃ q, stepsT t (atW C T) p = .error q ∧ ((misT t p [97, 116, 32] = some q) ∨ (misT t p [97, 116, 32] = none ∧ ((numT t 0 C (p + 3) = none ∧ q = p + 3) ∨ (∃ v p1, numT t 0 C (p + 3) = some (v, p1) ∧ ((misT t p1 [32] = some q) ∨ (misT t p1 [32] = none ∧ numT t 0 T (p1 + 1) = none ∧ q = p1 + 1))))))) ∨
    (∃ v p1 b q, stepsT t (atW C T) p = .ok ([v, b], q) ∧ misT t p [97, 116, 32] = none ∧ numT t 0 C (p + 3) = some (v, p1) ∧ misT t p1 [32] = none ∧ numT t 0 T (p1 + 1) = some (b, q)) := by
  unfold atW
  simp only [stepsT]
  cases h0 : misT t p [97, 116, 32] with
  | some q => exact .inl ⟨q, rfl, .inl rfl⟩
  | none =>
    dsimp only [List.length_cons, List.length_nil]
    cases h1 : numT t 0 C (p + 3) with
    | none => exact .inl ⟨p + 3, rfl, .inr ⟨rfl, .inl ⟨rfl, rfl⟩⟩⟩
    | some r =>
      obtain ⟨v, p1⟩ := r
      dsimp only
      cases h2 : misT t p1 [32] with
      | some q => exact .inl ⟨q, rfl, .inr ⟨rfl, .inr ⟨v, p1, rfl, .inl h2⟩⟩⟩
      | none =>
        dsimp only [List.length_cons, List.length_nil]
        cases h3 : numT t 0 T (p1 + 1) with
        | none => exact .inl ⟨p1 + 1, rfl, .inr ⟨rfl, .inr ⟨v, p1, rfl, .inr ⟨h2, h3, rfl⟩⟩⟩⟩
        | some r =>
          obtain ⟨b, q⟩ := r
          exact .inr ⟨v, p1, b, q, rfl, rfl, rfl, h2, h3⟩
theorem innP_ok {t : Tx} {N : Nat} {mo : Nat × Nat} : ∀ {f : Nat} {s s' : InS}, s.p ≤ t.length → innP t N mo f s = .ok s' → s.p ≤ s'.p ∧ s'.p ≤ t.length ∧ s'.here.length = s.here.length ∧ s'.found.length + s.p ≤ s.found.length + s'.p ∧ s.many ≤ s'.many
  | 0, s, s', hp, h => by
    simp only [innP, Except.ok.injEq] at h
    subst h
    exact ⟨Nat.le_refl _, hp, rfl, Nat.le_refl _, Nat.le_refl _⟩
  | f + 1, s, s', hp, h => by
    rw [innP] at h
    split at h
    · cases hr : rowP t N s.here s.least s.p with
      | error q => rw [hr] at h; cases h
      | ok r =>
        obtain ⟨n, b, q⟩ := r
        rw [hr] at h
        dsimp only at h
        have a := rowP_ok hr
        obtain ⟨i1, i2, i3, i4, i5⟩ := innP_ok (f := f) (s := ⟨s.here.set n b, s.found ++ [(mo.1, mo.2, n, b)], q, n + 1, s.many + 1⟩) a.2.1 h
        dsimp only at i1 i3 i4 i5
        rw [List.length_set] at i3
        rw [List.length_append] at i4
        simp only [List.length_cons, List.length_nil] at i4
        exact ⟨by omega, i2, i3, by omega, by omega⟩
    · simp only [Except.ok.injEq] at h
      subst h
      exact ⟨Nat.le_refl _, hp, rfl, Nat.le_refl _, Nat.le_refl _⟩
theorem innP_first {t : Tx} {N : Nat} {mo : Nat × Nat} {f : Nat} {s s' : InS} (hp : s.p < t.length) (hm : s.many = 0) (h : innP t N mo (f + 1) s = .ok s') : s.p < s'.p ∧ 0 < s'.many := by
  rw [innP, if_pos (by simp [innC, hp, hm])] at h
  cases hr : rowP t N s.here s.least s.p with
  | error q => rw [hr] at h; cases h
  | ok r =>
    obtain ⟨n, b, q⟩ := r
    rw [hr] at h
    dsimp only at h
    have a := rowP_ok hr
    obtain ⟨i1, i2, i3, i4, i5⟩ := innP_ok (f := f) (s := ⟨s.here.set n b, s.found ++ [(mo.1, mo.2, n, b)], q, n + 1, s.many + 1⟩) a.2.1 h
    dsimp only at i1 i5
    exact ⟨by omega, by omega⟩
def leP (a b : Nat × Nat) : Bool := lexLe [(a.1 : Int), (a.2 : Int)] [(b.1 : Int), (b.2 : Int)]
structure OutS where
  here : List Nat
  found : List Ch
  mo : Nat × Nat
  p : Nat
/-- rows of moments -/
def outP (t : Tx) (C T N : Nat) : Nat → OutS → Except Nat (List Ch)
  | 0, s => .ok s.found
  | f + 1, s => if s.p < t.length then (match stepsT t (atW C T) s.p with
      | .error q => .error q
      | .ok (vs, q) => if leP ((vs[0]?).getD 0, (vs[1]?).getD 0) s.mo = true then .error s.p else if (t.drop q).take 1 = [10] then (if q + 1 = t.length then .error (q + 1) else (match innP t N ((vs[0]?).getD 0, (vs[1]?).getD 0) t.length ⟨s.here, s.found, q + 1, 0, 0⟩ with
        | .error r => .error r
        | .ok s' => outP t C T N f ⟨s'.here, s'.found, ((vs[0]?).getD 0, (vs[1]?).getD 0), s'.p⟩)) else .error q) else .ok s.found
section
variable {m : Nat} {t : Tx}
theorem inn_cond {g : G} {C T : Nat} {BG : List Nat} {mo : Nat × Nat} {x7 x8 x9 : Option D} {s : InS} (h : Tok t) : (ev g d8b0w true (env8 t C T BG mo x8 x9 s x7 none none)).bind tBl = .ok (innC t s, env8 t C T BG mo x8 x9 s x7 none none) := by
  obtain ⟨here, found, p, least, many⟩ := s
  have hl : t.length ≤ 16777216 := h.line
  unfold d8b0w innC
  by_cases h1 : p < t.length
  · have ha := List.getElem?_eq_getElem h1
    have hcc : Nat.blt t[p] 1114112 = true := by rw [Nat.blt_eq]; exact h.cp _ (List.getElem_mem h1)
    by_cases h2 : many = 0
    · simp! [fo0, fo1, hl, h1, h2]
    · have h2' : ((many : Int) == 0) = false := by rw [beq_eq_false_iff_ne]; omega
      have h2'' : (many == 0) = false := by rw [beq_eq_false_iff_ne]; omega
      by_cases h3 : t[p] = 97
      · simp! [fo0, fo1, hl, h1, h2', h2'', ha, h3]
      · have h3' : (t[p] == 97) = false := by rw [beq_eq_false_iff_ne]; exact h3
        simp! [fo0, fo1, hl, h1, h2', h2'', ha, h3', hcc]
  · simp! [fo0, fo1, hl, h1]
theorem inn_read {C T : Nat} {BG : List Nat} {mo : Nat × Nat} {x7 x8 x9 : Option D} {s : InS} (h : Tok t) (hh : s.here.length = BG.length) (hf : s.found.length ≤ s.p) (hp : s.p ≤ t.length) :
    ∀ f, t.length - s.p ≤ f → (match innP t BG.length mo f s with
      | .error q => exec (semG Pg49 (m + 1)) (.whl d8b0w d8b0 [7, 12, 13]) (env8 t C T BG mo x8 x9 s x7 none none) = .exn 0 (.int q)
      | .ok s' => ∃ x7', exec (semG Pg49 (m + 1)) (.whl d8b0w d8b0 [7, 12, 13]) (env8 t C T BG mo x8 x9 s x7 none none) = .ok (.nx, env8 t C T BG mo x8 x9 s' x7' none none)) := by
  refine ex_whlr (g := semG Pg49 (m + 1)) (c := d8b0w) (b := d8b0) (w := [7, 12, 13]) (fun (z : InS × Option D) => env8 t C T BG mo x8 x9 z.1 z.2 none none) (fun z => z.1.here.length = BG.length ∧ z.1.found.length ≤ z.1.p ∧ z.1.p ≤ t.length) (fun z => t.length - z.1.p) (fun z r => ∀ f, t.length - z.1.p ≤ f → (match innP t BG.length mo f z.1 with
      | .error q => r = .exn 0 (.int q)
      | .ok s' => ∃ x7', r = .ok (.nx, env8 t C T BG mo x8 x9 s' x7' none none))) (fun z hI => ?_) (s, x7) ⟨hh, hf, hp⟩ ?_
  · obtain ⟨s, x7⟩ := z
    obtain ⟨hh, hf, hp⟩ := hI
    dsimp only at hh hf hp ⊢
    have hc := inn_cond (g := semG Pg49 (m + 1)) (C := C) (T := T) (BG := BG) (mo := mo) (x7 := x7) (x8 := x8) (x9 := x9) (s := s) h
    cases hi : innC t s with
    | false =>
      rw [hi] at hc
      refine .inl ⟨_, hc, fun f _ => ?_⟩
      have : innP t BG.length mo f s = .ok s := by cases f <;> simp [innP, hi]
      rw [this]
      exact ⟨x7, rfl⟩
    | true =>
      rw [hi] at hc
      refine .inr ⟨_, hc, ?_⟩
      have hlt : s.p < t.length := by
        unfold innC at hi
        rw [Bool.and_eq_true] at hi
        exact of_decide_eq_true hi.1
      have hl := h.len
      have hr := row_read (m := m) (C := C) (T := T) (BG := BG) (mo := mo) (x7 := x7) (x8 := x8) (x9 := x9) (s := s) h hh (by unfold LINE; omega)
      cases hrow : rowP t BG.length s.here s.least s.p with
      | error q =>
        rw [hrow] at hr
        refine .inr (.inr ⟨0, .int q, hr, fun f hf' => ?_⟩)
        obtain ⟨f, rfl⟩ : ∃ f', f = f' + 1 := ⟨f - 1, by omega⟩
        rw [innP, if_pos hi, hrow]
      | ok r =>
        obtain ⟨n, b, q⟩ := r
        rw [hrow] at hr
        obtain ⟨ρ2, e1, e2⟩ := hr
        have a := rowP_ok hrow
        refine .inl ⟨ρ2, (⟨s.here.set n b, s.found ++ [(mo.1, mo.2, n, b)], q, n + 1, s.many + 1⟩, none), e1, e2, ⟨by simpa using hh, by simp; omega, a.2.1⟩, by dsimp only; omega, fun r hr f hf' => ?_⟩
        obtain ⟨f, rfl⟩ : ∃ f', f = f' + 1 := ⟨f - 1, by omega⟩
        rw [innP, if_pos hi, hrow]
        exact hr f (by dsimp only; omega)
  · have := h.len
    exact Nat.lt_of_le_of_lt (show t.length - s.p ≤ 1000000 by omega) (by decide)
abbrev envO (t : Tx) (C T : Nat) (BG : List Nat) (s : OutS) : Env := [some (dRd t s.p), some (.int C), some (.int T), some (.tup (dNs BG)), some (.lst .ow (dNs s.here)), some (.lst .ow (dChs s.found)), some (.tup [.int (s.mo.1 : Nat), .int (s.mo.2 : Nat)]), none, none, none, none, none, none, none]
abbrev envM (t : Tx) (C T : Nat) (BG : List Nat) (s : OutS) (p : Nat) (x7 x8 x9 : Option D) : Env := [some (dRd t p), some (.int C), some (.int T), some (.tup (dNs BG)), some (.lst .ow (dNs s.here)), some (.lst .ow (dChs s.found)), some (.tup [.int (s.mo.1 : Nat), .int (s.mo.2 : Nat)]), x7, x8, x9, none, none, none, none]
theorem out_read1 {C T : Nat} {BG : List Nat} {s : OutS} (h : Tok t) (hh : s.here.length = BG.length) (hf : s.found.length ≤ s.p) :
    (match (match stepsT t (atW C T) s.p with
      | .error q => Except.error q
      | .ok (vs, q) => if leP ((vs[0]?).getD 0, (vs[1]?).getD 0) s.mo = true then .error s.p else if (t.drop q).take 1 = [10] then (if q + 1 = t.length then .error (q + 1) else (match innP t BG.length ((vs[0]?).getD 0, (vs[1]?).getD 0) t.length ⟨s.here, s.found, q + 1, 0, 0⟩ with
        | .error r => .error r
        | .ok s' => .ok (OutS.mk s'.here s'.found ((vs[0]?).getD 0, (vs[1]?).getD 0) s'.p))) else .error q) with
    | .error q => exec (semG Pg49 (m + 1)) d8b1 (envO t C T BG s) = .exn 0 (.int q)
    | .ok s' => (∃ ρ2, exec (semG Pg49 (m + 1)) d8b1 (envO t C T BG s) = .ok (.nx, ρ2) ∧ wipeE ρ2 [7, 8, 9, 10, 11, 12, 13] = envO t C T BG s') ∧ s'.here.length = BG.length ∧ s'.found.length ≤ s'.p ∧ s.p < s'.p ∧ s'.p ≤ t.length) := by
  obtain ⟨here, found, mo, p⟩ := s
  dsimp only at hh hf ⊢
  have h0 : exec (semG Pg49 (m + 1)) (.asg 7 (.fld (.var 0) 1)) (envO t C T BG ⟨here, found, mo, p⟩) = .ok (.nx, envM t C T BG ⟨here, found, mo, p⟩ p (some (.int p)) none none) := by simp! [fo1]
  have c32 : ∀ c ∈ [32], c < 1114112 := by decide
  have c10 : ∀ c ∈ [10], c < 1114112 := by decide
  have cat : ∀ c ∈ [97, 116, 32], c < 1114112 := by decide
  rcases at_steps t C T p with ⟨q', e, hq⟩ | ⟨v, p1, b, q, e, hm0, h1, h2, h3⟩
  · rw [e]
    dsimp only
    refine blk_nx h0 ?_
    rcases hq with hm0 | ⟨hm0, hq⟩
    · exact blk_exn (drop_exn (sg_exn h cat hm0))
    · refine blk_nx (drop_of (sg_ok h cat hm0)) ?_
      rcases hq with ⟨h1, rfl⟩ | ⟨v, p1, h1, hq⟩
      · exact blk_exn (asg_exn (nm_exn (lo := 0) (hi := C) h (by simp!) h1))
      · refine blk_nx (asg_of (nm_ok (lo := 0) (hi := C) h (by simp!) (by rfl) h1) (by simp)) ?_
        rcases hq with h2 | ⟨h2, h3, rfl⟩
        · exact blk_exn (drop_exn (sg_exn h c32 h2))
        · refine blk_nx (drop_of (sg_ok h c32 h2)) (blk_exn (asg_exn ?_))
          have hn := nm_exn (m := m) (p := p1 + 1) (lo := 0) (hi := T) (a := .k (.int 0)) (b := .var 2) (vw := false) (ρt := [some (.int C), some (.int T), some (.tup (dNs BG)), some (.lst .ow (dNs here)), some (.lst .ow (dChs found)), some (.tup [.int (mo.1 : Nat), .int (mo.2 : Nat)]), some (.int p), some (.int v), none, none, none, none, none]) h (by simp!) h3
          rw [e_tup, es_cons, e_var]
          have hv : (match getS (envM t C T BG ⟨here, found, mo, p⟩ (p1 + 1) (some (.int p)) (some (.int v)) none) 8 with | some d => R.guard (false || fro d) (R.ok (d, envM t C T BG ⟨here, found, mo, p⟩ (p1 + 1) (some (.int p)) (some (.int v)) none)) | none => .bad) = .ok (.int v, envM t C T BG ⟨here, found, mo, p⟩ (p1 + 1) (some (.int p)) (some (.int v)) none) := by rfl
          refine (congrArg (fun r => R.bind (R.bind r _) _) hv).trans ?_
          rw [xb_ok]
          dsimp only
          rw [es_cons, hn]
          rfl
  · rw [e]
    dsimp only
    simp only [List.getElem?_cons_zero, List.getElem?_cons_succ, Option.getD_some]
    have a := numT_some h1
    have a3 := numT_some h3
    have a0 := misT_none hm0 (by simp)
    have a2 := misT_none h2 (by simp)
    simp only [List.length_cons, List.length_nil] at a0 a2
    have hn := nm_ok (m := m) (p := p1 + 1) (lo := 0) (hi := T) (v := b) (q := q) (a := .k (.int 0)) (b := .var 2) (vw := false) (ρt := [some (.int C), some (.int T), some (.tup (dNs BG)), some (.lst .ow (dNs here)), some (.lst .ow (dChs found)), some (.tup [.int (mo.1 : Nat), .int (mo.2 : Nat)]), some (.int p), some (.int v), none, none, none, none, none]) h (by simp!) (by rfl) h3
    have h9 : ev (semG Pg49 (m + 1)) (.tup (es [(.var 8), (.mcall 0 5 (.bor 0) (es [(.k (.int 0)), (.var 2)]))])) false (envM t C T BG ⟨here, found, mo, p⟩ (p1 + 1) (some (.int p)) (some (.int v)) none) = .ok (.tup [.int v, .int b], envM t C T BG ⟨here, found, mo, p⟩ q (some (.int p)) (some (.int v)) none) := by
      rw [e_tup, es_cons, e_var]
      have hv : (match getS (envM t C T BG ⟨here, found, mo, p⟩ (p1 + 1) (some (.int p)) (some (.int v)) none) 8 with | some d => R.guard (false || fro d) (R.ok (d, envM t C T BG ⟨here, found, mo, p⟩ (p1 + 1) (some (.int p)) (some (.int v)) none)) | none => .bad) = .ok (.int v, envM t C T BG ⟨here, found, mo, p⟩ (p1 + 1) (some (.int p)) (some (.int v)) none) := by rfl
      refine (congrArg (fun r => R.bind (R.bind r _) _) hv).trans ?_
      rw [xb_ok]
      dsimp only
      rw [es_cons, hn]
      rfl
    have pre : ∀ r, exec (semG Pg49 (m + 1)) (blk [.ife (.bin .le (.var 9) (.var 6)) (blk [.raise 0 (.var 7)]) (blk []), .drop (.mcall 0 4 (.bor 0) (es [(.k (.str [10]))])), .par [6, 10, 11] (es [(.var 9), (.k (.int 0)), (.k (.int 0))]), .whl d8b0w d8b0 [7, 12, 13], .ife (.bin .eq (.var 11) (.k (.int 0))) (blk [.raise 0 (.fld (.var 0) 1)]) (blk [])]) (envM t C T BG ⟨here, found, mo, p⟩ q (some (.int p)) (some (.int v)) (some (.tup [.int v, .int b]))) = r → exec (semG Pg49 (m + 1)) d8b1 (envO t C T BG ⟨here, found, mo, p⟩) = r := fun r hr =>
      blk_nx h0 (blk_nx (drop_of (sg_ok h cat hm0)) (blk_nx (asg_of (nm_ok (lo := 0) (hi := C) h (by simp!) (by rfl) h1) (by simp)) (blk_nx (drop_of (sg_ok h c32 h2)) (blk_nx (asg_of h9 (by simp)) hr))))
    have hcond : (ev (semG Pg49 (m + 1)) (.bin .le (.var 9) (.var 6)) true (envM t C T BG ⟨here, found, mo, p⟩ q (some (.int p)) (some (.int v)) (some (.tup [.int v, .int b])))).bind tBl = .ok (leP (v, b) mo, envM t C T BG ⟨here, found, mo, p⟩ q (some (.int p)) (some (.int v)) (some (.tup [.int v, .int b]))) := by
      have : binD .le (.tup [.int v, .int b]) (.tup [.int (mo.1 : Nat), .int (mo.2 : Nat)]) = some (.bl (leP (v, b) mo)) := rfl
      rw [bin_of (x := .tup [.int v, .int b]) (y := .tup [.int (mo.1 : Nat), .int (mo.2 : Nat)]) (ρ1 := envM t C T BG ⟨here, found, mo, p⟩ q (some (.int p)) (some (.int v)) (some (.tup [.int v, .int b]))) (ρ2 := envM t C T BG ⟨here, found, mo, p⟩ q (some (.int p)) (some (.int v)) (some (.tup [.int v, .int b]))) (by simp!) (by simp!) (by rfl) this]
      rfl
    cases hle : leP (v, b) mo with
    | true =>
      rw [hle] at hcond
      refine pre _ (blk_exn ?_)
      rw [x_ife, hcond]
      simp!
    | false =>
      rw [hle] at hcond
      have i1 : exec (semG Pg49 (m + 1)) (.ife (.bin .le (.var 9) (.var 6)) (blk [.raise 0 (.var 7)]) (blk [])) (envM t C T BG ⟨here, found, mo, p⟩ q (some (.int p)) (some (.int v)) (some (.tup [.int v, .int b]))) = .ok (.nx, envM t C T BG ⟨here, found, mo, p⟩ q (some (.int p)) (some (.int v)) (some (.tup [.int v, .int b]))) := by
        rw [x_ife, hcond]
        rfl
      rw [if_neg (by simp)]
      by_cases hn10 : (t.drop q).take 1 = [10]
      · rw [if_pos hn10]
        have hq1 := nl_lt hn10
        have i2 : exec (semG Pg49 (m + 1)) (.par [6, 10, 11] (es [(.var 9), (.k (.int 0)), (.k (.int 0))])) (envM t C T BG ⟨here, found, mo, p⟩ (q + 1) (some (.int p)) (some (.int v)) (some (.tup [.int v, .int b]))) = .ok (.nx, env8 t C T BG (v, b) (some (.int v)) (some (.tup [.int v, .int b])) ⟨here, found, q + 1, 0, 0⟩ (some (.int p)) none none) := by simp!
        have hin := inn_read (m := m) (C := C) (T := T) (BG := BG) (mo := (v, b)) (x7 := some (.int p)) (x8 := some (.int v)) (x9 := some (.tup [.int v, .int b])) (s := ⟨here, found, q + 1, 0, 0⟩) h hh (by dsimp only; omega) hq1 t.length (by omega)
        have go : ∀ r, exec (semG Pg49 (m + 1)) (blk [.whl d8b0w d8b0 [7, 12, 13], .ife (.bin .eq (.var 11) (.k (.int 0))) (blk [.raise 0 (.fld (.var 0) 1)]) (blk [])]) (env8 t C T BG (v, b) (some (.int v)) (some (.tup [.int v, .int b])) ⟨here, found, q + 1, 0, 0⟩ (some (.int p)) none none) = r → exec (semG Pg49 (m + 1)) d8b1 (envO t C T BG ⟨here, found, mo, p⟩) = r := fun r hr =>
          pre _ (blk_nx i1 (blk_nx (drop_of (sg_ok h c10 (by rw [misT1, if_pos hn10]))) (blk_nx i2 hr)))
        by_cases hend : q + 1 = t.length
        · rw [if_pos hend]
          have hi0 : innP t BG.length (v, b) t.length ⟨here, found, q + 1, 0, 0⟩ = .ok ⟨here, found, q + 1, 0, 0⟩ := by
            rw [← hend, innP]
            have : innC t ⟨here, found, q + 1, 0, 0⟩ = false := by simp [innC, hend]
            rw [this]; rfl
          rw [hi0] at hin
          obtain ⟨x7', hin⟩ := hin
          refine go _ (blk_nx hin (blk_exn ?_))
          simp! [fo1]
        · rw [if_neg hend]
          cases hi : innP t BG.length (v, b) t.length ⟨here, found, q + 1, 0, 0⟩ with
          | error r =>
            rw [hi] at hin
            exact go _ (blk_exn hin)
          | ok s' =>
            rw [hi] at hin
            obtain ⟨x7', hin⟩ := hin
            dsimp only
            obtain ⟨i1', i2', i3', i4', i5'⟩ := innP_ok (s := ⟨here, found, q + 1, 0, 0⟩) hq1 hi
            obtain ⟨f', hf'⟩ : ∃ f', t.length = f' + 1 := ⟨t.length - 1, by omega⟩
            have hfirst := innP_first (t := t) (N := BG.length) (mo := (v, b)) (f := f') (s := ⟨here, found, q + 1, 0, 0⟩) (s' := s') (by dsimp only; omega) rfl (by rw [← hf']; exact hi)
            have j1 : q + 1 ≤ s'.p := i1'
            have j3 : s'.here.length = here.length := i3'
            have j4 : s'.found.length + (q + 1) ≤ found.length + s'.p := i4'
            have j5 : 0 < s'.many := hfirst.2
            have hmany : ((s'.many : Int) == 0) = false := by rw [beq_eq_false_iff_ne]; omega
            refine ⟨⟨env8 t C T BG (v, b) (some (.int v)) (some (.tup [.int v, .int b])) s' x7' none none, go _ (blk_nx hin ?_), rfl⟩, j3.trans hh, by omega, by omega, i2'⟩
            simp! [hmany]
      · rw [if_neg hn10]
        exact pre _ (blk_nx i1 (blk_exn (drop_exn (sg_exn h c10 (by rw [misT1, if_neg hn10])))))
end
end Ev

/-! k49: waves made of changes. -/
namespace Ev
def keyC (T : Nat) (x : Ch) : Nat := x.1 * T + x.2.1
def appl (here : List Nat) (ms : List Ch) : List Nat := ms.foldl (fun h x => h.set x.2.2.1 x.2.2.2) here
structure Good (C T N : Nat) (xs : List Ch) : Prop where
  lt : ∀ x ∈ xs, x.1 < C ∧ x.2.1 < T ∧ x.2.2.1 < N
  so : xs.Pairwise fun a b => keyC T a ≤ keyC T b
def cntC (T : Nat) (xs : List Ch) (k : Nat) : Nat := (xs.filter fun x => decide (keyC T x < k)).length
/-- what nets are after the times before k -/
def hereK (T : Nat) (bg : List Nat) (xs : List Ch) (k : Nat) : List Nat := appl bg (xs.filter fun x => decide (keyC T x < k))
def madeB (T : Nat) (bg : List Nat) (xs : List Ch) (n k : Nat) : Nat := ((hereK T bg xs (k + 1))[n]?).getD 0
theorem appl_len : ∀ {ms : List Ch} {h : List Nat}, (appl h ms).length = h.length
  | [], h => rfl
  | x :: ms, h => by
    have := appl_len (ms := ms) (h := h.set x.2.2.1 x.2.2.2)
    rw [List.length_set] at this
    exact this
theorem appl_app {h : List Nat} {a b : List Ch} : appl h (a ++ b) = appl (appl h a) b := by simp [appl]
theorem hereK_len {T k : Nat} {bg : List Nat} {xs : List Ch} : (hereK T bg xs k).length = bg.length := appl_len
section
variable {T : Nat}
theorem filt_take {k : Nat} : ∀ {xs : List Ch}, (xs.Pairwise fun a b => keyC T a ≤ keyC T b) → (xs.filter fun x => decide (keyC T x < k)) = xs.take (cntC T xs k)
  | [], _ => rfl
  | x :: xs, h => by
    rw [List.pairwise_cons] at h
    have ih := filt_take (k := k) h.2
    unfold cntC at ih ⊢
    by_cases c : keyC T x < k
    · rw [List.filter_cons_of_pos (by simpa using c), List.length_cons, List.take_succ_cons, ← ih]
    · have : (xs.filter fun x => decide (keyC T x < k)) = [] := by
        rw [List.filter_eq_nil_iff]
        intro y hy
        have := h.1 y hy
        simp
        omega
      rw [List.filter_cons_of_neg (by simpa using c), this]
      rfl
theorem cnt_at {k : Nat} : ∀ {xs : List Ch} {i : Nat} {x : Ch}, (xs.Pairwise fun a b => keyC T a ≤ keyC T b) → xs[i]? = some x → (i < cntC T xs k ↔ keyC T x < k)
  | [], i, x, _, h => by simp at h
  | y :: ys, i, x, hs, h => by
    rw [List.pairwise_cons] at hs
    unfold cntC
    by_cases c : keyC T y < k
    · rw [List.filter_cons_of_pos (by simpa using c), List.length_cons]
      cases i with
      | zero => simp at h; subst h; simp [c]
      | succ i =>
        have := cnt_at (k := k) (i := i) (x := x) hs.2 (by simpa using h)
        unfold cntC at this
        omega
    · have e : (ys.filter fun x => decide (keyC T x < k)) = [] := by
        rw [List.filter_eq_nil_iff]
        intro z hz
        have := hs.1 z hz
        simp
        omega
      rw [List.filter_cons_of_neg (by simpa using c), e]
      constructor
      · intro z; simp at z
      · intro z
        exfalso
        cases i with
        | zero => simp at h; subst h; exact c z
        | succ i =>
          have hm : x ∈ ys := List.mem_of_getElem? (by simpa using h)
          have := hs.1 x hm
          omega
theorem cnt_le {k : Nat} {xs : List Ch} : cntC T xs k ≤ xs.length := List.length_filter_le _ _
theorem cnt_mono {k : Nat} {xs : List Ch} : cntC T xs k ≤ cntC T xs (k + 1) := by
  unfold cntC
  induction xs with
  | nil => exact Nat.le_refl _
  | cons x xs ih =>
    rw [List.filter_cons, List.filter_cons]
    by_cases c : keyC T x < k
    · have c2 : keyC T x < k + 1 := by omega
      simp [c, c2]; exact ih
    · by_cases c2 : keyC T x < k + 1
      · simp [c, c2]; omega
      · simp [c, c2]; exact ih
theorem filt_next {k : Nat} : ∀ {xs : List Ch}, (xs.Pairwise fun a b => keyC T a ≤ keyC T b) → (xs.filter fun x => decide (keyC T x < k + 1)) = (xs.filter fun x => decide (keyC T x < k)) ++ xs.filter fun x => decide (keyC T x = k)
  | [], _ => rfl
  | x :: xs, h => by
    rw [List.pairwise_cons] at h
    have ih := filt_next (k := k) h.2
    by_cases c : keyC T x < k
    · rw [List.filter_cons_of_pos (by simp; omega), List.filter_cons_of_pos (by simpa using c), List.filter_cons_of_neg (by simp; omega), ih]
      rfl
    · have e : (xs.filter fun x => decide (keyC T x < k)) = [] := by
        rw [List.filter_eq_nil_iff]
        intro z hz
        have := h.1 z hz
        simp
        omega
      rw [e, List.nil_append] at ih
      rw [List.filter_cons_of_neg (l := xs) (p := fun x => decide (keyC T x < k)) (by simpa using c), e, List.nil_append]
      by_cases c2 : keyC T x = k
      · rw [List.filter_cons_of_pos (by simp; omega), List.filter_cons_of_pos (by simpa using c2), ih]
      · rw [List.filter_cons_of_neg (by simp; omega), List.filter_cons_of_neg (by simpa using c2), ih]
theorem hereK_next {k : Nat} {bg : List Nat} {xs : List Ch} (h : xs.Pairwise fun a b => keyC T a ≤ keyC T b) : hereK T bg xs (k + 1) = appl (hereK T bg xs k) (xs.filter fun x => decide (keyC T x = k)) := by
  unfold hereK
  rw [filt_next h, appl_app]
theorem key_eq {a b c d : Nat} (hb : b < T) (hd : d < T) : a * T + b = c * T + d ↔ a = c ∧ b = d := by
  constructor
  · intro h
    have h1 : (a * T + b) / T = (c * T + d) / T := by rw [h]
    rw [Nat.mul_comm a, Nat.mul_comm c, Nat.mul_add_div (by omega), Nat.mul_add_div (by omega), Nat.div_eq_of_lt hb, Nat.div_eq_of_lt hd] at h1
    have h2 : a = c := by omega
    subst h2
    omega
  · rintro ⟨rfl, rfl⟩; rfl
end
theorem dChs_get {l : List Ch} {i : Nat} : (dChs l)[i]? = (l[i]?).map dCh := by simp [dChs]
theorem cut_2 {α : Type} {t : List α} : cut t none (some 2) = t.take 2 := cut_to 2
section
variable {g : G} {C T : Nat} {bg : List Nat} {xs : List Ch}
/-- rows of nets at a time -/
def rowD (T : Nat) (b : Nat → Nat → Nat) (c t n : Nat) : D := .lst .ow ((List.range n).map fun i => .lst .ow (dNs ((List.range t).map fun u => b i (c * T + u))))
def rowsD (T : Nat) (b : Nat → Nat → Nat) (N c t n : Nat) : D := .lst .ow ((List.range N).map fun i => .lst .ow (dNs ((List.range (if i < n then t + 1 else t)).map fun u => b i (c * T + u))))
theorem rows_next {b : Nat → Nat → Nat} {N c t : Nat} : rowsD T b N c t N = rowsD T b N c (t + 1) 0 := by
  unfold rowsD
  congr 1
  exact map_range_congr fun i hi => by simp [hi]
theorem rows_frz {b : Nat → Nat → Nat} {N c : Nat} : frz (rowsD T b N c T 0) = dC N T b c := by
  unfold rowsD dC
  rw [frz_ow, frzs_map (g := fun n => .lst .sh (dNs ((List.range T).map fun t => b n (c * T + t)))) (fun i _ => by simp [frz_ow, dNs_frzs])]
abbrev env1 (C T : Nat) (bg : List Nat) (xs : List Ch) (c : Option D) (here : List Nat) (F : List D) (at' : Nat) (rows t n : Option D) : Env := [some (.int C), some (.int T), some (.tup (dNs bg)), some (.tup (dChs xs)), c, some (.lst .ow (dNs here)), some (.lst .ow F), some (.int at'), rows, t, n]
theorem told_while {c t : Nat} {F : List D} {R : Option D} (hg : Good C T bg.length xs) (hc : c < C) (ht : t < T) (hx : xs.length ≤ 10000000) :
    exec g (.whl d1b0w d1b0 []) (env1 C T bg xs (some (.int c)) (hereK T bg xs (c * T + t)) F (cntC T xs (c * T + t)) R (some (.int t)) none) = .ok (.nx, env1 C T bg xs (some (.int c)) (hereK T bg xs (c * T + t + 1)) F (cntC T xs (c * T + t + 1)) R (some (.int t)) none) := by
  have hm := cnt_mono (T := T) (k := c * T + t) (xs := xs)
  have hle := cnt_le (T := T) (k := c * T + t + 1) (xs := xs)
  have hH : ∀ k, hereK T bg xs k = appl bg (xs.take (cntC T xs k)) := fun k => by unfold hereK; rw [filt_take hg.so]
  rw [hH, hH]
  have h := ex_whln (g := g) (c := d1b0w) (b := d1b0) (w := []) (fun j => env1 C T bg xs (some (.int c)) (appl bg (xs.take (cntC T xs (c * T + t) + j))) F (cntC T xs (c * T + t) + j) R (some (.int t)) none) (cntC T xs (c * T + t + 1) - cntC T xs (c * T + t)) (Nat.lt_of_le_of_lt (show _ ≤ 10000000 by omega) (by decide)) (fun j hj => ?_) ?_
  · rw [Nat.add_zero, show cntC T xs (c * T + t) + (cntC T xs (c * T + t + 1) - cntC T xs (c * T + t)) = cntC T xs (c * T + t + 1) by omega] at h
    exact h
  · have hi : cntC T xs (c * T + t) + j < xs.length := by omega
    obtain ⟨x, hx1⟩ : ∃ x, xs[cntC T xs (c * T + t) + j]? = some x := ⟨_, List.getElem?_eq_getElem hi⟩
    have k1 := (cnt_at (k := c * T + t + 1) hg.so hx1).1 (by omega)
    have k2 : ¬ keyC T x < c * T + t := fun z => by have := (cnt_at (k := c * T + t) hg.so hx1).2 z; omega
    obtain ⟨b1, b2, b3⟩ := hg.lt x (List.mem_of_getElem? hx1)
    obtain ⟨e1, e2⟩ := (key_eq (T := T) (a := x.1) (b := x.2.1) (c := c) (d := t) b2 ht).1 (by unfold keyC at k1 k2; omega)
    have hap : appl bg (xs.take (cntC T xs (c * T + t) + (j + 1))) = (appl bg (xs.take (cntC T xs (c * T + t) + j))).set x.2.2.1 x.2.2.2 := by
      rw [← Nat.add_assoc, List.take_add_one, hx1, appl_app]
      rfl
    have hn : x.2.2.1 < (appl bg (xs.take (cntC T xs (c * T + t) + j))).length := by rw [appl_len]; exact b3
    refine ⟨env1 C T bg xs (some (.int c)) (appl bg (xs.take (cntC T xs (c * T + t) + j))) F (cntC T xs (c * T + t) + j) R (some (.int t)) none, env1 C T bg xs (some (.int c)) (appl bg (xs.take (cntC T xs (c * T + t) + (j + 1)))) F (cntC T xs (c * T + t) + (j + 1)) R (some (.int t)) none, ?_, ?_, rfl⟩
    · have hlt : ((cntC T xs (c * T + t) : Int) + (j : Int) < (xs.length : Int)) := by omega
      revert hx1 hlt
      generalize appl bg (xs.take (cntC T xs (c * T + t) + j)) = hh
      rw [← Int.natCast_add]
      generalize cntC T xs (c * T + t) + j = i
      intro hx1 hlt
      have hlt' : i < xs.length := by omega
      unfold d1b0w
      simp! [dChs_len, hlt', dChs_get, hx1, dCh, cut_2, e1, e2]
    · rw [hap]
      revert hx1 hn
      generalize appl bg (xs.take (cntC T xs (c * T + t) + j)) = hh
      rw [← Nat.add_assoc]
      generalize cntC T xs (c * T + t) + j = i
      intro hx1 hn
      unfold d1b0
      simp! [dChs_get, hx1, dCh, ixN_nat hn]
  · rw [show cntC T xs (c * T + t) + (cntC T xs (c * T + t + 1) - cntC T xs (c * T + t)) = cntC T xs (c * T + t + 1) by omega]
    generalize hi : cntC T xs (c * T + t + 1) = i
    generalize appl bg (xs.take i) = hh
    by_cases hlt : i < xs.length
    · obtain ⟨x, hx1⟩ : ∃ x, xs[i]? = some x := ⟨_, List.getElem?_eq_getElem hlt⟩
      have k1 : ¬ keyC T x < c * T + t + 1 := fun z => by have := (cnt_at (k := c * T + t + 1) hg.so hx1).2 z; omega
      obtain ⟨b1, b2, b3⟩ := hg.lt x (List.mem_of_getElem? hx1)
      have hne : (((x.1 : Nat) : Int) == (c : Int) && ((x.2.1 : Nat) : Int) == (t : Int)) = false := by
        rw [Bool.eq_false_iff]
        intro z
        simp only [Bool.and_eq_true, beq_iff_eq] at z
        apply k1
        unfold keyC
        have z1 : x.1 = c := by omega
        have z2 : x.2.1 = t := by omega
        rw [z1, z2]
        omega
      unfold d1b0w
      simp! [dChs_len, hlt, dChs_get, hx1, dCh, cut_2, hne]
    · unfold d1b0w
      simp! [dChs_len, hlt]
theorem rows_set {b : Nat → Nat → Nat} {N c t n : Nat} (hn : n < N) : ((List.range N).map fun i => D.lst .ow (dNs ((List.range (if i < n then t + 1 else t)).map fun u => b i (c * T + u)))).set n (.lst .ow (dNs ((List.range t).map fun u => b n (c * T + u)) ++ [.int (b n (c * T + t) : Nat)])) = (List.range N).map fun i => D.lst .ow (dNs ((List.range (if i < n + 1 then t + 1 else t)).map fun u => b i (c * T + u))) := by
  rw [set_range]
  refine map_range_congr fun i hi => ?_
  by_cases h : i = n
  · subst h
    rw [if_pos rfl, if_pos (by omega), List.range_succ, List.map_append, ← dNs_app]
    rfl
  · rw [if_neg h]
    by_cases h2 : i < n
    · rw [if_pos h2, if_pos (by omega)]
    · rw [if_neg h2, if_neg (by omega)]
theorem rows_at {b : Nat → Nat → Nat} {N c t n : Nat} (hn : n < N) : ((List.range N).map fun i => D.lst .ow (dNs ((List.range (if i < n then t + 1 else t)).map fun u => b i (c * T + u))))[n]? = some (.lst .ow (dNs ((List.range t).map fun u => b n (c * T + u)))) := by
  simp [hn]
theorem rows_len {b : Nat → Nat → Nat} {N c t n : Nat} : ((List.range N).map fun i => D.lst .ow (dNs ((List.range (if i < n then t + 1 else t)).map fun u => b i (c * T + u)))).length = N := by simp
/-- each net's row grows: waves_told -/
theorem rows1 {b : Nat → Nat → Nat} {c t at' : Nat} {hh : List Nat} {F : List D} (hN : bg.length ≤ LINE) (hT : t < 16777216) (hb : ∀ n, n < bg.length → hh[n]? = some (b n (c * T + t))) :
    exec g (.fore (.nm 10) (.rng (.un .len (.var 2))) d1b1 [10]) (env1 C T bg xs (some (.int c)) hh F at' (some (rowsD T b bg.length c t 0)) (some (.int t)) none) = .ok (.nx, env1 C T bg xs (some (.int c)) hh F at' (some (rowsD T b bg.length c (t + 1) 0)) (some (.int t)) none) := by
  have h := ex_fork (g := g) (tg := .nm 10) (it := .rng (.un .len (.var 2))) (b := d1b1) (w := [10]) (ρ := env1 C T bg xs (some (.int c)) hh F at' (some (rowsD T b bg.length c t 0)) (some (.int t)) none) (xs := List.range bg.length) (fun n => .int (n : Nat)) (fun n => env1 C T bg xs (some (.int c)) hh F at' (some (rowsD T b bg.length c t n)) (some (.int t)) none)
    (it_rng (by simp!) hN) (fun n a hn => ?_)
  · rw [List.length_range, rows_next] at h
    exact h
  · obtain ⟨hn', rfl⟩ := rng_get hn
    refine ⟨env1 C T bg xs (some (.int c)) hh F at' (some (rowsD T b bg.length c t n)) (some (.int t)) (some (.int n)), env1 C T bg xs (some (.int c)) hh F at' (some (rowsD T b bg.length c t (n + 1))) (some (.int t)) (some (.int n)), rfl, ?_, rfl⟩
    unfold d1b1 rowsD
    have h1 := rows_at (T := T) (b := b) (c := c) (t := t) hn'
    have h2 := rows_set (T := T) (b := b) (c := c) (t := t) hn'
    have h3 := rows_len (T := T) (b := b) (N := bg.length) (c := c) (t := t) (n := n)
    rw [← h2]
    revert h1 h3
    generalize ((List.range bg.length).map fun i => D.lst .ow (dNs ((List.range (if i < n then t + 1 else t)).map fun u => b i (c * T + u)))) = RR
    intro h1 h3
    have h4 := hb n hn'
    simp! [h1, h4, h3, ixN_nat hn', hT]
theorem time1 {c t : Nat} {F : List D} (hg : Good C T bg.length xs) (hc : c < C) (ht : t < T) (hx : xs.length ≤ 10000000) (hN : bg.length ≤ LINE) (hT : T ≤ LINE) :
    exec g d1b2 (env1 C T bg xs (some (.int c)) (hereK T bg xs (c * T + t)) F (cntC T xs (c * T + t)) (some (rowsD T (madeB T bg xs) bg.length c t 0)) (some (.int t)) none) = .ok (.nx, env1 C T bg xs (some (.int c)) (hereK T bg xs (c * T + t + 1)) F (cntC T xs (c * T + t + 1)) (some (rowsD T (madeB T bg xs) bg.length c (t + 1) 0)) (some (.int t)) none) := by
  refine blk_nx (told_while hg hc ht hx) (blk_nx (rows1 (b := madeB T bg xs) hN (by unfold LINE at hT; omega) (fun n hn => ?_)) rfl)
  have hl : n < (hereK T bg xs (c * T + t + 1)).length := by rw [hereK_len]; exact hn
  unfold madeB
  rw [List.getElem?_eq_getElem hl]
  rfl
theorem cycle1 {c : Nat} (hg : Good C T bg.length xs) (hc : c < C) (hx : xs.length ≤ 10000000) (hN : bg.length ≤ LINE) (hT : T ≤ LINE) (hC : C ≤ LINE) :
    ∃ ρ2, exec g d1b3 (env1 C T bg xs (some (.int c)) (hereK T bg xs (c * T)) ((List.range c).map (dC bg.length T (madeB T bg xs))) (cntC T xs (c * T)) none none none) = .ok (.nx, ρ2) ∧ wipeE ρ2 [4, 8, 9, 10] = env1 C T bg xs none (hereK T bg xs ((c + 1) * T)) ((List.range (c + 1)).map (dC bg.length T (madeB T bg xs))) (cntC T xs ((c + 1) * T)) none none none := by
  have hr : rowsD T (madeB T bg xs) bg.length c 0 0 = .lst .ow ((List.range bg.length).map fun _ => .lst .ow []) := by
    unfold rowsD
    congr 1
  have h0 : ev g d1c0 false (env1 C T bg xs (some (.int c)) (hereK T bg xs (c * T)) ((List.range c).map (dC bg.length T (madeB T bg xs))) (cntC T xs (c * T)) none none none) = .ok (rowsD T (madeB T bg xs) bg.length c 0 0, env1 C T bg xs (some (.int c)) (hereK T bg xs (c * T)) ((List.range c).map (dC bg.length T (madeB T bg xs))) (cntC T xs (c * T)) none none none) := by
    rw [hr, show (List.range bg.length).map (fun _ => D.lst .ow []) = bg.map (fun _ => D.lst .ow []) by rw [List.map_const', List.map_const', List.length_range]]
    refine ev_lca (inj := fun (x : Nat) => .int (x : Nat)) (xs := bg) (fun _ => .lst .ow []) (it_t (xs := dNs bg) (by simp!) dNs_fros) hN (by rfl) (fun x _ => ⟨env1 C T bg xs (some (.int c)) (hereK T bg xs (c * T)) ((List.range c).map (dC bg.length T (madeB T bg xs))) (cntC T xs (c * T)) none none (some (.int x)), env1 C T bg xs (some (.int c)) (hereK T bg xs (c * T)) ((List.range c).map (dC bg.length T (madeB T bg xs))) (cntC T xs (c * T)) none none (some (.int x)), rfl, by simp!, rfl⟩)
  have h := ex_fork (g := g) (tg := .nm 9) (it := .rng (.var 1)) (b := d1b2) (w := [9, 10]) (ρ := env1 C T bg xs (some (.int c)) (hereK T bg xs (c * T)) ((List.range c).map (dC bg.length T (madeB T bg xs))) (cntC T xs (c * T)) (some (rowsD T (madeB T bg xs) bg.length c 0 0)) none none) (xs := List.range T) (fun n => .int (n : Nat)) (fun t => env1 C T bg xs (some (.int c)) (hereK T bg xs (c * T + t)) ((List.range c).map (dC bg.length T (madeB T bg xs))) (cntC T xs (c * T + t)) (some (rowsD T (madeB T bg xs) bg.length c t 0)) none none)
    (it_rng (by simp!) hT) (fun t a ht => ?_)
  · rw [List.length_range, ← Nat.succ_mul] at h
    refine ⟨env1 C T bg xs (some (.int c)) (hereK T bg xs ((c + 1) * T)) ((List.range (c + 1)).map (dC bg.length T (madeB T bg xs))) (cntC T xs ((c + 1) * T)) (some (dC bg.length T (madeB T bg xs) c)) none none, blk_nx (asg_of h0 (by simp)) (blk_nx h (blk_nx ?_ rfl)), rfl⟩
    have hlt : c < 16777216 := by unfold LINE at hC; omega
    have hlt2 : ((List.range c).map (dC bg.length T (madeB T bg xs))).length < LINE := by simpa using hlt
    rw [List.range_succ, List.map_append]
    revert hlt2
    generalize (List.range c).map (dC bg.length T (madeB T bg xs)) = FF
    intro hlt2
    simp! [rows_frz, hlt2]
  · obtain ⟨ht', rfl⟩ := rng_get ht
    exact ⟨_, _, rfl, time1 hg hc ht' hx hN hT, rfl⟩
/-- waves_told -/
theorem waves_ok {m : Nat} (hg : Good C T bg.length xs) (hx : xs.length ≤ 10000000) (hN : bg.length ≤ LINE) (hT : T ≤ LINE) (hC : C ≤ LINE) :
    ∃ rs, (semG Pg49 (m + 1)).call 1 [.int C, .int T, .tup (dNs bg), .tup (dChs xs)] = .ok (dW C bg.length T (madeB T bg xs), rs) := by
  have h0 : hereK T bg xs (0 * T) = bg := by
    unfold hereK
    rw [show (xs.filter fun x => decide (keyC T x < 0 * T)) = [] by rw [List.filter_eq_nil_iff]; intro x _; simp]
    rfl
  have h1 : cntC T xs (0 * T) = 0 := by
    unfold cntC
    rw [show (xs.filter fun x => decide (keyC T x < 0 * T)) = [] by rw [List.filter_eq_nil_iff]; intro x _; simp]
    rfl
  have h := ex_fork (g := semG Pg49 m) (tg := .nm 4) (it := .rng (.var 0)) (b := d1b3) (w := [4, 8, 9, 10]) (ρ := env1 C T bg xs none bg [] 0 none none none) (xs := List.range C) (fun n => .int (n : Nat)) (fun c => env1 C T bg xs none (hereK T bg xs (c * T)) ((List.range c).map (dC bg.length T (madeB T bg xs))) (cntC T xs (c * T)) none none none)
    (by rw [h0, h1]; exact it_rng (by simp!) hC) (fun c a hc => ?_)
  · rw [List.length_range] at h
    refine ⟨_, (call_succ (fd := d1) rfl).trans (run_rt (ρ0 := [some (.int C), some (.int T), some (.tup (dNs bg)), some (.tup (dChs xs)), none, none, none, none, none, none, none]) rfl rfl (blk_nx (ρ1 := env1 C T bg xs none bg [] 0 none none none) (by simp!) (blk_nx h (blk_rt (ret_of (ρ1 := [some (.int C), some (.int T), some (.tup (dNs bg)), some (.tup (dChs xs)), none, some (.lst .ow (dNs (hereK T bg xs (C * T)))), some (dW C bg.length T (madeB T bg xs)), some (.int (cntC T xs (C * T))), none, none, none]) ?_)))))⟩
    have hf : frzs ((List.range C).map (dC bg.length T (madeB T bg xs))) = (List.range C).map (dC bg.length T (madeB T bg xs)) := frzs_map fun c _ => frzC c
    simp! [hf, dW]
  · obtain ⟨hc', rfl⟩ := rng_get hc
    obtain ⟨ρ2, e1, e2⟩ := cycle1 (g := semG Pg49 m) hg hc' hx hN hT hC
    exact ⟨_, ρ2, rfl, e1, e2⟩
end
end Ev

/-! k49: _law_made. -/
namespace Ev
structure IsBg (BG : D) (bg : List Nat) : Prop where
  lst : unD .list BG = some (.lst .ow (dNs bg))
  len : unD .len BG = some (.int bg.length)
  frz : frz BG = BG
  fro : fro BG = true
  it : ∀ {g : G} {i : Nat} {ρ : Env}, getS ρ i = some BG → ρ.set i (some BG) = ρ → evI g (.seq (.fz i)) ρ = .ok (dNs bg, ρ)
theorem isBg_tup {bg : List Nat} : IsBg (.tup (dNs bg)) bg where
  lst := by simp [u_lst, dNs_fros]
  len := by simp [u_lent, dNs_len]
  frz := by simp [frz_tup, dNs_frzs]
  fro := by simp [fro_tup, dNs_fros]
  it := fun {g i ρ} h h2 => it_t (by rw [e_fz, h]; dsimp only; rw [frz_tup, dNs_frzs, h2]) dNs_fros
theorem isBg_sh {bg : List Nat} : IsBg (.lst .sh (dNs bg)) bg where
  lst := by simp [u_lsl, dNs_fros]
  len := by simp [u_lenl, dNs_len]
  frz := by simp [frz_sh, dNs_frzs]
  fro := by simp [fro_sh, dNs_fros]
  it := fun {g i ρ} h h2 => it_l (o := .sh) (by rw [e_fz, h]; dsimp only; rw [frz_sh, dNs_frzs, h2]) dNs_fros rfl
def flO : Nat → Fl
  | 0 => .ow | _ + 1 => .sh
theorem flO_frz {k : Nat} {xs : List Ch} : frz (.lst (flO k) (dChs xs)) = .lst .sh (dChs xs) := by
  cases k with
  | zero => simp [flO, frz_ow, dChs_frzs]
  | succ k => simp [flO, frz_sh, dChs_frzs]
section
variable {g : G} {C T : Nat} {bg : List Nat} {xs : List Ch} {BG MV : D}
abbrev env21 (C T : Nat) (BG MV : D) (xs : List Ch) (c : Option D) (here : List Nat) (F : List D) (o : Fl) (rows t mv n : Option D) : Env := [some (.int C), some (.int T), some BG, some MV, c, some (.lst .ow (dNs here)), some (.lst .ow F), some (.lst o (dChs xs)), rows, t, mv, n, none]
theorem left_ok {c t k : Nat} {here : List Nat} {F : List D} {R : Option D} {vw : Bool} (hg : Good C T bg.length xs) (ht : t < T) (hx : xs.length ≤ 10000000) :
    ev g d21c1 vw (env21 C T BG MV xs (some (.int c)) here F (flO k) R (some (.int t)) none none) = .ok (.lst .ow (dChs (xs.filter fun x => decide (keyC T x = c * T + t))), env21 C T BG MV xs (some (.int c)) here F .sh R (some (.int t)) none none) := by
  have hfm : dChs (xs.filter fun x => decide (keyC T x = c * T + t)) = xs.filterMap fun x => if keyC T x = c * T + t then some (dCh x) else none := by
    unfold dChs
    clear hg hx
    induction xs with
    | nil => rfl
    | cons x xs ih =>
      by_cases h : keyC T x = c * T + t
      · rw [List.filter_cons_of_pos (by simpa using h), List.map_cons, ih, List.filterMap_cons, if_pos h]
      · rw [List.filter_cons_of_neg (by simpa using h), ih, List.filterMap_cons, if_neg h]
  rw [hfm]
  refine ev_lcm (inj := dCh) (xs := xs) (ρ1 := env21 C T BG MV xs (some (.int c)) here F .sh R (some (.int t)) none none) _ (it_l (o := .sh) (xs := dChs xs) (by simp! [flO_frz]) dChs_fros rfl) (Nat.le_trans hx (by decide)) (by rfl) (fun x hxm => ?_)
  obtain ⟨b1, b2, b3⟩ := hg.lt x hxm
  refine ⟨[some (.int C), some (.int T), some BG, some MV, some (.int c), some (.lst .ow (dNs here)), some (.lst .ow F), some (.lst .sh (dChs xs)), R, some (.int t), none, none, some (dCh x)], lcB_if (b := decide (keyC T x = c * T + t)) (ρ2 := [some (.int C), some (.int T), some BG, some MV, some (.int c), some (.lst .ow (dNs here)), some (.lst .ow F), some (.lst .sh (dChs xs)), R, some (.int t), none, none, some (dCh x)]) (by simp) rfl ?_ (fun e => ?_) (fun e => ?_), rfl⟩
  · have hk := key_eq (T := T) (a := x.1) (b := x.2.1) (c := c) (d := t) b2 ht
    have he : (((x.1 : Nat) : Int) == (c : Int) && ((x.2.1 : Nat) : Int) == (t : Int)) = decide (keyC T x = c * T + t) := by
      rw [Bool.eq_iff_iff, Bool.and_eq_true, beq_iff_eq, beq_iff_eq, decide_eq_true_eq]
      unfold keyC
      rw [hk]
      omega
    simp! [dCh, cut_2, he]
  · have e' : keyC T x = c * T + t := by simpa using e
    exact ⟨dCh x, by simp! [fro_dCh], by simp [e']⟩
  · have e' : ¬ keyC T x = c * T + t := by simpa using e
    exact ⟨by simp [e'], rfl⟩
theorem move_loop {c t k : Nat} {here : List Nat} {F : List D} {R : Option D} (hg : Good C T bg.length xs) (ht : t < T) (hx : xs.length ≤ 10000000) (hh : here.length = bg.length) :
    exec g (.fore (.nm 10) (.seq d21c1) d21b0 [10]) (env21 C T BG MV xs (some (.int c)) here F (flO k) R (some (.int t)) none none) = .ok (.nx, env21 C T BG MV xs (some (.int c)) (appl here (xs.filter fun x => decide (keyC T x = c * T + t))) F .sh R (some (.int t)) none none) := by
  refine ex_for (xs := xs.filter fun x => decide (keyC T x = c * T + t)) (s0 := here) (fun h => env21 C T BG MV xs (some (.int c)) h F .sh R (some (.int t)) none none) dCh (fun h as => h.length = bg.length ∧ ∀ x ∈ as, x.2.2.1 < bg.length) (fun h x => h.set x.2.2.1 x.2.2.2) (it_l (o := .ow) (left_ok hg ht hx) dChs_fros rfl) ⟨hh, fun x hxm => (hg.lt x ((List.mem_filter.mp hxm).1)).2.2⟩ (fun h x as hI => ?_)
  obtain ⟨hl, hI⟩ := hI
  have hn : x.2.2.1 < h.length := by rw [hl]; exact hI x (by simp)
  refine ⟨env21 C T BG MV xs (some (.int c)) h F .sh R (some (.int t)) (some (dCh x)) none, env21 C T BG MV xs (some (.int c)) (h.set x.2.2.1 x.2.2.2) F .sh R (some (.int t)) (some (dCh x)) none, by simp! [fro_dCh], ?_, rfl, by simpa using hl, fun y hy => hI y (by simp [hy])⟩
  unfold d21b0
  simp! [dCh, ixN_nat hn]
theorem rows21 {b : Nat → Nat → Nat} {c t : Nat} {hh : List Nat} {F : List D} {o : Fl} (hB : IsBg BG bg) (hN : bg.length ≤ LINE) (hT : t < 16777216) (hb : ∀ n, n < bg.length → hh[n]? = some (b n (c * T + t))) :
    exec g (.fore (.nm 11) (.rng (.un .len (.var 2))) d21b1 [11]) (env21 C T BG MV xs (some (.int c)) hh F o (some (rowsD T b bg.length c t 0)) (some (.int t)) none none) = .ok (.nx, env21 C T BG MV xs (some (.int c)) hh F o (some (rowsD T b bg.length c (t + 1) 0)) (some (.int t)) none none) := by
  have h := ex_fork (g := g) (tg := .nm 11) (it := .rng (.un .len (.var 2))) (b := d21b1) (w := [11]) (ρ := env21 C T BG MV xs (some (.int c)) hh F o (some (rowsD T b bg.length c t 0)) (some (.int t)) none none) (xs := List.range bg.length) (fun n => .int (n : Nat)) (fun n => env21 C T BG MV xs (some (.int c)) hh F o (some (rowsD T b bg.length c t n)) (some (.int t)) none none)
    (it_rng (by simp! [hB.len]) hN) (fun n a hn => ?_)
  · rw [List.length_range, rows_next] at h
    exact h
  · obtain ⟨hn', rfl⟩ := rng_get hn
    refine ⟨env21 C T BG MV xs (some (.int c)) hh F o (some (rowsD T b bg.length c t n)) (some (.int t)) none (some (.int n)), env21 C T BG MV xs (some (.int c)) hh F o (some (rowsD T b bg.length c t (n + 1))) (some (.int t)) none (some (.int n)), rfl, ?_, rfl⟩
    unfold d21b1 rowsD
    have h1 := rows_at (T := T) (b := b) (c := c) (t := t) hn'
    have h2 := rows_set (T := T) (b := b) (c := c) (t := t) hn'
    have h3 := rows_len (T := T) (b := b) (N := bg.length) (c := c) (t := t) (n := n)
    rw [← h2]
    revert h1 h3
    generalize ((List.range bg.length).map fun i => D.lst .ow (dNs ((List.range (if i < n then t + 1 else t)).map fun u => b i (c * T + u)))) = RR
    intro h1 h3
    have h4 := hb n hn'
    simp! [h1, h4, h3, ixN_nat hn', hT]
theorem time21 {c t k : Nat} {F : List D} (hB : IsBg BG bg) (hg : Good C T bg.length xs) (hc : c < C) (ht : t < T) (hx : xs.length ≤ 10000000) (hN : bg.length ≤ LINE) (hT : T ≤ LINE) :
    exec g d21b2 (env21 C T BG MV xs (some (.int c)) (hereK T bg xs (c * T + t)) F (flO k) (some (rowsD T (madeB T bg xs) bg.length c t 0)) (some (.int t)) none none) = .ok (.nx, env21 C T BG MV xs (some (.int c)) (hereK T bg xs (c * T + t + 1)) F .sh (some (rowsD T (madeB T bg xs) bg.length c (t + 1) 0)) (some (.int t)) none none) := by
  have h1 := move_loop (g := g) (C := C) (T := T) (BG := BG) (MV := MV) (c := c) (t := t) (k := k) (F := F) (R := some (rowsD T (madeB T bg xs) bg.length c t 0)) hg ht hx (hereK_len (T := T) (k := c * T + t) (bg := bg) (xs := xs))
  rw [← hereK_next hg.so] at h1
  refine blk_nx h1 (blk_nx (rows21 (b := madeB T bg xs) hB hN (by unfold LINE at hT; omega) (fun n hn => ?_)) rfl)
  have hl : n < (hereK T bg xs (c * T + t + 1)).length := by rw [hereK_len]; exact hn
  unfold madeB
  rw [List.getElem?_eq_getElem hl]
  rfl
theorem cycle21 {c : Nat} (hB : IsBg BG bg) (hg : Good C T bg.length xs) (hc : c < C) (h0T : 0 < T) (hx : xs.length ≤ 10000000) (hN : bg.length ≤ LINE) (hT : T ≤ LINE) (hC : C ≤ LINE) :
    ∃ ρ2, exec g d21b3 (env21 C T BG MV xs (some (.int c)) (hereK T bg xs (c * T)) ((List.range c).map (dC bg.length T (madeB T bg xs))) (flO c) none none none none) = .ok (.nx, ρ2) ∧ wipeE ρ2 [4, 8, 9, 10, 11] = env21 C T BG MV xs none (hereK T bg xs ((c + 1) * T)) ((List.range (c + 1)).map (dC bg.length T (madeB T bg xs))) (flO (c + 1)) none none none none := by
  have hr : rowsD T (madeB T bg xs) bg.length c 0 0 = .lst .ow ((List.range bg.length).map fun _ => .lst .ow []) := by
    unfold rowsD
    congr 1
  have h0 : ev g d21c0 false (env21 C T BG MV xs (some (.int c)) (hereK T bg xs (c * T)) ((List.range c).map (dC bg.length T (madeB T bg xs))) (flO c) none none none none) = .ok (rowsD T (madeB T bg xs) bg.length c 0 0, env21 C T BG MV xs (some (.int c)) (hereK T bg xs (c * T)) ((List.range c).map (dC bg.length T (madeB T bg xs))) (flO c) none none none none) := by
    rw [hr, show (List.range bg.length).map (fun _ => D.lst .ow []) = bg.map (fun _ => D.lst .ow []) by rw [List.map_const', List.map_const', List.length_range]]
    exact ev_lca (inj := fun (x : Nat) => .int (x : Nat)) (xs := bg) (fun _ => .lst .ow []) (hB.it rfl rfl) hN (by rfl) (fun x _ => ⟨env21 C T BG MV xs (some (.int c)) (hereK T bg xs (c * T)) ((List.range c).map (dC bg.length T (madeB T bg xs))) (flO c) none none none (some (.int x)), env21 C T BG MV xs (some (.int c)) (hereK T bg xs (c * T)) ((List.range c).map (dC bg.length T (madeB T bg xs))) (flO c) none none none (some (.int x)), rfl, by simp!, rfl⟩)
  have h := ex_fork (g := g) (tg := .nm 9) (it := .rng (.var 1)) (b := d21b2) (w := [9, 10, 11]) (ρ := env21 C T BG MV xs (some (.int c)) (hereK T bg xs (c * T)) ((List.range c).map (dC bg.length T (madeB T bg xs))) (flO c) (some (rowsD T (madeB T bg xs) bg.length c 0 0)) none none none) (xs := List.range T) (fun n => .int (n : Nat)) (fun t => env21 C T BG MV xs (some (.int c)) (hereK T bg xs (c * T + t)) ((List.range c).map (dC bg.length T (madeB T bg xs))) (flO (c + t)) (some (rowsD T (madeB T bg xs) bg.length c t 0)) none none none)
    (it_rng (by simp!) hT) (fun t a ht => ?_)
  · rw [List.length_range, ← Nat.succ_mul, show flO (c + T) = flO (c + 1) by rw [show c + T = (c + T - 1) + 1 by omega]; rfl] at h
    refine ⟨env21 C T BG MV xs (some (.int c)) (hereK T bg xs ((c + 1) * T)) ((List.range (c + 1)).map (dC bg.length T (madeB T bg xs))) (flO (c + 1)) (some (dC bg.length T (madeB T bg xs) c)) none none none, blk_nx (asg_of h0 (by simp)) (blk_nx h (blk_nx ?_ rfl)), rfl⟩
    have hlt : c < 16777216 := by unfold LINE at hC; omega
    have hlt2 : ((List.range c).map (dC bg.length T (madeB T bg xs))).length < LINE := by simpa using hlt
    rw [List.range_succ, List.map_append]
    revert hlt2
    generalize (List.range c).map (dC bg.length T (madeB T bg xs)) = FF
    intro hlt2
    simp! [rows_frz, hlt2]
  · obtain ⟨ht', rfl⟩ := rng_get ht
    exact ⟨_, _, rfl, time21 hB hg hc ht' hx hN hT, rfl⟩
/-- _law_made -/
theorem made_ok {m : Nat} (hB : IsBg BG bg) (hM : unD .list MV = some (.lst .ow (dChs xs))) (hg : Good C T bg.length xs) (h0T : 0 < T) (hx : xs.length ≤ 10000000) (hN : bg.length ≤ LINE) (hT : T ≤ LINE) (hC : C ≤ LINE) :
    ∃ rs, (semG Pg49 (m + 1)).call 21 [.int C, .int T, BG, MV] = .ok (dW C bg.length T (madeB T bg xs), rs) := by
  have h0 : hereK T bg xs (0 * T) = bg := by
    unfold hereK
    rw [show (xs.filter fun x => decide (keyC T x < 0 * T)) = [] by rw [List.filter_eq_nil_iff]; intro x _; simp]
    rfl
  have h := ex_fork (g := semG Pg49 m) (tg := .nm 4) (it := .rng (.var 0)) (b := d21b3) (w := [4, 8, 9, 10, 11]) (ρ := env21 C T BG MV xs none bg [] .ow none none none none) (xs := List.range C) (fun n => .int (n : Nat)) (fun c => env21 C T BG MV xs none (hereK T bg xs (c * T)) ((List.range c).map (dC bg.length T (madeB T bg xs))) (flO c) none none none none)
    (by rw [h0]; exact it_rng (by simp! [flO]) hC) (fun c a hc => ?_)
  · rw [List.length_range] at h
    refine ⟨_, (call_succ (fd := d21) rfl).trans (run_rt (ρ0 := [some (.int C), some (.int T), some BG, some MV, none, none, none, none, none, none, none, none, none]) rfl rfl (blk_nx (ρ1 := env21 C T BG MV xs none bg [] .ow none none none none) (by simp! [hB.lst, hM]) (blk_nx h (blk_rt (ret_of (ρ1 := [some (.int C), some (.int T), some BG, some MV, none, some (.lst .ow (dNs (hereK T bg xs (C * T)))), some (dW C bg.length T (madeB T bg xs)), some (.lst (flO C) (dChs xs)), none, none, none, none, none]) ?_)))))⟩
    have hf : frzs ((List.range C).map (dC bg.length T (madeB T bg xs))) = (List.range C).map (dC bg.length T (madeB T bg xs)) := frzs_map fun c _ => frzC c
    simp! [hf, dW]
  · obtain ⟨hc', rfl⟩ := rng_get hc
    obtain ⟨ρ2, e1, e2⟩ := cycle21 (g := semG Pg49 m) (MV := MV) hB hg hc' h0T hx hN hT hC
    exact ⟨_, ρ2, rfl, e1, e2⟩
end
end Ev

/-! k49: read_rows in full; changes that are read are good. -/
namespace Ev
/-- one moment -/
def out1 (t : Tx) (C T N : Nat) (s : OutS) : Except Nat OutS := match stepsT t (atW C T) s.p with
      | .error q => Except.error q
      | .ok (vs, q) => if leP ((vs[0]?).getD 0, (vs[1]?).getD 0) s.mo = true then .error s.p else if (t.drop q).take 1 = [10] then (if q + 1 = t.length then .error (q + 1) else (match innP t N ((vs[0]?).getD 0, (vs[1]?).getD 0) t.length ⟨s.here, s.found, q + 1, 0, 0⟩ with
        | .error r => .error r
        | .ok s' => .ok (OutS.mk s'.here s'.found ((vs[0]?).getD 0, (vs[1]?).getD 0) s'.p))) else .error q
theorem outP_succ {t : Tx} {C T N f : Nat} {s : OutS} : outP t C T N (f + 1) s = if s.p < t.length then (match out1 t C T N s with | .error q => .error q | .ok s' => outP t C T N f s') else .ok s.found := by
  rw [outP]
  unfold out1
  by_cases h : s.p < t.length
  · rw [if_pos h, if_pos h]
    cases stepsT t (atW C T) s.p with
    | error q => rfl
    | ok r =>
      obtain ⟨vs, q⟩ := r
      dsimp only
      by_cases h1 : leP ((vs[0]?).getD 0, (vs[1]?).getD 0) s.mo = true
      · rw [if_pos h1, if_pos h1]
      · rw [if_neg h1, if_neg h1]
        by_cases h2 : (t.drop q).take 1 = [10]
        · rw [if_pos h2, if_pos h2]
          by_cases h3 : q + 1 = t.length
          · rw [if_pos h3, if_pos h3]
          · rw [if_neg h3, if_neg h3]
            cases innP t N ((vs[0]?).getD 0, (vs[1]?).getD 0) t.length ⟨s.here, s.found, q + 1, 0, 0⟩ <;> rfl
        · rw [if_neg h2, if_neg h2]
  · rw [if_neg h, if_neg h]
section
variable {m : Nat} {t : Tx}
theorem out_read {C T : Nat} {BG : List Nat} {s : OutS} (h : Tok t) (hh : s.here.length = BG.length) (hf : s.found.length ≤ s.p) (hp : s.p ≤ t.length) :
    ∀ f, t.length - s.p ≤ f → (match outP t C T BG.length f s with
      | .error q => exec (semG Pg49 (m + 1)) (.whl d8b1w d8b1 [7, 8, 9, 10, 11, 12, 13]) (envO t C T BG s) = .exn 0 (.int q)
      | .ok xs => ∃ s', s'.found = xs ∧ exec (semG Pg49 (m + 1)) (.whl d8b1w d8b1 [7, 8, 9, 10, 11, 12, 13]) (envO t C T BG s) = .ok (.nx, envO t C T BG s')) := by
  refine ex_whlr (g := semG Pg49 (m + 1)) (c := d8b1w) (b := d8b1) (w := [7, 8, 9, 10, 11, 12, 13]) (fun z => envO t C T BG z) (fun z => z.here.length = BG.length ∧ z.found.length ≤ z.p ∧ z.p ≤ t.length) (fun z => t.length - z.p) (fun z r => ∀ f, t.length - z.p ≤ f → (match outP t C T BG.length f z with
      | .error q => r = .exn 0 (.int q)
      | .ok xs => ∃ s', s'.found = xs ∧ r = .ok (.nx, envO t C T BG s'))) (fun z hI => ?_) s ⟨hh, hf, hp⟩ ?_
  · obtain ⟨hh, hf, hp⟩ := hI
    have hl : t.length ≤ 16777216 := h.line
    have hc : (ev (semG Pg49 (m + 1)) d8b1w true (envO t C T BG z)).bind tBl = .ok (decide (z.p < t.length), envO t C T BG z) := by
      unfold d8b1w
      simp! [fo0, fo1, hl]
    by_cases hlt : z.p < t.length
    · rw [decide_eq_true hlt] at hc
      refine .inr ⟨_, hc, ?_⟩
      have h1 := out_read1 (m := m) (C := C) (T := T) (BG := BG) (s := z) h hh hf
      have h1' : (match out1 t C T BG.length z with
        | .error q => exec (semG Pg49 (m + 1)) d8b1 (envO t C T BG z) = .exn 0 (.int q)
        | .ok s' => (∃ ρ2, exec (semG Pg49 (m + 1)) d8b1 (envO t C T BG z) = .ok (.nx, ρ2) ∧ wipeE ρ2 [7, 8, 9, 10, 11, 12, 13] = envO t C T BG s') ∧ s'.here.length = BG.length ∧ s'.found.length ≤ s'.p ∧ z.p < s'.p ∧ s'.p ≤ t.length) := h1
      cases ho : out1 t C T BG.length z with
      | error q =>
        rw [ho] at h1'
        refine .inr (.inr ⟨0, .int q, h1', fun f hf' => ?_⟩)
        obtain ⟨f, rfl⟩ : ∃ f', f = f' + 1 := ⟨f - 1, by omega⟩
        rw [outP_succ, if_pos hlt, ho]
      | ok s' =>
        rw [ho] at h1'
        obtain ⟨⟨ρ2, e1, e2⟩, e3, e4, e5, e6⟩ := h1'
        refine .inl ⟨ρ2, s', e1, e2, ⟨e3, e4, e6⟩, by omega, fun r hr f hf' => ?_⟩
        obtain ⟨f, rfl⟩ : ∃ f', f = f' + 1 := ⟨f - 1, by omega⟩
        rw [outP_succ, if_pos hlt, ho]
        exact hr f (by omega)
    · rw [decide_eq_false hlt] at hc
      refine .inl ⟨_, hc, fun f _ => ?_⟩
      have : outP t C T BG.length f z = .ok z.found := by
        cases f with
        | zero => rfl
        | succ f => rw [outP_succ, if_neg hlt]
      rw [this]
      exact ⟨z, rfl, rfl⟩
  · have := h.len
    exact Nat.lt_of_le_of_lt (show t.length - s.p ≤ 1000000 by omega) (by decide)
/-- read_rows -/
theorem rows_ok {C T p : Nat} {BG : List Nat} (h : Tok t) (hp : p ≤ t.length) (hN : BG.length ≤ LINE) :
    (match outP t C T BG.length t.length ⟨BG, [], (0, 0), p⟩ with
      | .error q => (semG Pg49 (m + 2)).call 8 [dRd t p, .int C, .int T, .tup (dNs BG)] = .exn 0 (.int q)
      | .ok xs => ∃ rs, (semG Pg49 (m + 2)).call 8 [dRd t p, .int C, .int T, .tup (dNs BG)] = .ok (.tup (dChs xs), rs)) := by
  have hx := out_read (m := m) (C := C) (T := T) (BG := BG) (s := ⟨BG, [], (0, 0), p⟩) h rfl (Nat.zero_le _) hp t.length (Nat.sub_le _ _)
  have h1 : exec (semG Pg49 (m + 1)) (.par [4, 5, 6] (es [(.un .list (.var 3)), (.lst (es [])), (.tup (es [(.k (.int 0)), (.k (.int 0))]))])) [some (dRd t p), some (.int C), some (.int T), some (.tup (dNs BG)), none, none, none, none, none, none, none, none, none, none] = .ok (.nx, envO t C T BG ⟨BG, [], (0, 0), p⟩) := by
    simp! [dChs]
  cases ho : outP t C T BG.length t.length ⟨BG, [], (0, 0), p⟩ with
  | error q =>
    rw [ho] at hx
    exact (call_succ (fd := d8) rfl).trans (run_exn (ρ0 := [some (dRd t p), some (.int C), some (.int T), some (.tup (dNs BG)), none, none, none, none, none, none, none, none, none, none]) rfl rfl (blk_nx h1 (blk_exn hx)))
  | ok xs =>
    rw [ho] at hx
    obtain ⟨s', e1, e2⟩ := hx
    refine ⟨_, (call_succ (fd := d8) rfl).trans (run_rt (ρ0 := [some (dRd t p), some (.int C), some (.int T), some (.tup (dNs BG)), none, none, none, none, none, none, none, none, none, none]) rfl rfl (blk_nx h1 (blk_nx e2 (blk_rt (ret_of (ρ1 := envO t C T BG s') ?_)))))⟩
    rw [← e1]
    simp! [dChs_fros]
end
/-! ### changes that are read are good -/
theorem innP_found {t : Tx} {N : Nat} {mo : Nat × Nat} : ∀ {f : Nat} {s s' : InS}, innP t N mo f s = .ok s' → ∃ new, s'.found = s.found ++ new ∧ ∀ x ∈ new, x.1 = mo.1 ∧ x.2.1 = mo.2 ∧ x.2.2.1 < N
  | 0, s, s', h => by
    simp only [innP, Except.ok.injEq] at h
    subst h
    exact ⟨[], by simp, by simp⟩
  | f + 1, s, s', h => by
    rw [innP] at h
    split at h
    · cases hr : rowP t N s.here s.least s.p with
      | error q => rw [hr] at h; cases h
      | ok r =>
        obtain ⟨n, b, q⟩ := r
        rw [hr] at h
        have a := rowP_ok hr
        obtain ⟨new, e1, e2⟩ := innP_found (f := f) h
        refine ⟨(mo.1, mo.2, n, b) :: new, by rw [e1]; simp, ?_⟩
        intro x hx
        rcases List.mem_cons.mp hx with rfl | hx
        · exact ⟨rfl, rfl, a.2.2.2.1⟩
        · exact e2 x hx
    · simp only [Except.ok.injEq] at h
      subst h
      exact ⟨[], by simp, by simp⟩
structure GoodS (C T N : Nat) (s : OutS) : Prop where
  g : Good C T N s.found
  mo : s.mo.2 < T
  le : ∀ x ∈ s.found, keyC T x ≤ s.mo.1 * T + s.mo.2
theorem leP_false {T : Nat} {a b : Nat × Nat} (h : ¬ leP a b = true) (ha : a.2 < T) (hb : b.2 < T) : b.1 * T + b.2 ≤ a.1 * T + a.2 := by
  unfold leP at h
  simp only [lexLe] at h
  by_cases e : (a.1 : Int) = (b.1 : Int)
  · rw [if_pos e] at h
    have e' : a.1 = b.1 := by omega
    rw [e']
    by_cases e2 : (a.2 : Int) = (b.2 : Int)
    · rw [if_pos e2] at h; simp at h
    · rw [if_neg e2] at h
      simp at h
      omega
  · rw [if_neg e] at h
    simp at h
    have h2 : b.1 + 1 ≤ a.1 := by omega
    have h3 : (b.1 + 1) * T ≤ a.1 * T := Nat.mul_le_mul_right T h2
    rw [Nat.succ_mul] at h3
    omega
theorem out1_good {t : Tx} {C T N : Nat} {s s' : OutS} (hs : GoodS C T N s) (h : out1 t C T N s = .ok s') : GoodS C T N s' := by
  unfold out1 at h
  rcases at_steps t C T s.p with ⟨q', e, _⟩ | ⟨v, p1, b, q, e, hm0, h1, h2, h3⟩
  · rw [e] at h; cases h
  · rw [e] at h
    dsimp only at h
    simp only [List.getElem?_cons_zero, List.getElem?_cons_succ, Option.getD_some] at h
    have a := numT_some h1
    have a3 := numT_some h3
    split at h
    · cases h
    · rename_i hle
      split at h
      · split at h
        · cases h
        · cases hi : innP t N (v, b) t.length ⟨s.here, s.found, q + 1, 0, 0⟩ with
          | error r => rw [hi] at h; cases h
          | ok s1 =>
            rw [hi] at h
            simp only [Except.ok.injEq] at h
            subst h
            obtain ⟨new, e1, e2⟩ := innP_found hi
            dsimp only at e1 e2
            have hkey : s.mo.1 * T + s.mo.2 ≤ v * T + b := leP_false hle a3.2.2.2 hs.mo
            have hk2 : ∀ x ∈ new, keyC T x = v * T + b := fun x hx => by obtain ⟨z1, z2, _⟩ := e2 x hx; unfold keyC; rw [z1, z2]
            refine ⟨⟨?_, ?_⟩, a3.2.2.2, ?_⟩
            · intro x hx
              rw [e1, List.mem_append] at hx
              rcases hx with hx | hx
              · exact hs.g.lt x hx
              · obtain ⟨z1, z2, z3⟩ := e2 x hx
                rw [z1, z2]
                exact ⟨a.2.2.2, a3.2.2.2, z3⟩
            · rw [e1, List.pairwise_append]
              refine ⟨hs.g.so, ?_, fun x hx y hy => ?_⟩
              · rw [List.pairwise_iff_forall_sublist]
                intro x y hxy
                have hx := hk2 x (hxy.subset (by simp))
                have hy := hk2 y (hxy.subset (by simp))
                omega
              · have := hs.le x hx
                have := hk2 y hy
                omega
            · intro x hx
              rw [e1, List.mem_append] at hx
              dsimp only
              rcases hx with hx | hx
              · have := hs.le x hx
                omega
              · have := hk2 x hx
                omega
      · cases h
theorem outP_good {t : Tx} {C T N : Nat} : ∀ {f : Nat} {s : OutS} {xs : List Ch}, GoodS C T N s → outP t C T N f s = .ok xs → Good C T N xs
  | 0, s, xs, hs, h => by
    simp only [outP, Except.ok.injEq] at h
    subst h
    exact hs.g
  | f + 1, s, xs, hs, h => by
    rw [outP_succ] at h
    split at h
    · cases ho : out1 t C T N s with
      | error q => rw [ho] at h; cases h
      | ok s' =>
        rw [ho] at h
        exact outP_good (out1_good hs ho) h
    · simp only [Except.ok.injEq] at h
      subst h
      exact hs.g
end Ev

/-! k49: the rows that _law_read reads. -/
namespace Ev
section
variable {m : Nat} {t : Tx}
abbrev envI (t : Tx) (C T : Nat) (BG : List Nat) (mo : Nat × Nat) (x2 : Option D) (s : InS) (x1 x13 x14 : Option D) : Env := [some (.str t), x1, x2, some (.int s.p), some (.lst .ow (dNs BG)), some (.tup [.int (mo.1 : Nat), .int (mo.2 : Nat)]), some (.lst .ow (dNs s.here)), some (.lst .ow (dChs s.found)), some (.int C), some (.int T), some (.int s.least), some (.int s.many), none, x13, x14]
theorem okW_row (a b : Nat) : ∀ w ∈ rowW a b, okW w := by
  intro w hw
  simp only [rowW, List.mem_cons, List.not_mem_nil, or_false] at hw
  rcases hw with rfl | rfl | rfl
  · exact trivial
  · exact ⟨by decide, by decide⟩
  · exact trivial
theorem okW_at (a b : Nat) : ∀ w ∈ atW a b, okW w := by
  intro w hw
  simp only [atW, List.mem_cons, List.not_mem_nil, or_false] at hw
  rcases hw with rfl | rfl | rfl | rfl
  · exact ⟨by decide, by decide⟩
  · exact trivial
  · exact ⟨by decide, by decide⟩
  · exact trivial
theorem okW_hd : ∀ w ∈ hdW, okW w := by
  intro w hw
  simp only [hdW, List.mem_cons, List.not_mem_nil, or_false] at hw
  rcases hw with rfl | rfl | rfl | rfl | rfl
  · exact ⟨by decide, by decide⟩
  · exact trivial
  · exact ⟨by decide, by decide⟩
  · exact trivial
  · exact ⟨by decide, by decide⟩
theorem lrow_read {C T : Nat} {BG : List Nat} {mo : Nat × Nat} {x1 x2 : Option D} {s : InS} (h : Tok t) (hh : s.here.length = BG.length) (hf : s.found.length < LINE) :
    (match rowP t BG.length s.here s.least s.p with
      | .error q => ∃ ρ2, exec (semG Pg49 (m + 2)) d20b1 (envI t C T BG mo x2 s x1 none none) = .ok (.rt (dNo q), ρ2)
      | .ok (n, b, q) => ∃ ρ2, exec (semG Pg49 (m + 2)) d20b1 (envI t C T BG mo x2 s x1 none none) = .ok (.nx, ρ2) ∧ wipeE ρ2 [1, 13, 14] = envI t C T BG mo x2 ⟨s.here.set n b, s.found ++ [(mo.1, mo.2, n, b)], q, n + 1, s.many + 1⟩ none none none) := by
  obtain ⟨here, found, p, least, many⟩ := s
  dsimp only at hh hf ⊢
  have hl : t.length ≤ 16777216 := h.line
  obtain ⟨rs, hst⟩ := steps_ok (m := m) (p := p) (ws := rowW least BG.length) (o := .ow) h (okW_row _ _) (by rw [frz_ow, frzs_map fun w _ => frz_Wn w]) (by simp [rowW])
  have h0 : exec (semG Pg49 (m + 2)) (.asg 1 (.call 19 (es [(.var 0), (.var 3), (.lst (es [(.tup (es [(.var 10), (.un .len (.var 4))])), (.k (.str [32])), (.tup (es [(.k (.int 0)), (.k (.int 2))]))]))]))) (envI t C T BG mo x2 ⟨here, found, p, least, many⟩ x1 none none) = .ok (.nx, envI t C T BG mo x2 ⟨here, found, p, least, many⟩ (some (dSteps (stepsT t (rowW least BG.length) p))) none none) := by
    refine asg_of (ρ1 := envI t C T BG mo x2 ⟨here, found, p, least, many⟩ x1 none none) (ev_callnb ?_ hst (by rfl)) (by simp)
    have : evs (semG Pg49 (m + 2)) (es [(.var 0), (.var 3), (.lst (es [(.tup (es [(.var 10), (.un .len (.var 4))])), (.k (.str [32])), (.tup (es [(.k (.int 0)), (.k (.int 2))]))]))]) (envI t C T BG mo x2 ⟨here, found, p, least, many⟩ x1 none none) = .ok ([.str t, .int p, .lst .ow [.tup [.int least, .int BG.length], .str [32], .tup [.int 0, .int 2]]], envI t C T BG mo x2 ⟨here, found, p, least, many⟩ x1 none none) := by simp!
    exact this
  unfold rowP
  rcases row_steps t BG.length least p with ⟨q', e, hq⟩ | ⟨v, p1, b, q, e, h1, h2, h3⟩
  · rw [e] at h0
    rw [e]
    dsimp only
    refine ⟨envI t C T BG mo x2 ⟨here, found, p, least, many⟩ (some (dNo q')) none none, blk_nx h0 (blk_rt ?_)⟩
    simp! [dSteps, dNo]
  · rw [e] at h0
    rw [e]
    dsimp only
    simp only [List.getElem?_cons_zero, List.getElem?_cons_succ, Option.getD_some]
    have a := numT_some h1
    have hv : v < here.length := by omega
    obtain ⟨x, hx⟩ : ∃ x, here[v]? = some x := ⟨_, List.getElem?_eq_getElem hv⟩
    rw [hx, Option.getD_some]
    have h5 : exec (semG Pg49 (m + 2)) (.ife (.bin .eq (.idx (.var 1) (.k (.int 0))) (.k (.str [110, 111]))) (blk [.ret (.fz 1)]) (blk [])) (envI t C T BG mo x2 ⟨here, found, p, least, many⟩ (some (dSteps (.ok ([v, b], q)))) none none) = .ok (.nx, envI t C T BG mo x2 ⟨here, found, p, least, many⟩ (some (dSteps (.ok ([v, b], q)))) none none) := by
      simp! [dSteps]
    have h6 : exec (semG Pg49 (m + 2)) (.unp (.tp [(.nm 13), (.nm 14)]) (.idx (.var 1) (.k (.int 0)))) (envI t C T BG mo x2 ⟨here, found, p, least, many⟩ (some (dSteps (.ok ([v, b], q)))) none none) = .ok (.nx, envI t C T BG mo x2 ⟨here, found, p, least, many⟩ (some (dSteps (.ok ([v, b], q)))) (some (.int v)) (some (.int b))) := by
      simp! [dSteps, dNs]
    have pre : ∀ r l, d20b1 = blk ([.asg 1 (.call 19 (es [(.var 0), (.var 3), (.lst (es [(.tup (es [(.var 10), (.un .len (.var 4))])), (.k (.str [32])), (.tup (es [(.k (.int 0)), (.k (.int 2))]))]))])), .ife (.bin .eq (.idx (.var 1) (.k (.int 0))) (.k (.str [110, 111]))) (blk [.ret (.fz 1)]) (blk []), .unp (.tp [(.nm 13), (.nm 14)]) (.idx (.var 1) (.k (.int 0)))] ++ l) → exec (semG Pg49 (m + 2)) (blk l) (envI t C T BG mo x2 ⟨here, found, p, least, many⟩ (some (dSteps (.ok ([v, b], q)))) (some (.int v)) (some (.int b))) = r → exec (semG Pg49 (m + 2)) d20b1 (envI t C T BG mo x2 ⟨here, found, p, least, many⟩ x1 none none) = r := fun r l hd hr => by
      rw [hd]
      exact blk_nx h0 (blk_nx h5 (blk_nx h6 hr))
    by_cases hxb : x = b
    · rw [if_pos hxb]
      refine ⟨envI t C T BG mo x2 ⟨here, found, p, least, many⟩ (some (dSteps (.ok ([v, b], q)))) (some (.int v)) (some (.int b)), pre _ _ rfl (blk_rt ?_)⟩
      simp! [hx, hxb, dNo]
    · rw [if_neg hxb]
      have hxb' : ((x : Int) == (b : Int)) = false := by rw [beq_eq_false_iff_ne]; omega
      have i1 : exec (semG Pg49 (m + 2)) (.ife (.bin .eq (.idx (.var 6) (.var 13)) (.var 14)) (blk [.ret (.tup (es [(.k (.str [110, 111])), (.var 3)]))]) (blk [])) (envI t C T BG mo x2 ⟨here, found, p, least, many⟩ (some (dSteps (.ok ([v, b], q)))) (some (.int v)) (some (.int b))) = .ok (.nx, envI t C T BG mo x2 ⟨here, found, p, least, many⟩ (some (dSteps (.ok ([v, b], q)))) (some (.int v)) (some (.int b))) := by simp! [hx, hxb']
      have hok := ok_take h q 1
      by_cases hn : (t.drop q).take 1 = [10]
      · rw [if_pos hn]
        dsimp only
        refine ⟨envI t C T BG mo x2 ⟨here.set v b, found ++ [(mo.1, mo.2, v, b)], q + 1, v + 1, many + 1⟩ (some (dSteps (.ok ([v, b], q)))) (some (.int v)) (some (.int b)), pre _ _ rfl (blk_nx i1 (blk_nx (ρ1 := envI t C T BG mo x2 ⟨here, found, p, least, many⟩ (some (dSteps (.ok ([v, b], q)))) (some (.int v)) (some (.int b))) ?_ (blk_nx (ρ1 := envI t C T BG mo x2 ⟨here.set v b, found, q + 1, v + 1, many + 1⟩ (some (dSteps (.ok ([v, b], q)))) (some (.int v)) (some (.int b))) ?_ ?_))), rfl⟩
        · rw [hn] at hok
          simp! [dSteps, hl, cut_1, hn, hok]
        · simp! [dSteps, ixN_nat hv]
        · have hf' : found.length < 16777216 := hf
          have e2 : dChs (found ++ [(mo.1, mo.2, v, b)]) = dChs found ++ [.tup [.int (mo.1 : Nat), .int (mo.2 : Nat), .int (v : Nat), .int (b : Nat)]] := by simp [dChs, dCh]
          simp! [dChs_len, hf', e2]
      · rw [if_neg hn]
        have hn' : ((t.drop q).take 1 == [10]) = false := by simpa using hn
        refine ⟨envI t C T BG mo x2 ⟨here, found, p, least, many⟩ (some (dSteps (.ok ([v, b], q)))) (some (.int v)) (some (.int b)), pre _ _ rfl (blk_nx i1 (blk_rt ?_))⟩
        simp! [dSteps, hl, cut_1, hn', hok, dNo]
theorem linn_cond {g : G} {C T : Nat} {BG : List Nat} {mo : Nat × Nat} {x1 x2 : Option D} {s : InS} (h : Tok t) : (ev g d20b1w true (envI t C T BG mo x2 s x1 none none)).bind tBl = .ok (innC t s, envI t C T BG mo x2 s x1 none none) := by
  obtain ⟨here, found, p, least, many⟩ := s
  have hl : t.length ≤ 16777216 := h.line
  unfold d20b1w innC
  by_cases h1 : p < t.length
  · have ha := List.getElem?_eq_getElem h1
    have hcc : Nat.blt t[p] 1114112 = true := by rw [Nat.blt_eq]; exact h.cp _ (List.getElem_mem h1)
    by_cases h2 : many = 0
    · simp! [hl, h1, h2]
    · have h2' : ((many : Int) == 0) = false := by rw [beq_eq_false_iff_ne]; omega
      have h2'' : (many == 0) = false := by rw [beq_eq_false_iff_ne]; omega
      by_cases h3 : t[p] = 97
      · simp! [hl, h1, h2', h2'', ha, h3]
      · have h3' : (t[p] == 97) = false := by rw [beq_eq_false_iff_ne]; exact h3
        simp! [hl, h1, h2', h2'', ha, h3', hcc]
  · simp! [hl, h1]
theorem linn_read {C T : Nat} {BG : List Nat} {mo : Nat × Nat} {x1 x2 : Option D} {s : InS} (h : Tok t) (hh : s.here.length = BG.length) (hf : s.found.length ≤ s.p) (hp : s.p ≤ t.length) :
    ∀ f, t.length - s.p ≤ f → (match innP t BG.length mo f s with
      | .error q => ∃ ρ2, exec (semG Pg49 (m + 2)) (.whl d20b1w d20b1 [1, 13, 14]) (envI t C T BG mo x2 s x1 none none) = .ok (.rt (dNo q), ρ2)
      | .ok s' => ∃ x1', exec (semG Pg49 (m + 2)) (.whl d20b1w d20b1 [1, 13, 14]) (envI t C T BG mo x2 s x1 none none) = .ok (.nx, envI t C T BG mo x2 s' x1' none none)) := by
  refine ex_whlr (g := semG Pg49 (m + 2)) (c := d20b1w) (b := d20b1) (w := [1, 13, 14]) (fun (z : InS × Option D) => envI t C T BG mo x2 z.1 z.2 none none) (fun z => z.1.here.length = BG.length ∧ z.1.found.length ≤ z.1.p ∧ z.1.p ≤ t.length) (fun z => t.length - z.1.p) (fun z r => ∀ f, t.length - z.1.p ≤ f → (match innP t BG.length mo f z.1 with
      | .error q => ∃ ρ2, r = .ok (.rt (dNo q), ρ2)
      | .ok s' => ∃ x1', r = .ok (.nx, envI t C T BG mo x2 s' x1' none none))) (fun z hI => ?_) (s, x1) ⟨hh, hf, hp⟩ ?_
  · obtain ⟨s, x1⟩ := z
    obtain ⟨hh, hf, hp⟩ := hI
    dsimp only at hh hf hp ⊢
    have hc := linn_cond (g := semG Pg49 (m + 2)) (C := C) (T := T) (BG := BG) (mo := mo) (x1 := x1) (x2 := x2) (s := s) h
    cases hi : innC t s with
    | false =>
      rw [hi] at hc
      refine .inl ⟨_, hc, fun f _ => ?_⟩
      have : innP t BG.length mo f s = .ok s := by cases f <;> simp [innP, hi]
      rw [this]
      exact ⟨x1, rfl⟩
    | true =>
      rw [hi] at hc
      refine .inr ⟨_, hc, ?_⟩
      have hlt : s.p < t.length := by
        unfold innC at hi
        rw [Bool.and_eq_true] at hi
        exact of_decide_eq_true hi.1
      have hl := h.len
      have hr := lrow_read (m := m) (C := C) (T := T) (BG := BG) (mo := mo) (x1 := x1) (x2 := x2) (s := s) h hh (by unfold LINE; omega)
      cases hrow : rowP t BG.length s.here s.least s.p with
      | error q =>
        rw [hrow] at hr
        obtain ⟨ρ2, hr⟩ := hr
        refine .inr (.inl ⟨dNo q, ρ2, hr, fun f hf' => ?_⟩)
        obtain ⟨f, rfl⟩ : ∃ f', f = f' + 1 := ⟨f - 1, by omega⟩
        rw [innP, if_pos hi, hrow]
        exact ⟨_, rfl⟩
      | ok r =>
        obtain ⟨n, b, q⟩ := r
        rw [hrow] at hr
        obtain ⟨ρ2, e1, e2⟩ := hr
        have a := rowP_ok hrow
        refine .inl ⟨ρ2, (⟨s.here.set n b, s.found ++ [(mo.1, mo.2, n, b)], q, n + 1, s.many + 1⟩, none), e1, e2, ⟨by simpa using hh, by simp; omega, a.2.1⟩, by dsimp only; omega, fun r hr f hf' => ?_⟩
        obtain ⟨f, rfl⟩ : ∃ f', f = f' + 1 := ⟨f - 1, by omega⟩
        rw [innP, if_pos hi, hrow]
        exact hr f (by dsimp only; omega)
  · have := h.len
    exact Nat.lt_of_le_of_lt (show t.length - s.p ≤ 1000000 by omega) (by decide)
abbrev envT (t : Tx) (C T : Nat) (BG : List Nat) (x2 : Option D) (s : OutS) (x1 : Option D) : Env := [some (.str t), x1, x2, some (.int s.p), some (.lst .ow (dNs BG)), some (.tup [.int (s.mo.1 : Nat), .int (s.mo.2 : Nat)]), some (.lst .ow (dNs s.here)), some (.lst .ow (dChs s.found)), some (.int C), some (.int T), none, none, none, none, none]
theorem lout_read1 {C T : Nat} {BG : List Nat} {x1 x2 : Option D} {s : OutS} (h : Tok t) (hh : s.here.length = BG.length) (hf : s.found.length ≤ s.p) :
    (match out1 t C T BG.length s with
    | .error q => ∃ ρ2, exec (semG Pg49 (m + 2)) d20b2 (envT t C T BG x2 s x1) = .ok (.rt (dNo q), ρ2)
    | .ok s' => (∃ ρ2, exec (semG Pg49 (m + 2)) d20b2 (envT t C T BG x2 s x1) = .ok (.nx, ρ2) ∧ wipeE ρ2 [1, 10, 11, 13, 14] = envT t C T BG x2 s' none) ∧ s'.here.length = BG.length ∧ s'.found.length ≤ s'.p ∧ s.p < s'.p ∧ s'.p ≤ t.length) := by
  obtain ⟨here, found, mo, p⟩ := s
  dsimp only at hh hf ⊢
  have hl : t.length ≤ 16777216 := h.line
  obtain ⟨rs, hst⟩ := steps_ok (m := m) (p := p) (ws := atW C T) (o := .ow) h (okW_at _ _) (by rw [frz_ow, frzs_map fun w _ => frz_Wn w]) (by simp [atW])
  have h0 : exec (semG Pg49 (m + 2)) (.asg 1 (.call 19 (es [(.var 0), (.var 3), (.lst (es [(.k (.str [97, 116, 32])), (.tup (es [(.k (.int 0)), (.var 8)])), (.k (.str [32])), (.tup (es [(.k (.int 0)), (.var 9)]))]))]))) (envT t C T BG x2 ⟨here, found, mo, p⟩ x1) = .ok (.nx, envT t C T BG x2 ⟨here, found, mo, p⟩ (some (dSteps (stepsT t (atW C T) p)))) := by
    refine asg_of (ρ1 := envT t C T BG x2 ⟨here, found, mo, p⟩ x1) (ev_callnb ?_ hst (by rfl)) (by simp)
    have : evs (semG Pg49 (m + 2)) (es [(.var 0), (.var 3), (.lst (es [(.k (.str [97, 116, 32])), (.tup (es [(.k (.int 0)), (.var 8)])), (.k (.str [32])), (.tup (es [(.k (.int 0)), (.var 9)]))]))]) (envT t C T BG x2 ⟨here, found, mo, p⟩ x1) = .ok ([.str t, .int p, .lst .ow [.str [97, 116, 32], .tup [.int 0, .int C], .str [32], .tup [.int 0, .int T]]], envT t C T BG x2 ⟨here, found, mo, p⟩ x1) := by simp!
    exact this
  unfold out1
  rcases at_steps t C T p with ⟨q', e, hq⟩ | ⟨v, p1, b, q, e, hm0, h1, h2, h3⟩
  · rw [e] at h0
    rw [e]
    dsimp only
    refine ⟨envT t C T BG x2 ⟨here, found, mo, p⟩ (some (dNo q')), blk_nx h0 (blk_rt ?_)⟩
    simp! [dSteps, dNo]
  · rw [e] at h0
    rw [e]
    dsimp only
    simp only [List.getElem?_cons_zero, List.getElem?_cons_succ, Option.getD_some]
    have a := numT_some h1
    have a3 := numT_some h3
    have a0 := misT_none hm0 (by simp)
    simp only [List.length_cons, List.length_nil] at a0
    have h5 : exec (semG Pg49 (m + 2)) (.ife (.bin .eq (.idx (.var 1) (.k (.int 0))) (.k (.str [110, 111]))) (blk [.ret (.fz 1)]) (blk [])) (envT t C T BG x2 ⟨here, found, mo, p⟩ (some (dSteps (.ok ([v, b], q))))) = .ok (.nx, envT t C T BG x2 ⟨here, found, mo, p⟩ (some (dSteps (.ok ([v, b], q))))) := by
      simp! [dSteps]
    have hcond : (ev (semG Pg49 (m + 2)) (.bin .le (.un .tuple (.idx (.var 1) (.k (.int 0)))) (.var 5)) true (envT t C T BG x2 ⟨here, found, mo, p⟩ (some (dSteps (.ok ([v, b], q)))))).bind tBl = .ok (leP (v, b) mo, envT t C T BG x2 ⟨here, found, mo, p⟩ (some (dSteps (.ok ([v, b], q))))) := by
      have : binD .le (.tup (dNs [v, b])) (.tup [.int (mo.1 : Nat), .int (mo.2 : Nat)]) = some (.bl (leP (v, b) mo)) := rfl
      rw [bin_of (x := .tup (dNs [v, b])) (y := .tup [.int (mo.1 : Nat), .int (mo.2 : Nat)]) (ρ1 := envT t C T BG x2 ⟨here, found, mo, p⟩ (some (dSteps (.ok ([v, b], q))))) (ρ2 := envT t C T BG x2 ⟨here, found, mo, p⟩ (some (dSteps (.ok ([v, b], q))))) (by simp! [dSteps]) (by simp!) (by rfl) this]
      rfl
    cases hle : leP (v, b) mo with
    | true =>
      rw [hle] at hcond
      refine ⟨envT t C T BG x2 ⟨here, found, mo, p⟩ (some (dSteps (.ok ([v, b], q)))), blk_nx h0 (blk_nx h5 (blk_rt ?_))⟩
      rw [x_ife, hcond]
      simp! [dNo]
    | false =>
      rw [hle] at hcond
      have i1 : exec (semG Pg49 (m + 2)) (.ife (.bin .le (.un .tuple (.idx (.var 1) (.k (.int 0)))) (.var 5)) (blk [.ret (.tup (es [(.k (.str [110, 111])), (.var 3)]))]) (blk [])) (envT t C T BG x2 ⟨here, found, mo, p⟩ (some (dSteps (.ok ([v, b], q))))) = .ok (.nx, envT t C T BG x2 ⟨here, found, mo, p⟩ (some (dSteps (.ok ([v, b], q))))) := by
        rw [x_ife, hcond]
        rfl
      rw [if_neg (by simp)]
      have hok := ok_take h q 1
      by_cases hn10 : (t.drop q).take 1 = [10]
      · rw [if_pos hn10]
        have hq1 := nl_lt hn10
        have i2 : exec (semG Pg49 (m + 2)) (.ife (.bin .ne (.slc (.var 0) (.idx (.var 1) (.k (.int 1))) (.bin .add (.idx (.var 1) (.k (.int 1))) (.k (.int 1)))) (.k (.str [10]))) (blk [.ret (.tup (es [(.k (.str [110, 111])), (.idx (.var 1) (.k (.int 1)))]))]) (blk [])) (envT t C T BG x2 ⟨here, found, mo, p⟩ (some (dSteps (.ok ([v, b], q))))) = .ok (.nx, envT t C T BG x2 ⟨here, found, mo, p⟩ (some (dSteps (.ok ([v, b], q))))) := by
          rw [hn10] at hok
          simp! [dSteps, hl, cut_1, hn10, hok]
        have i3 : exec (semG Pg49 (m + 2)) (.unp (.tp [(.nm 5), (.nm 3), (.nm 10), (.nm 11)]) (.tup (es [(.un .tuple (.idx (.var 1) (.k (.int 0)))), (.bin .add (.idx (.var 1) (.k (.int 1))) (.k (.int 1))), (.k (.int 0)), (.k (.int 0))]))) (envT t C T BG x2 ⟨here, found, mo, p⟩ (some (dSteps (.ok ([v, b], q))))) = .ok (.nx, envI t C T BG (v, b) x2 ⟨here, found, q + 1, 0, 0⟩ (some (dSteps (.ok ([v, b], q)))) none none ++ []) := by
          simp! [dSteps, dNs]
        rw [List.append_nil] at i3
        have hend : ∀ x, exec (semG Pg49 (m + 2)) (.ife (.bin .eq (.var 3) (.un .len (.var 0))) (blk [.ret (.tup (es [(.k (.str [110, 111])), (.var 3)]))]) (blk [])) (envI t C T BG (v, b) x2 ⟨here, found, q + 1, 0, 0⟩ x none none) = if q + 1 = t.length then .ok (.rt (dNo (q + 1)), envI t C T BG (v, b) x2 ⟨here, found, q + 1, 0, 0⟩ x none none) else .ok (.nx, envI t C T BG (v, b) x2 ⟨here, found, q + 1, 0, 0⟩ x none none) := by
          intro x
          by_cases hend : q + 1 = t.length
          · have he : (((q : Int) + 1) == (t.length : Int)) = true := by rw [beq_iff_eq]; omega
            rw [if_pos hend]
            simp! [hl, he, dNo]
          · have he : (((q : Int) + 1) == (t.length : Int)) = false := by rw [beq_eq_false_iff_ne]; omega
            rw [if_neg hend]
            simp! [hl, he]
        have hin := linn_read (m := m) (C := C) (T := T) (BG := BG) (mo := (v, b)) (x1 := some (dSteps (.ok ([v, b], q)))) (x2 := x2) (s := ⟨here, found, q + 1, 0, 0⟩) h hh (by dsimp only; omega) hq1 t.length (by omega)
        by_cases he : q + 1 = t.length
        · rw [if_pos he]
          have hend' := hend (some (dSteps (.ok ([v, b], q))))
          rw [if_pos he] at hend'
          exact ⟨_, blk_nx h0 (blk_nx h5 (blk_nx i1 (blk_nx i2 (blk_nx i3 (blk_rt hend')))))⟩
        · rw [if_neg he]
          have hend' := hend (some (dSteps (.ok ([v, b], q))))
          rw [if_neg he] at hend'
          cases hi : innP t BG.length (v, b) t.length ⟨here, found, q + 1, 0, 0⟩ with
          | error r =>
            rw [hi] at hin
            obtain ⟨ρ2, hin⟩ := hin
            exact ⟨ρ2, blk_nx h0 (blk_nx h5 (blk_nx i1 (blk_nx i2 (blk_nx i3 (blk_nx hend' (blk_rt hin))))))⟩
          | ok s' =>
            rw [hi] at hin
            obtain ⟨x1', hin⟩ := hin
            dsimp only
            obtain ⟨i1', i2', i3', i4', i5'⟩ := innP_ok (s := ⟨here, found, q + 1, 0, 0⟩) hq1 hi
            have j1 : q + 1 ≤ s'.p := i1'
            have j3 : s'.here.length = here.length := i3'
            have j4 : s'.found.length + (q + 1) ≤ found.length + s'.p := i4'
            exact ⟨⟨_, blk_nx h0 (blk_nx h5 (blk_nx i1 (blk_nx i2 (blk_nx i3 (blk_nx hend' (blk_nx hin rfl)))))), rfl⟩, j3.trans hh, by omega, by omega, i2'⟩
      · rw [if_neg hn10]
        have hn' : ((t.drop q).take 1 == [10]) = false := by simpa using hn10
        refine ⟨envT t C T BG x2 ⟨here, found, mo, p⟩ (some (dSteps (.ok ([v, b], q)))), blk_nx h0 (blk_nx h5 (blk_nx i1 (blk_rt ?_)))⟩
        simp! [dSteps, hl, cut_1, hn', hok, dNo]
end
end Ev

/-! k49: texts that are read, both ways. -/
namespace Ev
def begT (t : Tx) (p : Nat) : List Nat := (bitsT t p).map bitN
/-- a text: cycles, times, bits at the beginning, changes -/
def parseT (t : Tx) : Except Nat (Nat × Nat × List Nat × List Ch) := match stepsT t hdW 0 with
  | .error q => .error q
  | .ok (vs, p) => if bitsT t p = [] then .error p else if (t.drop (p + (bitsT t p).length)).take 1 = [10] then (match outP t ((vs[0]?).getD 0) ((vs[1]?).getD 0) (begT t p).length t.length ⟨begT t p, [], (0, 0), p + (bitsT t p).length + 1⟩ with
    | .error r => .error r
    | .ok xs => .ok ((vs[0]?).getD 0, (vs[1]?).getD 0, begT t p, xs)) else .error (p + (bitsT t p).length)
/-- what is answered -/
def dRes (t : Tx) : D := match parseT t with
  | .error q => dNo q
  | .ok (C, T, bg, xs) => .tup [.str [121, 101, 115], dW C bg.length T (madeB T bg xs)]
theorem hd_steps (t : Tx) : (∃ q, stepsT t hdW 0 = .error q ∧ ((misT t 0 [119, 97, 118, 101, 115, 32] = some q) ∨ (misT t 0 [119, 97, 118, 101, 115, 32] = none ∧ ((numT t 1 1000 6 = none ∧ q = 6) ∨ (∃ v p1, numT t 1 1000 6 = some (v, p1) ∧ ((misT t p1 [32] = some q) ∨ (misT t p1 [32] = none ∧ ((numT t 1 1000 (p1 + 1) = none ∧ q = p1 + 1) ∨ (∃ b p2, numT t 1 1000 (p1 + 1) = some (b, p2) ∧ misT t p2 [32] = some q))))))))) ∨
    (∃ v p1 b p2, stepsT t hdW 0 = .ok ([v, b], p2 + 1) ∧ misT t 0 [119, 97, 118, 101, 115, 32] = none ∧ numT t 1 1000 6 = some (v, p1) ∧ misT t p1 [32] = none ∧ numT t 1 1000 (p1 + 1) = some (b, p2) ∧ misT t p2 [32] = none) := by
  unfold hdW
  simp only [stepsT]
  cases h0 : misT t 0 [119, 97, 118, 101, 115, 32] with
  | some q => exact .inl ⟨q, rfl, .inl rfl⟩
  | none =>
    dsimp only [List.length_cons, List.length_nil]
    cases h1 : numT t 1 1000 6 with
    | none => exact .inl ⟨6, rfl, .inr ⟨rfl, .inl ⟨rfl, rfl⟩⟩⟩
    | some r =>
      obtain ⟨v, p1⟩ := r
      dsimp only
      cases h2 : misT t p1 [32] with
      | some q => exact .inl ⟨q, rfl, .inr ⟨rfl, .inr ⟨v, p1, rfl, .inl h2⟩⟩⟩
      | none =>
        dsimp only [List.length_cons, List.length_nil]
        cases h3 : numT t 1 1000 (p1 + 1) with
        | none => exact .inl ⟨p1 + 1, rfl, .inr ⟨rfl, .inr ⟨v, p1, rfl, .inr ⟨h2, .inl ⟨h3, rfl⟩⟩⟩⟩⟩
        | some r =>
          obtain ⟨b, p2⟩ := r
          dsimp only
          cases h4 : misT t p2 [32] with
          | some q => exact .inl ⟨q, rfl, .inr ⟨rfl, .inr ⟨v, p1, rfl, .inr ⟨h2, .inr ⟨b, p2, h3, h4⟩⟩⟩⟩⟩
          | none => exact .inr ⟨v, p1, b, p2, rfl, rfl, rfl, h2, h3, h4⟩
theorem bits_le {t : Tx} {p : Nat} (h : p ≤ t.length) : p + (bitsT t p).length ≤ t.length := by
  have := (List.takeWhile_prefix isBit (l := t.drop p)).length_le
  rw [List.length_drop] at this
  unfold bitsT
  omega
theorem begT_len {t : Tx} {p : Nat} : (begT t p).length = (bitsT t p).length := by simp [begT]
section
variable {m : Nat} {t : Tx}
theorem lout_read {C T : Nat} {BG : List Nat} {x1 x2 : Option D} {s : OutS} (h : Tok t) (hh : s.here.length = BG.length) (hf : s.found.length ≤ s.p) (hp : s.p ≤ t.length) :
    ∀ f, t.length - s.p ≤ f → (match outP t C T BG.length f s with
      | .error q => ∃ ρ2, exec (semG Pg49 (m + 2)) (.whl d20b2w d20b2 [1, 10, 11, 13, 14]) (envT t C T BG x2 s x1) = .ok (.rt (dNo q), ρ2)
      | .ok xs => ∃ s' x1', s'.found = xs ∧ exec (semG Pg49 (m + 2)) (.whl d20b2w d20b2 [1, 10, 11, 13, 14]) (envT t C T BG x2 s x1) = .ok (.nx, envT t C T BG x2 s' x1')) := by
  refine ex_whlr (g := semG Pg49 (m + 2)) (c := d20b2w) (b := d20b2) (w := [1, 10, 11, 13, 14]) (fun (z : OutS × Option D) => envT t C T BG x2 z.1 z.2) (fun z => z.1.here.length = BG.length ∧ z.1.found.length ≤ z.1.p ∧ z.1.p ≤ t.length) (fun z => t.length - z.1.p) (fun z r => ∀ f, t.length - z.1.p ≤ f → (match outP t C T BG.length f z.1 with
      | .error q => ∃ ρ2, r = .ok (.rt (dNo q), ρ2)
      | .ok xs => ∃ s' x1', s'.found = xs ∧ r = .ok (.nx, envT t C T BG x2 s' x1'))) (fun z hI => ?_) (s, x1) ⟨hh, hf, hp⟩ ?_
  · obtain ⟨z, x1⟩ := z
    obtain ⟨hh, hf, hp⟩ := hI
    dsimp only at hh hf hp ⊢
    have hl : t.length ≤ 16777216 := h.line
    have hc : (ev (semG Pg49 (m + 2)) d20b2w true (envT t C T BG x2 z x1)).bind tBl = .ok (decide (z.p < t.length), envT t C T BG x2 z x1) := by
      unfold d20b2w
      simp! [hl]
    by_cases hlt : z.p < t.length
    · rw [decide_eq_true hlt] at hc
      refine .inr ⟨_, hc, ?_⟩
      have h1' := lout_read1 (m := m) (C := C) (T := T) (BG := BG) (x1 := x1) (x2 := x2) (s := z) h hh hf
      cases ho : out1 t C T BG.length z with
      | error q =>
        rw [ho] at h1'
        obtain ⟨ρ2, h1'⟩ := h1'
        refine .inr (.inl ⟨dNo q, ρ2, h1', fun f hf' => ?_⟩)
        obtain ⟨f, rfl⟩ : ∃ f', f = f' + 1 := ⟨f - 1, by omega⟩
        rw [outP_succ, if_pos hlt, ho]
        exact ⟨_, rfl⟩
      | ok s' =>
        rw [ho] at h1'
        obtain ⟨⟨ρ2, e1, e2⟩, e3, e4, e5, e6⟩ := h1'
        refine .inl ⟨ρ2, (s', none), e1, e2, ⟨e3, e4, e6⟩, by dsimp only; omega, fun r hr f hf' => ?_⟩
        obtain ⟨f, rfl⟩ : ∃ f', f = f' + 1 := ⟨f - 1, by omega⟩
        rw [outP_succ, if_pos hlt, ho]
        exact hr f (by dsimp only; omega)
    · rw [decide_eq_false hlt] at hc
      refine .inl ⟨_, hc, fun f _ => ?_⟩
      have : outP t C T BG.length f z = .ok z.found := by
        cases f with
        | zero => rfl
        | succ f => rw [outP_succ, if_neg hlt]
      rw [this]
      exact ⟨z, x1, rfl, rfl⟩
  · have := h.len
    exact Nat.lt_of_le_of_lt (show t.length - s.p ≤ 1000000 by omega) (by decide)
theorem outP_len {C T : Nat} {BG : List Nat} (h : Tok t) : ∀ {f : Nat} {s : OutS} {xs : List Ch}, s.here.length = BG.length → s.found.length ≤ s.p → s.p ≤ t.length → outP t C T BG.length f s = .ok xs → xs.length ≤ t.length
  | 0, s, xs, h1, h2, h3, e => by
    simp only [outP, Except.ok.injEq] at e
    subst e
    omega
  | f + 1, s, xs, h1, h2, h3, e => by
    rw [outP_succ] at e
    split at e
    · have hr := lout_read1 (m := 0) (C := C) (T := T) (BG := BG) (x1 := none) (x2 := none) (s := s) h h1 h2
      cases ho : out1 t C T BG.length s with
      | error q => rw [ho] at e; cases e
      | ok s' =>
        rw [ho] at e hr
        exact outP_len h hr.2.1 hr.2.2.1 hr.2.2.2.2 e
    · simp only [Except.ok.injEq] at e
      subst e
      omega
/-- what is known of a text that is read -/
theorem parse_good {C T : Nat} {bg : List Nat} {xs : List Ch} (ht : Tok t) (h : parseT t = .ok (C, T, bg, xs)) : C < 1000 ∧ 0 < T ∧ T < 1000 ∧ bg.length ≤ t.length ∧ xs.length ≤ t.length ∧ Good C T bg.length xs := by
  unfold parseT at h
  rcases hd_steps t with ⟨q, e, _⟩ | ⟨v, p1, b, p2, e, h0, h1, h2, h3, h4⟩
  · rw [e] at h; cases h
  · rw [e] at h
    dsimp only at h
    simp only [List.getElem?_cons_zero, List.getElem?_cons_succ, Option.getD_some] at h
    have a1 := numT_some h1
    have a3 := numT_some h3
    have a4 := misT_none h4 (by simp)
    simp only [List.length_cons, List.length_nil] at a4
    have hb := bits_le a4
    split at h
    · cases h
    · split at h
      · rename_i hn10
        have hq := nl_lt hn10
        cases ho : outP t v b (begT t (p2 + 1)).length t.length ⟨begT t (p2 + 1), [], (0, 0), p2 + 1 + (bitsT t (p2 + 1)).length + 1⟩ with
        | error r => rw [ho] at h; cases h
        | ok ys =>
          rw [ho] at h
          simp only [Except.ok.injEq, Prod.mk.injEq] at h
          obtain ⟨rfl, rfl, rfl, rfl⟩ := h
          refine ⟨a1.2.2.2, a3.2.2.1, a3.2.2.2, by rw [begT_len]; omega, outP_len ht (BG := begT t (p2 + 1)) (s := ⟨begT t (p2 + 1), [], (0, 0), p2 + 1 + (bitsT t (p2 + 1)).length + 1⟩) rfl (Nat.zero_le _) hq ho, ?_⟩
          exact outP_good (s := ⟨begT t (p2 + 1), [], (0, 0), p2 + 1 + (bitsT t (p2 + 1)).length + 1⟩) ⟨⟨by simp, List.Pairwise.nil⟩, a3.2.2.1, by simp⟩ ho
      · cases h
theorem bit_in (c : Nat) : inT c [48, 49] = isBit c := by
  unfold inT isBit
  rw [Bool.eq_iff_iff]
  simp
abbrev envB (t : Tx) (x1 : Option D) (e p C T : Nat) : Env := [some (.str t), x1, some (.int e), some (.int p), none, none, none, none, some (.int C), some (.int T), none, none, none, none, none]
theorem lbits_loop {p C T : Nat} {x1 : Option D} (h : Tok t) (hp : p ≤ t.length) : exec (semG Pg49 m) (.whl d20b0w d20b0 []) (envB t x1 p p C T) = .ok (.nx, envB t x1 (p + (bitsT t p).length) p C T) := by
  have hl : t.length ≤ 16777216 := h.line
  have hb := bits_le hp
  have hx := ex_whln (g := semG Pg49 m) (c := d20b0w) (b := d20b0) (w := []) (fun k => envB t x1 (p + k) p C T) (bitsT t p).length (Nat.lt_of_le_of_lt (show (bitsT t p).length ≤ 1000000 by have := h.len; omega) (by decide)) (fun k hk => ?_) ?_
  · exact hx
  · obtain ⟨c, a, b, hbit⟩ := bits_at hk
    have h4 := lt_of_at a
    have h5 : ((p : Int) + (k : Int) < (t.length : Int)) := by omega
    have hat : atI t ((p : Int) + (k : Int)) = some c := by rw [← Int.natCast_add, atI_nat]; exact a
    refine ⟨envB t x1 (p + k) p C T, envB t x1 (p + (k + 1)) p C T, ?_, ?_, rfl⟩
    · unfold d20b0w
      simp! [hl, h5, hat, bit_in, hbit]
    · unfold d20b0
      simp!
      omega
  · by_cases hq : p + (bitsT t p).length < t.length
    · have a := List.getElem?_eq_getElem hq
      have hbit := bits_end a
      revert hq a hbit
      generalize (bitsT t p).length = k
      intro hq a hbit
      have h5 : ((p : Int) + (k : Int) < (t.length : Int)) := by omega
      have hat : atI t ((p : Int) + (k : Int)) = some t[p + k] := by rw [← Int.natCast_add, atI_nat]; exact a
      unfold d20b0w
      simp! [hl, h5, hat, bit_in, hbit]
    · revert hq
      generalize (bitsT t p).length = k
      intro hq
      have h5 : ¬ ((p : Int) + (k : Int) < (t.length : Int)) := by omega
      unfold d20b0w
      simp! [hl, h5]
theorem lbits_list {p C T : Nat} {x1 : Option D} (h : Tok t) (hp : p ≤ t.length) : ev (semG Pg49 m) d20c0 false (envB t x1 (p + (bitsT t p).length) p C T) = .ok (.lst .ow (dNs (begT t p)), envB t x1 (p + (bitsT t p).length) p C T) := by
  have hl : t.length ≤ 16777216 := h.line
  have hb := bits_le hp
  have hcut : cut t (some (p : Int)) (some ((p : Int) + ((bitsT t p).length : Int))) = bitsT t p := by
    rw [cut_pk]
    exact tw_take
  unfold begT
  rw [← dNs_map]
  refine ev_lca (inj := fun c => .str [c]) (xs := bitsT t p) (fun c => .int (bitN c : Nat)) (it_s (by simp! [hl, hcut])) (by unfold LINE; omega) (by rfl) (fun c hc => ⟨[some (.str t), x1, some (.int (p + (bitsT t p).length : Nat)), some (.int p), none, none, none, none, some (.int C), some (.int T), none, none, some (.str [c]), none, none], [some (.str t), x1, some (.int (p + (bitsT t p).length : Nat)), some (.int p), none, none, none, none, some (.int C), some (.int T), none, none, some (.str [c]), none, none], rfl, ?_, rfl⟩)
  have hf := figs_bit (bits_all c hc)
  simp! [hf]
/-- _law_read -/
theorem lread_ok (h : Tok t) : ∃ rs, (semG Pg49 (m + 3)).call 20 [.str t] = .ok (dRes t, rs) := by
  have hl : t.length ≤ 16777216 := h.line
  obtain ⟨rs, hst⟩ := steps_ok (m := m) (p := 0) (ws := hdW) (o := .ow) h okW_hd (by rw [frz_ow, frzs_map fun w _ => frz_Wn w]) (by simp [hdW])
  have h0 : exec (semG Pg49 (m + 2)) (.asg 1 (.call 19 (es [(.var 0), (.k (.int 0)), (.lst (es [(.k (.str [119, 97, 118, 101, 115, 32])), (.tup (es [(.k (.int 1)), (.k (.int 1000))])), (.k (.str [32])), (.tup (es [(.k (.int 1)), (.k (.int 1000))])), (.k (.str [32]))]))]))) [some (.str t), none, none, none, none, none, none, none, none, none, none, none, none, none, none] = .ok (.nx, [some (.str t), some (dSteps (stepsT t hdW 0)), none, none, none, none, none, none, none, none, none, none, none, none, none]) := by
    refine asg_of (ρ1 := [some (.str t), none, none, none, none, none, none, none, none, none, none, none, none, none, none]) (ev_callnb ?_ hst (by rfl)) (by simp)
    have : evs (semG Pg49 (m + 2)) (es [(.var 0), (.k (.int 0)), (.lst (es [(.k (.str [119, 97, 118, 101, 115, 32])), (.tup (es [(.k (.int 1)), (.k (.int 1000))])), (.k (.str [32])), (.tup (es [(.k (.int 1)), (.k (.int 1000))])), (.k (.str [32]))]))]) [some (.str t), none, none, none, none, none, none, none, none, none, none, none, none, none, none] = .ok ([.str t, .int 0, .lst .ow [.str [119, 97, 118, 101, 115, 32], .tup [.int 1, .int 1000], .str [32], .tup [.int 1, .int 1000], .str [32]]], [some (.str t), none, none, none, none, none, none, none, none, none, none, none, none, none, none]) := by simp!
    exact this
  unfold dRes parseT
  rcases hd_steps t with ⟨q, e, _⟩ | ⟨v, p1, b, p2, e, hm0, h1, h2, h3, h4⟩
  · rw [e] at h0
    rw [e]
    dsimp only
    refine ⟨_, (call_succ (fd := d20) rfl).trans (run_rt (ρ0 := [some (.str t), none, none, none, none, none, none, none, none, none, none, none, none, none, none]) (ρ' := [some (.str t), some (dNo q), none, none, none, none, none, none, none, none, none, none, none, none, none]) rfl rfl (blk_nx h0 (blk_rt ?_)))⟩
    simp! [dSteps, dNo]
  · have hpg : ∀ (bg : List Nat) (xs : List Ch), parseT t = .ok (v, b, bg, xs) → v < 1000 ∧ 0 < b ∧ b < 1000 ∧ bg.length ≤ t.length ∧ xs.length ≤ t.length ∧ Good v b bg.length xs := fun bg xs hh => parse_good h hh
    unfold parseT at hpg
    rw [e] at h0 hpg
    rw [e]
    dsimp only at hpg ⊢
    simp only [List.getElem?_cons_zero, List.getElem?_cons_succ, Option.getD_some] at hpg ⊢
    have a4 := misT_none h4 (by simp)
    simp only [List.length_cons, List.length_nil] at a4
    have hb := bits_le a4
    revert hpg h0
    generalize p2 + 1 = p at *
    intro h0 hpg
    have h5 : exec (semG Pg49 (m + 2)) (.ife (.bin .eq (.idx (.var 1) (.k (.int 0))) (.k (.str [110, 111]))) (blk [.ret (.fz 1)]) (blk [])) [some (.str t), some (dSteps (.ok ([v, b], p))), none, none, none, none, none, none, none, none, none, none, none, none, none] = .ok (.nx, [some (.str t), some (dSteps (.ok ([v, b], p))), none, none, none, none, none, none, none, none, none, none, none, none, none]) := by simp! [dSteps]
    have h6 : exec (semG Pg49 (m + 2)) (.unp (.tp [(.tp [(.nm 8), (.nm 9)]), (.nm 3)]) (.var 1)) [some (.str t), some (dSteps (.ok ([v, b], p))), none, none, none, none, none, none, none, none, none, none, none, none, none] = .ok (.nx, [some (.str t), some (dSteps (.ok ([v, b], p))), none, some (.int p), none, none, none, none, some (.int v), some (.int b), none, none, none, none, none]) := by simp! [dSteps, dNs]
    have h7 : exec (semG Pg49 (m + 2)) (.asg 2 (.var 3)) [some (.str t), some (dSteps (.ok ([v, b], p))), none, some (.int p), none, none, none, none, some (.int v), some (.int b), none, none, none, none, none] = .ok (.nx, envB t (some (dSteps (.ok ([v, b], p)))) p p v b) := by simp!
    have h8 := lbits_loop (m := m + 2) (C := v) (T := b) (x1 := some (dSteps (.ok ([v, b], p)))) h a4
    have h9 := lbits_list (m := m + 2) (C := v) (T := b) (x1 := some (dSteps (.ok ([v, b], p)))) h a4
    have hok := ok_take h (p + (bitsT t p).length) 1
    have hcut := cut_1 (t := t) (p + (bitsT t p).length)
    simp only [Int.natCast_add] at hcut
    have start : ∀ {d ρ'}, exec (semG Pg49 (m + 2)) (blk [.ife (.or (.bin .eq (.var 2) (.var 3)) (.bin .ne (.slc (.var 0) (.var 2) (.bin .add (.var 2) (.k (.int 1)))) (.k (.str [10])))) (blk [.ret (.tup (es [(.k (.str [110, 111])), (.var 2)]))]) (blk []), .par [4, 3, 5] (es [d20c0, (.bin .add (.var 2) (.k (.int 1))), (.tup (es [(.k (.int 0)), (.k (.int 0))]))]), .par [6, 7] (es [(.un .list (.var 4)), (.lst (es []))]), .whl d20b2w d20b2 [1, 10, 11, 13, 14], .ret (.tup (es [(.k (.str [121, 101, 115])), (.call 21 (es [(.var 8), (.var 9), (.fz 4), (.fz 7)]))]))]) (envB t (some (dSteps (.ok ([v, b], p)))) (p + (bitsT t p).length) p v b) = .ok (.rt d, ρ') → ∃ rs, (semG Pg49 (m + 3)).call 20 [.str t] = .ok (d, rs) := fun {d ρ'} hr =>
      ⟨_, (call_succ (fd := d20) rfl).trans (run_rt (ρ0 := [some (.str t), none, none, none, none, none, none, none, none, none, none, none, none, none, none]) rfl rfl (blk_nx h0 (blk_nx h5 (blk_nx h6 (blk_nx h7 (blk_nx h8 hr))))))⟩
    by_cases hbn : bitsT t p = []
    · rw [if_pos hbn]
      refine start (ρ' := envB t (some (dSteps (.ok ([v, b], p)))) (p + (bitsT t p).length) p v b) (blk_rt ?_)
      rw [hbn]
      simp! [dNo]
    · have hpos := List.length_pos_iff.mpr hbn
      rw [if_neg hbn]
      have hne : (((p : Int) + ((bitsT t p).length : Int)) == (p : Int)) = false := by rw [beq_eq_false_iff_ne]; omega
      by_cases hn10 : (t.drop (p + (bitsT t p).length)).take 1 = [10]
      · rw [if_pos hn10] at hpg ⊢
        have hq1 := nl_lt hn10
        have i1 : exec (semG Pg49 (m + 2)) (.ife (.or (.bin .eq (.var 2) (.var 3)) (.bin .ne (.slc (.var 0) (.var 2) (.bin .add (.var 2) (.k (.int 1)))) (.k (.str [10])))) (blk [.ret (.tup (es [(.k (.str [110, 111])), (.var 2)]))]) (blk [])) (envB t (some (dSteps (.ok ([v, b], p)))) (p + (bitsT t p).length) p v b) = .ok (.nx, envB t (some (dSteps (.ok ([v, b], p)))) (p + (bitsT t p).length) p v b) := by
          rw [hn10] at hok hcut
          simp! [hl, hcut, hne, hok]
        have i2 : exec (semG Pg49 (m + 2)) (.par [4, 3, 5] (es [d20c0, (.bin .add (.var 2) (.k (.int 1))), (.tup (es [(.k (.int 0)), (.k (.int 0))]))])) (envB t (some (dSteps (.ok ([v, b], p)))) (p + (bitsT t p).length) p v b) = .ok (.nx, [some (.str t), some (dSteps (.ok ([v, b], p))), some (.int (p + (bitsT t p).length : Nat)), some (.int (p + (bitsT t p).length + 1 : Nat)), some (.lst .ow (dNs (begT t p))), some (.tup [.int 0, .int 0]), none, none, some (.int v), some (.int b), none, none, none, none, none]) := by
          rw [x_par, es_cons, h9, xb_ok]
          simp!
        have i3 : exec (semG Pg49 (m + 2)) (.par [6, 7] (es [(.un .list (.var 4)), (.lst (es []))])) [some (.str t), some (dSteps (.ok ([v, b], p))), some (.int (p + (bitsT t p).length : Nat)), some (.int (p + (bitsT t p).length + 1 : Nat)), some (.lst .ow (dNs (begT t p))), some (.tup [.int 0, .int 0]), none, none, some (.int v), some (.int b), none, none, none, none, none] = .ok (.nx, envT t v b (begT t p) (some (.int (p + (bitsT t p).length : Nat))) ⟨begT t p, [], (0, 0), p + (bitsT t p).length + 1⟩ (some (dSteps (.ok ([v, b], p))))) := by
          simp! [dChs]
        have hx := lout_read (m := m) (C := v) (T := b) (BG := begT t p) (x1 := some (dSteps (.ok ([v, b], p)))) (x2 := some (.int (p + (bitsT t p).length : Nat))) (s := ⟨begT t p, [], (0, 0), p + (bitsT t p).length + 1⟩) h rfl (Nat.zero_le _) hq1 t.length (Nat.sub_le _ _)
        cases ho : outP t v b (begT t p).length t.length ⟨begT t p, [], (0, 0), p + (bitsT t p).length + 1⟩ with
        | error q =>
          rw [ho] at hx
          obtain ⟨ρ2, hx⟩ := hx
          exact start (blk_nx i1 (blk_nx i2 (blk_nx i3 (blk_rt hx))))
        | ok xs =>
          rw [ho] at hx
          obtain ⟨s', x1', e1, hx⟩ := hx
          rw [ho, if_neg hbn] at hpg
          obtain ⟨g1, g2, g3, g4, g5, g6⟩ := hpg _ _ rfl
          have htl := h.len
          obtain ⟨rs2, hm⟩ := made_ok (m := m + 1) (C := v) (T := b) (bg := begT t p) (xs := xs) (BG := .lst .sh (dNs (begT t p))) (MV := .lst .sh (dChs xs)) isBg_sh (by simp [u_lsl, dChs_fros]) g6 g2 (by omega) (by unfold LINE; omega) (by unfold LINE; omega) (by unfold LINE; omega)
          refine start (ρ' := [some (.str t), x1', some (.int (p + (bitsT t p).length : Nat)), some (.int s'.p), some (.lst .sh (dNs (begT t p))), some (.tup [.int (s'.mo.1 : Nat), .int (s'.mo.2 : Nat)]), some (.lst .ow (dNs s'.here)), some (.lst .sh (dChs xs)), some (.int v), some (.int b), none, none, none, none, none]) (blk_nx i1 (blk_nx i2 (blk_nx i3 (blk_nx hx (blk_rt (ret_of ?_))))))
          have hcall := ev_callnb (g := semG Pg49 (m + 2)) (f := 21) (as := es [(.var 8), (.var 9), (.fz 4), (.fz 7)]) (vw := false) (ρ := envT t v b (begT t p) (some (.int (p + (bitsT t p).length : Nat))) s' x1') (ρ1 := [some (.str t), x1', some (.int (p + (bitsT t p).length : Nat)), some (.int s'.p), some (.lst .sh (dNs (begT t p))), some (.tup [.int (s'.mo.1 : Nat), .int (s'.mo.2 : Nat)]), some (.lst .ow (dNs s'.here)), some (.lst .sh (dChs xs)), some (.int v), some (.int b), none, none, none, none, none]) (by rw [← e1]; simp! [dChs_frzs]) hm (by rfl)
          rw [e_tup, es_cons, e_k]
          dsimp only
          rw [show fro (.str [121, 101, 115]) = true from rfl, xg_t, xb_ok]
          dsimp only
          rw [es_cons, hcall]
          rfl
      · rw [if_neg hn10]
        have hn' : ((t.drop (p + (bitsT t p).length)).take 1 == [10]) = false := by simpa using hn10
        refine start (ρ' := envB t (some (dSteps (.ok ([v, b], p)))) (p + (bitsT t p).length) p v b) (blk_rt ?_)
        simp! [hl, hcut, hne, hn', hok, dNo]
end
end Ev

/-! k49: read_waves, _law_asked. -/
namespace Ev
section
variable {g : G}
theorem mc1_ok {t : Tx} {p q f : Nat} {as : Es} {vw : Bool} {x : Option D} {ρt : Env} {ds : List D} {d : D} {rs : List (Option D)} (h1 : evs g as (x :: none :: ρt) = .ok (ds, x :: none :: ρt)) (h2 : g.call f (dRd t p :: ds) = .ok (d, some (dRd t q) :: rs)) (nb : noBor as = true) : ev g (.mcall 0 f (.bor 1) as) vw (x :: some (dRd t p) :: ρt) = .ok (d, x :: some (dRd t q) :: ρt) := by
  rw [e_mcall, e_bor, getS1, get0]
  dsimp only
  rw [xb_ok]
  dsimp only
  rw [show insC (dRd t p) 0 = true from rfl, xg_t, show (x :: some (dRd t p) :: ρt).set 1 none = x :: none :: ρt from rfl, h1, xb_ok]
  dsimp only
  rw [h2, xb_ok]
  dsimp only
  rw [show backA (.cons (.bor 1) as) (some (dRd t q) :: rs) (x :: none :: ρt) = backA as rs (x :: some (dRd t q) :: ρt) from rfl, backA_nb nb]
theorem mc1_exn {t : Tx} {p f c : Nat} {as : Es} {vw : Bool} {x : Option D} {ρt : Env} {ds : List D} {d : D} (h1 : evs g as (x :: none :: ρt) = .ok (ds, x :: none :: ρt)) (h2 : g.call f (dRd t p :: ds) = .exn c d) : ev g (.mcall 0 f (.bor 1) as) vw (x :: some (dRd t p) :: ρt) = .exn c d := by
  rw [e_mcall, e_bor, getS1, get0]
  dsimp only
  rw [xb_ok]
  dsimp only
  rw [show insC (dRd t p) 0 = true from rfl, xg_t, show (x :: some (dRd t p) :: ρt).set 1 none = x :: none :: ρt from rfl, h1, xb_ok]
  dsimp only
  rw [h2, xb_exn]
end
section
variable {m : Nat} {t : Tx}
theorem sg1_ok {p : Nat} {cs : Tx} {e : E} {vw : Bool} {x : Option D} {ρt : Env} (h : Tok t) (hc : ∀ c ∈ cs, c < 1114112) (he : evs (semG Pg49 (m + 1)) (es [e]) (x :: none :: ρt) = .ok ([.str cs], x :: none :: ρt)) (nb : noBor (es [e]) = true) (hm : misT t p cs = none) : ev (semG Pg49 (m + 1)) (.mcall 0 4 (.bor 1) (es [e])) vw (x :: some (dRd t p) :: ρt) = .ok (.non, x :: some (dRd t (p + cs.length)) :: ρt) := by
  have h2 := signs_ok (m := m) (p := p) h hc
  rw [hm] at h2
  exact mc1_ok he h2 nb
theorem sg1_exn {p q : Nat} {cs : Tx} {e : E} {vw : Bool} {x : Option D} {ρt : Env} (h : Tok t) (hc : ∀ c ∈ cs, c < 1114112) (he : evs (semG Pg49 (m + 1)) (es [e]) (x :: none :: ρt) = .ok ([.str cs], x :: none :: ρt)) (hm : misT t p cs = some q) : ev (semG Pg49 (m + 1)) (.mcall 0 4 (.bor 1) (es [e])) vw (x :: some (dRd t p) :: ρt) = .exn 0 (.int q) := by
  have h2 := signs_ok (m := m) (p := p) h hc
  rw [hm] at h2
  exact mc1_exn he h2
theorem nm1_ok {p lo hi v q : Nat} {a b : E} {vw : Bool} {x : Option D} {ρt : Env} (h : Tok t) (ha : evs (semG Pg49 (m + 1)) (es [a, b]) (x :: none :: ρt) = .ok ([.int lo, .int hi], x :: none :: ρt)) (nb : noBor (es [a, b]) = true) (hm : numT t lo hi p = some (v, q)) : ev (semG Pg49 (m + 1)) (.mcall 0 5 (.bor 1) (es [a, b])) vw (x :: some (dRd t p) :: ρt) = .ok (.int v, x :: some (dRd t q) :: ρt) := by
  have h2 := num_ok (m := m) (p := p) (lo := lo) (hi := hi) h
  rw [hm] at h2
  exact mc1_ok ha h2 nb
theorem nm1_exn {p lo hi : Nat} {a b : E} {vw : Bool} {x : Option D} {ρt : Env} (h : Tok t) (ha : evs (semG Pg49 (m + 1)) (es [a, b]) (x :: none :: ρt) = .ok ([.int lo, .int hi], x :: none :: ρt)) (hm : numT t lo hi p = none) : ev (semG Pg49 (m + 1)) (.mcall 0 5 (.bor 1) (es [a, b])) vw (x :: some (dRd t p) :: ρt) = .exn 0 (.int p) := by
  have h2 := num_ok (m := m) (p := p) (lo := lo) (hi := hi) h
  rw [hm] at h2
  exact mc1_exn ha h2
abbrev env7 (t : Tx) (p : Nat) (a b c : Option D) : Env := [some (.str t), some (dRd t p), a, b, c]
theorem semInit : (semG Pg49 m).init 0 = 3 := by rw [semG_init]; rfl
theorem ret_exn {g : G} {e : E} {ρ : Env} {c : Nat} {d : D} (h : ev g e false ρ = .exn c d) : exec g (.ret e) ρ = .exn c d := by
  rw [x_ret, h, xb_exn]
/-- read_waves -/
theorem read_ok (h : Tok t) : (match parseT t with
    | .error q => (semG Pg49 (m + 3)).call 7 [.str t] = .exn 0 (.int q)
    | .ok (C, T, bg, xs) => ∃ rs, (semG Pg49 (m + 3)).call 7 [.str t] = .ok (dW C bg.length T (madeB T bg xs), rs)) := by
  have cw : ∀ c ∈ [119, 97, 118, 101, 115, 32], c < 1114112 := by decide
  have c32 : ∀ c ∈ [32], c < 1114112 := by decide
  have c10 : ∀ c ∈ [10], c < 1114112 := by decide
  have h0 : exec (semG Pg49 (m + 2)) (.asg 1 (.make 0 (es [(.var 0)]))) [some (.str t), none, none, none, none] = .ok (.nx, env7 t 0 none none none) := by
    refine asg_of (ρ1 := [some (.str t), none, none, none, none]) (d := dRd t 0) ?_ (by simp)
    have hi := init_ok (m := m + 1) (t := t)
    rw [e_make, semInit, es_cons, e_var, get0]
    dsimp only
    rw [show (false || fro (.str t)) = true from rfl, xg_t, xb_ok]
    dsimp only
    rw [es_nil, xb_ok, xb_ok]
    dsimp only
    rw [hi]
    rfl
  have ew : ∀ a b c, evs (semG Pg49 (m + 2)) (es [.bin .add (.glob 0) (.k (.str [32]))]) [some (.str t), none, a, b, c] = .ok ([.str [119, 97, 118, 101, 115, 32]], [some (.str t), none, a, b, c]) := fun a b c => by simp! [glob49]
  have e32 : ∀ a b c, evs (semG Pg49 (m + 2)) (es [.k (.str [32])]) [some (.str t), none, a, b, c] = .ok ([.str [32]], [some (.str t), none, a, b, c]) := fun a b c => by simp!
  have e10 : ∀ a b c, evs (semG Pg49 (m + 2)) (es [.k (.str [10])]) [some (.str t), none, a, b, c] = .ok ([.str [10]], [some (.str t), none, a, b, c]) := fun a b c => by simp!
  have en : ∀ a b c, evs (semG Pg49 (m + 2)) (es [.k (.int 1), .k (.int 1000)]) [some (.str t), none, a, b, c] = .ok ([.int (1 : Nat), .int (1000 : Nat)], [some (.str t), none, a, b, c]) := fun a b c => by simp!
  have fail : ∀ {q}, exec (semG Pg49 (m + 2)) d7.body [some (.str t), none, none, none, none] = .exn 0 (.int q) → (semG Pg49 (m + 3)).call 7 [.str t] = .exn 0 (.int q) := fun {q} e => (call_succ (fd := d7) rfl).trans (run_exn (ρ0 := [some (.str t), none, none, none, none]) rfl rfl e)
  rcases hd_steps t with ⟨q, e, hq⟩ | ⟨v, p1, b, p2, e, hm0, h1, h2, h3, h4⟩
  · rw [show parseT t = .error q by unfold parseT; rw [e]]
    dsimp only
    refine fail (blk_nx h0 ?_)
    rcases hq with hm0 | ⟨hm0, hq⟩
    · exact blk_exn (drop_exn (sg1_exn (m := m + 1) h cw (ew _ _ _) hm0))
    · refine blk_nx (drop_of (sg1_ok (m := m + 1) h cw (ew _ _ _) (by rfl) hm0)) ?_
      rcases hq with ⟨h1, rfl⟩ | ⟨v, p1, h1, hq⟩
      · exact blk_exn (asg_exn (nm1_exn (m := m + 1) h (en _ _ _) h1))
      · refine blk_nx (asg_of (nm1_ok (m := m + 1) h (en _ _ _) (by rfl) h1) (by simp)) ?_
        rcases hq with h2 | ⟨h2, hq⟩
        · exact blk_exn (drop_exn (sg1_exn (m := m + 1) h c32 (e32 _ _ _) h2))
        · refine blk_nx (drop_of (sg1_ok (m := m + 1) h c32 (e32 _ _ _) (by rfl) h2)) ?_
          rcases hq with ⟨h3, rfl⟩ | ⟨b, p2, h3, h4⟩
          · exact blk_exn (asg_exn (nm1_exn (m := m + 1) h (en _ _ _) h3))
          · refine blk_nx (asg_of (nm1_ok (m := m + 1) h (en _ _ _) (by rfl) h3) (by simp)) ?_
            exact blk_exn (drop_exn (sg1_exn (m := m + 1) h c32 (e32 _ _ _) h4))
  · have hpg : ∀ (bg : List Nat) (xs : List Ch), parseT t = .ok (v, b, bg, xs) → v < 1000 ∧ 0 < b ∧ b < 1000 ∧ bg.length ≤ t.length ∧ xs.length ≤ t.length ∧ Good v b bg.length xs := fun bg xs hh => parse_good h hh
    have a4 := misT_none h4 (by simp)
    simp only [List.length_cons, List.length_nil] at a4
    have hb := bits_le a4
    have hbits := bits_ok (m := m + 1) (p := p2 + 1) h
    have pre : ∀ {r}, exec (semG Pg49 (m + 2)) (blk [.asg 4 (.mcall 0 6 (.bor 1) (es [])), .drop (.mcall 0 4 (.bor 1) (es [(.k (.str [10]))])), .ret (.call 1 (es [(.var 2), (.var 3), (.var 4), (.call 8 (es [(.bor 1), (.var 2), (.var 3), (.var 4)]))]))]) (env7 t (p2 + 1) (some (.int v)) (some (.int b)) none) = r → exec (semG Pg49 (m + 2)) d7.body [some (.str t), none, none, none, none] = r := fun {r} hr =>
      blk_nx h0 (blk_nx (drop_of (sg1_ok (m := m + 1) h cw (ew _ _ _) (by rfl) hm0)) (blk_nx (asg_of (nm1_ok (m := m + 1) h (en _ _ _) (by rfl) h1) (by simp)) (blk_nx (drop_of (sg1_ok (m := m + 1) h c32 (e32 _ _ _) (by rfl) h2)) (blk_nx (asg_of (nm1_ok (m := m + 1) h (en _ _ _) (by rfl) h3) (by simp)) (blk_nx (drop_of (sg1_ok (m := m + 1) h c32 (e32 _ _ _) (by rfl) h4)) hr)))))
    revert hpg
    unfold parseT
    rw [e]
    dsimp only
    simp only [List.getElem?_cons_zero, List.getElem?_cons_succ, Option.getD_some]
    revert pre hb a4 hbits
    generalize p2 + 1 = p
    intro a4 hb hbits pre hpg
    by_cases hbn : bitsT t p = []
    · rw [if_pos hbn]
      rw [hbn] at hbits
      dsimp only at hbits ⊢
      exact fail (pre (blk_exn (asg_exn (mc1_exn es_nil hbits))))
    · rw [if_neg hbn] at hpg ⊢
      obtain ⟨c0, cs0, hcs⟩ : ∃ c cs, bitsT t p = c :: cs := by cases hz : bitsT t p with
        | nil => exact absurd hz hbn
        | cons c cs => exact ⟨c, cs, rfl⟩
      have hbits' : (semG Pg49 (m + 2)).call 6 [dRd t p] = .ok (.tup (dNs (begT t p)), [some (dRd t (p + (bitsT t p).length))]) := by
        rw [hcs] at hbits
        unfold begT
        rw [hcs]
        exact hbits
      have i1 : exec (semG Pg49 (m + 2)) (.asg 4 (.mcall 0 6 (.bor 1) (es []))) (env7 t p (some (.int v)) (some (.int b)) none) = .ok (.nx, env7 t (p + (bitsT t p).length) (some (.int v)) (some (.int b)) (some (.tup (dNs (begT t p))))) := asg_of (mc1_ok es_nil hbits' rfl) (by simp)
      by_cases hn10 : (t.drop (p + (bitsT t p).length)).take 1 = [10]
      · rw [if_pos hn10] at hpg ⊢
        have hq1 := nl_lt hn10
        have i2 : exec (semG Pg49 (m + 2)) (.drop (.mcall 0 4 (.bor 1) (es [(.k (.str [10]))]))) (env7 t (p + (bitsT t p).length) (some (.int v)) (some (.int b)) (some (.tup (dNs (begT t p))))) = .ok (.nx, env7 t (p + (bitsT t p).length + 1) (some (.int v)) (some (.int b)) (some (.tup (dNs (begT t p))))) := drop_of (sg1_ok (m := m + 1) h c10 (e10 _ _ _) (by rfl) (by rw [misT1, if_pos hn10]))
        have hbl : (begT t p).length ≤ LINE := by rw [begT_len]; have := h.len; unfold LINE; omega
        have hr := rows_ok (m := m) (C := v) (T := b) (p := p + (bitsT t p).length + 1) (BG := begT t p) h hq1 hbl
        have ha8 : evs (semG Pg49 (m + 2)) (es [(.bor 1), (.var 2), (.var 3), (.var 4)]) (env7 t (p + (bitsT t p).length + 1) (some (.int v)) (some (.int b)) (some (.tup (dNs (begT t p))))) = .ok ([dRd t (p + (bitsT t p).length + 1), .int v, .int b, .tup (dNs (begT t p))], [some (.str t), none, some (.int v), some (.int b), some (.tup (dNs (begT t p)))]) := by simp!
        have pre3 : ∀ {r}, exec (semG Pg49 (m + 2)) (blk [.ret (.call 1 (es [(.var 2), (.var 3), (.var 4), (.call 8 (es [(.bor 1), (.var 2), (.var 3), (.var 4)]))]))]) (env7 t (p + (bitsT t p).length + 1) (some (.int v)) (some (.int b)) (some (.tup (dNs (begT t p))))) = r → exec (semG Pg49 (m + 2)) d7.body [some (.str t), none, none, none, none] = r := fun {r} hr => pre (blk_nx i1 (blk_nx i2 hr))
        have hargs : ∀ {r : R (List D × Env)}, ((ev (semG Pg49 (m + 2)) (.call 8 (es [(.bor 1), (.var 2), (.var 3), (.var 4)])) false (env7 t (p + (bitsT t p).length + 1) (some (.int v)) (some (.int b)) (some (.tup (dNs (begT t p)))))).bind fun (d, ρ1) => (evs (semG Pg49 (m + 2)) (es []) ρ1).bind fun (ds, ρ2) => .ok (d :: ds, ρ2)) = r → evs (semG Pg49 (m + 2)) (es [(.var 2), (.var 3), (.var 4), (.call 8 (es [(.bor 1), (.var 2), (.var 3), (.var 4)]))]) (env7 t (p + (bitsT t p).length + 1) (some (.int v)) (some (.int b)) (some (.tup (dNs (begT t p))))) = r.bind fun (ds, ρ2) => .ok (.int v :: .int b :: .tup (dNs (begT t p)) :: ds, ρ2) := fun {r} hr => by
          subst hr
          rw [es_cons, show ev (semG Pg49 (m + 2)) (.var 2) false (env7 t (p + (bitsT t p).length + 1) (some (.int v)) (some (.int b)) (some (.tup (dNs (begT t p))))) = .ok (.int v, env7 t (p + (bitsT t p).length + 1) (some (.int v)) (some (.int b)) (some (.tup (dNs (begT t p))))) by simp!, xb_ok]
          dsimp only
          rw [es_cons, show ev (semG Pg49 (m + 2)) (.var 3) false (env7 t (p + (bitsT t p).length + 1) (some (.int v)) (some (.int b)) (some (.tup (dNs (begT t p))))) = .ok (.int b, env7 t (p + (bitsT t p).length + 1) (some (.int v)) (some (.int b)) (some (.tup (dNs (begT t p))))) by simp!, xb_ok]
          dsimp only
          rw [es_cons, show ev (semG Pg49 (m + 2)) (.var 4) false (env7 t (p + (bitsT t p).length + 1) (some (.int v)) (some (.int b)) (some (.tup (dNs (begT t p))))) = .ok (.tup (dNs (begT t p)), env7 t (p + (bitsT t p).length + 1) (some (.int v)) (some (.int b)) (some (.tup (dNs (begT t p))))) by simp!, xb_ok]
          dsimp only
          rw [es_cons]
          generalize ev (semG Pg49 (m + 2)) (.call 8 (es [(.bor 1), (.var 2), (.var 3), (.var 4)])) false (env7 t (p + (bitsT t p).length + 1) (some (.int v)) (some (.int b)) (some (.tup (dNs (begT t p))))) = z
          cases z with
          | bad => rfl
          | exn c d => rfl
          | ok z => rfl
        cases ho : outP t v b (begT t p).length t.length ⟨begT t p, [], (0, 0), p + (bitsT t p).length + 1⟩ with
        | error q =>
          rw [ho] at hr
          dsimp only at hr ⊢
          have h8 : ev (semG Pg49 (m + 2)) (.call 8 (es [(.bor 1), (.var 2), (.var 3), (.var 4)])) false (env7 t (p + (bitsT t p).length + 1) (some (.int v)) (some (.int b)) (some (.tup (dNs (begT t p))))) = .exn 0 (.int q) := by
            rw [e_call, ha8, xb_ok]
            dsimp only
            rw [hr, xb_exn]
          refine fail (pre3 (blk_exn (ret_exn ?_)))
          rw [e_call, hargs (by rw [h8, xb_exn]), xb_exn, xb_exn]
        | ok xs =>
          rw [ho] at hr hpg
          dsimp only at hr hpg ⊢
          obtain ⟨rs, hr⟩ := hr
          obtain ⟨g1, g2, g3, g4, g5, g6⟩ := hpg _ _ rfl
          have htl := h.len
          obtain ⟨rs2, hw⟩ := waves_ok (m := m + 1) (C := v) (T := b) (bg := begT t p) (xs := xs) g6 (by omega) hbl (by unfold LINE; omega) (by unfold LINE; omega)
          have h8 : ev (semG Pg49 (m + 2)) (.call 8 (es [(.bor 1), (.var 2), (.var 3), (.var 4)])) false (env7 t (p + (bitsT t p).length + 1) (some (.int v)) (some (.int b)) (some (.tup (dNs (begT t p))))) = .ok (.tup (dChs xs), backA (es [(.bor 1), (.var 2), (.var 3), (.var 4)]) rs [some (.str t), none, some (.int v), some (.int b), some (.tup (dNs (begT t p)))]) := by
            rw [e_call, ha8, xb_ok]
            dsimp only
            rw [hr, xb_ok]
          have hfin := ret_of (g := semG Pg49 (m + 2)) (ev_callnb (vw := false) (hargs (by rw [h8, xb_ok])) hw (by rfl))
          exact ⟨_, (call_succ (fd := d7) rfl).trans (run_rt (ρ0 := [some (.str t), none, none, none, none]) rfl rfl (pre3 (blk_rt hfin)))⟩
      · rw [if_neg hn10]
        dsimp only
        exact fail (pre (blk_nx i1 (blk_exn (drop_exn (sg1_exn (m := m + 1) h c10 (e10 _ _ _) (by rw [misT1, if_neg hn10]))))))
end
end Ev

/-! k49: _law_asked; the changes of a wave make the wave. -/
namespace Ev
section
variable {m : Nat} {t : Tx}
theorem semSub {a b : Nat} : (semG Pg49 m).sub a b = true := by rw [semG_sub]; rfl
/-- _law_asked -/
theorem asked_ok (h : Tok t) : ∃ rs, (semG Pg49 (m + 4)).call 22 [.str t] = .ok (dRes t, rs) := by
  have hr := read_ok (m := m) h
  have ha : evs (semG Pg49 (m + 3)) (es [(.var 0)]) [some (.str t), none] = .ok ([.str t], [some (.str t), none]) := by simp!
  have hy : ∀ {r : R (List D × Env)}, ((ev (semG Pg49 (m + 3)) (.call 7 (es [(.var 0)])) false [some (.str t), none]).bind fun (d, ρ1) => (evs (semG Pg49 (m + 3)) (es []) ρ1).bind fun (ds, ρ2) => .ok (d :: ds, ρ2)) = r → evs (semG Pg49 (m + 3)) (es [(.k (.str [121, 101, 115])), (.call 7 (es [(.var 0)]))]) [some (.str t), none] = r.bind fun (ds, ρ2) => .ok (.str [121, 101, 115] :: ds, ρ2) := fun {r} hr => by
    subst hr
    rw [es_cons, e_k, show fro (.str [121, 101, 115]) = true from rfl, xg_t, xb_ok]
    dsimp only
    rw [es_cons]
  unfold dRes
  cases hp : parseT t with
  | error q =>
    rw [hp] at hr
    dsimp only at hr ⊢
    have h7 : ev (semG Pg49 (m + 3)) (.call 7 (es [(.var 0)])) false [some (.str t), none] = .exn 0 (.int q) := by
      rw [e_call, ha, xb_ok]
      dsimp only
      rw [hr, xb_exn]
    have hb : exec (semG Pg49 (m + 3)) (blk [.ret (.tup (es [(.k (.str [121, 101, 115])), (.call 7 (es [(.var 0)]))]))]) [some (.str t), none] = .exn 0 (.int q) := blk_exn (ret_exn (by rw [e_tup, hy (by rw [h7, xb_exn]), xb_exn, xb_exn]))
    refine ⟨_, (call_succ (fd := d22) rfl).trans (run_rt (ρ0 := [some (.str t), none]) (ρ' := [none, none]) rfl rfl (blk_rt ?_))⟩
    rw [x_tryx, hb]
    dsimp only
    rw [semSub]
    rfl
  | ok r =>
    obtain ⟨C, T, bg, xs⟩ := r
    rw [hp] at hr
    dsimp only at hr ⊢
    obtain ⟨rs, hr⟩ := hr
    have h7 := ev_callnb (g := semG Pg49 (m + 3)) (vw := false) ha hr (by rfl)
    have hb : exec (semG Pg49 (m + 3)) (blk [.ret (.tup (es [(.k (.str [121, 101, 115])), (.call 7 (es [(.var 0)]))]))]) [some (.str t), none] = .ok (.rt (.tup [.str [121, 101, 115], dW C bg.length T (madeB T bg xs)]), [some (.str t), none]) := blk_rt (ret_of (by rw [e_tup, hy (r := .ok ([dW C bg.length T (madeB T bg xs)], [some (.str t), none])) (by rw [h7]; rfl)]; rfl))
    refine ⟨_, (call_succ (fd := d22) rfl).trans (run_rt (ρ0 := [some (.str t), none]) (ρ' := [some (.str t), none]) rfl rfl (blk_rt ?_))⟩
    rw [x_tryx, hb]
    rfl
end
section
variable {C N T : Nat} {b : Nat → Nat → Nat}
theorem hrN_step {k n : Nat} : hrN N b k (n + 1) = if b n k = b n (k - 1) then hrN N b k n else (hrN N b k n).set n (b n k) := by
  by_cases e : b n k = b n (k - 1)
  · rw [if_pos e]
    exact map_range_congr fun i hi => by
      by_cases q : i = n
      · subst q; simp [e]
      · congr 1
        by_cases q2 : i < n
        · rw [if_pos q2, if_pos (by omega)]
        · rw [if_neg q2, if_neg (by omega)]
  · rw [if_neg e]
    unfold hrN
    rw [set_range]
    exact map_range_congr fun i hi => by
      by_cases q : i = n
      · subst q; simp
      · rw [if_neg q]
        congr 1
        by_cases q2 : i < n
        · rw [if_pos q2, if_pos (by omega)]
        · rw [if_neg q2, if_neg (by omega)]
theorem appl_chOne {k : Nat} : ∀ n, appl (hrN N b k 0) ((List.range n).filterMap (chOne T b k)) = hrN N b k n
  | 0 => rfl
  | n + 1 => by
    rw [List.range_succ, List.filterMap_append, appl_app, appl_chOne n, hrN_step]
    by_cases e : b n k = b n (k - 1)
    · rw [if_pos e, show [n].filterMap (chOne T b k) = [] by simp [chOne, e]]
      rfl
    · rw [if_neg e, show [n].filterMap (chOne T b k) = [(k / T, k % T, n, b n k)] by simp [chOne, e]]
      rfl
theorem appl_chg {k : Nat} : appl (colN N b k) (chg N T b (k + 1)) = colN N b (k + 1) := by
  have h := appl_chOne (N := N) (T := T) (b := b) (k := k + 1) N
  have h1 : hrN N b (k + 1) 0 = colN N b k := map_range_congr fun i hi => by simp
  have h2 : hrN N b (k + 1) N = colN N b (k + 1) := map_range_congr fun i hi => by simp [hi]
  rw [h1, h2] at h
  exact h
theorem appl_chs : ∀ k, appl (colN N b 0) (chs N T b (k + 1)) = colN N b k
  | 0 => by rw [chs_one]; rfl
  | k + 1 => by rw [chs_succ, appl_app, appl_chs k, appl_chg]
theorem key_chg (hT : 0 < T) {k : Nat} : ∀ x ∈ chg N T b k, keyC T x = k ∧ x.2.2.1 < N ∧ x.2.1 < T ∧ x.1 = k / T := by
  intro x hx
  simp only [chg, List.mem_filterMap, List.mem_range] at hx
  obtain ⟨n, hn, e⟩ := hx
  unfold chOne at e
  split at e
  · cases e
  · cases e
    refine ⟨?_, hn, Nat.mod_lt _ hT, rfl⟩
    unfold keyC
    have := Nat.div_add_mod k T
    rw [Nat.mul_comm] at this
    exact this
theorem key_chs (hT : 0 < T) {K : Nat} : ∀ x ∈ chs N T b K, keyC T x < K := by
  intro x hx
  simp only [chs, List.mem_flatMap, List.mem_range] at hx
  obtain ⟨k, hk, hx⟩ := hx
  have := (key_chg hT x hx).1
  omega
theorem chs_good (hT : 0 < T) : Good C T N (chs N T b (C * T)) := by
  refine ⟨fun x hx => ?_, ?_⟩
  · simp only [chs, List.mem_flatMap, List.mem_range] at hx
    obtain ⟨k, hk, hx⟩ := hx
    obtain ⟨a, b, c, d⟩ := key_chg hT x hx
    exact ⟨by rw [d]; exact Nat.div_lt_of_lt_mul (by rw [Nat.mul_comm]; exact hk), c, b⟩
  · generalize C * T = K
    induction K with
    | zero => exact List.Pairwise.nil
    | succ K ih =>
      rw [chs_succ, List.pairwise_append]
      refine ⟨ih, ?_, fun x hx y hy => ?_⟩
      · rw [List.pairwise_iff_forall_sublist]
        intro x y hxy
        have hx := (key_chg hT x (hxy.subset (by simp))).1
        have hy := (key_chg hT y (hxy.subset (by simp))).1
        omega
      · have := key_chs hT x hx
        have := (key_chg hT y hy).1
        omega
theorem filt_chs (hT : 0 < T) {k : Nat} : ∀ d, ((chs N T b (k + d)).filter fun x => decide (keyC T x < k)) = chs N T b k
  | 0 => by
    rw [Nat.add_zero, List.filter_eq_self.mpr]
    intro x hx
    exact decide_eq_true (key_chs hT x hx)
  | d + 1 => by
    rw [← Nat.add_assoc, chs_succ, List.filter_append, filt_chs hT d]
    have : ((chg N T b (k + d)).filter fun x => decide (keyC T x < k)) = [] := by
      rw [List.filter_eq_nil_iff]
      intro x hx
      have := (key_chg hT x hx).1
      simp
      omega
    rw [this, List.append_nil]
theorem made_chs (hT : 0 < T) {n k : Nat} (hn : n < N) (hk : k < C * T) : madeB T (colN N b 0) (chs N T b (C * T)) n k = b n k := by
  unfold madeB hereK
  obtain ⟨d, hd⟩ : ∃ d, C * T = k + 1 + d := ⟨C * T - (k + 1), by omega⟩
  rw [hd, filt_chs hT d, appl_chs]
  simp [colN, hn]
theorem dW_congr {b' : Nat → Nat → Nat} (h : ∀ n k, n < N → k < C * T → b' n k = b n k) : dW C N T b' = dW C N T b := by
  unfold dW
  congr 1
  refine map_range_congr fun c hc => ?_
  unfold dC
  congr 1
  refine map_range_congr fun n hn => ?_
  congr 2
  refine map_range_congr fun t ht => ?_
  refine h n _ hn ?_
  have : (c + 1) * T ≤ C * T := Nat.mul_le_mul_right T hc
  rw [Nat.succ_mul] at this
  omega
theorem made_dW (hT : 0 < T) : dW C N T (madeB T (colN N b 0) (chs N T b (C * T))) = dW C N T b := dW_congr fun n k hn hk => made_chs hT hn hk
theorem colN_len {k : Nat} : (colN N b k).length = N := by simp [colN]
end
end Ev

/-! k49: a wave's text is read again. -/
namespace Ev
section
variable {t : Tx}
theorem drop_next {p : Nat} {cs rest : Tx} (h : t.drop p = cs ++ rest) : t.drop (p + cs.length) = rest := by
  rw [← List.drop_drop, h, List.drop_left']
  rfl
theorem misT_app : ∀ {cs rest : Tx} {p : Nat}, t.drop p = cs ++ rest → misT t p cs = none
  | [], _, _, _ => rfl
  | c :: cs, rest, p, h => by
    have h1 : (t.drop p).take 1 = [c] := by rw [h]; rfl
    rw [misT, if_pos h1]
    exact misT_app (rest := rest) (drop_next (cs := [c]) h)
theorem isDig10 {d : Nat} (h : d < 10) : isDig (48 + d) = true := by
  unfold isDig
  rw [Bool.and_eq_true, Nat.ble_eq, Nat.ble_eq]
  omega
def noDig : Tx → Prop
  | [] => True | c :: _ => isDig c = false
theorem numT_one {p d lo hi : Nat} {rest : Tx} (h : t.drop p = (48 + d) :: rest) (hd : d < 10) (hr : noDig rest) (hlo : lo ≤ d) (hhi : d < hi) : numT t lo hi p = some (d, p + 1) := by
  have hw : wordT t p = [48 + d] := by
    unfold wordT
    rw [h, List.take_succ_cons, List.takeWhile_cons, isDig10 hd]
    cases rest with
    | nil => rfl
    | cons c cs =>
      have hc : isDig c = false := hr
      simp [hc]
  have hv : valT [48 + d] = d := by simp [valT]
  unfold numT
  rw [hw]
  have hb : numBad [48 + d] lo hi = false := by
    unfold numBad
    rw [hv]
    simp [hlo, hhi]
  rw [hb, hv]
  rfl
theorem rowP_one {N n b least p : Nat} {here rest : Tx} (h : t.drop p = netRow n b ++ [10] ++ rest) (hn : n < N) (hN : N ≤ 9) (hl : least ≤ n) (hb : b < 2) (hne : (here[n]?).getD 0 ≠ b) : rowP t N here least p = .ok (n, b, p + 4) := by
  have h' : t.drop p = (48 + n) :: 32 :: (48 + b) :: 10 :: rest := by rw [h]; rfl
  have e1 := numT_one (lo := least) (hi := N) h' (by omega) rfl hl hn
  have h2 : t.drop (p + 1) = [32] ++ ((48 + b) :: 10 :: rest) := drop_next (cs := [48 + n]) h'
  have e2 := misT_app h2
  have h3 : t.drop (p + 1 + 1) = (48 + b) :: 10 :: rest := drop_next (cs := [32]) h2
  have e3 := numT_one (lo := 0) (hi := 2) h3 (by omega) rfl (Nat.zero_le _) hb
  have h4 : t.drop (p + 1 + 1 + 1) = 10 :: rest := drop_next (cs := [48 + b]) h3
  unfold rowP
  rw [show stepsT t (rowW least N) p = .ok ([n, b], p + 1 + 1 + 1) by simp only [rowW, stepsT, e1, e2, e3, List.length_cons, List.length_nil]]
  dsimp only
  simp only [List.getElem?_cons_zero, List.getElem?_cons_succ, Option.getD_some]
  rw [if_neg hne, if_pos (by rw [h4]; rfl)]
def rowsOk (N : Nat) : List Nat → Nat → List Ch → Prop
  | _, _, [] => True
  | here, least, x :: xs => least ≤ x.2.2.1 ∧ x.2.2.1 < N ∧ x.2.2.2 < 2 ∧ (here[x.2.2.1]?).getD 0 ≠ x.2.2.2 ∧ rowsOk N (here.set x.2.2.1 x.2.2.2) (x.2.2.1 + 1) xs
def netsT (xs : List Ch) : Tx := (xs.map fun x => netRow x.2.2.1 x.2.2.2 ++ [10]).flatten
def restOk : Tx → Prop
  | [] => True | c :: _ => c = 97
theorem innP_rows {N : Nat} {mo : Nat × Nat} (hN : N ≤ 9) : ∀ {xs : List Ch} {here : List Nat} {found : List Ch} {p least many f : Nat} {rest : Tx}, rowsOk N here least xs → (∀ x ∈ xs, x.1 = mo.1 ∧ x.2.1 = mo.2) → t.drop p = netsT xs ++ rest → restOk rest → (0 < many + xs.length ∨ rest = []) → t.length ≤ p + f →
    ∃ s', innP t N mo f ⟨here, found, p, least, many⟩ = .ok s' ∧ s'.here = appl here xs ∧ s'.found = found ++ xs ∧ s'.p = p + (netsT xs).length
  | [], here, found, p, least, many, f, rest, _, _, ht, hr, hm, hf => by
    refine ⟨⟨here, found, p, least, many⟩, ?_, rfl, by simp, rfl⟩
    cases f with
    | zero => rfl
    | succ f =>
      have hc : innC t ⟨here, found, p, least, many⟩ = false := by
        unfold innC
        dsimp only
        have ht' : t.drop p = rest := ht
        cases rest with
        | nil =>
          have : t.length ≤ p := List.drop_eq_nil_iff.mp ht'
          simp; omega
        | cons c cs =>
          have hm' : 0 < many := by
            rcases hm with hm | hm
            · simpa using hm
            · cases hm
          have h1 : t[p]? = some c := by
            have := congrArg (fun l => l[0]?) ht'
            simpa using this
          have hr' : c = 97 := hr
          rw [h1, hr']
          simp
          omega
      rw [innP, hc]
      rfl
  | x :: xs, here, found, p, least, many, f, rest, ho, hx, ht, hr, hm, hf => by
    obtain ⟨o1, o2, o3, o4, o5⟩ := ho
    have ht1 : t.drop p = netRow x.2.2.1 x.2.2.2 ++ [10] ++ (netsT xs ++ rest) := by rw [ht]; simp [netsT]
    have hrow := rowP_one (here := here) (least := least) ht1 o2 hN o1 o3 o4
    have hplt : p < t.length := by
      apply Decidable.byContradiction
      intro c
      rw [List.drop_eq_nil_of_le (by omega)] at ht1
      simp [netRow] at ht1
    have hlen : t.length - p = (netRow x.2.2.1 x.2.2.2 ++ [10] ++ (netsT xs ++ rest)).length := by rw [← ht1, List.length_drop]
    have hat : t[p]? = some (48 + x.2.2.1) := by
      have := congrArg (fun l => l[0]?) ht1
      simpa [netRow] using this
    obtain ⟨f, rfl⟩ : ∃ f', f = f' + 1 := ⟨f - 1, by omega⟩
    have hc : innC t ⟨here, found, p, least, many⟩ = true := by
      unfold innC
      dsimp only
      rw [hat]
      simp
      exact ⟨hplt, by right; omega⟩
    have ht2 : t.drop (p + 4) = netsT xs ++ rest := drop_next (cs := netRow x.2.2.1 x.2.2.2 ++ [10]) ht1
    obtain ⟨e1, e2⟩ := hx x (by simp)
    obtain ⟨s', i1, i2, i3, i4⟩ := innP_rows (mo := mo) hN (found := found ++ [(mo.1, mo.2, x.2.2.1, x.2.2.2)]) (many := many + 1) (f := f) o5 (fun y hy => hx y (by simp [hy])) ht2 hr (by left; omega) (by omega)
    refine ⟨s', ?_, i2, ?_, ?_⟩
    · rw [innP, if_pos hc, hrow]
      exact i1
    · rw [i3, ← e1, ← e2]
      simp
    · rw [i4]
      simp [netsT, netRow]
      omega
end
section
variable {C N T : Nat} {b : Nat → Nat → Nat}
theorem chg_ok (hb : ∀ n k, b n k < 2) {k : Nat} : ∀ (d n least : Nat), n + d = N → least ≤ n → rowsOk N (hrN N b k n) least ((List.range' n d).filterMap (chOne T b k))
  | 0, n, least, _, _ => trivial
  | d + 1, n, least, h, hl => by
    rw [List.range'_succ, List.filterMap_cons]
    by_cases e : b n k = b n (k - 1)
    · rw [show chOne T b k n = none by simp [chOne, e]]
      have := chg_ok hb (k := k) d (n + 1) least (by omega) (by omega)
      rw [hrN_step, if_pos e] at this
      exact this
    · rw [show chOne T b k n = some (k / T, k % T, n, b n k) by simp [chOne, e]]
      have := chg_ok hb (k := k) d (n + 1) (n + 1) (by omega) (Nat.le_refl _)
      rw [hrN_step, if_neg e] at this
      refine ⟨hl, by dsimp only; omega, hb _ _, ?_, this⟩
      have hh : (hrN N b k n)[n]? = some (b n (k - 1)) := by simp [hrN, show n < N by omega]
      dsimp only
      rw [hh]
      exact fun z => e z.symm
/-- the changes from a time on -/
def chsFrom (N T : Nat) (b : Nat → Nat → Nat) (k d : Nat) : List Ch := (List.range' k d).flatMap (chg N T b)
theorem chsFrom_succ {k d : Nat} : chsFrom N T b k (d + 1) = chg N T b k ++ chsFrom N T b (k + 1) d := by
  unfold chsFrom
  rw [List.range'_succ, List.flatMap_cons]
theorem chsFrom_ge (hT : 0 < T) {k d : Nat} : ∀ x ∈ chsFrom N T b k d, k ≤ keyC T x ∧ x.2.1 < T := by
  intro x hx
  simp only [chsFrom, List.mem_flatMap, List.mem_range'_1] at hx
  obtain ⟨j, hj, hx⟩ := hx
  obtain ⟨a, _, c, _⟩ := key_chg hT x hx
  exact ⟨by omega, c⟩
theorem rowsT_same {c τ : Nat} : ∀ {xs ys : List Ch}, (∀ x ∈ xs, x.1 = c ∧ x.2.1 = τ) → rowsT (some (c, τ)) (xs ++ ys) = netsT xs ++ rowsT (some (c, τ)) ys
  | [], ys, _ => rfl
  | x :: xs, ys, h => by
    obtain ⟨e1, e2⟩ := h x (by simp)
    rw [List.cons_append, rowsT_cons, e1, e2, if_neg (by simp), rowsT_same fun y hy => h y (by simp [hy])]
    simp [netsT]
theorem rowsT_group {c τ : Nat} {l : Option (Nat × Nat)} {xs ys : List Ch} (h : ∀ x ∈ xs, x.1 = c ∧ x.2.1 = τ) (hx : xs ≠ []) (hl : l ≠ some (c, τ)) : rowsT l (xs ++ ys) = atRow c τ ++ [10] ++ (netsT xs ++ rowsT (some (c, τ)) ys) := by
  cases xs with
  | nil => exact absurd rfl hx
  | cons x xs =>
    obtain ⟨e1, e2⟩ := h x (by simp)
    rw [List.cons_append, rowsT_cons, e1, e2, if_pos hl, rowsT_same fun y hy => h y (by simp [hy])]
    simp [netsT]
theorem leP_true {a c : Nat × Nat} (h : leP a c = true) (ha : a.2 < T) : a.1 * T + a.2 ≤ c.1 * T + c.2 := by
  unfold leP at h
  simp only [lexLe] at h
  by_cases e : (a.1 : Int) = (c.1 : Int)
  · rw [if_pos e] at h
    have e' : a.1 = c.1 := by omega
    rw [e']
    by_cases e2 : (a.2 : Int) = (c.2 : Int)
    · omega
    · rw [if_neg e2] at h
      simp at h
      omega
  · rw [if_neg e] at h
    simp at h
    have h2 : a.1 + 1 ≤ c.1 := by omega
    have h3 : (a.1 + 1) * T ≤ c.1 * T := Nat.mul_le_mul_right T h2
    rw [Nat.succ_mul] at h3
    omega
theorem restOk_rows (hT : 0 < T) {k d c τ : Nat} (hk : c * T + τ < k) : restOk (rowsT (some (c, τ)) (chsFrom N T b k d)) := by
  cases h : chsFrom N T b k d with
  | nil => simp [rowsT, rowsL, restOk]
  | cons x xs =>
    have := (chsFrom_ge hT x (by rw [h]; simp)).1
    rw [rowsT_cons, if_pos]
    · rfl
    · intro z
      simp only [Option.some.injEq, Prod.mk.injEq] at z
      unfold keyC at this
      rw [← z.1, ← z.2] at this
      omega
theorem outP_rows {t : Tx} (hT : 0 < T) (hT9 : T ≤ 9) (hC9 : C ≤ 9) (hN9 : N ≤ 9) (hb : ∀ n k, b n k < 2) : ∀ (d k : Nat) (f p : Nat) (found : List Ch) (mo : Nat × Nat) (l : Option (Nat × Nat)), k + d = C * T → 0 < k → mo.1 * T + mo.2 < k → mo.2 < T → (l = none ∨ l = some mo) → t.drop p = rowsT l (chsFrom N T b k d) → t.length ≤ p + f →
    outP t C T N f ⟨colN N b (k - 1), found, mo, p⟩ = .ok (found ++ chsFrom N T b k d)
  | 0, k, f, p, found, mo, l, hk, h0, hmo, hmoT, hl, ht, hf => by
    have ht' : t.drop p = [] := by rw [ht]; simp [chsFrom, rowsT, rowsL]
    have hp : t.length ≤ p := List.drop_eq_nil_iff.mp ht'
    cases f with
    | zero => simp [outP, chsFrom]
    | succ f => rw [outP_succ, if_neg (by dsimp only; omega)]; simp [chsFrom]
  | d + 1, k, f, p, found, mo, l, hk, h0, hmo, hmoT, hl, ht, hf => by
    rw [chsFrom_succ] at ht ⊢
    obtain ⟨k, rfl⟩ : ∃ j, k = j + 1 := ⟨k - 1, by omega⟩
    by_cases hc : chg N T b (k + 1) = []
    · rw [hc, List.nil_append] at ht ⊢
      have hcol : colN N b (k + 1) = colN N b k := by
        rw [← appl_chg (T := T), hc]
        rfl
      have ih := outP_rows (t := t) hT hT9 hC9 hN9 hb d (k + 1 + 1) f p found mo l (by omega) (by omega) (by omega) hmoT hl ht hf
      rw [Nat.add_sub_cancel, hcol] at ih
      exact ih
    · have hkey : ∀ x ∈ chg N T b (k + 1), x.1 = (k + 1) / T ∧ x.2.1 = (k + 1) % T := by
        intro x hx
        simp only [chg, List.mem_filterMap, List.mem_range] at hx
        obtain ⟨n, hn, e⟩ := hx
        unfold chOne at e
        split at e
        · cases e
        · cases e; exact ⟨rfl, rfl⟩
      have hdm := Nat.div_add_mod (k + 1) T
      rw [Nat.mul_comm] at hdm
      have hml := Nat.mod_lt (k + 1) hT
      have hcl : (k + 1) / T < C := Nat.div_lt_of_lt_mul (by rw [Nat.mul_comm]; omega)
      have hle : ¬ leP ((k + 1) / T, (k + 1) % T) mo = true := fun z => by
        have := leP_true (T := T) z hml
        dsimp only at this
        omega
      have hl2 : l ≠ some ((k + 1) / T, (k + 1) % T) := by
        rcases hl with hl | hl
        · rw [hl]; simp
        · rw [hl]
          intro z
          simp only [Option.some.injEq] at z
          rw [z] at hmo
          dsimp only at hmo
          omega
      rw [rowsT_group hkey hc hl2] at ht
      have hrok := restOk_rows (N := N) (b := b) hT (k := k + 1 + 1) (d := d) (c := (k + 1) / T) (τ := (k + 1) % T) (by omega)
      have hcg : chg N T b (k + 1) ≠ [] := hc
      have hro := chg_ok (N := N) (T := T) (b := b) hb (k := k + 1) N 0 0 (by omega) (Nat.le_refl _)
      have hh0 : hrN N b (k + 1) 0 = colN N b k := map_range_congr fun i hi => by simp
      rw [hh0, ← List.range_eq_range'] at hro
      have hro' : rowsOk N (colN N b k) 0 (chg N T b (k + 1)) := hro
      have hap := appl_chg (N := N) (T := T) (b := b) (k := k)
      generalize (k + 1) / T = c at ht hkey hcl hle hl2 hrok hdm
      generalize (k + 1) % T = τ at ht hkey hle hl2 hrok hml hdm
      have hc10 : c < 10 := by omega
      have ht10 : τ < 10 := by omega
      have d0 : t.drop p = [97, 116, 32] ++ ((48 + c) :: 32 :: (48 + τ) :: 10 :: (netsT (chg N T b (k + 1)) ++ rowsT (some (c, τ)) (chsFrom N T b (k + 1 + 1) d))) := by rw [ht]; rfl
      have e0 := misT_app d0
      have d1 : t.drop (p + 3) = (48 + c) :: 32 :: (48 + τ) :: 10 :: (netsT (chg N T b (k + 1)) ++ rowsT (some (c, τ)) (chsFrom N T b (k + 1 + 1) d)) := drop_next (cs := [97, 116, 32]) d0
      have e1 := numT_one (lo := 0) (hi := C) d1 hc10 rfl (Nat.zero_le _) hcl
      have d2 : t.drop (p + 3 + 1) = [32] ++ ((48 + τ) :: 10 :: (netsT (chg N T b (k + 1)) ++ rowsT (some (c, τ)) (chsFrom N T b (k + 1 + 1) d))) := drop_next (cs := [48 + c]) d1
      have e2 := misT_app d2
      have d3 : t.drop (p + 3 + 1 + 1) = (48 + τ) :: 10 :: (netsT (chg N T b (k + 1)) ++ rowsT (some (c, τ)) (chsFrom N T b (k + 1 + 1) d)) := drop_next (cs := [32]) d2
      have e3 := numT_one (lo := 0) (hi := T) d3 ht10 rfl (Nat.zero_le _) hml
      have d4 : t.drop (p + 3 + 1 + 1 + 1) = [10] ++ (netsT (chg N T b (k + 1)) ++ rowsT (some (c, τ)) (chsFrom N T b (k + 1 + 1) d)) := drop_next (cs := [48 + τ]) d3
      have d5 : t.drop (p + 3 + 1 + 1 + 1 + 1) = netsT (chg N T b (k + 1)) ++ rowsT (some (c, τ)) (chsFrom N T b (k + 1 + 1) d) := drop_next (cs := [10]) d4
      have est : stepsT t (atW C T) p = .ok ([c, τ], p + 3 + 1 + 1 + 1) := by simp only [atW, stepsT, e0, e1, e2, e3, List.length_cons, List.length_nil]
      have hlen5 := congrArg List.length d5
      rw [List.length_drop, List.length_append] at hlen5
      have hnpos : 0 < (netsT (chg N T b (k + 1))).length := by
        cases hz : chg N T b (k + 1) with
        | nil => exact absurd hz hcg
        | cons x xs => simp [netsT, netRow]
      have hcpos : 0 < (chg N T b (k + 1)).length := List.length_pos_iff.mpr hcg
      have hplt : p < t.length := by omega
      obtain ⟨f, rfl⟩ : ∃ f', f = f' + 1 := ⟨f - 1, by omega⟩
      obtain ⟨s', i1, i2, i3, i4⟩ := innP_rows (t := t) (N := N) (mo := (c, τ)) hN9 (xs := chg N T b (k + 1)) (here := colN N b k) (found := found) (p := p + 3 + 1 + 1 + 1 + 1) (least := 0) (many := 0) (f := t.length) hro' hkey d5 hrok (by left; omega) (by omega)
      have ho : out1 t C T N ⟨colN N b k, found, mo, p⟩ = .ok ⟨colN N b (k + 1), found ++ chg N T b (k + 1), (c, τ), p + 3 + 1 + 1 + 1 + 1 + (netsT (chg N T b (k + 1))).length⟩ := by
        unfold out1
        dsimp only
        rw [est]
        dsimp only
        simp only [List.getElem?_cons_zero, List.getElem?_cons_succ, Option.getD_some]
        rw [if_neg hle, if_pos (by rw [d4]; rfl), if_neg (by omega), i1]
        dsimp only
        rw [i2, i3, i4, hap]
      rw [Nat.add_sub_cancel, outP_succ, if_pos hplt, ho]
      dsimp only
      have d6 := drop_next d5
      have ih := outP_rows (t := t) hT hT9 hC9 hN9 hb d (k + 1 + 1) f (p + 3 + 1 + 1 + 1 + 1 + (netsT (chg N T b (k + 1))).length) (found ++ chg N T b (k + 1)) (c, τ) (some (c, τ)) (by omega) (by omega) (by dsimp only; omega) hml (.inr rfl) d6 (by omega)
      rw [Nat.add_sub_cancel] at ih
      rw [ih, List.append_assoc]
/-- a wave's text is read again -/
theorem parse_wave (hC : 0 < C) (hT : 0 < T) (hN : 0 < N) (hC9 : C ≤ 9) (hT9 : T ≤ 9) (hN9 : N ≤ 9) (hb : ∀ n k, b n k < 2) : parseT (waveT C N T b) = .ok (C, T, colN N b 0, chs N T b (C * T)) := by
  have hCT : 0 < C * T := Nat.mul_pos hC hT
  have hchs : chs N T b (C * T) = chsFrom N T b 1 (C * T - 1) := by
    unfold chs chsFrom
    obtain ⟨K, hK⟩ : ∃ K, C * T = K + 1 := ⟨C * T - 1, by omega⟩
    rw [hK, List.range_eq_range', List.range'_succ, List.flatMap_cons, Nat.add_sub_cancel]
    have : chg N T b 0 = [] := by
      unfold chg
      rw [List.filterMap_eq_nil_iff]
      intro n _
      simp [chOne]
    rw [this]
    rfl
  have d0 : (waveT C N T b).drop 0 = [119, 97, 118, 101, 115, 32] ++ ((48 + C) :: 32 :: (48 + T) :: 32 :: ((List.range N).map (fun n => 48 + b n 0) ++ 10 :: rowsT none (chs N T b (C * T)))) := by
    unfold waveT hdT
    simp
  generalize waveT C N T b = t at *
  have e0 := misT_app d0
  have d1 : t.drop 6 = (48 + C) :: 32 :: (48 + T) :: 32 :: ((List.range N).map (fun n => 48 + b n 0) ++ 10 :: rowsT none (chs N T b (C * T))) := drop_next (cs := [119, 97, 118, 101, 115, 32]) d0
  have e1 := numT_one (lo := 1) (hi := 1000) d1 (by omega) rfl hC (by omega)
  have d2 : t.drop (6 + 1) = [32] ++ ((48 + T) :: 32 :: ((List.range N).map (fun n => 48 + b n 0) ++ 10 :: rowsT none (chs N T b (C * T)))) := drop_next (cs := [48 + C]) d1
  have e2 := misT_app d2
  have d3 : t.drop (6 + 1 + 1) = (48 + T) :: 32 :: ((List.range N).map (fun n => 48 + b n 0) ++ 10 :: rowsT none (chs N T b (C * T))) := drop_next (cs := [32]) d2
  have e3 := numT_one (lo := 1) (hi := 1000) d3 (by omega) rfl hT (by omega)
  have d4 : t.drop (6 + 1 + 1 + 1) = [32] ++ ((List.range N).map (fun n => 48 + b n 0) ++ 10 :: rowsT none (chs N T b (C * T))) := drop_next (cs := [48 + T]) d3
  have e4 := misT_app d4
  have d5 : t.drop (6 + 1 + 1 + 1 + 1) = (List.range N).map (fun n => 48 + b n 0) ++ 10 :: rowsT none (chs N T b (C * T)) := drop_next (cs := [32]) d4
  have est : stepsT t hdW 0 = .ok ([C, T], 6 + 1 + 1 + 1 + 1) := by simp only [hdW, stepsT, e0, e1, e2, e3, e4, List.length_cons, List.length_nil, Nat.zero_add]
  have hbt : bitsT t (6 + 1 + 1 + 1 + 1) = (List.range N).map (fun n => 48 + b n 0) := by
    unfold bitsT
    rw [d5]
    generalize List.range N = l
    induction l with
    | nil => rfl
    | cons n l ih =>
      have hbit : isBit (48 + b n 0) = true := by
        have := hb n 0
        unfold isBit
        rw [Bool.or_eq_true, beq_iff_eq, beq_iff_eq]
        omega
      rw [List.map_cons, List.cons_append, List.takeWhile_cons, hbit]
      simp only [if_true]
      rw [ih]
  have hbg : begT t (6 + 1 + 1 + 1 + 1) = colN N b 0 := by
    unfold begT colN
    rw [hbt, List.map_map]
    exact map_range_congr fun i hi => by simp [bitN]
  have hbl : ((List.range N).map (fun n => 48 + b n 0)).length = N := by simp
  have d6 : t.drop (6 + 1 + 1 + 1 + 1 + N) = [10] ++ rowsT none (chs N T b (C * T)) := by
    have := drop_next d5
    rw [hbl] at this
    exact this
  have d7 : t.drop (6 + 1 + 1 + 1 + 1 + N + 1) = rowsT none (chs N T b (C * T)) := drop_next (cs := [10]) d6
  unfold parseT
  rw [est]
  dsimp only
  simp only [List.getElem?_cons_zero, List.getElem?_cons_succ, Option.getD_some]
  rw [hbt, hbg, hbl, if_neg (by intro z; have := congrArg List.length z; simp at this; omega), if_pos (by rw [d6]; rfl), colN_len]
  have ho := outP_rows (t := t) (C := C) (N := N) (b := b) hT hT9 hC9 hN9 hb (C * T - 1) 1 t.length (6 + 1 + 1 + 1 + 1 + N + 1) [] (0, 0) none (by omega) (by omega) (by simp) hT (.inl rfl) (by rw [d7, hchs]) (by omega)
  rw [Nat.sub_self, List.nil_append] at ho
  rw [ho, ← hchs]
end
end Ev

/-! k49: first_unlike_wave, shortest_pulse, some_nets. -/
namespace Ev
theorem ex_find {g : G} {tg : Tg} {it : It} {b : S} {w : List Nat} {ρ ρ0 : Env} {α β : Type} {xs : List α} (inj : α → D) (h : α → Option β) (dv : β → D) (hi : evI g it ρ = .ok (xs.map inj, ρ0))
    (hb : ∀ a ∈ xs, ∃ ρ1, bindT tg (inj a) ρ0 = some ρ1 ∧ (match h a with | some v => ∃ ρ2, exec g b ρ1 = .ok (.rt (dv v), ρ2) | none => ∃ ρ2, exec g b ρ1 = .ok (.nx, ρ2) ∧ wipeE ρ2 w = ρ0)) :
    (match xs.findSome? h with | some v => ∃ ρ2, exec g (.fore tg it b w) ρ = .ok (.rt (dv v), ρ2) | none => exec g (.fore tg it b w) ρ = .ok (.nx, ρ0)) := by
  refine ex_forr (σ := Unit) (s0 := ()) (fun _ => ρ0) inj (fun _ as => ∀ a ∈ as, a ∈ xs) (fun _ as r => match as.findSome? h with | some v => ∃ ρ2, r = .ok (.rt (dv v), ρ2) | none => r = .ok (.nx, ρ0)) hi (fun a ha => ha) (fun _ _ => rfl) (fun s a as hI => ?_)
  obtain ⟨ρ1, h1, h2⟩ := hb a (hI a (by simp))
  refine ⟨ρ1, h1, ?_⟩
  cases hh : h a with
  | some v =>
    rw [hh] at h2
    obtain ⟨ρ2, e⟩ := h2
    exact .inr (.inl ⟨dv v, ρ2, e, by simp only [List.findSome?_cons, hh]; exact ⟨_, rfl⟩⟩)
  | none =>
    rw [hh] at h2
    obtain ⟨ρ2, e, ew⟩ := h2
    exact .inl ⟨ρ2, (), e, ew, fun a ha => hI a (by simp [ha]), fun r hr => by simp only [List.findSome?_cons, hh]; exact hr⟩
section
variable {C N T : Nat} {b b' : Nat → Nat → Nat}
def d3t (v : Nat × Nat × Nat) : D := .tup [.int (v.1 : Nat), .int (v.2.1 : Nat), .int (v.2.2 : Nat)]
def unN (N T : Nat) (b b' : Nat → Nat → Nat) (c t : Nat) : Option (Nat × Nat × Nat) := (List.range N).findSome? fun n => if b n (c * T + t) = b' n (c * T + t) then none else some (c, t, n)
def unT (N T : Nat) (b b' : Nat → Nat → Nat) (c : Nat) : Option (Nat × Nat × Nat) := (List.range T).findSome? fun t => unN N T b b' c t
def unC (C N T : Nat) (b b' : Nat → Nat → Nat) : Option (Nat × Nat × Nat) := (List.range C).findSome? fun c => unT N T b b' c
abbrev env9 (C N T : Nat) (b b' : Nat → Nat → Nat) (c t n : Option D) : Env := [some (dW C N T b), some (dW C N T b'), c, t, n]
theorem un_net {g : G} {c t : Nat} (hc : c < C) (ht : t < T) (hN : N ≤ LINE) :
    (match unN N T b b' c t with
      | some v => ∃ ρ2, exec g d9b1 (env9 C N T b b' (some (.int c)) (some (.int t)) none) = .ok (.rt (d3t v), ρ2)
      | none => exec g d9b1 (env9 C N T b b' (some (.int c)) (some (.int t)) none) = .ok (.nx, env9 C N T b b' (some (.int c)) (some (.int t)) none)) := by
  have h := ex_find (g := g) (tg := .nm 4) (it := .rng (.un .len (.idx (.var 0) (.var 2)))) (b := d9b0) (w := [4]) (ρ := env9 C N T b b' (some (.int c)) (some (.int t)) none) (ρ0 := env9 C N T b b' (some (.int c)) (some (.int t)) none) (xs := List.range N) (fun n => .int (n : Nat)) (fun n => if b n (c * T + t) = b' n (c * T + t) then none else some (c, t, n)) d3t (it_rng (by simp! [dW, dC, hc]) hN) (fun n hn => ?_)
  · show (match (List.range N).findSome? (fun n => if b n (c * T + t) = b' n (c * T + t) then none else some (c, t, n)) with
      | some v => ∃ ρ2, exec g d9b1 (env9 C N T b b' (some (.int c)) (some (.int t)) none) = .ok (.rt (d3t v), ρ2)
      | none => exec g d9b1 (env9 C N T b b' (some (.int c)) (some (.int t)) none) = .ok (.nx, env9 C N T b b' (some (.int c)) (some (.int t)) none))
    cases hf : (List.range N).findSome? (fun n => if b n (c * T + t) = b' n (c * T + t) then none else some (c, t, n)) with
    | some v =>
      rw [hf] at h
      obtain ⟨ρ2, e⟩ := h
      exact ⟨ρ2, blk_rt e⟩
    | none =>
      rw [hf] at h
      exact blk_nx h rfl
  · have hn' : n < N := by simpa using hn
    refine ⟨env9 C N T b b' (some (.int c)) (some (.int t)) (some (.int n)), rfl, ?_⟩
    by_cases e : b n (c * T + t) = b' n (c * T + t)
    · rw [if_pos e]
      refine ⟨env9 C N T b b' (some (.int c)) (some (.int t)) (some (.int n)), ?_, rfl⟩
      unfold d9b0
      simp! [dW, dC, hc, hn', ht, e]
    · rw [if_neg e]
      refine ⟨env9 C N T b b' (some (.int c)) (some (.int t)) (some (.int n)), ?_⟩
      have e' : ((b n (c * T + t) : Int) == (b' n (c * T + t) : Int)) = false := by rw [beq_eq_false_iff_ne]; omega
      unfold d9b0
      simp! [dW, dC, hc, hn', ht, e', d3t]
theorem un_time {g : G} {c : Nat} (hc : c < C) (h0 : 0 < N) (hN : N ≤ LINE) (hT : T ≤ LINE) :
    (match unT N T b b' c with
      | some v => ∃ ρ2, exec g d9b2 (env9 C N T b b' (some (.int c)) none none) = .ok (.rt (d3t v), ρ2)
      | none => exec g d9b2 (env9 C N T b b' (some (.int c)) none none) = .ok (.nx, env9 C N T b b' (some (.int c)) none none)) := by
  have h := ex_find (g := g) (tg := .nm 3) (it := .rng (.un .len (.idx (.idx (.var 0) (.var 2)) (.k (.int 0))))) (b := d9b1) (w := [3, 4]) (ρ := env9 C N T b b' (some (.int c)) none none) (ρ0 := env9 C N T b b' (some (.int c)) none none) (xs := List.range T) (fun n => .int (n : Nat)) (fun t => unN N T b b' c t) d3t (it_rng (by simp! [dW, dC, hc, h0]) hT) (fun t ht => ?_)
  · unfold unT
    cases hf : (List.range T).findSome? (fun t => unN N T b b' c t) with
    | some v =>
      rw [hf] at h
      obtain ⟨ρ2, e⟩ := h
      exact ⟨ρ2, blk_rt e⟩
    | none =>
      rw [hf] at h
      exact blk_nx h rfl
  · have ht' : t < T := by simpa using ht
    refine ⟨env9 C N T b b' (some (.int c)) (some (.int t)) none, rfl, ?_⟩
    have h1 := un_net (g := g) (b := b) (b' := b') hc ht' hN
    cases hf : unN N T b b' c t with
    | some v => rw [hf] at h1; exact h1
    | none => rw [hf] at h1; exact ⟨_, h1, rfl⟩
/-- first_unlike_wave -/
theorem unlike_ok {m : Nat} (h0 : 0 < N) (hN : N ≤ LINE) (hT : T ≤ LINE) (hC : C ≤ LINE) : ∃ rs, (semG Pg49 (m + 1)).call 9 [dW C N T b, dW C N T b'] = .ok ((match unC C N T b b' with | some v => d3t v | none => .non), rs) := by
  have h := ex_find (g := semG Pg49 m) (tg := .nm 2) (it := .rng (.un .len (.var 0))) (b := d9b2) (w := [2, 3, 4]) (ρ := env9 C N T b b' none none none) (ρ0 := env9 C N T b b' none none none) (xs := List.range C) (fun n => .int (n : Nat)) (fun c => unT N T b b' c) d3t (it_rng (by simp! [dW]) hC) (fun c hc => ?_)
  · unfold unC
    cases hf : (List.range C).findSome? (fun c => unT N T b b' c) with
    | some v =>
      rw [hf] at h
      obtain ⟨ρ2, e⟩ := h
      exact ⟨_, (call_succ (fd := d9) rfl).trans (run_rt (ρ0 := env9 C N T b b' none none none) rfl rfl (blk_rt e))⟩
    | none =>
      rw [hf] at h
      exact ⟨_, (call_succ (fd := d9) rfl).trans (run_rt (ρ0 := env9 C N T b b' none none none) (ρ' := env9 C N T b b' none none none) rfl rfl (blk_nx h (blk_rt (by simp!))))⟩
  · have hc' : c < C := by simpa using hc
    refine ⟨env9 C N T b b' (some (.int c)) none none, rfl, ?_⟩
    have h1 := un_time (g := semG Pg49 m) (b := b) (b' := b') hc' h0 hN hT
    cases hf : unT N T b b' c with
    | some v => rw [hf] at h1; exact h1
    | none => rw [hf] at h1; exact ⟨_, h1, rfl⟩
theorem find_range {α : Type} {n j : Nat} {h : Nat → Option α} {v : α} (hj : j < n) (h1 : ∀ i, i < j → h i = none) (h2 : h j = some v) : (List.range n).findSome? h = some v := by
  obtain ⟨d, rfl⟩ : ∃ d, n = j + 1 + d := ⟨n - (j + 1), by omega⟩
  rw [List.range_add, List.findSome?_append, List.range_succ, List.findSome?_append]
  have e1 : (List.range j).findSome? h = none := by
    rw [List.findSome?_eq_none_iff]
    intro i hi
    exact h1 i (by simpa using hi)
  rw [e1]
  simp [h2]
theorem find_none {α : Type} {n : Nat} {h : Nat → Option α} (h1 : ∀ i, i < n → h i = none) : (List.range n).findSome? h = none := by
  rw [List.findSome?_eq_none_iff]
  intro i hi
  exact h1 i (by simpa using hi)
theorem un_same : unC C N T b b = none := find_none fun c _ => find_none fun t _ => find_none fun n _ => by simp
/-- waves that differ at one place -/
theorem un_one {a1 a2 a3 : Nat} (h1 : a1 < C) (h2 : a2 < N) (h3 : a3 < T) (hd : ∀ c t n, c < C → t < T → n < N → (b n (c * T + t) ≠ b' n (c * T + t) ↔ c = a1 ∧ t = a3 ∧ n = a2)) : unC C N T b b' = some (a1, a3, a2) := by
  have same : ∀ c t n, c < C → t < T → n < N → ¬ (c = a1 ∧ t = a3 ∧ n = a2) → b n (c * T + t) = b' n (c * T + t) := fun c t n hc ht hn hne => Decidable.byContradiction fun z => hne ((hd c t n hc ht hn).1 z)
  refine find_range h1 (fun c hc => find_none fun t ht => find_none fun n hn => ?_) (find_range h3 (fun t ht => find_none fun n hn => ?_) (find_range h2 (fun n hn => ?_) ?_))
  · rw [if_pos (same c t n (by omega) ht hn (by omega))]
  · rw [if_pos (same a1 t n h1 (by omega) hn (by omega))]
  · rw [if_pos (same a1 a3 n h1 h3 (by omega) (by omega))]
  · rw [if_neg ((hd a1 a3 a2 h1 h3 h2).2 ⟨rfl, rfl, rfl⟩)]
/-! ### some nets -/
theorem some_ok {m : Nat} {ns : List Nat} (hns : ∀ n ∈ ns, n < N) (hnl : ns.length ≤ LINE) (hC : C ≤ LINE) : ∃ rs, (semG Pg49 (m + 1)).call 12 [dW C N T b, .lst .sh (dNs ns)] = .ok (.lst .ow ((List.range C).map fun c => .lst .ow (ns.map fun n => .lst .sh (dNs ((List.range T).map fun t => b n (c * T + t))))), rs) := by
  refine ⟨_, (call_succ (fd := d12) rfl).trans (run_rt (ρ0 := [some (dW C N T b), some (.lst .sh (dNs ns)), none, none]) (ρ' := [some (dW C N T b), some (.lst .sh (dNs ns)), none, none]) rfl rfl (blk_rt (ret_of ?_)))⟩
  refine ev_lca (inj := fun c => dC N T b c) (xs := List.range C) (fun c => .lst .ow (ns.map fun n => .lst .sh (dNs ((List.range T).map fun t => b n (c * T + t))))) it_W (by simpa using hC) (by rfl) (fun c hc => ⟨[some (dW C N T b), some (.lst .sh (dNs ns)), some (dC N T b c), none], [some (dW C N T b), some (.lst .sh (dNs ns)), some (dC N T b c), none], by simp! [froC], ?_, rfl⟩)
  refine ev_lca (inj := fun (n : Nat) => .int (n : Nat)) (xs := ns) (ρ1 := [some (dW C N T b), some (.lst .sh (dNs ns)), some (dC N T b c), none]) (fun n => .lst .sh (dNs ((List.range T).map fun t => b n (c * T + t)))) (it_l (o := .sh) (xs := dNs ns) (by simp!) dNs_fros rfl) hnl (by rfl) (fun n hn => ⟨[some (dW C N T b), some (.lst .sh (dNs ns)), some (dC N T b c), some (.int n)], [some (dW C N T b), some (.lst .sh (dNs ns)), some (dC N T b c), some (.int n)], rfl, ?_, rfl⟩)
  have hn' := hns n hn
  simp! [dC, hn']
end
end Ev

/-! k49: shortest_pulse. -/
namespace Ev
/-- the times at which a net changes -/
def posN (b : Nat → Nat → Nat) (n K : Nat) : List Nat := (List.range K).filter fun k => decide (b n k ≠ b n (k - 1))
def gapsI (ts : List Nat) : List Int := (List.range (ts.length - 1)).map fun k => (((ts[k + 1]?).getD 0 : Nat) : Int) - (((ts[k]?).getD 0 : Nat) : Int)
def dIs (xs : List Int) : List D := xs.map .int
def leastD (xs : List Int) : D := match leastI xs with | some m => .int m | none => .non
theorem toInts_dIs : ∀ {xs : List Int}, toInts (dIs xs) = some xs
  | [] => rfl
  | x :: xs => by
    have ih := toInts_dIs (xs := xs)
    unfold dIs at ih ⊢
    rw [List.map_cons, toInts, ih]
theorem dIs_fros {xs : List Int} : fros (dIs xs) = true := fros_map fun _ _ => fro_int
theorem dIs_len {xs : List Int} : (dIs xs).length = xs.length := by simp [dIs]
theorem it_rngi {g : G} {e : E} {ρ ρ1 : Env} {i : Int} (h : ev g e true ρ = .ok (.int i, ρ1)) (hi : okR i = true) : evI g (.rng e) ρ = .ok ((List.range i.toNat).map fun k => .int (k : Nat), ρ1) := by
  rw [evI, h, xb_ok]
  dsimp only
  rw [hi, xg_t]
theorem okR_pred {n : Nat} (h : n ≤ LINE) : okR ((n : Int) - 1) = true := by
  unfold okR
  rw [Nat.blt_eq]
  unfold LINE at h
  omega
theorem insI_head : ∀ (xs : List Int) (x y : Int), ((insI x (y :: xs))[0]?) = some (min x y)
  | xs, x, y => by
    rw [insI]
    by_cases h : x ≤ y
    · rw [if_pos h]; simp; omega
    · rw [if_neg h]; simp; omega
theorem foldl_min : ∀ (xs : List Int) (x : Int), xs.foldl min x = (match leastI xs with | some m => min x m | none => x)
  | [], x => rfl
  | y :: ys, x => by
    rw [List.foldl_cons, foldl_min ys (min x y)]
    have e : leastI (y :: ys) = some (ys.foldl min y) := rfl
    rw [e, foldl_min ys y]
    cases leastI ys with
    | none => rfl
    | some m => simp only [Int.min_assoc]
theorem sortI_head : ∀ (xs : List Int), (sortI xs)[0]? = leastI xs
  | [] => rfl
  | x :: xs => by
    have ih := sortI_head xs
    have e : leastI (x :: xs) = some (xs.foldl min x) := rfl
    rw [e, foldl_min, sortI]
    cases h : sortI xs with
    | nil =>
      rw [h] at ih
      rw [← ih]
      rfl
    | cons y ys =>
      rw [h] at ih
      rw [insI_head, ← ih]
      rfl
theorem sort_least (xs : List Int) : (dIs (sortI xs) ++ [D.non])[0]? = some (leastD xs) := by
  have h := sortI_head xs
  unfold leastD
  rw [← h]
  cases sortI xs with
  | nil => rfl
  | cons y ys => rfl
section
variable {C N T : Nat} {b : Nat → Nat → Nat}
theorem chg_net {k n : Nat} : ∀ {M : Nat}, (((List.range M).filterMap (chOne T b k)).filter fun x => decide (x.2.2.1 = n)) = if n < M then (chOne T b k n).toList else []
  | 0 => by simp
  | M + 1 => by
    rw [List.range_succ, List.filterMap_append, List.filter_append, chg_net (M := M)]
    by_cases h : n = M
    · subst h
      rw [if_neg (by omega), if_pos (by omega), List.nil_append]
      cases hc : chOne T b k n with
      | none => simp [hc]
      | some x =>
        have hx : x.2.2.1 = n := by
          unfold chOne at hc
          split at hc
          · cases hc
          · cases hc; rfl
        simp [hc, hx]
    · have e : (([M].filterMap (chOne T b k)).filter fun x => decide (x.2.2.1 = n)) = [] := by
        cases hc : chOne T b k M with
        | none => simp [hc]
        | some x =>
          have hx : x.2.2.1 = M := by
            unfold chOne at hc
            split at hc
            · cases hc
            · cases hc; rfl
          simp [hc, hx]
          omega
      rw [e, List.append_nil]
      by_cases h2 : n < M
      · rw [if_pos h2, if_pos (by omega)]
      · rw [if_neg h2, if_neg (by omega)]
theorem pos_chs (hT : 0 < T) {n : Nat} (hn : n < N) : ∀ K, ((chs N T b K).filter fun x => decide (x.2.2.1 = n)).map (keyC T) = posN b n K
  | 0 => rfl
  | K + 1 => by
    rw [chs_succ, List.filter_append, List.map_append, pos_chs hT hn K]
    unfold posN
    rw [List.range_succ, List.filter_append]
    congr 1
    unfold chg
    rw [chg_net, if_pos hn]
    by_cases e : b n K = b n (K - 1)
    · simp [chOne, e]
    · have hk : keyC T (K / T, K % T, n, b n K) = K := by
        unfold keyC
        have := Nat.div_add_mod K T
        rw [Nat.mul_comm] at this
        exact this
      simp [chOne, e, hk]
theorem posN_len {n K : Nat} : (posN b n K).length ≤ K := by
  have := List.length_filter_le (fun k => decide (b n k ≠ b n (k - 1))) (List.range K)
  rw [List.length_range] at this
  exact this
/-- shortest_pulse -/
theorem pulse_ok {m n : Nat} (hn : n < N) (hC : 0 < C) (hT : 0 < T) (hC2 : C ≤ 9) (hT2 : T ≤ 9) (hN2 : N ≤ 9) : ∃ rs, (semG Pg49 (m + 2)).call 11 [dW C N T b, .int n] = .ok (leastD (gapsI (posN b n (C * T))), rs) := by
  have hl3 := hd_line hC2 hT2 hN2
  have hCT : C * T ≤ 81 := Nat.mul_le_mul hC2 hT2
  have hN : 0 < N := by omega
  have hN3 : N ≤ LINE := Nat.le_trans hN2 (by decide)
  have hC3 : C ≤ LINE := Nat.le_trans hC2 (by decide)
  have hT3 : T ≤ LINE := Nat.le_trans hT2 (by decide)
  have hcl := chs_len (N := N) (T := T) (b := b) (k := C * T)
  have hc := told_ok (m := m) (b := b) hC hT hN hC3 hT3 hN3 (Nat.le_trans hl3 (by decide))
  have hpl := posN_len (b := b) (n := n) (K := C * T)
  let W := dW C N T b
  have h1 : exec (semG Pg49 (m + 1)) (.asg 2 (.un .len (.idx (.idx (.var 0) (.k (.int 0))) (.k (.int 0))))) [some W, some (.int n), none, none, none, none, none, none, none] = .ok (.nx, [some W, some (.int n), some (.int T), none, none, none, none, none, none]) := by
    simp only [W]
    simp! [dW, dC, hC, hN]
  have hfm : dNs (posN b n (C * T)) = (chs N T b (C * T)).filterMap fun x => if x.2.2.1 = n then some (.int (keyC T x : Nat)) else none := by
    rw [← pos_chs hT hn]
    unfold dNs
    generalize chs N T b (C * T) = xs
    induction xs with
    | nil => rfl
    | cons x xs ih =>
      by_cases h : x.2.2.1 = n
      · rw [List.filter_cons_of_pos (by simpa using h), List.map_cons, List.map_cons, ih, List.filterMap_cons, if_pos h]
      · rw [List.filter_cons_of_neg (by simpa using h), ih, List.filterMap_cons, if_neg h]
  have h2 : ev (semG Pg49 (m + 1)) d11c0 false [some W, some (.int n), some (.int T), none, none, none, none, none, none] = .ok (.lst .ow (dNs (posN b n (C * T))), [some W, some (.int n), some (.int T), none, none, none, none, none, none]) := by
    rw [hfm]
    refine ev_lcm (inj := dCh) (xs := chs N T b (C * T)) (ρ1 := [some W, some (.int n), some (.int T), none, none, none, none, none, none]) _ (it_t (xs := dChs (chs N T b (C * T))) ?_ dChs_fros) (by unfold LINE; omega) (by rfl) (fun x hx => ?_)
    · have := ev_callnb (g := semG Pg49 (m + 1)) (f := 0) (as := es [(.var 0)]) (vw := true) (ρ := [some W, some (.int n), some (.int T), none, none, none, none, none, none]) (ρ1 := [some W, some (.int n), some (.int T), none, none, none, none, none, none]) (by simp only [W]; simp! [froW]) hc (by rfl)
      rw [e_idx, this, xb_ok]
      simp!
    · refine ⟨[some W, some (.int n), some (.int T), none, some (.int x.1), some (.int x.2.1), some (.int x.2.2.1), some (.int x.2.2.2), none], lcB_if (b := decide (x.2.2.1 = n)) (ρ2 := [some W, some (.int n), some (.int T), none, some (.int x.1), some (.int x.2.1), some (.int x.2.2.1), some (.int x.2.2.2), none]) (by simp) rfl ?_ (fun e => ?_) (fun e => ?_), rfl⟩
      · have he : (((x.2.2.1 : Nat) : Int) == (n : Int)) = decide (x.2.2.1 = n) := by
          rw [Bool.eq_iff_iff, beq_iff_eq, decide_eq_true_eq]
          omega
        simp! [he]
      · have e' : x.2.2.1 = n := by simpa using e
        refine ⟨.int (keyC T x : Nat), ?_, by simp [e']⟩
        unfold keyC
        simp! [small_nat hT3]
      · have e' : ¬ x.2.2.1 = n := by simpa using e
        exact ⟨by simp [e'], rfl⟩
  have hg : dIs (gapsI (posN b n (C * T))) = (List.range ((posN b n (C * T)).length - 1)).map fun k => .int (((((posN b n (C * T))[k + 1]?).getD 0 : Nat) : Int) - ((((posN b n (C * T))[k]?).getD 0 : Nat) : Int)) := by
    unfold dIs gapsI
    rw [List.map_map]
    rfl
  have h3 : ev (semG Pg49 (m + 1)) d11c1 true [some W, some (.int n), some (.int T), some (.lst .ow (dNs (posN b n (C * T)))), none, none, none, none, none] = .ok (.lst .ow (dIs (gapsI (posN b n (C * T)))), [some W, some (.int n), some (.int T), some (.lst .ow (dNs (posN b n (C * T)))), none, none, none, none, none]) := by
    rw [hg]
    generalize posN b n (C * T) = ts at *
    refine ev_lca (inj := fun k => .int (k : Nat)) (xs := List.range (ts.length - 1)) (ρ1 := [some W, some (.int n), some (.int T), some (.lst .ow (dNs ts)), none, none, none, none, none]) (fun k => .int ((((ts[k + 1]?).getD 0 : Nat) : Int) - (((ts[k]?).getD 0 : Nat) : Int))) ?_ (by simp [LINE]; omega) (by rfl) (fun k hk => ⟨[some W, some (.int n), some (.int T), some (.lst .ow (dNs ts)), none, none, none, none, some (.int k)], [some W, some (.int n), some (.int T), some (.lst .ow (dNs ts)), none, none, none, none, some (.int k)], rfl, ?_, rfl⟩)
    · have := it_rngi (g := semG Pg49 (m + 1)) (e := .bin .sub (.un .len (.var 3)) (.k (.int 1))) (ρ := [some W, some (.int n), some (.int T), some (.lst .ow (dNs ts)), none, none, none, none, none]) (ρ1 := [some W, some (.int n), some (.int T), some (.lst .ow (dNs ts)), none, none, none, none, none]) (i := (ts.length : Int) - 1) (by simp!) (okR_pred (by unfold LINE; omega))
      rw [show ((ts.length : Int) - 1).toNat = ts.length - 1 by omega] at this
      exact this
    · have hk' : k < ts.length - 1 := by simpa using hk
      have a1 := List.getElem?_eq_getElem (show k < ts.length by omega)
      have a2 := List.getElem?_eq_getElem (show k + 1 < ts.length by omega)
      simp! [a1, a2]
  refine ⟨_, (call_succ (fd := d11) rfl).trans (run_rt (ρ0 := [some W, some (.int n), none, none, none, none, none, none, none]) (ρ' := [some W, some (.int n), some (.int T), some (.lst .ow (dNs (posN b n (C * T)))), none, none, none, none, none]) rfl rfl (blk_nx h1 (blk_nx (asg_of h2 (by simp)) (blk_rt (ret_of (un_of h3 ?_))))))⟩
  rw [u_minD, toInts_dIs]
  dsimp only
  unfold leastD
  cases leastI (gapsI (posN b n (C * T))) <;> rfl
end
end Ev

/-! k49: _law_draw. -/
namespace Ev
theorem getI {xs : List Int} {i : Int} (h0 : 0 ≤ i) (h1 : i < xs.length) : ∃ x, atI (dIs xs) i = some (.int x) := by
  have hl : i.toNat < xs.length := by omega
  refine ⟨xs[i.toNat], ?_⟩
  show L2.atI _ _ = _
  unfold L2.atI L2.ixN
  rw [show (dIs xs).length = xs.length by simp [dIs], if_pos h0, if_pos h1]
  simp [dIs, hl]
abbrev dSt (a b : Int) : D := .lst .ow [.int a, .int b]
theorem draw_tail {g : G} {a b s : Int} {ns : List Int} {x3 x4 x5 : Option D} (hs : 0 < s) (hs2 : s.natAbs < 1073741824) :
    exec g (blk [.asg 3 (.bin .mod (.un .int (.idx (.var 0) (.k (.int 1)))) (.var 2)), .setI (.var 0) (.k (.int 1)) (.bin .fdiv (.idx (.var 0) (.k (.int 1))) (.var 2)), .ret (.var 3)])
      [some (dSt a b), some (.lst .ro (dIs ns)), some (.int s), x3, x4, x5] = .ok (.rt (.int (b % s)), [some (dSt a (b / s)), some (.lst .ro (dIs ns)), some (.int s), some (.int (b % s)), x4, x5]) := by
  have h1 : atI [D.int a, D.int b] 1 = some (.int b) := rfl
  have h2 : ixN 2 1 = some 1 := rfl
  simp [blk, exec, ev, getS, R.bind, R.guard, safe, isPath, tch, root, idxD, h1, h2, fro, binD, unD, hs, hs2, simp, resv, updP, updA, putI, isC]
/-- the cell -/
theorem draw_cell {g : G} {a b s : Int} {ns : List Int} {x3 x4 x5 : Option D} (ha : 0 ≤ a) : ∃ c : Int,
    exec g (blk [.asg 4 (.k (.int 0)), .ife (.bin .gt (.un .len (.var 1)) (.k (.int 0))) (blk [.asg 4 (.idx (.var 1) (.bin .mod (.idx (.var 0) (.k (.int 0))) (.un .len (.var 1))))]) (blk []), .ife (.bin .lt (.var 4) (.k (.int 0))) (blk [.asg 4 (.bin .sub (.k (.int 1)) (.bin .mul (.k (.int 2)) (.var 4)))]) (blk [])])
      [some (dSt a b), some (.lst .ro (dIs ns)), some (.int s), x3, x4, x5] = .ok (.nx, [some (dSt a b), some (.lst .ro (dIs ns)), some (.int s), x3, some (.int c), x5]) := by
  have h1 : atI [D.int a, D.int b] 0 = some (.int a) := rfl
  have sm : small 2 = true := by decide
  have hlen : (dIs ns).length = ns.length := by simp [dIs]
  by_cases hn : 0 < (ns.length : Int)
  · obtain ⟨x, hx⟩ := getI (xs := ns) (Int.emod_nonneg a (by omega : (ns.length : Int) ≠ 0)) (Int.emod_lt_of_pos a hn)
    have hn2 : 0 < ns.length := by omega
    by_cases hc : x < 0
    · refine ⟨1 - 2 * x, ?_⟩
      simp [blk, exec, ev, getS, R.bind, R.guard, safe, isPath, tch, root, idxD, h1, fro, dIs_fros, binD, unD, tBl, hx, hn, hn2, hc, sm, hlen]
    · refine ⟨x, ?_⟩
      simp [blk, exec, ev, getS, R.bind, R.guard, safe, isPath, tch, root, idxD, h1, fro, dIs_fros, binD, unD, tBl, hx, hn, hn2, hc, sm, hlen]
  · refine ⟨0, ?_⟩
    have h0 : ns.length = 0 := by omega
    simp [blk, exec, ev, getS, R.bind, R.guard, safe, isPath, tch, root, idxD, h1, fro, dIs_fros, binD, unD, tBl, h0, sm, hlen]
theorem draw_mix {g : G} {a b s c : Int} {ns : List Int} {x3 x5 : Option D} (ha : 0 ≤ a) : ∃ (b' : Int) (x5' : Option D),
    exec g (blk [.asg 5 (.bin .mod (.un .int (.bin .mul (.bin .add (.bin .add (.var 4) (.bin .mul (.idx (.var 0) (.k (.int 0))) (.k (.int 7919)))) (.k (.int 1))) (.k (.int 48271)))) (.k (.int 2147483647))), .setI (.var 0) (.k (.int 1)) (.bin .mod (.un .int (.bin .add (.bin .mul (.var 5) (.k (.int 69621))) (.bin .mul (.idx (.var 0) (.k (.int 0))) (.k (.int 104729))))) (.k (.int 4294967291))), .ife (.and (.bin .ge (.var 4) (.bin .pow (.k (.int 10)) (.k (.int 18)))) (.bin .lt (.idx (.var 0) (.k (.int 0))) (.un .len (.var 1)))) (blk [.setI (.var 0) (.k (.int 1)) (.var 4)]) (blk []), .setI (.var 0) (.k (.int 0)) (.bin .add (.idx (.var 0) (.k (.int 0))) (.k (.int 1)))])
      [some (dSt a b), some (.lst .ro (dIs ns)), some (.int s), x3, some (.int c), x5] = .ok (.nx, [some (dSt (a + 1) b'), some (.lst .ro (dIs ns)), some (.int s), x3, some (.int c), x5']) := by
  have h1 : ∀ b : Int, atI [D.int a, D.int b] 0 = some (.int a) := fun _ => rfl
  have i1 : ixN 2 1 = some 1 := rfl
  have i0 : ixN 2 0 = some 0 := rfl
  have s1 : small 7919 = true := by decide
  have s2 : small 48271 = true := by decide
  have s3 : small 69621 = true := by decide
  have s4 : small 104729 = true := by decide
  have s5 : smallN 10 = true := by decide
  have hlen : (dIs ns).length = ns.length := by simp [dIs]
  by_cases h : (1000000000000000000 : Int) ≤ c
  · by_cases h2 : a < (ns.length : Int)
    · exact ⟨c, some (.int ((c + a * 7919 + 1) * 48271 % 2147483647)), by simp [blk, exec, ev, getS, R.bind, R.guard, safe, isPath, tch, root, idxD, h1, i0, i1, s1, s2, s3, s4, s5, fro, binD, unD, tBl, hlen, h, h2, simp, resv, updP, updA, putI]⟩
    · exact ⟨((c + a * 7919 + 1) * 48271 % 2147483647 * 69621 + a * 104729) % 4294967291, some (.int ((c + a * 7919 + 1) * 48271 % 2147483647)), by simp [blk, exec, ev, getS, R.bind, R.guard, safe, isPath, tch, root, idxD, h1, i0, i1, s1, s2, s3, s4, s5, fro, binD, unD, tBl, hlen, h, h2, simp, resv, updP, updA, putI]⟩
  · exact ⟨((c + a * 7919 + 1) * 48271 % 2147483647 * 69621 + a * 104729) % 4294967291, some (.int ((c + a * 7919 + 1) * 48271 % 2147483647)), by simp [blk, exec, ev, getS, R.bind, R.guard, safe, isPath, tch, root, idxD, h1, i0, i1, s1, s2, s3, s4, s5, fro, binD, unD, tBl, hlen, h, simp, resv, updP, updA, putI]⟩
def stMix : S := .ife (.bin .eq (.idx (.var 0) (.k (.int 1))) (.k (.int 0))) (blk ([.asg 4 (.k (.int 0)), .ife (.bin .gt (.un .len (.var 1)) (.k (.int 0))) (blk [.asg 4 (.idx (.var 1) (.bin .mod (.idx (.var 0) (.k (.int 0))) (.un .len (.var 1))))]) (blk []), .ife (.bin .lt (.var 4) (.k (.int 0))) (blk [.asg 4 (.bin .sub (.k (.int 1)) (.bin .mul (.k (.int 2)) (.var 4)))]) (blk [])] ++ [.asg 5 (.bin .mod (.un .int (.bin .mul (.bin .add (.bin .add (.var 4) (.bin .mul (.idx (.var 0) (.k (.int 0))) (.k (.int 7919)))) (.k (.int 1))) (.k (.int 48271)))) (.k (.int 2147483647))), .setI (.var 0) (.k (.int 1)) (.bin .mod (.un .int (.bin .add (.bin .mul (.var 5) (.k (.int 69621))) (.bin .mul (.idx (.var 0) (.k (.int 0))) (.k (.int 104729))))) (.k (.int 4294967291))), .ife (.and (.bin .ge (.var 4) (.bin .pow (.k (.int 10)) (.k (.int 18)))) (.bin .lt (.idx (.var 0) (.k (.int 0))) (.un .len (.var 1)))) (blk [.setI (.var 0) (.k (.int 1)) (.var 4)]) (blk []), .setI (.var 0) (.k (.int 0)) (.bin .add (.idx (.var 0) (.k (.int 0))) (.k (.int 1)))])) (blk [])
/-- _law_draw: a digit below size; the state goes on -/
theorem draw_ok {n : Nat} {a b s : Int} {ns : List Int} (ha : 0 ≤ a) (hs : 0 < s) (hs2 : s.natAbs < 1073741824) : ∃ a' b' d : Int, 0 ≤ a' ∧ 0 ≤ d ∧ d < s ∧
    (semG Pg49 (n + 1)).call 13 [dSt a b, .lst .ro (dIs ns), .int s] = .ok (.int d, [some (dSt a' b'), some (.lst .ro (dIs ns)), some (.int s)]) := by
  obtain ⟨c, hc⟩ := draw_cell (g := semG Pg49 n) (a := a) (b := b) (s := s) (ns := ns) (x3 := none) (x4 := none) (x5 := none) ha
  obtain ⟨b1, x5, hm⟩ := draw_mix (g := semG Pg49 n) (a := a) (b := b) (s := s) (c := c) (ns := ns) (x3 := none) (x5 := none) ha
  have h1 : atI [D.int a, D.int b] 1 = some (.int b) := rfl
  have key : ∃ (a' b2 : Int) (x4 x5 : Option D), 0 ≤ a' ∧ exec (semG Pg49 n) (blk [stMix])
      [some (dSt a b), some (.lst .ro (dIs ns)), some (.int s), none, none, none] = .ok (.nx, [some (dSt a' b2), some (.lst .ro (dIs ns)), some (.int s), none, x4, x5]) := by
    have hx := exec_app (g := semG Pg49 n) [.asg 4 (.k (.int 0)), .ife (.bin .gt (.un .len (.var 1)) (.k (.int 0))) (blk [.asg 4 (.idx (.var 1) (.bin .mod (.idx (.var 0) (.k (.int 0))) (.un .len (.var 1))))]) (blk []), .ife (.bin .lt (.var 4) (.k (.int 0))) (blk [.asg 4 (.bin .sub (.k (.int 1)) (.bin .mul (.k (.int 2)) (.var 4)))]) (blk [])] [.asg 5 (.bin .mod (.un .int (.bin .mul (.bin .add (.bin .add (.var 4) (.bin .mul (.idx (.var 0) (.k (.int 0))) (.k (.int 7919)))) (.k (.int 1))) (.k (.int 48271)))) (.k (.int 2147483647))), .setI (.var 0) (.k (.int 1)) (.bin .mod (.un .int (.bin .add (.bin .mul (.var 5) (.k (.int 69621))) (.bin .mul (.idx (.var 0) (.k (.int 0))) (.k (.int 104729))))) (.k (.int 4294967291))), .ife (.and (.bin .ge (.var 4) (.bin .pow (.k (.int 10)) (.k (.int 18)))) (.bin .lt (.idx (.var 0) (.k (.int 0))) (.un .len (.var 1)))) (blk [.setI (.var 0) (.k (.int 1)) (.var 4)]) (blk []), .setI (.var 0) (.k (.int 0)) (.bin .add (.idx (.var 0) (.k (.int 0))) (.k (.int 1)))] [some (dSt a b), some (.lst .ro (dIs ns)), some (.int s), none, none, none]
    rw [hc] at hx
    dsimp only [R.bind] at hx
    rw [hm] at hx
    have tst : (ev (semG Pg49 n) (.bin .eq (.idx (.var 0) (.k (.int 1))) (.k (.int 0))) true [some (dSt a b), some (.lst .ro (dIs ns)), some (.int s), none, none, none]).bind tBl = .ok (b == 0, [some (dSt a b), some (.lst .ro (dIs ns)), some (.int s), none, none, none]) := by
      simp [ev, getS, R.bind, R.guard, safe, isPath, tch, root, idxD, h1, fro, binD, okD, eqD, tBl]
    by_cases hb : b = 0
    · refine ⟨a + 1, b1, some (.int c), x5, by omega, ?_⟩
      show exec _ (.seq stMix .skip) _ = _
      unfold stMix
      simp only [exec]
      rw [tst]
      dsimp only [R.bind]
      rw [show (b == 0) = true by simp [hb]]
      dsimp only
      rw [hx]
    · refine ⟨a, b, none, none, ha, ?_⟩
      show exec _ (.seq stMix .skip) _ = _
      unfold stMix
      simp only [exec]
      rw [tst]
      dsimp only [R.bind]
      rw [show (b == 0) = false by simp [hb]]
      rfl
  obtain ⟨a', b2, x4, x5, ha', hk⟩ := key
  refine ⟨a', b2 / s, b2 % s, ha', Int.emod_nonneg _ (by omega), Int.emod_lt_of_pos _ hs, ?_⟩
  show runD (semG Pg49 n) d13 [dSt a b, .lst .ro (dIs ns), .int s] = _
  have tl := draw_tail (g := semG Pg49 n) (a := a') (b := b2) (s := s) (ns := ns) (x3 := none) (x4 := x4) (x5 := x5) hs hs2
  have e0 : exec (semG Pg49 n) d13.body [some (dSt a b), some (.lst .ro (dIs ns)), some (.int s), none, none, none] = .ok (.rt (.int (b2 % s)), [some (dSt a' (b2 / s)), some (.lst .ro (dIs ns)), some (.int s), some (.int (b2 % s)), x4, x5]) := by
    refine (exec_app (g := semG Pg49 n) [stMix] [.asg 3 (.bin .mod (.un .int (.idx (.var 0) (.k (.int 1)))) (.var 2)), .setI (.var 0) (.k (.int 1)) (.bin .fdiv (.idx (.var 0) (.k (.int 1))) (.var 2)), .ret (.var 3)] _).trans ?_
    rw [hk]
    dsimp only [R.bind]
    exact tl
  unfold runD
  show R.guard true (match exec (semG Pg49 n) d13.body [some (dSt a b), some (.lst .ro (dIs ns)), some (.int s), none, none, none] with | .ok (fl, ρ') => (match fl with | .nx => R.ok (D.non, kept (asgS d13.body) ρ' 0 3) | .rt d => .ok (d, kept (asgS d13.body) ρ' 0 3) | _ => .bad) | .exn c p => .exn c p | .bad => .bad) = _
  rw [e0]
  rfl
theorem ex_fore {g : G} {tg : Tg} {it : It} {b : S} {w : List Nat} {ρ : Env} {σ α : Type} {xs : List α} {s0 : σ} (env : σ → Env) (inj : α → D) (I : Nat → σ → Prop) (hi : evI g it ρ = .ok (xs.map inj, env s0)) (h0 : I 0 s0)
    (hb : ∀ k a s, xs[k]? = some a → I k s → ∃ ρ1 ρ2 s', bindT tg (inj a) (env s) = some ρ1 ∧ exec g b ρ1 = .ok (.nx, ρ2) ∧ wipeE ρ2 w = env s' ∧ I (k + 1) s') : ∃ s', exec g (.fore tg it b w) ρ = .ok (.nx, env s') ∧ I xs.length s' := by
  refine ex_forr (σ := Nat × σ) (s0 := (0, s0)) (fun z => env z.2) inj (fun z as => xs.drop z.1 = as ∧ I z.1 z.2 ∧ z.1 ≤ xs.length) (fun z as r => ∃ s', r = .ok (.nx, env s') ∧ I xs.length s') hi ⟨rfl, h0, Nat.zero_le _⟩ (fun z hz => ?_) (fun z a as hz => ?_)
  · obtain ⟨h1, h2, h3⟩ := hz
    have hle : xs.length ≤ z.1 := List.drop_eq_nil_iff.mp h1
    have e : z.1 = xs.length := by omega
    rw [e] at h2
    exact ⟨z.2, rfl, h2⟩
  · obtain ⟨h1, h2, h3⟩ := hz
    have e : xs[z.1]? = some a := by
      have := congrArg (fun l => l[0]?) h1
      simpa using this
    obtain ⟨ρ1, ρ2, s', e1, e2, e3, e4⟩ := hb z.1 a z.2 e h2
    refine ⟨ρ1, e1, .inl ⟨ρ2, (z.1 + 1, s'), e2, e3, ⟨?_, e4, (List.getElem?_eq_some_iff.mp e).1⟩, fun r hr => hr⟩⟩
    have := congrArg (List.drop 1) h1
    simpa [List.drop_drop] using this
/-- a draw, as it stands in the law -/
theorem draw_ev {m s : Nat} {a b : Int} {ns : List Int} {e : E} {vw : Bool} {ρt : Env} (ha : 0 ≤ a) (hs : 0 < s) (hs2 : s ≤ LINE) (he : ev (semG Pg49 (m + 1)) e false (some (.lst .ro (dIs ns)) :: none :: ρt) = .ok (.int s, some (.lst .ro (dIs ns)) :: none :: ρt)) (nb : noBor (es [e]) = true) :
    ∃ (a' b' : Int) (d : Nat), 0 ≤ a' ∧ d < s ∧ ev (semG Pg49 (m + 1)) (.call 13 (es [(.bor 1), (.var 0), e])) vw (some (.lst .ro (dIs ns)) :: some (dSt a b) :: ρt) = .ok (.int d, some (.lst .ro (dIs ns)) :: some (dSt a' b') :: ρt) := by
  obtain ⟨a', b', d, h1, h2, h3, h4⟩ := draw_ok (n := m) (a := a) (b := b) (s := (s : Int)) (ns := ns) ha (by omega) (by rw [Int.natAbs_natCast]; unfold LINE at hs2; omega)
  refine ⟨a', b', d.toNat, h1, by omega, ?_⟩
  rw [show ((d.toNat : Nat) : Int) = d by omega]
  have hargs : evs (semG Pg49 (m + 1)) (es [(.bor 1), (.var 0), e]) (some (.lst .ro (dIs ns)) :: some (dSt a b) :: ρt) = .ok ([dSt a b, .lst .ro (dIs ns), .int s], some (.lst .ro (dIs ns)) :: none :: ρt) := by
    rw [es_cons, e_bor, getS1, get0]
    dsimp only
    rw [xb_ok]
    dsimp only
    rw [es_cons, e_var, show (some (D.lst .ro (dIs ns)) :: some (dSt a b) :: ρt).set 1 none = some (.lst .ro (dIs ns)) :: none :: ρt from rfl, get0]
    dsimp only
    rw [show (false || fro (.lst .ro (dIs ns))) = true by rw [fro_ro, dIs_fros]; rfl, xg_t, xb_ok]
    dsimp only
    rw [es_cons, he]
    rfl
  rw [e_call, hargs, xb_ok]
  dsimp only
  rw [h4, xb_ok]
  dsimp only
  rw [show backA (es [(.bor 1), (.var 0), e]) [some (dSt a' b'), some (.lst .ro (dIs ns)), some (.int s)] (some (.lst .ro (dIs ns)) :: none :: ρt) = backA (es [(.var 0), e]) [some (.lst .ro (dIs ns)), some (.int s)] (some (.lst .ro (dIs ns)) :: some (dSt a' b') :: ρt) from rfl, backA_nb]
  rw [nb_cons] 
  exact nb
end Ev

/-! k49: the law builds a wave. -/
namespace Ev
abbrev dScr (ns : List Int) : D := .lst .ro (dIs ns)
def dC3 (c : List (List Nat)) : D := .lst .ow (c.map fun l => .lst .ow (dNs l))
def dL3 (w : List (List (List Nat))) : List D := w.map dC3
theorem ixN_m1 {n : Nat} : ixN (n + 1) (-1) = some n := by
  show L2.ixN _ _ = _
  unfold L2.ixN
  rw [if_neg (by omega), if_pos (by omega)]
  congr 1
  omega
abbrev envW (ns : List Int) (s : Int × Int) (w : List D) (cy nt : Option D) (C T N : Nat) (x26 : Option D) : Env := [some (dScr ns), some (dSt s.1 s.2), some (.lst .ow w), cy, none, none, none, nt, none, some (.int C), some (.int T), some (.int N), none, none, none, none, none, none, none, none, none, none, none, none, none, none, x26]
section
variable {m : Nat} {ns : List Int} {C T N : Nat}
theorem row_draw {s : Int × Int} {w : List D} {cy nt : Option D} (hs : 0 ≤ s.1) (hT : T ≤ LINE) :
    ∃ (s' : Int × Int) (l : List Nat), 0 ≤ s'.1 ∧ l.length = T ∧ (∀ x ∈ l, x < 2) ∧ ev (semG Pg49 (m + 1)) d23c0 false (envW ns s w cy nt C T N none) = .ok (.lst .ow (dNs l), envW ns s' w cy nt C T N none) := by
  have hk : ∀ s' : Int × Int, ∀ ρ', wipeE ρ' [26] = wipeE (envW ns s' w cy nt C T N none) [26] → backE (envW ns s w cy nt C T N none) ρ' [26] = envW ns s' w cy nt C T N none := by
    intro s' ρ' h
    have hl : ρ'.length = 27 := by
      have := congrArg List.length h
      simpa [wipeE_length] using this
    apply List.ext_getElem?
    intro i
    rw [backE_at]
    have hi := congrArg (fun l => l[i]?) h
    rw [wipeE_at, wipeE_at] at hi
    by_cases c : i ∈ [26]
    · rw [if_pos c]
      have : i = 26 := by simpa using c
      subst this
      rw [List.getElem?_eq_getElem (show 26 < ρ'.length by omega)]
      rfl
    · rw [if_neg c]
      rw [if_neg c, if_neg c] at hi
      exact hi
  have hb : ∀ k ∈ List.range T, ∀ s : Int × Int, 0 ≤ s.1 → ∃ (s' : Int × Int) (y : D) (ρ2 : Env), lcB (semG Pg49 (m + 1)) (.nm 26) .hole (.call 13 (es [(.bor 1), (.var 0), (.k (.int 2))])) (.int (k : Nat)) (wipeE (envW ns s w cy nt C T N none) [26]) = .ok (some y, ρ2) ∧ wipeE ρ2 [26] = wipeE (envW ns s' w cy nt C T N none) [26] ∧ 0 ≤ s'.1 ∧ ∃ d : Nat, d < 2 ∧ y = .int d := by
    intro k _ s hs
    obtain ⟨a', b', d, h1, h2, h3⟩ := draw_ev (m := m) (s := 2) (a := s.1) (b := s.2) (ns := ns) (e := .k (.int 2)) (vw := false) (ρt := [some (.lst .ow w), cy, none, none, none, nt, none, some (.int C), some (.int T), some (.int N), none, none, none, none, none, none, none, none, none, none, none, none, none, none, some (.int (k : Nat))]) hs (by decide) (by decide) (by simp!) (by rfl)
    exact ⟨(a', b'), .int d, _, lcB_all rfl h3, rfl, h1, d, h2, rfl⟩
  obtain ⟨s', ys, e1, e2, e3, e4⟩ := ev_lcst (g := semG Pg49 (m + 1)) (tg := .nm 26) (it := .rng (.var 10)) (c := .hole) (e := .call 13 (es [(.bor 1), (.var 0), (.k (.int 2))])) (own := [26]) (vw := false) (ρ := envW ns s w cy nt C T N none) (inj := fun k => .int (k : Nat)) (xs := List.range T) (s := s) (fun s => envW ns s w cy nt C T N none) (fun s => 0 ≤ s.1) (fun y => ∃ d : Nat, d < 2 ∧ y = .int d) (it_rng (by simp!) hT) (by simpa using hT) (by rfl) hs hk hb
  refine ⟨s', ys.map fun y => (match y with | .int i => i.toNat | _ => 0), e2, by simpa using e3, ?_, ?_⟩
  · intro x hx
    obtain ⟨y, hy, rfl⟩ := List.mem_map.mp hx
    obtain ⟨d, hd, rfl⟩ := e4 y hy
    simpa using hd
  · have hys : dNs (ys.map fun y => (match y with | .int i => i.toNat | _ => 0)) = ys := by
      unfold dNs
      rw [List.map_map]
      refine (List.map_congr_left fun y hy => ?_).trans (List.map_id ys)
      obtain ⟨d, hd, rfl⟩ := e4 y hy
      simp
    rw [hys]
    exact e1
theorem net_draw {s : Int × Int} {w : List D} {c : List (List Nat)} {cy nt : Option D} (hs : 0 ≤ s.1) (hT : T ≤ LINE) (hc : c.length < LINE) :
    ∃ (s' : Int × Int) (l : List Nat), 0 ≤ s'.1 ∧ l.length = T ∧ (∀ x ∈ l, x < 2) ∧ exec (semG Pg49 (m + 1)) d23b0 (envW ns s (w ++ [dC3 c]) cy nt C T N none) = .ok (.nx, envW ns s' (w ++ [dC3 (c ++ [l])]) cy nt C T N none) := by
  obtain ⟨s', l, h1, h2, h3, h4⟩ := row_draw (m := m) (ns := ns) (C := C) (T := T) (N := N) (w := w ++ [dC3 c]) (cy := cy) (nt := nt) hs hT
  refine ⟨s', l, h1, h2, h3, ?_⟩
  have hc' : c.length < 16777216 := hc
  have hix : ixN (w.length + 1) (-1) = some w.length := ixN_m1
  have hget : ∀ x : D, (w ++ [x])[w.length]? = some x := fun x => by simp
  have hset : ∀ x y : D, (w ++ [x]).set w.length y = w ++ [y] := fun x y => by rw [List.set_append_right _ _ (Nat.le_refl _), Nat.sub_self]; rfl
  simp only [dC3] at h4
  unfold d23b0
  simp! [hix, dC3, hc', h4, show tch d23c0 = [1] from rfl, hget, hset]
def shapeR (N T : Nat) (c : List (List Nat)) : Prop := c.length = N ∧ ∀ l ∈ c, l.length = T ∧ ∀ x ∈ l, x < 2
theorem cycle_draw {s : Int × Int} {w : List (List (List Nat))} {cy : Option D} (hs : 0 ≤ s.1) (hT : T ≤ LINE) (hN : N ≤ LINE) (hw : w.length < LINE) :
    ∃ (s' : Int × Int) (c : List (List Nat)), 0 ≤ s'.1 ∧ shapeR N T c ∧ exec (semG Pg49 (m + 1)) d23b1 (envW ns s (dL3 w) cy none C T N none) = .ok (.nx, envW ns s' (dL3 (w ++ [c])) cy none C T N none) := by
  have hw' : w.length < 16777216 := hw
  have h0 : exec (semG Pg49 (m + 1)) (.app (.var 2) (.lst (es []))) (envW ns s (dL3 w) cy none C T N none) = .ok (.nx, envW ns s (dL3 w ++ [dC3 []]) cy none C T N none) := by
    have : (dL3 w).length < 16777216 := by simpa [dL3] using hw'
    simp! [this, dC3]
  obtain ⟨z, e1, e2, e3⟩ := ex_fore (g := semG Pg49 (m + 1)) (tg := .nm 7) (it := .rng (.var 11)) (b := d23b0) (w := [7]) (ρ := envW ns s (dL3 w ++ [dC3 []]) cy none C T N none) (xs := List.range N) (s0 := (s, [])) (fun (z : (Int × Int) × List (List Nat)) => envW ns z.1 (dL3 w ++ [dC3 z.2]) cy none C T N none) (fun n => .int (n : Nat)) (fun k z => 0 ≤ z.1.1 ∧ shapeR k T z.2) (it_rng (by simp!) hN) ⟨hs, rfl, by simp⟩ (fun k a z hk hz => by
      obtain ⟨hk', rfl⟩ := rng_get hk
      obtain ⟨z1, z2, z3⟩ := hz
      obtain ⟨s', l, h1, h2, h3, h4⟩ := net_draw (m := m) (ns := ns) (C := C) (T := T) (N := N) (s := z.1) (w := dL3 w) (c := z.2) (cy := cy) (nt := some (.int (k : Nat))) z1 hT (by rw [z2]; unfold LINE at hN ⊢; omega)
      refine ⟨_, _, (s', z.2 ++ [l]), rfl, h4, rfl, h1, by simp [z2], ?_⟩
      intro l' hl'
      rcases List.mem_append.mp hl' with hl' | hl'
      · exact z3 l' hl'
      · rw [List.mem_singleton] at hl'
        subst hl'
        exact ⟨h2, h3⟩)
  rw [List.length_range] at e3
  refine ⟨z.1, z.2, e2, e3, blk_nx h0 ?_⟩
  have : dL3 (w ++ [z.2]) = dL3 w ++ [dC3 z.2] := by simp [dL3]
  rw [this]
  exact blk_nx e1 rfl
/-- the wave is built -/
theorem wave_draw {s : Int × Int} (hs : 0 ≤ s.1) (hT : T ≤ LINE) (hN : N ≤ LINE) (hC : C ≤ LINE) :
    ∃ (s' : Int × Int) (w : List (List (List Nat))), 0 ≤ s'.1 ∧ w.length = C ∧ (∀ c ∈ w, shapeR N T c) ∧ exec (semG Pg49 (m + 1)) (.fore (.nm 3) (.rng (.var 9)) d23b1 [3, 7]) (envW ns s [] none none C T N none) = .ok (.nx, envW ns s' (dL3 w) none none C T N none) := by
  obtain ⟨z, e1, e2, e3, e4⟩ := ex_fore (g := semG Pg49 (m + 1)) (tg := .nm 3) (it := .rng (.var 9)) (b := d23b1) (w := [3, 7]) (ρ := envW ns s [] none none C T N none) (xs := List.range C) (s0 := (s, [])) (fun (z : (Int × Int) × List (List (List Nat))) => envW ns z.1 (dL3 z.2) none none C T N none) (fun n => .int (n : Nat)) (fun k z => 0 ≤ z.1.1 ∧ z.2.length = k ∧ ∀ c ∈ z.2, shapeR N T c) (it_rng (by simp! [dL3]) hC) ⟨hs, rfl, by simp⟩ (fun k a z hk hz => by
      obtain ⟨hk', rfl⟩ := rng_get hk
      obtain ⟨z1, z2, z3⟩ := hz
      obtain ⟨s', c, h1, h2, h3⟩ := cycle_draw (m := m) (ns := ns) (C := C) (T := T) (N := N) (s := z.1) (w := z.2) (cy := some (.int (k : Nat))) z1 hT hN (by rw [z2]; unfold LINE at hC ⊢; omega)
      refine ⟨_, _, (s', z.2 ++ [c]), rfl, h3, rfl, h1, by simp [z2], ?_⟩
      intro c' hc'
      rcases List.mem_append.mp hc' with hc' | hc'
      · exact z3 c' hc'
      · rw [List.mem_singleton] at hc'
        subst hc'
        exact h2)
  rw [List.length_range] at e3
  exact ⟨z.1, z.2, e2, e3, e4, e1⟩
/-- a wave by its bits -/
def bitW (T : Nat) (w : List (List (List Nat))) (n k : Nat) : Nat := (((w[k / T]?).getD [])[n]?.getD [])[k % T]?.getD 0
theorem bitW_lt {w : List (List (List Nat))} (h : ∀ c ∈ w, shapeR N T c) (n k : Nat) : bitW T w n k < 2 := by
  unfold bitW
  cases h1 : w[k / T]? with
  | none => simp
  | some c =>
    have hc := (h c (List.mem_of_getElem? h1)).2
    simp only [Option.getD_some]
    cases h2 : c[n]? with
    | none => simp
    | some l =>
      have hl := (hc l (List.mem_of_getElem? h2)).2
      simp only [Option.getD_some]
      cases h3 : l[k % T]? with
      | none => simp
      | some x => exact hl x (List.mem_of_getElem? h3)
theorem wave_dW {w : List (List (List Nat))} (hl : w.length = C) (h : ∀ c ∈ w, shapeR N T c) : frz (.lst .ow (dL3 w)) = dW C N T (bitW T w) := by
  rw [frz_ow]
  unfold dW
  congr 1
  unfold dL3
  rw [frzs_map (g := fun c => .lst .sh (c.map fun l => .lst .sh (dNs l))) (fun c _ => by unfold dC3; rw [frz_ow, frzs_map (g := fun l => .lst .sh (dNs l)) (fun l _ => by rw [frz_ow, dNs_frzs])])]
  apply List.ext_getElem?
  intro c
  by_cases hc : c < C
  · have hcl : c < w.length := by omega
    have hsh := h w[c] (List.getElem_mem hcl)
    rw [List.getElem?_map, List.getElem?_eq_getElem hcl, List.getElem?_map, List.getElem?_range hc]
    simp only [Option.map_some]
    unfold dC
    congr 2
    apply List.ext_getElem?
    intro n
    by_cases hn : n < N
    · have hnl : n < w[c].length := by rw [hsh.1]; exact hn
      have hsl := (hsh.2 w[c][n] (List.getElem_mem hnl)).1
      rw [List.getElem?_map, List.getElem?_eq_getElem hnl, List.getElem?_map, List.getElem?_range hn]
      simp only [Option.map_some]
      congr 3
      apply List.ext_getElem?
      intro t
      by_cases ht : t < T
      · have htl : t < w[c][n].length := by omega
        rw [List.getElem?_eq_getElem htl, List.getElem?_map, List.getElem?_range ht]
        simp only [Option.map_some]
        congr 1
        unfold bitW
        have hdiv : (c * T + t) / T = c := by rw [Nat.mul_comm, Nat.mul_add_div (by omega), Nat.div_eq_of_lt ht, Nat.add_zero]
        have hmod : (c * T + t) % T = t := by rw [Nat.mul_comm, Nat.mul_add_mod, Nat.mod_eq_of_lt ht]
        rw [hdiv, hmod, List.getElem?_eq_getElem hcl]
        simp only [Option.getD_some]
        rw [List.getElem?_eq_getElem hnl]
        simp only [Option.getD_some]
        rw [List.getElem?_eq_getElem htl]
        rfl
      · rw [List.getElem?_eq_none (by omega), List.getElem?_eq_none (by simp; omega)]
    · have h9 := hsh.1
      rw [List.getElem?_eq_none (by simp; omega), List.getElem?_eq_none (by simp; omega)]
  · rw [List.getElem?_eq_none (by simp; omega), List.getElem?_eq_none (by simp; omega)]
end
end Ev

/-! k49: what the law asks of the wave and its text. -/
namespace Ev
section
variable {g : G}
theorem or_f {a b : E} {vw : Bool} {ρ ρ1 ρ2 : Env} {c : Bool} (h1 : ev g a true ρ = .ok (.bl false, ρ1)) (h2 : ev g b true ρ1 = .ok (.bl c, ρ2)) : ev g (.or a b) vw ρ = .ok (.bl c, ρ2) := by
  rw [e_or, h1, xb_ok]
  dsimp only
  rw [h2]
  rfl
theorem and_t {a b : E} {vw : Bool} {ρ ρ1 ρ2 : Env} {c : Bool} (h1 : ev g a true ρ = .ok (.bl true, ρ1)) (h2 : ev g b true ρ1 = .ok (.bl c, ρ2)) : ev g (.and a b) vw ρ = .ok (.bl c, ρ2) := by
  rw [e_and, h1, xb_ok]
  dsimp only
  rw [h2]
  rfl
theorem ne_f {a b : E} {vw : Bool} {ρ ρ1 ρ2 : Env} {d : D} (h1 : ev g a true ρ = .ok (d, ρ1)) (h2 : ev g b true ρ1 = .ok (d, ρ2)) (hs : safe a d (tch b) = true) (ho : okD d 64 = true) : ev g (.bin .ne a b) vw ρ = .ok (.bl false, ρ2) := bin_of h1 h2 hs (ne_same ho)
theorem eq_t {a b : E} {vw : Bool} {ρ ρ1 ρ2 : Env} {d : D} (h1 : ev g a true ρ = .ok (d, ρ1)) (h2 : ev g b true ρ1 = .ok (d, ρ2)) (hs : safe a d (tch b) = true) (ho : okD d 64 = true) : ev g (.bin .eq a b) vw ρ = .ok (.bl true, ρ2) := bin_of h1 h2 hs (eq_same ho)
theorem ife_f {c : E} {a : S} {ρ ρ1 : Env} (h : ev g c true ρ = .ok (.bl false, ρ1)) : exec g (.ife c a (blk [])) ρ = .ok (.nx, ρ1) := by
  rw [x_ife, h]
  rfl
theorem fz_of {i : Nat} {vw : Bool} {ρ : Env} {d : D} (h : getS ρ i = some d) : ev g (.fz i) vw ρ = .ok (frz d, ρ.set i (some (frz d))) := by
  rw [e_fz, h]
end
section
variable {C N T : Nat} {b : Nat → Nat → Nat}
theorem okD_dW : okD (dW C N T b) 64 = true := by
  unfold dW
  rw [okD_lst]
  refine okDs_map fun c _ => ?_
  unfold dC
  rw [okD_lst]
  refine okDs_map fun n _ => ?_
  rw [okD_lst]
  exact dNs_okDs
theorem okDs_dChs {l : List Ch} {n : Nat} : okDs (dChs l) (n + 1) = true := okDs_map fun x _ => by
  unfold dCh
  rw [okD_tup]
  rfl
theorem waveT_tok (hC : C ≤ 9) (hT : T ≤ 9) (hN : N ≤ 9) (hb : ∀ n k, b n k < 10) : Tok (waveT C N T b) := by
  refine ⟨Nat.le_trans (waveT_len hC hT hN) (by decide), fun c hc => ?_⟩
  unfold waveT at hc
  rw [List.mem_append, List.mem_append] at hc
  rcases hc with (hc | hc) | hc
  · unfold hdT at hc
    simp only [List.mem_append, List.mem_cons, List.not_mem_nil, or_false, List.mem_map, List.mem_range] at hc
    rcases hc with ((((hc | hc) | hc) | hc) | hc) | hc
    · omega
    · omega
    · omega
    · omega
    · omega
    · obtain ⟨n, hn, rfl⟩ := hc
      have := hb n 0
      omega
  · rw [List.mem_singleton] at hc
    omega
  · have key : ∀ {l : Option (Nat × Nat)} {xs : List Ch}, (∀ x ∈ xs, lt10 x) → ∀ c ∈ rowsT l xs, c < 1114112 := by
      intro l xs
      induction xs generalizing l with
      | nil => intro _ c hc; simp [rowsT, rowsL] at hc
      | cons x xs ih =>
        intro hx c hc
        obtain ⟨h1, h2, h3, h4⟩ := hx x (by simp)
        rw [rowsT_cons, List.mem_append, List.mem_append] at hc
        rcases hc with (hc | hc) | hc
        · split at hc
          · simp [atRow] at hc; omega
          · simp at hc
        · simp [netRow] at hc; omega
        · exact ih (fun y hy => hx y (by simp [hy])) c hc
    exact key (chs_lt10 hC hT hN hb (Nat.le_refl _)) c hc
end
abbrev envL (ns : List Int) (s : Int × Int) (W bg : Option D) (x3 x5 x6 x7 x8 : Option D) (C T N : Nat) (MV TX : Option D) (x14 x15 x16 x17 x18 x19 x20 x21 x22 x23 x24 x25 : Option D) : Env := [some (dScr ns), some (dSt s.1 s.2), W, x3, bg, x5, x6, x7, x8, some (.int C), some (.int T), some (.int N), MV, TX, x14, x15, x16, x17, x18, x19, x20, x21, x22, x23, x24, x25, none]
abbrev envP (ns : List Int) (s : Int × Int) (W bg MV TX : Option D) (C T N : Nat) : Env := envL ns s W bg none none none none none C T N MV TX none none none none none none none none none none none none
section
variable {m : Nat} {ns : List Int} {C T N : Nat} {b : Nat → Nat → Nat} {s : Int × Int}
/-- the start: three numbers -/
theorem law_start : ∃ (s : Int × Int) (C T N : Nat), 0 ≤ s.1 ∧ 0 < C ∧ C ≤ 3 ∧ 0 < T ∧ T ≤ 4 ∧ 0 < N ∧ N ≤ 3 ∧
    exec (semG Pg49 (m + 1)) (.unp (.tp [(.nm 9), (.nm 10), (.nm 11)]) (.tup (es [(.frz (.bin .add (.k (.int 1)) (.call 13 (es [(.bor 1), (.var 0), (.k (.int 3))])))), (.frz (.bin .add (.k (.int 1)) (.call 13 (es [(.bor 1), (.var 0), (.k (.int 4))])))), (.frz (.bin .add (.k (.int 1)) (.call 13 (es [(.bor 1), (.var 0), (.k (.int 3))]))))]))) (some (dScr ns) :: some (dSt 0 0) :: List.replicate 25 none) = .ok (.nx, some (dScr ns) :: some (dSt s.1 s.2) :: [none, none, none, none, none, none, none, some (.int C), some (.int T), some (.int N), none, none, none, none, none, none, none, none, none, none, none, none, none, none, none]) := by
  obtain ⟨a1, b1, d1, h1, l1, e1⟩ := draw_ev (m := m) (s := 3) (a := 0) (b := 0) (ns := ns) (e := .k (.int 3)) (vw := true) (ρt := List.replicate 25 none) (by omega) (by decide) (by decide) (by simp!) (by rfl)
  obtain ⟨a2, b2, d2, h2, l2, e2⟩ := draw_ev (m := m) (s := 4) (a := a1) (b := b1) (ns := ns) (e := .k (.int 4)) (vw := true) (ρt := List.replicate 25 none) h1 (by decide) (by decide) (by simp!) (by rfl)
  obtain ⟨a3, b3, d3, h3, l3, e3⟩ := draw_ev (m := m) (s := 3) (a := a2) (b := b2) (ns := ns) (e := .k (.int 3)) (vw := true) (ρt := List.replicate 25 none) h2 (by decide) (by decide) (by simp!) (by rfl)
  refine ⟨(a3, b3), 1 + d1, 1 + d2, 1 + d3, h3, by omega, by omega, by omega, by omega, by omega, by omega, ?_⟩
  have f : ∀ {e : E} {ρ ρ' : Env} {d : Nat}, ev (semG Pg49 (m + 1)) e true ρ = .ok (.int d, ρ') → ev (semG Pg49 (m + 1)) (.frz (.bin .add (.k (.int 1)) e)) false ρ = .ok (.int (1 + d : Nat), ρ') := fun {e ρ ρ' d} h => by
    rw [e_frz, bin_of (x := .int 1) (y := .int d) (d := .int (1 + d : Nat)) (by simp!) h (by simp [safe, fro]) (by rw [b_add]; simp), xb_ok]
    rfl
  rw [x_unp, e_tup, es_cons, f e1, xb_ok]
  dsimp only
  rw [es_cons, f e2, xb_ok]
  dsimp only
  rw [es_cons, f e3]
  rfl
/-- changes and text -/
theorem law_told {w : List (List (List Nat))} (hl : w.length = C) (hsh : ∀ c ∈ w, shapeR N T c) (hC : 0 < C) (hT : 0 < T) (hN : 0 < N) (hC2 : C ≤ 9) (hT2 : T ≤ 9) (hN2 : N ≤ 9) :
    exec (semG Pg49 (m + 3)) (.par [12, 13] (es [(.call 15 (es [(.fz 2)])), (.call 16 (es [(.fz 2)]))])) (envW ns s (dL3 w) none none C T N none) = .ok (.nx, envP ns s (some (dW C N T (bitW T w))) none (some (.lst .sh (dChs (chs N T (bitW T w) (C * T))))) (some (.str (waveT C N T (bitW T w)))) C T N) := by
  have hl3 := hd_line hC2 hT2 hN2
  have hCT : C * T ≤ 81 := Nat.mul_le_mul hC2 hT2
  have hb : ∀ n k, bitW T w n k < 2 := bitW_lt hsh
  have hc := changes_ok (m := m + 1) (b := bitW T w) hC hT hN (Nat.le_trans hC2 (by decide)) (Nat.le_trans hT2 (by decide)) (Nat.le_trans hN2 (by decide)) (Nat.le_trans hCT (by decide)) (Nat.le_trans hl3 (by decide))
  have ht := text_ok (m := m) (b := bitW T w) hC hT hN hC2 hT2 hN2 (fun n k => Nat.lt_trans (hb n k) (by decide))
  have hz := wave_dW hl hsh
  have a1 : evs (semG Pg49 (m + 3)) (es [(.fz 2)]) (envW ns s (dL3 w) none none C T N none) = .ok ([dW C N T (bitW T w)], envP ns s (some (dW C N T (bitW T w))) none none none C T N) := by
    rw [es_cons, fz_of (d := .lst .ow (dL3 w)) rfl, hz, xb_ok]
    rfl
  have a2 : evs (semG Pg49 (m + 3)) (es [(.fz 2)]) (envP ns s (some (dW C N T (bitW T w))) none none none C T N) = .ok ([dW C N T (bitW T w)], envP ns s (some (dW C N T (bitW T w))) none none none C T N) := by
    rw [es_cons, fz_of (d := dW C N T (bitW T w)) rfl, frzW, xb_ok]
    rfl
  rw [x_par, es_cons, ev_callnb a1 hc (by rfl), xb_ok]
  dsimp only
  rw [es_cons, ev_callnb a2 ht (by rfl)]
  rfl
/-- the bits at the beginning -/
theorem law_begin {MV TX : Option D} (hC : 0 < C) (hT : 0 < T) (hN2 : N ≤ 9) : exec (semG Pg49 m) (.asg 4 (.un .tuple d23c1)) (envP ns s (some (dW C N T b)) none MV TX C T N) = .ok (.nx, envP ns s (some (dW C N T b)) (some (.tup (dNs (colN N b 0)))) MV TX C T N) := by
  have hN3 : N ≤ LINE := Nat.le_trans hN2 (by decide)
  refine asg_of (ρ1 := envP ns s (some (dW C N T b)) none MV TX C T N) (d := .tup (dNs (colN N b 0))) (un_of (x := .lst .ow (dNs (colN N b 0))) ?_ (by rw [u_tupl, dNs_fros]; rfl)) (by simp)
  unfold colN
  rw [← dNs_map]
  refine ev_lca (inj := fun n => .lst .sh (dNs ((List.range T).map fun t => b n (0 * T + t)))) (xs := List.range N) (fun n => .int (b n 0 : Nat)) ?_ (by simpa using hN3) (by rfl) (fun n hn => ⟨envL ns s (some (dW C N T b)) none none none none none none C T N MV TX none none none none none none none none none none (some (.lst .sh (dNs ((List.range T).map fun t => b n (0 * T + t))))) none, envL ns s (some (dW C N T b)) none none none none none none C T N MV TX none none none none none none none none none none (some (.lst .sh (dNs ((List.range T).map fun t => b n (0 * T + t))))) none, ?_, ?_, rfl⟩)
  · refine it_l (o := .sh) ?_ (fros_map fun _ _ => by simp only [fro, dNs_fros, Bool.true_and]) rfl
    simp! [dW, dC, hC]
  · simp!
  · simp! [hT]
end
end Ev

/-! k49: the law's first questions, and bent texts. -/
namespace Ev
section
variable {g : G}
theorem fz_same {i : Nat} {vw : Bool} {ρ : Env} {d : D} (h : getS ρ i = some d) (hf : frz d = d) (hs : ρ.set i (some d) = ρ) : ev g (.fz i) vw ρ = .ok (d, ρ) := by
  rw [fz_of h, hf, hs]
theorem evs1 {e : E} {ρ ρ1 : Env} {d : D} (h : ev g e false ρ = .ok (d, ρ1)) : evs g (es [e]) ρ = .ok ([d], ρ1) := by
  rw [es_cons, h, xb_ok]
  rfl
theorem evs_c {e : E} {l : List E} {ρ ρ1 ρ2 : Env} {d : D} {ds : List D} (h : ev g e false ρ = .ok (d, ρ1)) (h2 : evs g (es l) ρ1 = .ok (ds, ρ2)) : evs g (es (e :: l)) ρ = .ok (d :: ds, ρ2) := by
  rw [es_cons, h, xb_ok]
  dsimp only
  rw [h2]
  rfl
theorem tup_of {es : Es} {vw : Bool} {ρ ρ1 : Env} {ds : List D} (h : evs g es ρ = .ok (ds, ρ1)) (hl : ds.length ≤ LINE) : ev g (.tup es) vw ρ = .ok (.tup ds, ρ1) := by
  rw [e_tup, h, xb_ok]
  dsimp only
  rw [decide_eq_true hl, xg_t]
theorem lst_of {es : Es} {vw : Bool} {ρ ρ1 : Env} {ds : List D} (h : evs g es ρ = .ok (ds, ρ1)) (hl : ds.length ≤ LINE) : ev g (.lst es) vw ρ = .ok (.lst .ow ds, ρ1) := by
  rw [e_lst, h, xb_ok]
  dsimp only
  rw [decide_eq_true hl, xg_t]
theorem var_of {i : Nat} {vw : Bool} {ρ : Env} {d : D} (h : getS ρ i = some d) (hf : (vw || fro d) = true) : ev g (.var i) vw ρ = .ok (d, ρ) := by
  rw [e_var, h]
  dsimp only
  rw [hf, xg_t]
end
section
variable {m : Nat} {ns : List Int} {C T N : Nat} {b : Nat → Nat → Nat} {s : Int × Int}
abbrev envQ (ns : List Int) (s : Int × Int) (C N T : Nat) (b : Nat → Nat → Nat) : Env := envP ns s (some (dW C N T b)) (some (.tup (dNs (colN N b 0)))) (some (.lst .sh (dChs (chs N T b (C * T))))) (some (.str (waveT C N T b))) C T N
theorem dRes_wave (hC : 0 < C) (hT : 0 < T) (hN : 0 < N) (hC9 : C ≤ 9) (hT9 : T ≤ 9) (hN9 : N ≤ 9) (hb : ∀ n k, b n k < 2) : dRes (waveT C N T b) = .tup [.str [121, 101, 115], dW C N T b] := by
  unfold dRes
  rw [parse_wave hC hT hN hC9 hT9 hN9 hb]
  dsimp only
  rw [colN_len, made_dW hT]
theorem okD_yes : okD (.tup [.str [121, 101, 115], dW C N T b]) 64 = true := by
  have : okD (dW C N T b) 63 = true := by
    unfold dW
    rw [okD_lst]
    refine okDs_map fun c _ => ?_
    unfold dC
    rw [okD_lst]
    refine okDs_map fun n _ => ?_
    rw [okD_lst]
    exact dNs_okDs
  rw [okD_tup, okDs_cons, okDs_cons, okDs_nil, this]
  rfl
theorem law_ask1 (hC : 0 < C) (hT : 0 < T) (hN : 0 < N) (hC9 : C ≤ 9) (hT9 : T ≤ 9) (hN9 : N ≤ 9) (hb : ∀ n k, b n k < 2) : exec (semG Pg49 (m + 4)) (.ife (.or (.bin .ne (.call 0 (es [(.fz 2)])) (.tup (es [(.var 4), (.un .tuple (.var 12))]))) (.or (.bin .ne (.call 2 (es [(.fz 2)])) (.var 13)) (.or (.bin .ne (.call 22 (es [(.fz 13)])) (.tup (es [(.k (.str [121, 101, 115])), (.fz 2)]))) (.bin .ne (.call 20 (es [(.fz 13)])) (.tup (es [(.k (.str [121, 101, 115])), (.fz 2)])))))) (blk [.ret (.k (.bl false))]) (blk [])) (envQ ns s C N T b) = .ok (.nx, envQ ns s C N T b) := by
  have hl3 := hd_line hC9 hT9 hN9
  have hb10 : ∀ n k, b n k < 10 := fun n k => Nat.lt_trans (hb n k) (by decide)
  have hc0 := told_ok (m := m + 3) (b := b) hC hT hN (Nat.le_trans hC9 (by decide)) (Nat.le_trans hT9 (by decide)) (Nat.le_trans hN9 (by decide)) (Nat.le_trans hl3 (by decide))
  have hc2 := file_ok (m := m + 2) (b := b) hC hT hN hC9 hT9 hN9 hb10
  have htok := waveT_tok (b := b) hC9 hT9 hN9 hb10
  obtain ⟨r22, hc22⟩ := asked_ok (m := m) htok
  obtain ⟨r20, hc20⟩ := lread_ok (m := m + 1) htok
  rw [dRes_wave hC hT hN hC9 hT9 hN9 hb] at hc22 hc20
  have f2 : ∀ {vw}, ev (semG Pg49 (m + 4)) (.fz 2) vw (envQ ns s C N T b) = .ok (dW C N T b, envQ ns s C N T b) := fun {vw} => fz_same rfl frzW rfl
  have f13 : ∀ {vw}, ev (semG Pg49 (m + 4)) (.fz 13) vw (envQ ns s C N T b) = .ok (.str (waveT C N T b), envQ ns s C N T b) := fun {vw} => fz_same rfl frz_str rfl
  have hy : ev (semG Pg49 (m + 4)) (.tup (es [(.k (.str [121, 101, 115])), (.fz 2)])) true (envQ ns s C N T b) = .ok (.tup [.str [121, 101, 115], dW C N T b], envQ ns s C N T b) := tup_of (evs_c (by simp!) (evs1 f2)) (by simp [LINE])
  refine ife_f (or_f (ne_f (ev_callnb (evs1 f2) hc0 (by rfl)) (tup_of (evs_c (var_of rfl (by simp [fro_tup, dNs_fros])) (evs1 (un_of (var_of rfl rfl) (by rw [u_tupl, dChs_fros]; rfl)))) (by simp [LINE])) (by simp [safe, isPath]) ?_) (or_f (ne_f (ev_callnb (evs1 f2) hc2 (by rfl)) (var_of rfl rfl) (by simp [safe, fro]) ?_) (or_f (ne_f (ev_callnb (evs1 f13) hc22 (by rfl)) hy (by simp [safe, isPath]) okD_yes) (ne_f (ev_callnb (evs1 f13) hc20 (by rfl)) hy (by simp [safe, isPath]) okD_yes))))
  · rw [okD_tup, okDs_cons, okDs_cons, okDs_nil, okD_tup, okD_tup, dNs_okDs, okDs_dChs]
    rfl
  · rw [okD_str]
    exact ok_all htok.cp
theorem good_nil : Good C T N [] := ⟨by simp, List.Pairwise.nil⟩
theorem law_ask2 (hC : 0 < C) (hT : 0 < T) (hN : 0 < N) (hC9 : C ≤ 9) (hT9 : T ≤ 9) (hN9 : N ≤ 9) (hb : ∀ n k, b n k < 2) : exec (semG Pg49 (m + 1)) (.ife (.or (.bin .ne (.call 1 (es [(.fz 9), (.fz 10), (.var 4), (.un .tuple (.var 12))])) (.var 2)) (.bin .ne (.call 1 (es [(.fz 9), (.fz 10), (.var 4), (.tup (es []))])) (.call 21 (es [(.fz 9), (.fz 10), (.var 4), (.lst (es []))])))) (blk [.ret (.k (.bl false))]) (blk [])) (envQ ns s C N T b) = .ok (.nx, envQ ns s C N T b) := by
  have hl3 := hd_line hC9 hT9 hN9
  have hcl := chs_len (N := N) (T := T) (b := b) (k := C * T)
  have hbl : (colN N b 0).length = N := colN_len
  have g0 : Good C T (colN N b 0).length (chs N T b (C * T)) := by rw [hbl]; exact chs_good hT
  obtain ⟨r1, h1⟩ := waves_ok (m := m) (bg := colN N b 0) g0 (by omega) (by rw [hbl]; exact Nat.le_trans hN9 (by decide)) (Nat.le_trans hT9 (by decide)) (Nat.le_trans hC9 (by decide))
  rw [hbl, made_dW hT] at h1
  obtain ⟨r2, h2⟩ := waves_ok (m := m) (C := C) (T := T) (bg := colN N b 0) (xs := []) good_nil (by simp) (by rw [hbl]; exact Nat.le_trans hN9 (by decide)) (Nat.le_trans hT9 (by decide)) (Nat.le_trans hC9 (by decide))
  obtain ⟨r3, h3⟩ := made_ok (m := m) (C := C) (T := T) (bg := colN N b 0) (xs := []) (BG := .tup (dNs (colN N b 0))) (MV := .lst .ow []) isBg_tup (by rfl) good_nil hT (by simp) (by rw [hbl]; exact Nat.le_trans hN9 (by decide)) (Nat.le_trans hT9 (by decide)) (Nat.le_trans hC9 (by decide))
  have f9 : ∀ {vw}, ev (semG Pg49 (m + 1)) (.fz 9) vw (envQ ns s C N T b) = .ok (.int C, envQ ns s C N T b) := fun {vw} => fz_same rfl frz_int rfl
  have f10 : ∀ {vw}, ev (semG Pg49 (m + 1)) (.fz 10) vw (envQ ns s C N T b) = .ok (.int T, envQ ns s C N T b) := fun {vw} => fz_same rfl frz_int rfl
  have v4 : ev (semG Pg49 (m + 1)) (.var 4) false (envQ ns s C N T b) = .ok (.tup (dNs (colN N b 0)), envQ ns s C N T b) := var_of rfl (by simp [fro_tup, dNs_fros])
  refine ife_f (or_f (ne_f (ev_callnb (evs_c f9 (evs_c f10 (evs_c v4 (evs1 (un_of (var_of rfl rfl) (by rw [u_tupl, dChs_fros]; rfl)))))) h1 (by rfl)) (var_of rfl rfl) (by simp [safe, isPath]) okD_dW) (ne_f (ev_callnb (evs_c f9 (evs_c f10 (evs_c v4 (evs1 (tup_of es_nil (by decide)))))) h2 (by rfl)) (ev_callnb (evs_c f9 (evs_c f10 (evs_c v4 (evs1 (lst_of es_nil (by decide)))))) h3 (by rfl)) (by simp [safe, isPath]) okD_dW))
/-! ### bent texts -/
def sgn : Tx := [48, 49, 50, 51, 32, 10, 97, 116, 119, 118, 101, 115, 57]
def bent (t : Tx) (k c : Nat) : Nat → Tx
  | 0 => t.take k
  | 1 => t.take k ++ [c] ++ t.drop k
  | 2 => t.take k ++ t.drop (k + 1)
  | _ => t.take k ++ [c] ++ t.drop (k + 1)
theorem bent_tok {t : Tx} {k c d : Nat} (h : t.length ≤ 9000) (hc : ∀ c ∈ t, c < 1114112) (hcc : c < 1114112) : Tok (bent t k c d) := by
  have h1 : (t.take k).length ≤ 9000 := by rw [List.length_take]; omega
  have h2 : ∀ j, (t.drop j).length ≤ 9000 := fun j => by rw [List.length_drop]; omega
  have m1 : ∀ x ∈ t.take k, x < 1114112 := fun x hx => hc x (List.mem_of_mem_take hx)
  have m2 : ∀ j, ∀ x ∈ t.drop j, x < 1114112 := fun j x hx => hc x (List.mem_of_mem_drop hx)
  have h3 := h2 k
  have h4 := h2 (k + 1)
  unfold bent
  split
  · exact ⟨by omega, m1⟩
  · refine ⟨by simp only [List.length_append, List.length_cons, List.length_nil]; omega, fun x hx => ?_⟩
    simp only [List.mem_append, List.mem_singleton] at hx
    rcases hx with (hx | hx) | hx
    · exact m1 x hx
    · omega
    · exact m2 _ x hx
  · refine ⟨by simp only [List.length_append]; omega, fun x hx => ?_⟩
    simp only [List.mem_append] at hx
    rcases hx with hx | hx
    · exact m1 x hx
    · exact m2 _ x hx
  · refine ⟨by simp only [List.length_append, List.length_cons, List.length_nil]; omega, fun x hx => ?_⟩
    simp only [List.mem_append, List.mem_singleton] at hx
    rcases hx with (hx | hx) | hx
    · exact m1 x hx
    · omega
    · exact m2 _ x hx
theorem okD_res {t : Tx} : okD (dRes t) 64 = true := by
  unfold dRes
  cases parseT t with
  | error q => unfold dNo; rw [okD_tup, okDs_cons, okDs_cons, okDs_nil, okD_str, okD_int]; rfl
  | ok r => exact okD_yes
abbrev envR (ns : List Int) (s : Int × Int) (C N T : Nat) (b : Nat → Nat → Nat) (x5 x14 x15 x16 x17 : Option D) : Env := envL ns s (some (dW C N T b)) (some (.tup (dNs (colN N b 0)))) none x5 none none none C T N (some (.lst .sh (dChs (chs N T b (C * T))))) (some (.str (waveT C N T b))) x14 x15 x16 x17 none none none none none none none none
theorem law_turn {s : Int × Int} {tn : Nat} (hs : 0 ≤ s.1) (hC9 : C ≤ 9) (hT9 : T ≤ 9) (hN9 : N ≤ 9) (hb : ∀ n k, b n k < 2) : ∃ (s' : Int × Int) (ρ2 : Env), 0 ≤ s'.1 ∧ exec (semG Pg49 (m + 4)) d23b2 (envR ns s C N T b (some (.int (tn : Nat))) none none none none) = .ok (.nx, ρ2) ∧ wipeE ρ2 [5, 14, 15, 16, 17] = envQ ns s' C N T b := by
  have hb10 : ∀ n k, b n k < 10 := fun n k => Nat.lt_trans (hb n k) (by decide)
  have htl := waveT_len (C := C) (N := N) (T := T) (b := b) hC9 hT9 hN9
  have hcp := (waveT_tok (b := b) hC9 hT9 hN9 hb10).cp
  have hlen : ev (semG Pg49 (m + 4)) (.bin .add (.un .len (.var 13)) (.k (.int 1))) false (some (dScr ns) :: none :: (envR ns s C N T b (some (.int (tn : Nat))) none none none none).drop 2) = .ok (.int ((waveT C N T b).length + 1 : Nat), some (dScr ns) :: none :: (envR ns s C N T b (some (.int (tn : Nat))) none none none none).drop 2) := by
    have hl2 : (waveT C N T b).length ≤ 16777216 := by omega
    simp only [List.drop]
    simp! [hl2]
  obtain ⟨a1, b1, k, h1, l1, e1⟩ := draw_ev (m := m + 3) (s := (waveT C N T b).length + 1) (a := s.1) (b := s.2) (ns := ns) (vw := false) hs (by omega) (by unfold LINE; omega) hlen (by rfl)
  have i1 : exec (semG Pg49 (m + 4)) (.asg 14 (.call 13 (es [(.bor 1), (.var 0), (.bin .add (.un .len (.var 13)) (.k (.int 1)))]))) (envR ns s C N T b (some (.int (tn : Nat))) none none none none) = .ok (.nx, envR ns (a1, b1) C N T b (some (.int (tn : Nat))) (some (.int k)) none none none) := asg_of e1 (by simp)
  have i2 : exec (semG Pg49 (m + 4)) (.asg 15 (.k (.str [48, 49, 50, 51, 32, 10, 97, 116, 119, 118, 101, 115, 57]))) (envR ns (a1, b1) C N T b (some (.int (tn : Nat))) (some (.int k)) none none none) = .ok (.nx, envR ns (a1, b1) C N T b (some (.int (tn : Nat))) (some (.int k)) (some (.str sgn)) none none) := by
    simp! [sgn]
  have hlen2 : ev (semG Pg49 (m + 4)) (.un .len (.var 15)) false (some (dScr ns) :: none :: (envR ns (a1, b1) C N T b (some (.int (tn : Nat))) (some (.int k)) (some (.str sgn)) none none).drop 2) = .ok (.int (13 : Nat), some (dScr ns) :: none :: (envR ns (a1, b1) C N T b (some (.int (tn : Nat))) (some (.int k)) (some (.str sgn)) none none).drop 2) := by
    simp only [List.drop]
    simp! [sgn]
  obtain ⟨a2, b2, j, h2, l2, e2⟩ := draw_ev (m := m + 3) (s := 13) (a := a1) (b := b1) (ns := ns) (vw := true) h1 (by decide) (by decide) hlen2 (by rfl)
  obtain ⟨c, hc⟩ : ∃ c, sgn[j]? = some c := ⟨_, List.getElem?_eq_getElem (show j < sgn.length from l2)⟩
  have hcc : c < 1114112 := by
    have : ∀ x ∈ sgn, x < 1114112 := by decide
    exact this c (List.mem_of_getElem? hc)
  have i3 : exec (semG Pg49 (m + 4)) (.asg 16 (.idx (.var 15) (.call 13 (es [(.bor 1), (.var 0), (.un .len (.var 15))])))) (envR ns (a1, b1) C N T b (some (.int (tn : Nat))) (some (.int k)) (some (.str sgn)) none none) = .ok (.nx, envR ns (a2, b2) C N T b (some (.int (tn : Nat))) (some (.int k)) (some (.str sgn)) (some (.str [c])) none) := by
    refine asg_of (ρ1 := envR ns (a2, b2) C N T b (some (.int (tn : Nat))) (some (.int k)) (some (.str sgn)) none none) ?_ (by simp)
    rw [e_idx, var_of (d := .str sgn) rfl rfl, xb_ok]
    dsimp only
    have e2' : ev (semG Pg49 (m + 4)) (.call 13 (es [(.bor 1), (.var 0), (.un .len (.var 15))])) true (envR ns (a1, b1) C N T b (some (.int (tn : Nat))) (some (.int k)) (some (.str sgn)) none none) = .ok (.int j, envR ns (a2, b2) C N T b (some (.int (tn : Nat))) (some (.int k)) (some (.str sgn)) none none) := e2
    rw [e2', xb_ok]
    dsimp only
    rw [show safe (.var 15) (.str sgn) (tch (.call 13 (es [(.bor 1), (.var 0), (.un .len (.var 15))]))) = true by simp [safe, fro], xg_t, i_s, if_pos (by decide), atI_nat, hc]
    rfl
  have hlen3 : ∀ x16, ev (semG Pg49 (m + 4)) (.k (.int 4)) false (some (dScr ns) :: none :: (envR ns (a2, b2) C N T b (some (.int (tn : Nat))) (some (.int k)) (some (.str sgn)) x16 none).drop 2) = .ok (.int (4 : Nat), some (dScr ns) :: none :: (envR ns (a2, b2) C N T b (some (.int (tn : Nat))) (some (.int k)) (some (.str sgn)) x16 none).drop 2) := fun x16 => by simp!
  obtain ⟨a3, b3, d, h3, l3, e3⟩ := draw_ev (m := m + 3) (s := 4) (a := a2) (b := b2) (ns := ns) (vw := true) h2 (by decide) (by decide) (hlen3 (some (.str [c]))) (by rfl)
  have e3' : ev (semG Pg49 (m + 4)) (.call 13 (es [(.bor 1), (.var 0), (.k (.int 4))])) true (envR ns (a2, b2) C N T b (some (.int (tn : Nat))) (some (.int k)) (some (.str sgn)) (some (.str [c])) none) = .ok (.int d, envR ns (a3, b3) C N T b (some (.int (tn : Nat))) (some (.int k)) (some (.str sgn)) (some (.str [c])) none) := e3
  have hfour : ev (semG Pg49 (m + 4)) (.lst (es [(.slc (.var 13) .hole (.var 14)), (.bin .add (.bin .add (.slc (.var 13) .hole (.var 14)) (.var 16)) (.slc (.var 13) (.var 14) .hole)), (.bin .add (.slc (.var 13) .hole (.var 14)) (.slc (.var 13) (.bin .add (.var 14) (.k (.int 1))) .hole)), (.bin .add (.bin .add (.slc (.var 13) .hole (.var 14)) (.var 16)) (.slc (.var 13) (.bin .add (.var 14) (.k (.int 1))) .hole))])) true (envR ns (a2, b2) C N T b (some (.int (tn : Nat))) (some (.int k)) (some (.str sgn)) (some (.str [c])) none) = .ok (.lst .ow [.str (bent (waveT C N T b) k c 0), .str (bent (waveT C N T b) k c 1), .str (bent (waveT C N T b) k c 2), .str (bent (waveT C N T b) k c 3)], envR ns (a2, b2) C N T b (some (.int (tn : Nat))) (some (.int k)) (some (.str sgn)) (some (.str [c])) none) := by
    have hl2 : (waveT C N T b).length ≤ 16777216 := by omega
    have hc1 : cut (waveT C N T b) (some ((k : Int) + 1)) none = (waveT C N T b).drop (k + 1) := by rw [← cut_from]; rfl
    have n1 : min k (waveT C N T b).length + 1 ≤ 16777216 := by omega
    have n1' : min k (waveT C N T b).length ≤ 16777215 := by omega
    have n2 : min k (waveT C N T b).length + 1 + ((waveT C N T b).length - k) ≤ 16777216 := by omega
    have n3 : min k (waveT C N T b).length + ((waveT C N T b).length - (k + 1)) ≤ 16777216 := by omega
    have n4 : min k (waveT C N T b).length + 1 + ((waveT C N T b).length - (k + 1)) ≤ 16777216 := by omega
    simp! [hl2, cut_to, cut_from, hc1, bent, n1, n1', n2, n3, n4]
  have hbt : Tok (bent (waveT C N T b) k c d) := bent_tok htl hcp hcc
  have i4 : exec (semG Pg49 (m + 4)) (.asg 17 (.idx (.lst (es [(.slc (.var 13) .hole (.var 14)), (.bin .add (.bin .add (.slc (.var 13) .hole (.var 14)) (.var 16)) (.slc (.var 13) (.var 14) .hole)), (.bin .add (.slc (.var 13) .hole (.var 14)) (.slc (.var 13) (.bin .add (.var 14) (.k (.int 1))) .hole)), (.bin .add (.bin .add (.slc (.var 13) .hole (.var 14)) (.var 16)) (.slc (.var 13) (.bin .add (.var 14) (.k (.int 1))) .hole))])) (.call 13 (es [(.bor 1), (.var 0), (.k (.int 4))])))) (envR ns (a2, b2) C N T b (some (.int (tn : Nat))) (some (.int k)) (some (.str sgn)) (some (.str [c])) none) = .ok (.nx, envR ns (a3, b3) C N T b (some (.int (tn : Nat))) (some (.int k)) (some (.str sgn)) (some (.str [c])) (some (.str (bent (waveT C N T b) k c d)))) := by
    refine asg_of (ρ1 := envR ns (a3, b3) C N T b (some (.int (tn : Nat))) (some (.int k)) (some (.str sgn)) (some (.str [c])) none) ?_ (by simp)
    rw [e_idx, hfour, xb_ok]
    dsimp only
    rw [e3', xb_ok]
    dsimp only
    rw [i_l, atI_nat]
    match d, l3 with
    | 0, _ => rfl
    | 1, _ => rfl
    | 2, _ => rfl
    | 3, _ => rfl
  obtain ⟨r22, hc22⟩ := asked_ok (m := m) hbt
  obtain ⟨r20, hc20⟩ := lread_ok (m := m + 1) hbt
  have i5 : exec (semG Pg49 (m + 4)) (.ife (.bin .ne (.call 22 (es [(.var 17)])) (.call 20 (es [(.var 17)]))) (blk [.ret (.k (.bl false))]) (blk [])) (envR ns (a3, b3) C N T b (some (.int (tn : Nat))) (some (.int k)) (some (.str sgn)) (some (.str [c])) (some (.str (bent (waveT C N T b) k c d)))) = .ok (.nx, envR ns (a3, b3) C N T b (some (.int (tn : Nat))) (some (.int k)) (some (.str sgn)) (some (.str [c])) (some (.str (bent (waveT C N T b) k c d)))) :=
    ife_f (ne_f (ev_callnb (evs1 (var_of rfl rfl)) hc22 (by rfl)) (ev_callnb (evs1 (var_of rfl rfl)) hc20 (by rfl)) (by simp [safe, isPath]) okD_res)
  exact ⟨(a3, b3), _, h3, blk_nx i1 (blk_nx i2 (blk_nx i3 (blk_nx i4 (blk_nx i5 rfl)))), rfl⟩
end
end Ev

/-! k49: the law's last questions. -/
namespace Ev
theorem unp_of {g : G} {tg : Tg} {e : E} {ρ ρ1 ρ2 : Env} {d : D} (h : ev g e true ρ = .ok (d, ρ1)) (hb : bindT tg d ρ1 = some ρ2) : exec g (.unp tg e) ρ = .ok (.nx, ρ2) := by
  rw [x_unp, h, xb_ok]
  dsimp only
  rw [hb]
section
variable {m : Nat} {ns : List Int} {C T N : Nat} {b : Nat → Nat → Nat} {s : Int × Int}
theorem law_turns (hs : 0 ≤ s.1) (hC9 : C ≤ 9) (hT9 : T ≤ 9) (hN9 : N ≤ 9) (hb : ∀ n k, b n k < 2) : ∃ s' : Int × Int, 0 ≤ s'.1 ∧ exec (semG Pg49 (m + 4)) (.fore (.nm 5) (.rng (.k (.int 12))) d23b2 [5, 14, 15, 16, 17]) (envQ ns s C N T b) = .ok (.nx, envQ ns s' C N T b) := by
  obtain ⟨z, e1, e2⟩ := ex_fore (g := semG Pg49 (m + 4)) (tg := .nm 5) (it := .rng (.k (.int 12))) (b := d23b2) (w := [5, 14, 15, 16, 17]) (ρ := envQ ns s C N T b) (xs := List.range 12) (s0 := s) (fun z => envQ ns z C N T b) (fun n => .int (n : Nat)) (fun _ z => 0 ≤ z.1) (it_rng (n := 12) (by simp!) (by decide)) hs (fun k a z hk hz => by
      obtain ⟨s', ρ2, h1, h2, h3⟩ := law_turn (m := m) (ns := ns) (tn := a) (s := z) hz hC9 hT9 hN9 hb
      exact ⟨_, ρ2, s', rfl, h2, h3, h1⟩)
  exact ⟨z, e2, e1⟩
abbrev envS (ns : List Int) (s : Int × Int) (C N T : Nat) (b : Nat → Nat → Nat) (x3 x6 x7 x8 x14 x18 x19 x20 x21 x22 x23 x25 : Option D) : Env := envL ns s (some (dW C N T b)) (some (.tup (dNs (colN N b 0)))) x3 none x6 x7 x8 C T N (some (.lst .sh (dChs (chs N T b (C * T))))) (some (.str (waveT C N T b))) x14 none none none x18 x19 x20 x21 x22 x23 none x25
/-- three places -/
theorem law_places (hs : 0 ≤ s.1) (hC : 0 < C) (hT : 0 < T) (hN : 0 < N) (hC9 : C ≤ 9) (hT9 : T ≤ 9) (hN9 : N ≤ 9) : ∃ (s' : Int × Int) (a1 a2 a3 : Nat), 0 ≤ s'.1 ∧ a1 < C ∧ a2 < N ∧ a3 < T ∧ exec (semG Pg49 (m + 1)) (.unp (.tp [(.nm 18), (.nm 19), (.nm 20)]) (.tup (es [(.frz (.call 13 (es [(.bor 1), (.var 0), (.fz 9)]))), (.frz (.call 13 (es [(.bor 1), (.var 0), (.fz 11)]))), (.frz (.call 13 (es [(.bor 1), (.var 0), (.fz 10)])))]))) (envQ ns s C N T b) = .ok (.nx, envS ns s' C N T b none none none none none (some (.int a1)) (some (.int a2)) (some (.int a3)) none none none none) := by
  have fz : ∀ i n, getS ((some (dScr ns) :: none :: (envQ ns s C N T b).drop 2)) i = some (.int (n : Nat)) → (some (dScr ns) :: none :: (envQ ns s C N T b).drop 2).set i (some (.int n)) = some (dScr ns) :: none :: (envQ ns s C N T b).drop 2 → ev (semG Pg49 (m + 1)) (.fz i) false (some (dScr ns) :: none :: (envQ ns s C N T b).drop 2) = .ok (.int n, some (dScr ns) :: none :: (envQ ns s C N T b).drop 2) := fun i n h1 h2 => fz_same h1 frz_int h2
  obtain ⟨p1, q1, d1, h1, l1, e1⟩ := draw_ev (m := m) (s := C) (a := s.1) (b := s.2) (ns := ns) (e := .fz 9) (vw := false) hs hC (Nat.le_trans hC9 (by decide)) (fz 9 C rfl rfl) (by rfl)
  obtain ⟨p2, q2, d2, h2, l2, e2⟩ := draw_ev (m := m) (s := N) (a := p1) (b := q1) (ns := ns) (e := .fz 11) (vw := false) h1 hN (Nat.le_trans hN9 (by decide)) (fz 11 N rfl rfl) (by rfl)
  obtain ⟨p3, q3, d3, h3, l3, e3⟩ := draw_ev (m := m) (s := T) (a := p2) (b := q2) (ns := ns) (e := .fz 10) (vw := false) h2 hT (Nat.le_trans hT9 (by decide)) (fz 10 T rfl rfl) (by rfl)
  refine ⟨(p3, q3), d1, d2, d3, h3, l1, l2, l3, ?_⟩
  have f : ∀ {e : E} {ρ ρ' : Env} {d : Nat}, ev (semG Pg49 (m + 1)) e false ρ = .ok (.int d, ρ') → ev (semG Pg49 (m + 1)) (.frz e) false ρ = .ok (.int d, ρ') := fun {e ρ ρ' d} h => by
    rw [e_frz, h]
    rfl
  exact unp_of (tup_of (evs_c (f e1) (evs_c (f e2) (evs1 (f e3)))) (by simp [LINE])) rfl
/-- a copy that may be changed -/
def dOw (C N T : Nat) (b : Nat → Nat → Nat) : D := .lst .ow ((List.range C).map fun c => .lst .ow ((List.range N).map fun n => .lst .ow (dNs ((List.range T).map fun t => b n (c * T + t)))))
theorem frzO : frz (dOw C N T b) = dW C N T b := by
  unfold dOw dW
  rw [frz_ow, frzs_map (g := fun c => dC N T b c)]
  intro c _
  unfold dC
  rw [frz_ow, frzs_map (g := fun n => .lst .sh (dNs ((List.range T).map fun t => b n (c * T + t))))]
  intro n _
  rw [frz_ow, dNs_frzs]
theorem law_copy {x18 x19 x20 : Option D} (hC9 : C ≤ 9) (hT9 : T ≤ 9) (hN9 : N ≤ 9) : exec (semG Pg49 m) (.asg 6 d23c4) (envS ns s C N T b none none none none none x18 x19 x20 none none none none) = .ok (.nx, envS ns s C N T b none (some (dOw C N T b)) none none none x18 x19 x20 none none none none) := by
  have hC3 : C ≤ LINE := Nat.le_trans hC9 (by decide)
  have hN3 : N ≤ LINE := Nat.le_trans hN9 (by decide)
  have hT3 : T ≤ LINE := Nat.le_trans hT9 (by decide)
  refine asg_of (ρ1 := envS ns s C N T b none none none none none x18 x19 x20 none none none none) (d := dOw C N T b) ?_ (by simp)
  refine ev_lca (inj := fun c => dC N T b c) (xs := List.range C) (fun c => .lst .ow ((List.range N).map fun n => .lst .ow (dNs ((List.range T).map fun t => b n (c * T + t))))) (it_l (o := .sh) (fz_same rfl frzW rfl) frosW rfl) (by simpa using hC3) (by rfl) (fun c hc => ⟨envS ns s C N T b (some (dC N T b c)) none none none none x18 x19 x20 none none none none, envS ns s C N T b (some (dC N T b c)) none none none none x18 x19 x20 none none none none, by simp! [froC], ?_, rfl⟩)
  refine ev_lca (inj := fun n => .lst .sh (dNs ((List.range T).map fun t => b n (c * T + t)))) (xs := List.range N) (ρ1 := envS ns s C N T b (some (dC N T b c)) none none none none x18 x19 x20 none none none none) (fun n => .lst .ow (dNs ((List.range T).map fun t => b n (c * T + t)))) (it_l (o := .sh) (var_of rfl rfl) (fros_map fun n _ => by rw [fro_sh, dNs_fros]) rfl) (by simpa using hN3) (by rfl) (fun n hn => ⟨envS ns s C N T b (some (dC N T b c)) none none none none x18 x19 x20 (some (.lst .sh (dNs ((List.range T).map fun t => b n (c * T + t))))) none none none, envS ns s C N T b (some (dC N T b c)) none none none none x18 x19 x20 (some (.lst .sh (dNs ((List.range T).map fun t => b n (c * T + t))))) none none none, by simp!, ?_, rfl⟩)
  have : dNs ((List.range T).map fun t => b n (c * T + t)) = ((List.range T).map fun t => b n (c * T + t)).map fun (x : Nat) => D.int x := rfl
  rw [this]
  exact ev_lca (inj := fun (x : Nat) => .int (x : Nat)) (xs := (List.range T).map fun t => b n (c * T + t)) (ρ1 := envS ns s C N T b (some (dC N T b c)) none none none none x18 x19 x20 (some (.lst .sh (dNs ((List.range T).map fun t => b n (c * T + t))))) none none none) (fun (x : Nat) => .int (x : Nat)) (it_l (o := .sh) (var_of rfl rfl) dNs_fros rfl) (by simpa using hT3) (by rfl) (fun x hx => ⟨envS ns s C N T b (some (dC N T b c)) none none none none x18 x19 x20 (some (.lst .sh (dNs ((List.range T).map fun t => b n (c * T + t))))) none none (some (.int x)), envS ns s C N T b (some (dC N T b c)) none none none none x18 x19 x20 (some (.lst .sh (dNs ((List.range T).map fun t => b n (c * T + t))))) none none (some (.int x)), rfl, var_of rfl rfl, rfl⟩)
/-- one bit turned -/
def turnB (T : Nat) (b : Nat → Nat → Nat) (a1 a2 a3 n k : Nat) : Nat := if n = a2 ∧ k = a1 * T + a3 then 1 - b n k else b n k
theorem dO_turn {a1 a2 a3 : Nat} (h1 : a1 < C) (h2 : a2 < N) (h3 : a3 < T) : D.lst .ow (((List.range C).map fun c => D.lst .ow ((List.range N).map fun n => D.lst .ow (dNs ((List.range T).map fun t => b n (c * T + t))))).set a1 (.lst .ow (((List.range N).map fun n => D.lst .ow (dNs ((List.range T).map fun t => b n (a1 * T + t)))).set a2 (.lst .ow (dNs (((List.range T).map fun t => b a2 (a1 * T + t)).set a3 (1 - b a2 (a1 * T + a3)))))))) = dOw C N T (turnB T b a1 a2 a3) := by
  unfold dOw
  congr 1
  rw [set_range]
  refine map_range_congr fun c hc => ?_
  by_cases e1 : c = a1
  · subst e1
    rw [if_pos rfl]
    congr 1
    rw [set_range]
    refine map_range_congr fun n hn => ?_
    by_cases e2 : n = a2
    · subst e2
      rw [if_pos rfl]
      congr 2
      rw [set_range]
      refine map_range_congr fun t ht => ?_
      unfold turnB
      by_cases e3 : t = a3
      · subst e3
        rw [if_pos rfl, if_pos ⟨rfl, rfl⟩]
      · rw [if_neg e3, if_neg (by omega)]
    · rw [if_neg e2]
      congr 2
      refine map_range_congr fun t ht => ?_
      unfold turnB
      rw [if_neg (by omega)]
  · rw [if_neg e1]
    congr 1
    refine map_range_congr fun n hn => ?_
    congr 2
    refine map_range_congr fun t ht => ?_
    unfold turnB
    have := (key_eq (T := T) (a := c) (b := t) (c := a1) (d := a3) ht h3).1
    rw [if_neg (fun z => e1 (this z.2).1)]
theorem law_set {a1 a2 a3 : Nat} (h1 : a1 < C) (h2 : a2 < N) (h3 : a3 < T) (hb : ∀ n k, b n k < 2) : exec (semG Pg49 m) (.setI (.idx (.idx (.var 6) (.var 18)) (.var 19)) (.var 20) (.bin .sub (.k (.int 1)) (.idx (.idx (.idx (.var 6) (.var 18)) (.var 19)) (.var 20)))) (envS ns s C N T b none (some (dOw C N T b)) none none none (some (.int a1)) (some (.int a2)) (some (.int a3)) none none none none) = .ok (.nx, envS ns s C N T b none (some (dOw C N T (turnB T b a1 a2 a3))) none none none (some (.int a1)) (some (.int a2)) (some (.int a3)) none none none none) := by
  have hbb := hb a2 (a1 * T + a3)
  have h1m : (1 : Int) - (b a2 (a1 * T + a3) : Int) = ((1 - b a2 (a1 * T + a3) : Nat) : Int) := by omega
  rw [← dO_turn (b := b) h1 h2 h3]
  unfold dOw
  simp! [h1, h2, h3, h1m, ixN_nat h1, ixN_nat h2, ixN_nat h3]
end
end Ev

/-! k49: comparisons, pulses, nets; the law. -/
namespace Ev
section
variable {m : Nat} {ns : List Int} {C T N : Nat} {b : Nat → Nat → Nat} {s : Int × Int}
theorem turn_one {a1 a2 a3 : Nat} (h1 : a1 < C) (h2 : a2 < N) (h3 : a3 < T) (hb : ∀ n k, b n k < 2) : unC C N T b (turnB T b a1 a2 a3) = some (a1, a3, a2) ∧ unC C N T (turnB T b a1 a2 a3) b = some (a1, a3, a2) := by
  have key : ∀ c t n, c < C → t < T → n < N → (b n (c * T + t) ≠ turnB T b a1 a2 a3 n (c * T + t) ↔ c = a1 ∧ t = a3 ∧ n = a2) := by
    intro c t n hc ht hn
    have hk := key_eq (T := T) (a := c) (b := t) (c := a1) (d := a3) ht h3
    have hbb := hb n (c * T + t)
    unfold turnB
    by_cases e : n = a2 ∧ c * T + t = a1 * T + a3
    · rw [if_pos e]
      obtain ⟨e1, e2⟩ := e
      obtain ⟨e3, e4⟩ := hk.1 e2
      constructor
      · intro _; exact ⟨e3, e4, e1⟩
      · intro _; omega
    · rw [if_neg e]
      constructor
      · intro z; exact absurd rfl z
      · rintro ⟨rfl, rfl, rfl⟩
        exact absurd ⟨rfl, rfl⟩ e
  exact ⟨un_one h1 h2 h3 key, un_one h1 h2 h3 fun c t n hc ht hn => ⟨fun z => (key c t n hc ht hn).1 (Ne.symm z), fun z => Ne.symm ((key c t n hc ht hn).2 z)⟩⟩
theorem law_ask3 {a1 a2 a3 : Nat} (h1 : a1 < C) (h2 : a2 < N) (h3 : a3 < T) (hC9 : C ≤ 9) (hT9 : T ≤ 9) (hN9 : N ≤ 9) (hb : ∀ n k, b n k < 2) : exec (semG Pg49 (m + 1)) (.ife (.or (.bin .ne (.call 9 (es [(.fz 2), (.fz 6)])) (.tup (es [(.fz 18), (.fz 20), (.fz 19)]))) (.or (.bin .ne (.call 9 (es [(.fz 6), (.fz 2)])) (.tup (es [(.fz 18), (.fz 20), (.fz 19)]))) (.un .notN (.call 9 (es [(.fz 2), (.fz 2)]))))) (blk [.ret (.k (.bl false))]) (blk [])) (envS ns s C N T b none (some (dOw C N T (turnB T b a1 a2 a3))) none none none (some (.int a1)) (some (.int a2)) (some (.int a3)) none none none none) = .ok (.nx, envS ns s C N T b none (some (dW C N T (turnB T b a1 a2 a3))) none none none (some (.int a1)) (some (.int a2)) (some (.int a3)) none none none none) := by
  have hC3 : C ≤ LINE := Nat.le_trans hC9 (by decide)
  have hN3 : N ≤ LINE := Nat.le_trans hN9 (by decide)
  have hT3 : T ≤ LINE := Nat.le_trans hT9 (by decide)
  have h0 : 0 < N := by omega
  obtain ⟨t1, t2⟩ := turn_one h1 h2 h3 hb
  obtain ⟨r1, u1⟩ := unlike_ok (m := m) (b := b) (b' := turnB T b a1 a2 a3) h0 hN3 hT3 hC3
  obtain ⟨r2, u2⟩ := unlike_ok (m := m) (b := turnB T b a1 a2 a3) (b' := b) h0 hN3 hT3 hC3
  obtain ⟨r3, u3⟩ := unlike_ok (m := m) (b := b) (b' := b) h0 hN3 hT3 hC3
  rw [t1] at u1
  rw [t2] at u2
  rw [un_same] at u3
  dsimp only at u1 u2 u3
  let R1 := envS ns s C N T b none (some (dOw C N T (turnB T b a1 a2 a3))) none none none (some (.int a1)) (some (.int a2)) (some (.int a3)) none none none none
  let R2 := envS ns s C N T b none (some (dW C N T (turnB T b a1 a2 a3))) none none none (some (.int a1)) (some (.int a2)) (some (.int a3)) none none none none
  have g2 : ev (semG Pg49 (m + 1)) (.fz 2) false R1 = .ok (dW C N T b, R1) := fz_same rfl frzW rfl
  have g6 : ev (semG Pg49 (m + 1)) (.fz 6) false R1 = .ok (dW C N T (turnB T b a1 a2 a3), R2) := by
    rw [fz_of (d := dOw C N T (turnB T b a1 a2 a3)) rfl, frzO]
    rfl
  have f2 : ev (semG Pg49 (m + 1)) (.fz 2) false R2 = .ok (dW C N T b, R2) := fz_same rfl frzW rfl
  have f6 : ev (semG Pg49 (m + 1)) (.fz 6) false R2 = .ok (dW C N T (turnB T b a1 a2 a3), R2) := fz_same rfl frzW rfl
  have f18 : ev (semG Pg49 (m + 1)) (.fz 18) false R2 = .ok (.int a1, R2) := fz_same rfl frz_int rfl
  have f19 : ev (semG Pg49 (m + 1)) (.fz 19) false R2 = .ok (.int a2, R2) := fz_same rfl frz_int rfl
  have f20 : ev (semG Pg49 (m + 1)) (.fz 20) false R2 = .ok (.int a3, R2) := fz_same rfl frz_int rfl
  have ht : ev (semG Pg49 (m + 1)) (.tup (es [(.fz 18), (.fz 20), (.fz 19)])) true R2 = .ok (d3t (a1, a3, a2), R2) := tup_of (evs_c f18 (evs_c f20 (evs1 f19))) (by simp [LINE])
  have ok3 : okD (d3t (a1, a3, a2)) 64 = true := by
    unfold d3t
    rw [okD_tup, okDs_cons, okDs_cons, okDs_cons, okDs_nil, okD_int, okD_int, okD_int]
    rfl
  exact ife_f (or_f (ne_f (ev_callnb (evs_c g2 (evs1 g6)) u1 (by rfl)) ht (by simp [safe, isPath]) ok3) (or_f (ne_f (ev_callnb (evs_c f6 (evs1 f2)) u2 (by rfl)) ht (by simp [safe, isPath]) ok3) (un_of (ev_callnb (evs_c f2 (evs1 f2)) u3 (by rfl)) u_notN)))
/-- places at which a line changes -/
theorem law_at {K : Nat} {x6 x7 x18 x19 x20 : Option D} {n : Nat} (hK : K = C * T) (hK9 : K ≤ 81) (h0 : 0 < K) : exec (semG Pg49 m) (.asg 22 d23c5) (envS ns s C N T b none x6 x7 none none x18 x19 x20 (some (.lst .sh (dNs (lineN C T b n)))) none none none) = .ok (.nx, envS ns s C N T b none x6 x7 none none x18 x19 x20 (some (.lst .sh (dNs (lineN C T b n)))) (some (.lst .ow (dNs (posN b n K)))) none none) := by
  let R1 := envS ns s C N T b none x6 x7 none none x18 x19 x20 (some (.lst .sh (dNs (lineN C T b n)))) none none none
  have hll : (lineN C T b n).length = K := by rw [lineN_len, hK]
  have hfm : dNs (posN b n K) = (List.range (K - 1)).filterMap fun j => if b n (j + 1) = b n j then none else some (.int ((j + 1 : Nat) : Int)) := by
    obtain ⟨M, rfl⟩ : ∃ M, K = M + 1 := ⟨K - 1, by omega⟩
    unfold posN dNs
    rw [Nat.add_sub_cancel, List.range_succ_eq_map, List.filter_cons_of_neg (by simp), List.filter_map, List.map_map]
    generalize List.range M = l
    induction l with
    | nil => rfl
    | cons j l ih =>
      by_cases e : b n (j + 1) = b n j
      · rw [List.filter_cons_of_neg (by simp [e]), ih, List.filterMap_cons, if_pos e]
      · rw [List.filter_cons_of_pos (by simp [e]), List.map_cons, ih, List.filterMap_cons, if_neg e]
        rfl
  refine asg_of (ρ1 := R1) (d := .lst .ow (dNs (posN b n K))) ?_ (by simp [R1])
  rw [hfm]
  refine ev_lcm (inj := fun j => .int ((j + 1 : Nat) : Int)) (xs := List.range (K - 1)) (ρ1 := R1) _ (it_rng2 (m := 1) (n := K) (ρ1 := R1) (by simp only [R1]; simp!) (by rw [← hll]; simp only [R1]; simp!) (by decide) (by unfold LINE; omega)) (by simp [LINE]; omega) (by rfl) (fun j hj => ?_)
  have hj' : j < K - 1 := by simpa using hj
  have hg : ∀ i, i < K → (lineN C T b n)[i]? = some (b n i) := fun i hi => by rw [hK] at hi; simp [lineN, hi]
  have g1 := hg (j + 1) (by omega)
  have g0 := hg j (by omega)
  have hj1 : ((j : Int) + 1 - 1) = (j : Int) := by omega
  refine ⟨envS ns s C N T b none x6 x7 none (some (.int ((j + 1 : Nat) : Int))) x18 x19 x20 (some (.lst .sh (dNs (lineN C T b n)))) none none none, lcB_if (b := !(b n (j + 1) == b n j)) (ρ2 := envS ns s C N T b none x6 x7 none (some (.int ((j + 1 : Nat) : Int))) x18 x19 x20 (some (.lst .sh (dNs (lineN C T b n)))) none none none) (by simp) rfl ?_ (fun e => ?_) (fun e => ?_), rfl⟩
  · have he : ((b n (j + 1) : Int) == (b n j : Int)) = (b n (j + 1) == b n j) := by
      rw [Bool.eq_iff_iff, beq_iff_eq, beq_iff_eq]
      omega
    simp! [g1, g0, hj1, he]
  · have e' : ¬ b n (j + 1) = b n j := by simpa using e
    exact ⟨.int ((j + 1 : Nat) : Int), var_of rfl rfl, by rw [if_neg e']⟩
  · have e' : b n (j + 1) = b n j := by simpa using e
    exact ⟨by rw [if_pos e'], rfl⟩
theorem law_gaps {x6 x7 x18 x19 x20 x21 : Option D} {ts : List Nat} (hl : ts.length ≤ 81) : exec (semG Pg49 m) (.asg 23 d23c6) (envS ns s C N T b none x6 x7 none none x18 x19 x20 x21 (some (.lst .ow (dNs ts))) none none) = .ok (.nx, envS ns s C N T b none x6 x7 none none x18 x19 x20 x21 (some (.lst .ow (dNs ts))) (some (.lst .ow (dIs (gapsI ts)))) none) := by
  let R1 := envS ns s C N T b none x6 x7 none none x18 x19 x20 x21 (some (.lst .ow (dNs ts))) none none
  have hg : dIs (gapsI ts) = (List.range (ts.length - 1)).map fun k => .int ((((ts[k + 1]?).getD 0 : Nat) : Int) - (((ts[k]?).getD 0 : Nat) : Int)) := by
    unfold dIs gapsI
    rw [List.map_map]
    rfl
  refine asg_of (ρ1 := R1) (d := .lst .ow (dIs (gapsI ts))) ?_ (by simp [R1])
  rw [hg]
  refine ev_lca (inj := fun k => .int (k : Nat)) (xs := List.range (ts.length - 1)) (ρ1 := R1) (fun k => .int ((((ts[k + 1]?).getD 0 : Nat) : Int) - (((ts[k]?).getD 0 : Nat) : Int))) ?_ (by simp [LINE]; omega) (by rfl) (fun k hk => ⟨envS ns s C N T b none x6 x7 none (some (.int (k : Nat))) x18 x19 x20 x21 (some (.lst .ow (dNs ts))) none none, envS ns s C N T b none x6 x7 none (some (.int (k : Nat))) x18 x19 x20 x21 (some (.lst .ow (dNs ts))) none none, rfl, ?_, rfl⟩)
  · have := it_rngi (g := semG Pg49 m) (e := .bin .sub (.un .len (.var 22)) (.k (.int 1))) (ρ := R1) (ρ1 := R1) (i := (ts.length : Int) - 1) (by simp only [R1]; simp!) (okR_pred (by unfold LINE; omega))
    rw [show ((ts.length : Int) - 1).toNat = ts.length - 1 by omega] at this
    exact this
  · have hk' : k < ts.length - 1 := by simpa using hk
    have a1 := List.getElem?_eq_getElem (show k < ts.length by omega)
    have a2 := List.getElem?_eq_getElem (show k + 1 < ts.length by omega)
    simp! [a1, a2]
theorem sortI_len : ∀ xs : List Int, (sortI xs).length = xs.length
  | [] => rfl
  | x :: xs => by
    have ins : ∀ (ys : List Int), (insI x ys).length = ys.length + 1 := by
      intro ys
      induction ys with
      | nil => rfl
      | cons y ys ih =>
        rw [insI]
        split
        · rfl
        · simp [ih]
    rw [sortI, ins, sortI_len xs]
    rfl
/-- one net -/
theorem law_net {x6 x18 x19 : Option D} {a3 n : Nat} (hn : n < N) (h3 : a3 < T) (hC : 0 < C) (hC9 : C ≤ 9) (hT9 : T ≤ 9) (hN9 : N ≤ 9) : ∃ ρ2, exec (semG Pg49 (m + 2)) d23b3 (envS ns s C N T b none x6 (some (.int (n : Nat))) none none x18 x19 (some (.int a3)) none none none none) = .ok (.nx, ρ2) ∧ wipeE ρ2 [7, 21, 22, 23] = envS ns s C N T b none x6 none none none x18 x19 (some (.int a3)) none none none none := by
  have hT : 0 < T := by omega
  have hCT : C * T ≤ 81 := Nat.mul_le_mul hC9 hT9
  have hC3 : C ≤ LINE := Nat.le_trans hC9 (by decide)
  have hpl := posN_len (b := b) (n := n) (K := C * T)
  have hline := line_ok (m := m + 1) (b := b) hn (Nat.le_trans hCT (by decide)) hC3
  obtain ⟨r11, h11⟩ := pulse_ok (m := m) (b := b) hn hC hT hC9 hT9 hN9
  have h10 := taken_ok (m := m + 1) (b := b) hn h3 hC3
  let R0 := envS ns s C N T b none x6 (some (.int (n : Nat))) none none x18 x19 (some (.int a3)) none none none none
  have f2 : ev (semG Pg49 (m + 2)) (.fz 2) false R0 = .ok (dW C N T b, R0) := fz_same rfl frzW rfl
  have i1 : exec (semG Pg49 (m + 2)) (.asg 21 (.call 14 (es [(.fz 2), (.var 7)]))) R0 = .ok (.nx, envS ns s C N T b none x6 (some (.int (n : Nat))) none none x18 x19 (some (.int a3)) (some (.lst .sh (dNs (lineN C T b n)))) none none none) := asg_of (ev_callnb (evs_c f2 (evs1 (var_of (d := .int (n : Nat)) rfl rfl))) hline (by rfl)) (by simp [R0])
  have i2 := law_at (m := m + 2) (ns := ns) (s := s) (C := C) (T := T) (N := N) (b := b) (x6 := x6) (x7 := some (.int (n : Nat))) (x18 := x18) (x19 := x19) (x20 := some (.int a3)) (n := n) rfl hCT (Nat.mul_pos hC hT)
  have i3 := law_gaps (m := m + 2) (ns := ns) (s := s) (C := C) (T := T) (N := N) (b := b) (x6 := x6) (x7 := some (.int (n : Nat))) (x18 := x18) (x19 := x19) (x20 := some (.int a3)) (x21 := some (.lst .sh (dNs (lineN C T b n)))) (ts := posN b n (C * T)) (by omega)
  let R3 := envS ns s C N T b none x6 (some (.int (n : Nat))) none none x18 x19 (some (.int a3)) (some (.lst .sh (dNs (lineN C T b n)))) (some (.lst .ow (dNs (posN b n (C * T))))) (some (.lst .ow (dIs (gapsI (posN b n (C * T)))))) none
  have k2 : ∀ {vw}, ev (semG Pg49 (m + 2)) (.fz 2) vw R3 = .ok (dW C N T b, R3) := fun {vw} => fz_same rfl frzW rfl
  have k7 : ev (semG Pg49 (m + 2)) (.var 7) false R3 = .ok (.int n, R3) := var_of rfl rfl
  have k20 : ev (semG Pg49 (m + 2)) (.fz 20) false R3 = .ok (.int a3, R3) := fz_same rfl frz_int rfl
  have hso : (sortI (gapsI (posN b n (C * T)))).length ≤ 81 := by
    rw [sortI_len]
    simp [gapsI]
    omega
  have c1 : ev (semG Pg49 (m + 2)) (.idx (.bin .add (.un .sorted (.var 23)) (.lst (es [(.k .non)]))) (.k (.int 0))) true R3 = .ok (leastD (gapsI (posN b n (C * T))), R3) := by
    rw [e_idx, bin_of (x := .lst .ow (dIs (sortI (gapsI (posN b n (C * T)))))) (y := .lst .ow [.non]) (ρ1 := R3) (ρ2 := R3) (d := .lst .ow (dIs (sortI (gapsI (posN b n (C * T)))) ++ [.non])) (un_of (x := .lst .ow (dIs (gapsI (posN b n (C * T))))) (var_of rfl rfl) (by rw [u_sorted, toInts_dIs]; rfl)) (lst_of (evs1 (by simp!)) (by decide)) (by rfl) ?_, xb_ok]
    · dsimp only
      rw [e_k, show fro (.int 0) = true from rfl, xg_t, xb_ok]
      dsimp only
      rw [i_l, atI_0, sort_least]
      rfl
    · rw [b_addl, if_pos]
      simp [wr_ow, dIs_fros, fros_cons, fros_nil, fro_non, dIs_len, LINE]
      omega
  have c2 : ev (semG Pg49 (m + 2)) (.un .tuple d23c7) true R3 = .ok (.tup (dNs ((List.range C).map fun c => b n (c * T + a3))), R3) := by
    refine un_of (x := .lst .ow (dNs ((List.range C).map fun c => b n (c * T + a3)))) ?_ (by rw [u_tupl, dNs_fros]; rfl)
    rw [← dNs_map]
    refine ev_lca (inj := fun c => dC N T b c) (xs := List.range C) (ρ1 := R3) (fun c => .int (b n (c * T + a3) : Nat)) (it_l (o := .sh) k2 frosW rfl) (by simpa using hC3) (by rfl) (fun c hc => ⟨envS ns s C N T b (some (dC N T b c)) x6 (some (.int (n : Nat))) none none x18 x19 (some (.int a3)) (some (.lst .sh (dNs (lineN C T b n)))) (some (.lst .ow (dNs (posN b n (C * T))))) (some (.lst .ow (dIs (gapsI (posN b n (C * T)))))) none, envS ns s C N T b (some (dC N T b c)) x6 (some (.int (n : Nat))) none none x18 x19 (some (.int a3)) (some (.lst .sh (dNs (lineN C T b n)))) (some (.lst .ow (dNs (posN b n (C * T))))) (some (.lst .ow (dIs (gapsI (posN b n (C * T)))))) none, by simp only [R3]; simp! [froC], ?_, rfl⟩)
    simp! [dC, hn, h3]
  have ok1 : okD (leastD (gapsI (posN b n (C * T)))) 64 = true := by
    unfold leastD
    cases leastI (gapsI (posN b n (C * T))) with
    | none => exact okD_non
    | some x => exact okD_int
  have ok2 : okD (.tup (dNs ((List.range C).map fun c => b n (c * T + a3)))) 64 = true := by
    rw [okD_tup]
    exact dNs_okDs
  have i4 : exec (semG Pg49 (m + 2)) (.ife (.or (.bin .ne (.call 11 (es [(.fz 2), (.var 7)])) (.idx (.bin .add (.un .sorted (.var 23)) (.lst (es [(.k .non)]))) (.k (.int 0)))) (.bin .ne (.call 10 (es [(.fz 2), (.var 7), (.fz 20)])) (.un .tuple d23c7))) (blk [.ret (.k (.bl false))]) (blk [])) R3 = .ok (.nx, R3) :=
    ife_f (or_f (ne_f (ev_callnb (evs_c k2 (evs1 k7)) h11 (by rfl)) c1 (by simp [safe, isPath]) ok1) (ne_f (ev_callnb (evs_c k2 (evs_c k7 (evs1 k20))) h10 (by rfl)) c2 (by simp [safe, isPath]) ok2))
  exact ⟨R3, blk_nx i1 (blk_nx i2 (blk_nx i3 (blk_nx i4 rfl))), rfl⟩
end
end Ev

/-! k49: the law is true. -/
namespace Ev
theorem k_of {g : G} {d : D} {vw : Bool} {ρ : Env} (h : fro d = true) : ev g (.k d) vw ρ = .ok (d, ρ) := by
  rw [e_k, h, xg_t]
section
variable {m : Nat} {ns : List Int} {C T N : Nat} {b : Nat → Nat → Nat} {s : Int × Int}
theorem law_nets {x6 x18 x19 : Option D} {a3 : Nat} (h3 : a3 < T) (hC : 0 < C) (hC9 : C ≤ 9) (hT9 : T ≤ 9) (hN9 : N ≤ 9) : exec (semG Pg49 (m + 2)) (.fore (.nm 7) (.rng (.var 11)) d23b3 [7, 21, 22, 23]) (envS ns s C N T b none x6 none none none x18 x19 (some (.int a3)) none none none none) = .ok (.nx, envS ns s C N T b none x6 none none none x18 x19 (some (.int a3)) none none none none) := by
  have h := ex_fork (g := semG Pg49 (m + 2)) (tg := .nm 7) (it := .rng (.var 11)) (b := d23b3) (w := [7, 21, 22, 23]) (ρ := envS ns s C N T b none x6 none none none x18 x19 (some (.int a3)) none none none none) (xs := List.range N) (fun n => .int (n : Nat)) (fun _ => envS ns s C N T b none x6 none none none x18 x19 (some (.int a3)) none none none none) (it_rng (by simp!) (Nat.le_trans hN9 (by decide))) (fun n a hn => by
    obtain ⟨hn', rfl⟩ := rng_get hn
    obtain ⟨ρ2, e1, e2⟩ := law_net (m := m) (ns := ns) (s := s) (b := b) (x6 := x6) (x18 := x18) (x19 := x19) hn' h3 hC hC9 hT9 hN9
    exact ⟨_, ρ2, rfl, e1, e2⟩)
  exact h
theorem law_some {x6 x18 x19 x20 : Option D} (hs : 0 ≤ s.1) (hN : 0 < N) (hN9 : N ≤ 9) : ∃ (s' : Int × Int) (l : List Nat), (∀ n ∈ l, n < N) ∧ l.length = 2 ∧ exec (semG Pg49 (m + 1)) (.asg 8 d23c8) (envS ns s C N T b none x6 none none none x18 x19 x20 none none none none) = .ok (.nx, envS ns s' C N T b none x6 none (some (.lst .ow (dNs l))) none x18 x19 x20 none none none none) := by
  have hk : ∀ s' : Int × Int, ∀ ρ', wipeE ρ' [14] = wipeE (envS ns s' C N T b none x6 none none none x18 x19 x20 none none none none) [14] → backE (envS ns s C N T b none x6 none none none x18 x19 x20 none none none none) ρ' [14] = envS ns s' C N T b none x6 none none none x18 x19 x20 none none none none := by
    intro s' ρ' h
    have hl : ρ'.length = 27 := by
      have := congrArg List.length h
      simpa [wipeE_length] using this
    apply List.ext_getElem?
    intro i
    rw [backE_at]
    have hi := congrArg (fun l => l[i]?) h
    rw [wipeE_at, wipeE_at] at hi
    by_cases c : i ∈ [14]
    · rw [if_pos c]
      have : i = 14 := by simpa using c
      subst this
      rw [List.getElem?_eq_getElem (show 14 < ρ'.length by omega)]
      rfl
    · rw [if_neg c]
      rw [if_neg c, if_neg c] at hi
      exact hi
  have hb : ∀ k ∈ List.range 2, ∀ s : Int × Int, 0 ≤ s.1 → ∃ (s' : Int × Int) (y : D) (ρ2 : Env), lcB (semG Pg49 (m + 1)) (.nm 14) .hole (.call 13 (es [(.bor 1), (.var 0), (.fz 11)])) (.int (k : Nat)) (wipeE (envS ns s C N T b none x6 none none none x18 x19 x20 none none none none) [14]) = .ok (some y, ρ2) ∧ wipeE ρ2 [14] = wipeE (envS ns s' C N T b none x6 none none none x18 x19 x20 none none none none) [14] ∧ 0 ≤ s'.1 ∧ ∃ d : Nat, d < N ∧ y = .int d := by
    intro k _ s hs
    obtain ⟨a', b', d, h1, h2, h3⟩ := draw_ev (m := m) (s := N) (a := s.1) (b := s.2) (ns := ns) (e := .fz 11) (vw := false) (ρt := (envS ns s C N T b none x6 none none (some (.int (k : Nat))) x18 x19 x20 none none none none).drop 2) hs hN (Nat.le_trans hN9 (by decide)) (fz_same rfl frz_int rfl) (by rfl)
    exact ⟨(a', b'), .int d, _, lcB_all rfl h3, rfl, h1, d, h2, rfl⟩
  obtain ⟨s', ys, e1, e2, e3, e4⟩ := ev_lcst (g := semG Pg49 (m + 1)) (tg := .nm 14) (it := .rng (.k (.int 2))) (c := .hole) (e := .call 13 (es [(.bor 1), (.var 0), (.fz 11)])) (own := [14]) (vw := false) (ρ := envS ns s C N T b none x6 none none none x18 x19 x20 none none none none) (inj := fun k => .int (k : Nat)) (xs := List.range 2) (s := s) (fun s => envS ns s C N T b none x6 none none none x18 x19 x20 none none none none) (fun s => 0 ≤ s.1) (fun y => ∃ d : Nat, d < N ∧ y = .int d) (it_rng (n := 2) (by simp!) (by decide)) (by decide) (by rfl) hs hk hb
  refine ⟨s', ys.map fun y => (match y with | .int i => i.toNat | _ => 0), ?_, by simpa using e3, ?_⟩
  · intro x hx
    obtain ⟨y, hy, rfl⟩ := List.mem_map.mp hx
    obtain ⟨d, hd, rfl⟩ := e4 y hy
    simpa using hd
  · have hys : dNs (ys.map fun y => (match y with | .int i => i.toNat | _ => 0)) = ys := by
      unfold dNs
      rw [List.map_map]
      refine (List.map_congr_left fun y hy => ?_).trans (List.map_id ys)
      obtain ⟨d, hd, rfl⟩ := e4 y hy
      simp
    rw [hys]
    exact asg_of e1 (by simp)
theorem res_nil : dRes [] = dNo 0 := by rfl
theorem res_bad : dRes [119, 97, 118, 101, 115, 32, 49, 32, 50, 32, 48, 49, 10, 97, 116, 32, 48, 32, 49, 10] = dNo 20 := by rfl
theorem law_end {x6 x18 x19 x20 : Option D} {l : List Nat} (hl : ∀ n ∈ l, n < N) (hl2 : l.length = 2) (hC9 : C ≤ 9) : ∃ ρ2, exec (semG Pg49 (m + 4)) (.ret (.and (.bin .eq (.call 12 (es [(.fz 2), (.fz 8)])) d23c10) (.and (.bin .eq (.call 22 (es [(.k (.str []))])) (.tup (es [(.k (.str [110, 111])), (.k (.int 0))]))) (.bin .eq (.call 22 (es [(.k (.str [119, 97, 118, 101, 115, 32, 49, 32, 50, 32, 48, 49, 10, 97, 116, 32, 48, 32, 49, 10]))])) (.tup (es [(.k (.str [110, 111])), (.k (.int 20))])))))) (envS ns s C N T b none x6 none (some (.lst .ow (dNs l))) none x18 x19 x20 none none none none) = .ok (.rt (.bl true), ρ2) := by
  have hC3 : C ≤ LINE := Nat.le_trans hC9 (by decide)
  have hlL : l.length ≤ LINE := by rw [hl2]; decide
  obtain ⟨r12, h12⟩ := some_ok (m := m + 3) (C := C) (T := T) (N := N) (b := b) hl hlL hC3
  obtain ⟨r1, h1⟩ := asked_ok (m := m) (t := []) ⟨by decide, by simp⟩
  obtain ⟨r2, h2⟩ := asked_ok (m := m) (t := [119, 97, 118, 101, 115, 32, 49, 32, 50, 32, 48, 49, 10, 97, 116, 32, 48, 32, 49, 10]) ⟨by decide, by decide⟩
  rw [res_nil] at h1
  rw [res_bad] at h2
  let R0 := envS ns s C N T b none x6 none (some (.lst .ow (dNs l))) none x18 x19 x20 none none none none
  let R1 := envS ns s C N T b none x6 none (some (.lst .sh (dNs l))) none x18 x19 x20 none none none none
  have f2 : ev (semG Pg49 (m + 4)) (.fz 2) false R0 = .ok (dW C N T b, R0) := fz_same rfl frzW rfl
  have f8 : ev (semG Pg49 (m + 4)) (.fz 8) false R0 = .ok (.lst .sh (dNs l), R1) := by
    rw [fz_of (d := .lst .ow (dNs l)) rfl, frz_ow, dNs_frzs]
    rfl
  have k2 : ∀ {vw}, ev (semG Pg49 (m + 4)) (.fz 2) vw R1 = .ok (dW C N T b, R1) := fun {vw} => fz_same rfl frzW rfl
  let V : D := .lst .ow ((List.range C).map fun c => .lst .ow (l.map fun n => .lst .sh (dNs ((List.range T).map fun t => b n (c * T + t)))))
  have c10 : ev (semG Pg49 (m + 4)) d23c10 true R1 = .ok (V, R1) := by
    refine ev_lca (inj := fun c => dC N T b c) (xs := List.range C) (ρ1 := R1) (fun c => .lst .ow (l.map fun n => .lst .sh (dNs ((List.range T).map fun t => b n (c * T + t))))) (it_l (o := .sh) k2 frosW rfl) (by simpa using hC3) (by rfl) (fun c hc => ⟨envS ns s C N T b (some (dC N T b c)) x6 none (some (.lst .sh (dNs l))) none x18 x19 x20 none none none none, envS ns s C N T b (some (dC N T b c)) x6 none (some (.lst .sh (dNs l))) none x18 x19 x20 none none none none, by simp only [R1]; simp! [froC], ?_, rfl⟩)
    refine ev_lca (inj := fun (n : Nat) => .int (n : Nat)) (xs := l) (ρ1 := envS ns s C N T b (some (dC N T b c)) x6 none (some (.lst .sh (dNs l))) none x18 x19 x20 none none none none) (fun n => .lst .sh (dNs ((List.range T).map fun t => b n (c * T + t)))) (it_l (o := .sh) (xs := dNs l) (fz_same rfl (by rw [frz_sh, dNs_frzs]) rfl) dNs_fros rfl) hlL (by rfl) (fun n hn => ⟨envS ns s C N T b (some (dC N T b c)) x6 (some (.int n)) (some (.lst .sh (dNs l))) none x18 x19 x20 none none none none, envS ns s C N T b (some (dC N T b c)) x6 (some (.int n)) (some (.lst .sh (dNs l))) none x18 x19 x20 none none none none, rfl, ?_, rfl⟩)
    have hn' := hl n hn
    simp! [dC, hn']
  have okV : okD V 64 = true := by
    simp only [V]
    rw [okD_lst]
    refine okDs_map fun c _ => ?_
    rw [okD_lst]
    refine okDs_map fun n _ => ?_
    rw [okD_lst]
    exact dNs_okDs
  have okN : ∀ q, okD (dNo q) 64 = true := fun q => by unfold dNo; rw [okD_tup, okDs_cons, okDs_cons, okDs_nil, okD_str, okD_int]; rfl
  have t0 : ev (semG Pg49 (m + 4)) (.tup (es [(.k (.str [110, 111])), (.k (.int 0))])) true R1 = .ok (dNo 0, R1) := tup_of (ds := [.str [110, 111], .int ((0 : Nat) : Int)]) (evs_c (k_of rfl) (evs1 (k_of rfl))) (by decide)
  have t20 : ev (semG Pg49 (m + 4)) (.tup (es [(.k (.str [110, 111])), (.k (.int 20))])) true R1 = .ok (dNo 20, R1) := tup_of (ds := [.str [110, 111], .int ((20 : Nat) : Int)]) (evs_c (k_of rfl) (evs1 (k_of rfl))) (by decide)
  exact ⟨R1, ret_of (and_t (eq_t (ev_callnb (evs_c f2 (evs1 f8)) h12 (by rfl)) c10 (by simp [safe, isPath]) okV) (and_t (eq_t (ev_callnb (evs1 (k_of rfl)) h1 (by rfl)) t0 (by simp [safe, isPath]) (okN 0)) (eq_t (ev_callnb (evs1 (k_of rfl)) h2 (by rfl)) t20 (by simp [safe, isPath]) (okN 20))))⟩
/-- the law is true at every script -/
theorem law49 (m : Nat) (ns : List Int) : ∃ rs, (semG Pg49 (m + 5)).call 23 [dScr ns] = .ok (.bl true, rs) := by
  obtain ⟨s0, C, T, N, p0, c0, c3, t0, t4, n0, n3, e2⟩ := law_start (m := m + 3) (ns := ns)
  obtain ⟨s1, w, p1, wl, wsh, e4⟩ := wave_draw (m := m + 3) (ns := ns) (s := s0) (C := C) (T := T) (N := N) p0 (Nat.le_trans t4 (by decide)) (Nat.le_trans n3 (by decide)) (Nat.le_trans c3 (by decide))
  have hb := bitW_lt wsh
  have C9 : C ≤ 9 := by omega
  have T9 : T ≤ 9 := by omega
  have N9 : N ≤ 9 := by omega
  have e5 := law_told (m := m + 1) (ns := ns) (s := s1) wl wsh c0 t0 n0 C9 T9 N9
  have e6 := law_begin (m := m + 4) (ns := ns) (s := s1) (C := C) (T := T) (N := N) (b := bitW T w) (MV := some (.lst .sh (dChs (chs N T (bitW T w) (C * T))))) (TX := some (.str (waveT C N T (bitW T w)))) c0 t0 N9
  have e7 := law_ask1 (m := m) (ns := ns) (s := s1) (b := bitW T w) c0 t0 n0 C9 T9 N9 hb
  have e8 := law_ask2 (m := m + 3) (ns := ns) (s := s1) (b := bitW T w) c0 t0 n0 C9 T9 N9 hb
  obtain ⟨s2, p2, e9⟩ := law_turns (m := m) (ns := ns) (s := s1) (b := bitW T w) p1 C9 T9 N9 hb
  obtain ⟨s3, a1, a2, a3, p3, l1, l2, l3, e10⟩ := law_places (m := m + 3) (ns := ns) (s := s2) (b := bitW T w) p2 c0 t0 n0 C9 T9 N9
  have e11 := law_copy (m := m + 4) (ns := ns) (s := s3) (b := bitW T w) (x18 := some (.int a1)) (x19 := some (.int a2)) (x20 := some (.int a3)) C9 T9 N9
  have e12 := law_set (m := m + 4) (ns := ns) (s := s3) l1 l2 l3 hb
  have e13 := law_ask3 (m := m + 3) (ns := ns) (s := s3) l1 l2 l3 C9 T9 N9 hb
  have e14 := law_nets (m := m + 2) (ns := ns) (s := s3) (N := N) (b := bitW T w) (x6 := some (dW C N T (turnB T (bitW T w) a1 a2 a3))) (x18 := some (.int a1)) (x19 := some (.int a2)) l3 c0 C9 T9 N9
  obtain ⟨s4, l, k1, k2, e15⟩ := law_some (m := m + 3) (ns := ns) (s := s3) (C := C) (T := T) (b := bitW T w) (x6 := some (dW C N T (turnB T (bitW T w) a1 a2 a3))) (x18 := some (.int a1)) (x19 := some (.int a2)) (x20 := some (.int a3)) p3 n0 N9
  obtain ⟨ρ2, e16⟩ := law_end (m := m) (ns := ns) (s := s4) (C := C) (T := T) (b := bitW T w) (x6 := some (dW C N T (turnB T (bitW T w) a1 a2 a3))) (x18 := some (.int a1)) (x19 := some (.int a2)) (x20 := some (.int a3)) k1 k2 C9
  have e1 : exec (semG Pg49 (m + 4)) (.asg 1 (.lst (es [(.k (.int 0)), (.k (.int 0))]))) (some (dScr ns) :: List.replicate 26 none) = .ok (.nx, some (dScr ns) :: some (dSt 0 0) :: List.replicate 25 none) := asg_of (ρ1 := some (dScr ns) :: List.replicate 26 none) (d := dSt 0 0) (lst_of (evs_c (k_of rfl) (evs1 (k_of rfl))) (by decide)) (by simp)
  have e3 : exec (semG Pg49 (m + 4)) (.asg 2 (.lst (es []))) (some (dScr ns) :: some (dSt s0.1 s0.2) :: [none, none, none, none, none, none, none, some (.int C), some (.int T), some (.int N), none, none, none, none, none, none, none, none, none, none, none, none, none, none, none]) = .ok (.nx, envW ns s0 [] none none C T N none) := asg_of (lst_of es_nil (by decide)) (by simp)
  exact ⟨_, (call_succ (fd := d23) rfl).trans (run_rt (ρ0 := some (dScr ns) :: List.replicate 26 none) rfl rfl (blk_nx e1 (blk_nx e2 (blk_nx e3 (blk_nx e4 (blk_nx e5 (blk_nx e6 (blk_nx e7 (blk_nx e8 (blk_nx e9 (blk_nx e10 (blk_nx e11 (blk_nx e12 (blk_nx e13 (blk_nx e14 (blk_nx e15 (blk_rt e16)))))))))))))))))⟩
end
end Ev

theorem Ev.pure49 : Ev.Pure49 := fun ns _ => Ev.law49 9 ns
open PySem PySem.W PyProof.Rows
set_option maxHeartbeats 0 in
theorem PySem.Challenge.cw_chiptrue_k49_whole_waves_as_texts_holds : PySem.Challenge.rw_chiptrue_k49_whole_waves_as_texts.Holds := by
  w_on; o_law; k_head; (case hw => w_witness2)
  k_fill
  refine L2.walk_of (l := PySem.Challenge.rw_chiptrue_k49_whole_waves_as_texts) (n := 63) (k := 36) (x := "script") (CX := fun w => L2.CX PySem.Challenge.rw_chiptrue_k49_whole_waves_as_texts.prog w) (sp := fun w => Ev.spLaw49 _) rfl (by decide) rfl ⟨rfl, by decide, by decide⟩ (fun w h Y => PySem.W.kIn_of Y) ?F (fun w H a ns hl _ hS => ⟨a, ns, rfl, hS, hl, fun _ => rfl⟩) (fun w H s e s' z => ?X)
  case X =>
    obtain ⟨_, _, _, _, _, _, _, _, _, _, _, _, z⟩ := z
    exact z.elim
  case F =>
    intro w mg fa h KX G hmg
    refine' Ev.facts49 Ev.pure49 KX G hmg ?a0 ?l0 ?c0 ?k0 ?a1 ?l1 ?c1 ?k1 ?a2 ?l2 ?c2 ?k2 ?a3 ?i3 ?l3 ?c3 ?k3 ?a4 ?i4 ?l4 ?c4 ?k4 ?a5 ?i5 ?l5 ?c5 ?k5 ?a6 ?i6 ?l6 ?c6 ?k6 ?a7 ?l7 ?c7 ?k7 ?a8 ?l8 ?c8 ?k8 ?a9 ?l9 ?c9 ?k9 ?a10 ?l10 ?c10 ?k10 ?a11 ?l11 ?c11 ?k11 ?a12 ?l12 ?c12 ?k12 ?a13 ?l13 ?c13 ?k13 ?a14 ?l14 ?c14 ?k14 ?a15 ?l15 ?c15 ?k15 ?a16 ?l16 ?c16 ?k16 ?a17 ?l17 ?c17 ?k17 ?a18 ?l18 ?c18 ?k18 ?a19 ?l19 ?c19 ?k19 ?a20 ?l20 ?c20 ?k20 ?a21 ?l21 ?c21 ?k21 ?a22 ?l22 ?c22 ?k22 ?a23 ?l23 ?c23 ?k23 ?aW ?pgW ?hdW ?poW ?saW ?mkW ?kcW ?nT ?nA ?aH ?aD ?n_len ?n_str ?n_int ?n_tuple ?n_list ?n_sorted ?n_range ?n_min ?n_isinstance ?nsup ?hop ?aX ?xL ?sa ?ga ?gg ?np ?nn ?kX ?eX ?tX ?hX ?iX ?sX ?vX ?iE ?mI ?mE ?b1 ?tg1 ?lg1 ?cg1 ?ld1 ?lv1 ?lf1 ?lc1 ?lg2 ?cg2 ?ld2 ?lv2 ?lf2 ?lc2 ?sp1 ?sp2 ?tg2 ?fi2 ?htop
    (case aW => first | k_is | rfl)
    (case aX => first | k_is | rfl)
    (case xL => first | k_is | rfl)
    (case b1 => first | k_is | rfl)
    (case lg1 => first | k_is | rfl)
    (case cg1 => first | k_is | rfl)
    (case ld1 => first | k_is | rfl)
    (case lv1 => rfl)
    (case lf1 => first | rfl | decide +kernel)
    (case lc1 => first | k_is | rfl)
    (case sp1 => first | k_is | rfl)
    (case lg2 => first | k_is | rfl)
    (case cg2 => first | k_is | rfl)
    (case ld2 => first | k_is | rfl)
    (case lv2 => rfl)
    (case lf2 => first | rfl | decide +kernel)
    (case lc2 => first | k_is | rfl)
    (case a0 => first | k_is | rfl)
    (case l0 => first | k_is | rfl)
    (case c0 => first | k_is | rfl)
    (case k0 => first | k_is | rfl)
    (case a1 => first | k_is | rfl)
    (case l1 => first | k_is | rfl)
    (case c1 => first | k_is | rfl)
    (case k1 => first | k_is | rfl)
    (case a2 => first | k_is | rfl)
    (case l2 => first | k_is | rfl)
    (case c2 => first | k_is | rfl)
    (case k2 => first | k_is | rfl)
    (case a3 => first | k_is | rfl)
    (case i3 => first | k_is | rfl)
    (case l3 => first | k_is | rfl)
    (case c3 => first | k_is | rfl)
    (case k3 => first | k_is | rfl)
    (case a4 => first | k_is | rfl)
    (case i4 => first | k_is | rfl)
    (case l4 => first | k_is | rfl)
    (case c4 => first | k_is | rfl)
    (case k4 => first | k_is | rfl)
    (case a5 => first | k_is | rfl)
    (case i5 => first | k_is | rfl)
    (case l5 => first | k_is | rfl)
    (case c5 => first | k_is | rfl)
    (case k5 => first | k_is | rfl)
    (case a6 => first | k_is | rfl)
    (case i6 => first | k_is | rfl)
    (case l6 => first | k_is | rfl)
    (case c6 => first | k_is | rfl)
    (case k6 => first | k_is | rfl)
    (case a7 => first | k_is | rfl)
    (case l7 => first | k_is | rfl)
    (case c7 => first | k_is | rfl)
    (case k7 => first | k_is | rfl)
    (case a8 => first | k_is | rfl)
    (case l8 => first | k_is | rfl)
    (case c8 => first | k_is | rfl)
    (case k8 => first | k_is | rfl)
    (case a9 => first | k_is | rfl)
    (case l9 => first | k_is | rfl)
    (case c9 => first | k_is | rfl)
    (case k9 => first | k_is | rfl)
    (case a10 => first | k_is | rfl)
    (case l10 => first | k_is | rfl)
    (case c10 => first | k_is | rfl)
    (case k10 => first | k_is | rfl)
    (case a11 => first | k_is | rfl)
    (case l11 => first | k_is | rfl)
    (case c11 => first | k_is | rfl)
    (case k11 => first | k_is | rfl)
    (case a12 => first | k_is | rfl)
    (case l12 => first | k_is | rfl)
    (case c12 => first | k_is | rfl)
    (case k12 => first | k_is | rfl)
    (case a13 => first | k_is | rfl)
    (case l13 => first | k_is | rfl)
    (case c13 => first | k_is | rfl)
    (case k13 => first | k_is | rfl)
    (case a14 => first | k_is | rfl)
    (case l14 => first | k_is | rfl)
    (case c14 => first | k_is | rfl)
    (case k14 => first | k_is | rfl)
    (case a15 => first | k_is | rfl)
    (case l15 => first | k_is | rfl)
    (case c15 => first | k_is | rfl)
    (case k15 => first | k_is | rfl)
    (case a16 => first | k_is | rfl)
    (case l16 => first | k_is | rfl)
    (case c16 => first | k_is | rfl)
    (case k16 => first | k_is | rfl)
    (case a17 => first | k_is | rfl)
    (case l17 => first | k_is | rfl)
    (case c17 => first | k_is | rfl)
    (case k17 => first | k_is | rfl)
    (case a18 => first | k_is | rfl)
    (case l18 => first | k_is | rfl)
    (case c18 => first | k_is | rfl)
    (case k18 => first | k_is | rfl)
    (case a19 => first | k_is | rfl)
    (case l19 => first | k_is | rfl)
    (case c19 => first | k_is | rfl)
    (case k19 => first | k_is | rfl)
    (case a20 => first | k_is | rfl)
    (case l20 => first | k_is | rfl)
    (case c20 => first | k_is | rfl)
    (case k20 => first | k_is | rfl)
    (case a21 => first | k_is | rfl)
    (case l21 => first | k_is | rfl)
    (case c21 => first | k_is | rfl)
    (case k21 => first | k_is | rfl)
    (case a22 => first | k_is | rfl)
    (case l22 => first | k_is | rfl)
    (case c22 => first | k_is | rfl)
    (case k22 => first | k_is | rfl)
    (case a23 => first | k_is | rfl)
    (case l23 => first | k_is | rfl)
    (case c23 => first | k_is | rfl)
    (case k23 => first | k_is | rfl)
    (case pgW => first | k_is | rfl)
    (case hdW => first | k_is | rfl)
    (case poW => first | k_is | rfl)
    (case saW => first | k_is | rfl)
    (case mkW => first | k_is | rfl)
    (case kcW => first | k_is | rfl)
    (case nT => first | k_is | rfl)
    (case nA => first | k_is | rfl)
    (case aH => first | k_is | rfl)
    (case aD => first | k_is | rfl)
    (case n_len => first | k_is | rfl)
    (case n_str => first | k_is | rfl)
    (case n_int => first | k_is | rfl)
    (case n_tuple => first | k_is | rfl)
    (case n_list => first | k_is | rfl)
    (case n_sorted => first | k_is | rfl)
    (case n_range => first | k_is | rfl)
    (case n_min => first | k_is | rfl)
    (case n_isinstance => first | k_is | rfl)
    (case nsup => first | k_is | rfl)
    (case hop => first | k_is | rfl)
    (case sa => first | k_is | rfl)
    (case ga => first | k_is | rfl)
    (case gg => first | k_is | rfl)
    (case np => first | k_is | rfl)
    (case nn => first | k_is | rfl)
    (case kX => first | k_is | rfl)
    (case eX => first | k_is | rfl)
    (case tX => first | k_is | rfl)
    (case hX => first | k_is | rfl)
    (case iX => first | k_is | rfl)
    (case sX => first | k_is | rfl)
    (case vX => first | k_is | rfl)
    (case iE => first | k_is | rfl)
    (case mI => first | k_is | rfl)
    (case mE => first | k_is | rfl)
    (case tg1 => first | k_is | rfl)
    (case sp2 => first | k_is | rfl)
    (case tg2 => first | k_is | rfl)
    (case fi2 => first | k_is | rfl)
    (case htop => rfl)
