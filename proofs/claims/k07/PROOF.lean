import PyProof.Rows.All
import Wide.All
import OpenK.AllK
import Wide.FinOn
import HandS.ForMost
import HandS.Lambda
import HandS.HeadHook4
import HandS.ForExc
import HandS.IsInst
import HandS.Wide
import HandS.SortInts
import HandS.More
import HandS.SetFor
import HandS.CallSlots
import HandS.Defaults
import HandS.HeadHook1
import HandS.HeadHook2
import HandS.SortOrd
import HandS.Style
import HandS.ExcIs
import HandS.CallLocal
import HandS.Nested
import HandS.Head2
import HandS.HeadEnd
import HandS.EndTab
import PySem.Challenge.RW_widerlots_k07_refused_lots
set_option Elab.async false
set_option linter.all false
set_option maxRecDepth 100000
set_option maxHeartbeats 0
set_option exponentiation.threshold 100000
/-! the machine: values, objects, IR, its run -/
namespace WL
open PySem
/-- built-in functions and types that are called; built-in methods; what isinstance asks -/
inductive B where
  | len | abs | max | min | sum | all | any | sorted | list | tuple | set
  deriving DecidableEq
inductive BM where
  | append | extend | remove | count | insert | pop | clear | get
  deriving DecidableEq
inductive Cl where
  | int | bool | tuple | list | str | own (c : Nat)
  deriving DecidableEq
/-- expressions, targets, what is walked, lists of these -/
inductive E where
  | bad | nil | cons (a r : E)
  | v (i : Nat) | non | bl (b : Bool) | int (i : Int) | str (s : Str) | fnv (f : Nat)
  | bin (o : Operator) (a b : E) | neg (a : E) | cmp (o : CmpOp) (a b : E) | chn (o o' : CmpOp) (a b c : E)
  | and (a b : E) | or (a b : E) | not (a : E) | ife (c a b : E)
  | tup (l : E) | lst (l : E) | dnew (t : Bool) | idx (a i : E) | sli (a lo hi : E)
  | cal (f : Nat) (l : E) | mk (c : Nat) (l : E) | mth (m : Nat) (o l : E) | blt (b : B) (l : E) | bm (m : BM) (o l : E) | fld (o : E) (f : Nat) | isi (a : E) (c : Cl) | isx (c : Nat)
  | lc (own : List Nat) (t it cond e : E) | agg (b : B) (a : E)
  | rev (a : E) | calv (i : Nat) (l : E) | lam (np ns : Nat) (b : E) | thk (g : Nat) (b : E)
  | rng (l : E) | zip (a b : E) | enu (a : E) | sq (a : E)
  deriving DecidableEq
inductive S where
  | bad | nil | seq (a r : S)
  | pas | exp (e : E) | ret (e : E) | asg (i : Nat) (e : E) | unp (t e : E) | par (is : List Nat) (es : E) | sub (o i e : E) | stf (o : E) (f : Nat) (e : E) | aug (i : Nat) (o : Operator) (e : E)
  | ife (c : E) (a b : S) | whl (c : E) (b : S) | forS (t it : E) (b : S) | brk | cnt | rai (c : Nat)
  deriving DecidableEq
inductive W where
  | non | bl (b : Bool) | int (i : Int) | str (s : Str) | tup (l : List W) | ref (n : Nat) | scr (l : List Int) | fn (f : Nat) | cod (np ns : Nat) (b : E)
inductive O where
  | lst (l : List W) | dK (l : List (Int × W)) | dT (l : List (List Int × W)) | ins (c : Nat) (fs : List (Nat × W))
abbrev Hm := List O
abbrev F := List (Option W)
inductive R (α : Type) where
  | ok (a : α) (h : Hm) | exc (c : Nat) (h : Hm) | bad
def R.bind {α β : Type} (r : R α) (f : α → Hm → R β) : R β := match r with
  | .ok a h => f a h
  | .exc c h => .exc c h
  | .bad => .bad
inductive RS where
  | nx (f : F) (h : Hm) | rt (w : W) (h : Hm) | bk (f : F) (h : Hm) | ct (f : F) (h : Hm) | ex (c : Nat) (f : F) (h : Hm) | bad
structure FnI where
  np : Nat
  ns : Nat
  body : S
/-- a def that is handed a lambda: x = e0; try: lambda() except c as i: s; return y -/
structure TkI where
  ns : Nat
  x : Nat
  e0 : E
  c : Nat
  i : Nat
  s : S
  y : Nat
structure Tb where
  fns : List FnI
  init : List (Option Nat)
  met : List (List (Option Nat))
  sub : List (List Bool)
  xsub : List (List Bool) := []
  tks : List (Option TkI) := []
/-- what a level calls: defs and makings of its own level, of one below, of two below; a def that is handed a lambda; a lambda as a value; the caught class -/
structure Cb where
  tb : Tb
  call : Nat → List W → Hm → R W
  make : Nat → List W → Hm → R W
  dcall : Nat → List W → Hm → R W := fun _ _ _ => .bad
  dmake : Nat → List W → Hm → R W := fun _ _ _ => .bad
  lcall : Nat → List W → Hm → R W := fun _ _ _ => .bad
  lmake : Nat → List W → Hm → R W := fun _ _ _ => .bad
  thkc : Nat → (Hm → R W) → Hm → R W := fun _ _ _ => .bad
  cods : Nat → Nat → E → List W → Hm → R W := fun _ _ _ _ _ => .bad
  dcods : Nat → Nat → E → List W → Hm → R W := fun _ _ _ _ _ => .bad
  lcods : Nat → Nat → E → List W → Hm → R W := fun _ _ _ _ _ => .bad
  xc : Option Nat := none
def lowC (C : Cb) : Cb := { tb := C.tb, call := C.lcall, make := C.lmake, cods := C.lcods }
/-! ### values -/
def Tb.subB (T : Tb) (c d : Nat) : Bool := ((T.sub[c]?).bind fun l => l[d]?).getD false
def Tb.subX (T : Tb) (c d : Nat) : Option Bool := (T.xsub[c]?).bind fun l => l[d]?
def Tb.metI (T : Tb) (c m : Nat) : Option Nat := (T.met[c]?).bind fun l => (l[m]?).bind id
def line : Nat := 16777216
def alloc (o : O) (h : Hm) : R W := .ok (.ref h.length) (h ++ [o])
def lstOf (w : W) (h : Hm) : Option (List W) := match w with
  | .ref n => (match h[n]? with | some (.lst l) => some l | _ => none)
  | .scr l => some (l.map W.int)
  | _ => none
def seqOf (w : W) (h : Hm) : Option (List W) := match w with
  | .tup l => some l
  | w => lstOf w h
def allO {α : Type} : List (Option α) → Option (List α)
  | [] => some []
  | none :: _ => none
  | some a :: r => (allO r).map fun l => a :: l
def toD : Nat → Hm → W → Option PyData
  | 0, _, _ => none
  | n + 1, h, w => match w with
    | .non => some .none
    | .bl b => some (.bool b)
    | .int i => some (.int i)
    | .str s => if PyData.strOk s then some (.str s) else none
    | .tup l => (allO (l.map (toD n h))).map PyData.tuple
    | .scr l => some (.list (l.map PyData.int))
    | .ref a => (match h[a]? with | some (.lst l) => (allO (l.map (toD n h))).map PyData.list | _ => none)
    | _ => none
def toDs (n : Nat) (h : Hm) (ws : List W) : Option (List PyData) := allO (ws.map (toD n h))
theorem toDs_nil (n : Nat) (h : Hm) : toDs n h [] = some [] := rfl
theorem toDs_cons (n : Nat) (h : Hm) (w : W) (r : List W) : toDs n h (w :: r) = (toD n h w).bind fun d => (toDs n h r).map fun ds => d :: ds := by
  show allO (toD n h w :: r.map (toD n h)) = _
  cases toD n h w <;> rfl
theorem toD_tup (n : Nat) (h : Hm) (l : List W) : toD (n + 1) h (.tup l) = (toDs n h l).map PyData.tuple := rfl
theorem toD_ref (n : Nat) (h : Hm) (a : Nat) : toD (n + 1) h (.ref a) = (match h[a]? with | some (.lst l) => (toDs n h l).map PyData.list | _ => none) := rfl
def deep : Nat := 20
def eqW (a b : W) (h : Hm) : Option Bool := (toD deep h a).bind fun d => (toD deep h b).map fun e => PyData.eqv d e
def flat : W → Bool
  | .non => true | .bl _ => true | .int _ => true | .str _ => true | _ => false
def eqF : W → W → Bool
  | .non, .non => true
  | .bl a, .bl b => a == b
  | .bl a, .int b => (if a then 1 else 0) == b
  | .int a, .bl b => a == (if b then 1 else 0)
  | .int a, .int b => a == b
  | .str a, .str b => a == b
  | _, _ => false
def inW (x : W) (l : List W) : Bool := l.any fun y => eqF y x
def intsOf : List W → Option (List Int)
  | [] => some []
  | .int i :: r => (intsOf r).map fun l => i :: l
  | _ :: _ => none
def prsOf : List W → Option (List (Int × Int))
  | [] => some []
  | .tup [.int i, .int j] :: r => (prsOf r).map fun l => (i, j) :: l
  | _ :: _ => none
def leP (a b : Int × Int) : Bool := decide (a.1 < b.1) || (decide (a.1 = b.1) && decide (a.2 ≤ b.2))
def insP (a : Int × Int) : List (Int × Int) → List (Int × Int)
  | [] => [a]
  | b :: r => if leP a b then a :: b :: r else b :: insP a r
def sortP : List (Int × Int) → List (Int × Int)
  | [] => []
  | a :: r => insP a (sortP r)
def prW (p : Int × Int) : W := .tup [.int p.1, .int p.2]
def remI (k : Int) : List Int → Option (List Int)
  | [] => none
  | a :: r => if a = k then some r else (remI k r).map fun l => a :: l
def bls : List W → Option (List Bool)
  | [] => some []
  | .bl i :: r => (bls r).map fun l => i :: l
  | _ :: _ => none
def ixN (n : Nat) (i : Int) : Option Nat := if 0 ≤ i then (if i < n then some i.toNat else none) else if -(n : Int) ≤ i then some (i + n).toNat else none
def atI (xs : List W) (i : Int) : Option W := (ixN xs.length i).bind fun j => xs[j]?
def sIx (n d : Nat) : Option Int → Nat
  | none => d
  | some v => if v < 0 then (v + (n : Int)).toNat else min v.toNat n
def cutW (xs : List W) (lo hi : Option Int) : List W := (xs.drop (sIx xs.length 0 lo)).take (sIx xs.length xs.length hi - sIx xs.length 0 lo)
/-! ### tables -/
def look {κ : Type} [DecidableEq κ] (l : List (κ × W)) (k : κ) : Option W := (l.find? fun p => decide (p.1 = k)).map (·.2)
def put {κ : Type} [DecidableEq κ] (l : List (κ × W)) (k : κ) (w : W) : List (κ × W) :=
  if (l.any fun p => decide (p.1 = k)) = true then l.map (fun p => if p.1 = k then (p.1, w) else p) else l ++ [(k, w)]
def putN (k : Nat) (w : W) : List (Nat × W) → List (Nat × W)
  | [] => [(k, w)]
  | (j, x) :: r => if j = k then (j, w) :: r else (j, x) :: putN k w r
/-! ### sorting -/
def insI (a : Int) : List Int → List Int
  | [] => [a]
  | b :: r => if a ≤ b then a :: b :: r else b :: insI a r
def sortI : List Int → List Int
  | [] => []
  | a :: r => insI a (sortI r)
/-! ### operators -/
def binW (o : Operator) (x y : W) (h : Hm) : R W := match o, x, y with
  | .Add, .int i, .int j => .ok (.int (i + j)) h
  | .Sub, .int i, .int j => .ok (.int (i - j)) h
  | .Mult, .int i, .int j => if i.natAbs.log2 + j.natAbs.log2 < 1000000 then .ok (.int (i * j)) h else .bad
  | .FloorDiv, .int i, .int j => if 0 < j ∧ j.natAbs.log2 < 9000 then .ok (.int (i / j)) h else .bad
  | .Mod, .int i, .int j => if 0 < j then .ok (.int (i % j)) h else .bad
  | .Pow, .int i, .int j => if 0 ≤ j ∧ j ≤ 1000000 ∧ i.natAbs < 2 ^ 64 then .ok (.int (i ^ j.toNat)) h else .bad
  | .RShift, .int i, .int j => if 0 ≤ j then .ok (.int (i / 2 ^ j.toNat)) h else .bad
  | .Add, .ref a, .ref b => (match h[a]?, h[b]? with
    | some (.lst xs), some (.lst ys) => if xs.length + ys.length ≤ line then alloc (.lst (xs ++ ys)) h else .bad
    | _, _ => .bad)
  | .Mult, .ref a, .int k => (match h[a]? with
    | some (.lst xs) => if -(2 ^ 63) ≤ k ∧ k < 2 ^ 63 ∧ xs.length * k.toNat ≤ line then alloc (.lst (List.replicate k.toNat xs).flatten) h else .bad
    | _ => .bad)
  | _, _, _ => .bad
def isNon : W → Bool
  | .non => true
  | _ => false
def cmpW (o : CmpOp) (x y : W) (h : Hm) : Option Bool := match o with
  | .Eq => eqW x y h
  | .NotEq => (eqW x y h).map fun b => !b
  | .Lt => (match x, y with | .int i, .int j => some (decide (i < j)) | _, _ => none)
  | .LtE => (match x, y with | .int i, .int j => some (decide (i ≤ j)) | _, _ => none)
  | .Gt => (match x, y with | .int i, .int j => some (decide (j < i)) | _, _ => none)
  | .GtE => (match x, y with | .int i, .int j => some (decide (j ≤ i)) | _, _ => none)
  | .Is => (match x, y with | .bl a, .bl b => some (decide (a = b)) | x, .non => some (isNon x) | _, _ => none)
  | .IsNot => (match x, y with | .bl a, .bl b => some (!decide (a = b)) | x, .non => some (!isNon x) | _, _ => none)
  | .In => (match seqOf y h with | some l => if flat x && l.all flat then some (inW x l) else none | none => none)
  | .NotIn => (match seqOf y h with | some l => if flat x && l.all flat then some (!inW x l) else none | none => none)
def idxW (x i : W) (h : Hm) : Option W := match x, i with
  | .ref a, .int k => (match h[a]? with
    | some (.lst l) => atI l k
    | some (.dK l) => look l k
    | _ => none)
  | .ref a, .tup ks => (match h[a]?, intsOf ks with
    | some (.dT l), some ks => look l ks
    | _, _ => none)
  | .tup l, .int k => atI l k
  | .scr l, .int k => atI (l.map W.int) k
  | _, _ => none
def sliW (x : W) (lo hi : Option Int) (h : Hm) : R W := match x with
  | .tup l => if sIx l.length 0 lo = 0 ∧ sIx l.length l.length hi = l.length then .bad else .ok (.tup (cutW l lo hi)) h
  | x => (match lstOf x h with | some l => alloc (.lst (cutW l lo hi)) h | none => .bad)
def sizeOk (h : Hm) (o : O) (k : R W) : R W := k
def bltL (b : B) (l : List W) (h : Hm) : R W := match b with
  | .len => .ok (.int l.length) h
  | .sum => (match intsOf l with | some ns => .ok (.int ns.sum) h | none => .bad)
  | .all => (match bls l with | some bs => .ok (.bl (bs.all id)) h | none => .bad)
  | .any => (match bls l with | some bs => .ok (.bl (bs.any id)) h | none => .bad)
  | .sorted => (match intsOf l with
    | some ns => alloc (.lst ((sortI ns).map W.int)) h
    | none => .bad)
  | .max => (match intsOf l with | some (n :: ns) => .ok (.int (ns.foldl max n)) h | _ => .bad)
  | .list => alloc (.lst l) h
  | _ => .bad
def bltW (b : B) (l : List W) (h : Hm) : R W := match b, l with
  | .abs, [.int i] => .ok (.int (if i < 0 then -i else i)) h
  | .max, [.int i, .int j] => .ok (.int (if j > i then j else i)) h
  | .min, [.int i, .int j] => .ok (.int (if j < i then j else i)) h
  | .len, [w] => (match seqOf w h with | some l => .ok (.int l.length) h | none => .bad)
  | .list, [w] => (match seqOf w h with | some l => alloc (.lst l) h | none => .bad)
  | .tuple, [w] => (match lstOf w h with | some l => .ok (.tup l) h | none => .bad)
  | .sorted, [.ref a] => (match h[a]? with
    | some (.lst l) => bltL .sorted l h
    | some (.dK l) => alloc (.lst ((sortI (l.map (·.1))).map W.int)) h
    | _ => .bad)
  | b, [.ref a] => (match h[a]? with | some (.lst l) => bltL b l h | _ => .bad)
  | _, _ => .bad
def bmW (m : BM) (x : W) (l : List W) (h : Hm) : R W := match m, x, l with
  | .append, .ref a, [w] => (match h[a]? with | some (.lst xs) => if xs.length < line then .ok .non (h.set a (.lst (xs ++ [w]))) else .bad | _ => .bad)
  | .extend, .ref a, [.ref b] => (match h[a]?, h[b]? with | some (.lst xs), some (.lst ys) => if xs.length + ys.length ≤ line then .ok .non (h.set a (.lst (xs ++ ys))) else .bad | _, _ => .bad)
  | .clear, .ref a, [] => (match h[a]? with | some (.lst _) => .ok .non (h.set a (.lst [])) | _ => .bad)
  | .count, .ref a, [.int k] => (match h[a]? with
    | some (.lst xs) => (match intsOf xs with | some ns => .ok (.int (ns.count k : Nat)) h | none => .bad)
    | _ => .bad)
  | .remove, .ref a, [.int k] => (match h[a]? with
    | some (.lst xs) => (match (intsOf xs).bind (remI k) with | some ns => .ok .non (h.set a (.lst (ns.map W.int))) | none => .bad)
    | _ => .bad)
  | .insert, .ref a, [.int i, w] => (match h[a]? with
    | some (.lst xs) => if xs.length < line ∧ 0 ≤ i ∧ i < 2 ^ 63 then .ok .non (h.set a (.lst (xs.take i.toNat ++ [w] ++ xs.drop i.toNat))) else .bad
    | _ => .bad)
  | .pop, .ref a, [] => (match h[a]? with
    | some (.lst xs) => (match xs[xs.length - 1]? with | some w => .ok w (h.set a (.lst xs.dropLast)) | none => .bad)
    | _ => .bad)
  | .get, .ref a, [.int k, d] => (match h[a]? with | some (.dK t) => .ok ((look t k).getD d) h | _ => .bad)
  | .get, .ref a, [.tup ks, d] => (match h[a]?, intsOf ks with | some (.dT t), some ks => .ok ((look t ks).getD d) h | _, _ => .bad)
  | _, _, _ => .bad
def isLstW (x : W) (h : Hm) : Bool := match x with
  | .ref a => (match h[a]? with | some (.lst _) => true | _ => false)
  | _ => false
def isDicW (x : W) (h : Hm) : Bool := match x with
  | .ref a => (match h[a]? with | some (.dK _) => true | some (.dT _) => true | _ => false)
  | _ => false
def bmTy (m : BM) (x : W) (h : Hm) : Bool := match m with
  | .get => isDicW x h
  | _ => isLstW x h
def setW (x i w : W) (h : Hm) : Option Hm := match x, i with
  | .ref a, .int k => (match h[a]? with
    | some (.lst l) => (ixN l.length k).map fun j => h.set a (.lst (l.set j w))
    | some (.dK l) => if l.length < line then some (h.set a (.dK (put l k w))) else none
    | _ => none)
  | .ref a, .tup ks => (match h[a]?, intsOf ks with
    | some (.dT l), some ks => if l.length < line then some (h.set a (.dT (put l ks w))) else none
    | _, _ => none)
  | _, _ => none
def isiW (T : Tb) (w : W) (c : Cl) (h : Hm) : Option Bool := match c with
  | .own d => (match w with
    | .ref a => (match h[a]? with | some (.ins k _) => some (T.subB k d) | _ => none)
    | _ => none)
  | c => (match w with
    | .non => some false
    | .bl _ => some (decide (c = .int) || decide (c = .bool))
    | .int _ => some (decide (c = .int))
    | .str _ => some (decide (c = .str))
    | .tup _ => some (decide (c = .tuple))
    | .scr _ => some (decide (c = .list))
    | .ref a => (match h[a]? with
      | some (.lst _) => some (decide (c = .list))
      | some (.dK _) => some false
      | some (.dT _) => some false
      | _ => none)
    | .fn _ => none
    | .cod _ _ _ => none)
/-! ### targets -/
def stV (i : Nat) (w : W) (f : F) : Option F := if i < f.length then some (f.set i (some w)) else none
mutual
def bindT : E → W → F → Option F
  | .v i, w, f => stV i w f
  | .tup l, .tup ws, f => bindTs l ws f
  | _, _, _ => none
def bindTs : E → List W → F → Option F
  | .nil, [], f => some f
  | .cons a r, w :: ws, f => (bindT a w f).bind fun f => bindTs r ws f
  | _, _, _ => none
end
/-! ### what is walked -/
inductive It where
  | seq (w : W) | rng (lo c : Int) (n : Nat) | zip (a b : W) | enu (a : W)
def It.len (t : It) (h : Hm) : Option Nat := match t with
  | .seq w => (seqOf w h).map List.length
  | .rng _ _ n => some n
  | .zip a b => (lstOf a h).bind fun l => (lstOf b h).map fun m => min l.length m.length
  | .enu a => (lstOf a h).map List.length
def It.item (t : It) (i : Nat) (h : Hm) : Option W := match t with
  | .seq w => (seqOf w h).bind fun l => l[i]?
  | .rng lo c n => if i < n then some (.int (lo + (i : Nat) * c)) else none
  | .zip a b => (lstOf a h).bind fun l => (lstOf b h).bind fun m => (l[i]?).bind fun x => (m[i]?).map fun y => .tup [x, y]
  | .enu a => (lstOf a h).bind fun l => (l[i]?).map fun x => .tup [.int i, x]
def It.stop (t : It) (i : Nat) (h : Hm) : Bool := match t.len h with
  | some n => decide (n ≤ i)
  | none => false
def forL (b : F → Hm → RS) (bt : W → F → Option F) (t : It) : Nat → Nat → F → Hm → RS
  | 0, i, f, h => if t.stop i h then .nx f h else .bad
  | m + 1, i, f, h => match (t.item i h).bind fun w => bt w f with
    | none => .bad
    | some f1 => match b f1 h with
      | .nx f2 h2 => forL b bt t m (i + 1) f2 h2
      | .ct f2 h2 => forL b bt t m (i + 1) f2 h2
      | .bk f2 h2 => .nx f2 h2
      | r => r
def whlL (c : F → Hm → R W) (b : F → Hm → RS) : Nat → F → Hm → RS
  | 0, _, _ => .bad
  | m + 1, f, h => match c f h with
    | .ok (.bl true) h1 => (match b f h1 with
      | .nx f2 h2 => whlL c b m f2 h2
      | .ct f2 h2 => whlL c b m f2 h2
      | .bk f2 h2 => .nx f2 h2
      | r => r)
    | .ok (.bl false) h1 => .nx f h1
    | .ok _ _ => .bad
    | .exc c h1 => .ex c f h1
    | .bad => .bad
def lcL (c e : F → Hm → R W) (bt : W → F → Option F) (t : It) (wf : F) : Nat → Nat → List W → Hm → R (List W)
  | 0, i, acc, h => if t.stop i h then .ok acc h else .bad
  | m + 1, i, acc, h => match (t.item i h).bind fun w => bt w wf with
    | none => .bad
    | some f1 => match c f1 h with
      | .ok (.bl true) h1 => (match e f1 h1 with
        | .ok w h2 => if acc.length < line then lcL c e bt t wf m (i + 1) (acc ++ [w]) h2 else .bad
        | _ => .bad)
      | .ok (.bl false) h1 => lcL c e bt t wf m (i + 1) acc h1
      | _ => .bad
def wipe (f : F) : List Nat → F
  | [] => f
  | v :: vs => (wipe f vs).set v none
def loops : Nat := 2 ^ 20000
def rngOf : List W → Option It
  | [.int j] => if -(2 ^ 62) ≤ j ∧ j < 2 ^ 62 then some (.rng 0 1 j.toNat) else none
  | [.int i, .int j] => if (-(2 ^ 62) ≤ i ∧ i < 2 ^ 62) ∧ -(2 ^ 62) ≤ j ∧ j < 2 ^ 62 then some (.rng i 1 (j - i).toNat) else none
  | [.int i, .int j, .int c] => if ((-(2 ^ 62) ≤ i ∧ i < 2 ^ 62) ∧ -(2 ^ 62) ≤ j ∧ j < 2 ^ 62) ∧ c = -1 then some (.rng i (-1) (i - j).toNat) else none
  | _ => none
def optI : R (List W) → R (Option Int)
  | .ok [] h => .ok none h
  | .ok [.int i] h => .ok (some i) h
  | .ok _ _ => .bad
  | .exc c h => .exc c h
  | .bad => .bad
/-! ### expressions -/
mutual
def ev (C : Cb) : E → F → Hm → R W
  | .v i, f, h => (match f[i]? with | some (some w) => .ok w h | _ => .bad)
  | .non, _, h => .ok .non h
  | .bl b, _, h => .ok (.bl b) h
  | .int i, _, h => .ok (.int i) h
  | .str s, _, h => .ok (.str s) h
  | .fnv g, _, h => .ok (.fn g) h
  | .bin o a b, f, h => (ev C a f h).bind fun x h1 => (ev C b f h1).bind fun y h2 => binW o x y h2
  | .neg a, f, h => (ev C a f h).bind fun x h1 => match x with | .int i => .ok (.int (-i)) h1 | _ => .bad
  | .cmp o a b, f, h => (ev C a f h).bind fun x h1 => (ev C b f h1).bind fun y h2 => match cmpW o x y h2 with | some c => .ok (.bl c) h2 | none => .bad
  | .chn o o' a b c, f, h => (ev C a f h).bind fun x h1 => (ev C b f h1).bind fun y h2 => match cmpW o x y h2 with
    | some true => (ev C c f h2).bind fun z h3 => (match cmpW o' y z h3 with | some c => .ok (.bl c) h3 | none => .bad)
    | some false => .ok (.bl false) h2
    | none => .bad
  | .and a b, f, h => (ev C a f h).bind fun x h1 => match x with | .bl true => ev C b f h1 | .bl false => .ok (.bl false) h1 | _ => .bad
  | .or a b, f, h => (ev C a f h).bind fun x h1 => match x with | .bl false => ev C b f h1 | .bl true => .ok (.bl true) h1 | _ => .bad
  | .not a, f, h => (ev C a f h).bind fun x h1 => match x with | .bl b => .ok (.bl (!b)) h1 | _ => .bad
  | .ife c a b, f, h => (ev C c f h).bind fun x h1 => match x with | .bl true => ev C a f h1 | .bl false => ev C b f h1 | _ => .bad
  | .tup l, f, h => (evs C l f h).bind fun ws h1 => if ws.length ≤ line then .ok (.tup ws) h1 else .bad
  | .lst l, f, h => (evs C l f h).bind fun ws h1 => if ws.length ≤ line then alloc (.lst ws) h1 else .bad
  | .dnew t, _, h => alloc (if t then .dT [] else .dK []) h
  | .idx a i, f, h => (ev C a f h).bind fun x h1 => (ev C i f h1).bind fun y h2 => match idxW x y h2 with | some w => .ok w h2 | none => .bad
  | .sli a lo hi, f, h => (ev C a f h).bind fun x h1 => (optI (evs C lo f h1)).bind fun l h2 => (optI (evs C hi f h2)).bind fun u h3 => sliW x l u h3
  | .cal g l, f, h => (evs C l f h).bind fun ws h1 => C.call g ws h1
  | .mk c l, f, h => (evs C l f h).bind fun ws h1 => C.make c ws h1
  | .mth m o l, f, h => (ev C o f h).bind fun x h1 => match x with
    | .ref a => (match h1[a]? with
      | some (.ins c fs) => (match C.tb.metI c m with
        | some g => (evs C l f h1).bind fun ws h2 => C.call g (.ref a :: ws) h2
        | none => .bad)
      | _ => .bad)
    | _ => .bad
  | .blt b l, f, h => (evs C l f h).bind fun ws h1 => bltW b ws h1
  | .bm m o l, f, h => (ev C o f h).bind fun x h1 => if bmTy m x h1 then (evs C l f h1).bind fun ws h2 => bmW m x ws h2 else .bad
  | .fld o k, f, h => (ev C o f h).bind fun x h1 => match x with
    | .ref a => (match h1[a]? with
      | some (.ins _ fs) => (match look fs k with | some w => .ok w h1 | none => .bad)
      | _ => .bad)
    | _ => .bad
  | .isi a c, f, h => (ev C a f h).bind fun x h1 => match isiW C.tb x c h1 with | some b => .ok (.bl b) h1 | none => .bad
  | .isx d, _, h => (match C.xc.bind fun c => C.tb.subX c d with | some b => .ok (.bl b) h | none => .bad)
  | .lc own t it cond e, f, h => (evI C it f h).bind fun J h1 => match J.len h1 with
    | some n => (lcL (evC C cond) (ev C e) (bindT t) J (wipe f own) n 0 [] h1).bind fun ws h2 => alloc (.lst ws) h2
    | none => .bad
  | .rev a, f, h => (ev C a f h).bind fun x h1 => match lstOf x h1 with | some l => alloc (.lst l.reverse) h1 | none => .bad
  | .calv i l, f, h => (match f[i]? with
    | some (some (.fn g)) => (evs C l f h).bind fun ws h1 => C.call g ws h1
    | some (some (.cod np ns b)) => (evs C l f h).bind fun ws h1 => C.cods np ns b ws h1
    | _ => .bad)
  | .thk g b, f, h => C.thkc g (fun h1 => ev (lowC C) b f h1) h
  | .lam np ns b, _, h => .ok (.cod np ns b) h
  | .agg b (.lc own t it cond e), f, h => (evI C it f h).bind fun J h1 => match J.len h1 with
    | some n => (lcL (evC C cond) (ev C e) (bindT t) J (wipe f own) n 0 [] h1).bind fun ws h2 => bltL b ws h2
    | none => .bad
  | _, _, _ => .bad
def evs (C : Cb) : E → F → Hm → R (List W)
  | .nil, _, h => .ok [] h
  | .cons a r, f, h => (ev C a f h).bind fun x h1 => (evs C r f h1).bind fun xs h2 => .ok (x :: xs) h2
  | _, _, _ => .bad
def evI (C : Cb) : E → F → Hm → R It
  | .rng l, f, h => (evs C l f h).bind fun ws h1 => match rngOf ws with | some J => .ok J h1 | none => .bad
  | .zip a b, f, h => (ev C a f h).bind fun x h1 => (ev C b f h1).bind fun y h2 => match lstOf x h2, lstOf y h2 with
    | some _, some _ => .ok (.zip x y) h2
    | _, _ => .bad
  | .enu a, f, h => (ev C a f h).bind fun x h1 => match lstOf x h1 with
    | some _ => .ok (.enu x) h1
    | none => .bad
  | .sq e, f, h => (ev C e f h).bind fun x h1 => match seqOf x h1 with
    | some _ => .ok (.seq x) h1
    | none => .bad
  | _, _, _ => .bad
def evC (C : Cb) : E → F → Hm → R W
  | .nil, _, h => .ok (.bl true) h
  | .cons e _, f, h => ev C e f h
  | _, _, _ => .bad
end
/-! ### statements -/
def R.asS {α : Type} (r : R α) (f : F) (k : α → Hm → RS) : RS := match r with
  | .ok a h => k a h
  | .exc c h => .ex c f h
  | .bad => .bad
def stAll : List Nat → List W → F → Option F
  | [], [], f => some f
  | i :: is, w :: ws, f => (stV i w f).bind fun f => stAll is ws f
  | _, _, _ => none
def exec (C : Cb) : S → F → Hm → RS
  | .nil, f, h => .nx f h
  | .seq a r, f, h => (match exec C a f h with
    | .nx f1 h1 => exec C r f1 h1
    | x => x)
  | .pas, f, h => .nx f h
  | .exp e, f, h => (ev C e f h).asS f fun _ h1 => .nx f h1
  | .ret e, f, h => (ev C e f h).asS f fun w h1 => .rt w h1
  | .asg i e, f, h => (ev C e f h).asS f fun w h1 => (match stV i w f with | some f1 => .nx f1 h1 | none => .bad)
  | .unp t e, f, h => (ev C e f h).asS f fun w h1 => (match bindT t w f with | some f1 => .nx f1 h1 | none => .bad)
  | .par is es, f, h => (evs C es f h).asS f fun ws h1 => (match stAll is ws f with | some f1 => .nx f1 h1 | none => .bad)
  | .sub o i e, f, h => (ev C e f h).asS f fun w h1 => (ev C o f h1).asS f fun x h2 => (ev C i f h2).asS f fun y h3 => (match setW x y w h3 with | some h4 => .nx f h4 | none => .bad)
  | .stf o k e, f, h => (ev C e f h).asS f fun w h1 => (ev C o f h1).asS f fun x h2 => (match x with
    | .ref a => (match h2[a]? with
      | some (.ins c fs) => if fs.length < 1000 then .nx f (h2.set a (.ins c (putN k w fs))) else .bad
      | _ => .bad)
    | _ => .bad)
  | .aug i o e, f, h => (match f[i]? with
    | some (some x) => (ev C e f h).asS f fun y h1 => (match o, x, y with
      | .Add, .int a, .int b => (match stV i (.int (a + b)) f with | some f1 => .nx f1 h1 | none => .bad)
      | .Sub, .int a, .int b => (match stV i (.int (a - b)) f with | some f1 => .nx f1 h1 | none => .bad)
      | _, _, _ => .bad)
    | _ => .bad)
  | .ife c a b, f, h => (ev C c f h).asS f fun w h1 => (match w with
    | .bl true => exec C a f h1
    | .bl false => exec C b f h1
    | _ => .bad)
  | .whl c b, f, h => whlL (ev C c) (exec C b) loops f h
  | .forS t it b, f, h => (evI C it f h).asS f fun J h1 => (match J.len h1 with
    | some n => forL (exec C b) (bindT t) J n 0 f h1
    | none => .bad)
  | .brk, f, h => .bk f h
  | .cnt, f, h => .ct f h
  | .rai c, f, h => .ex c f h
  | _, _, _ => .bad
def runF (C : Cb) (g : Nat) (ws : List W) (h : Hm) : R W := match C.tb.fns[g]? with
  | some fi => if ws.length = fi.np then
      (match exec C fi.body (ws.map some ++ List.replicate (fi.ns - ws.length) none) h with
      | .rt w h1 => .ok w h1
      | .nx _ h1 => .ok .non h1
      | .ex c _ h1 => .exc c h1
      | _ => .bad)
    else .bad
  | none => .bad
def mkOf (T : Tb) (call : Nat → List W → Hm → R W) (c : Nat) (us : List W) (h1 : Hm) : R W := match T.init[c]? with
  | some (some i) => (call i (.ref h1.length :: us) (h1 ++ [.ins c []])).bind fun v h2 => (match v with
    | .non => .ok (.ref h1.length) h2
    | _ => .bad)
  | some none => (match us with
    | [] => .ok (.ref h1.length) (h1 ++ [.ins c []])
    | _ => .bad)
  | _ => .bad
def xcC (C : Cb) (e : Nat) : Cb := { C with xc := some e }
def runT (C : Cb) (g : Nat) (th : Hm → R W) (h : Hm) : R W := match C.tb.tks[g]? with
  | some (some tk) =>
    (ev C tk.e0 (List.replicate tk.ns none) h).bind fun w0 h0 => (match stV tk.x w0 (List.replicate tk.ns none) with
      | some f1 => (match th h0 with
        | .ok _ h1 => (match f1[tk.y]? with | some (some w) => .ok w h1 | _ => .bad)
        | .exc e h1 => (match C.tb.subX e tk.c with
          | some true => (match exec (xcC C e) tk.s (f1.set tk.i none) h1 with
            | .nx f2 h2 => (match (f2.set tk.i none)[tk.y]? with | some (some w) => .ok w h2 | _ => .bad)
            | _ => .bad)
          | _ => .bad)
        | .bad => .bad)
      | none => .bad)
  | _ => .bad
def runL (C : Cb) (np ns : Nat) (b : E) (ws : List W) (h : Hm) : R W := if ws.length = np then ev C b (ws.map some ++ List.replicate (ns - ws.length) none) h else .bad
/-- calls and makings of a level -/
def cbM (T : Tb) : Nat → Cb
  | 0 => { tb := T, call := fun _ _ _ => .bad, make := fun _ _ _ => .bad }
  | k + 1 => { tb := T, call := runF (cbM T k), make := mkOf T (cbM T k).call, dcall := (cbM T k).call, dmake := (cbM T k).make, lcall := (cbM T k).dcall, lmake := (cbM T k).dmake, thkc := fun g th h => if k = 0 then .bad else runT (cbM T k) g th h, cods := runL (cbM T k), dcods := (cbM T k).cods, lcods := (cbM T k).dcods }
def callM (T : Tb) (k : Nat) : Nat → List W → Hm → R W := (cbM T k).call
def mkM (T : Tb) (k : Nat) : Nat → List W → Hm → R W := (cbM T k).make
theorem callM_succ (T : Tb) (k : Nat) : callM T (k + 1) = runF (cbM T k) := rfl
theorem mkM_succ (T : Tb) (k : Nat) : mkM T (k + 1) = mkOf T (callM T k) := rfl
theorem cbM_tb (T : Tb) (k : Nat) : (cbM T k).tb = T := by cases k <;> rfl
theorem lcall_eq (T : Tb) (k : Nat) : (cbM T (k + 2)).lcall = callM T k := rfl
theorem lmake_eq (T : Tb) (k : Nat) : (cbM T (k + 2)).lmake = mkM T k := rfl
theorem thkc_eq (T : Tb) (k : Nat) : (cbM T (k + 2)).thkc = runT (cbM T (k + 1)) := by
  funext g th h
  show (if k + 1 = 0 then R.bad else runT (cbM T (k + 1)) g th h) = _
  rw [if_neg (Nat.succ_ne_zero k)]
def codM (T : Tb) (k : Nat) : Nat → Nat → E → List W → Hm → R W := (cbM T k).cods
theorem codM_succ (T : Tb) (k : Nat) : codM T (k + 1) = runL (cbM T k) := rfl
theorem lcods_eq (T : Tb) (k : Nat) : (cbM T (k + 2)).lcods = codM T k := rfl
/-! ### its equations -/
theorem ev_v (C : Cb) {i} : ev C (.v i) = fun f h => (match f[i]? with | some (some w) => .ok w h | _ => .bad) := by
  funext f h; first | rfl | simp only [ev]
theorem ev_non (C : Cb)  : ev C (.non) = fun _ h => .ok .non h := by
  funext f h; first | rfl | simp only [ev]
theorem ev_bl (C : Cb) {b} : ev C (.bl b) = fun _ h => .ok (.bl b) h := by
  funext f h; first | rfl | simp only [ev]
theorem ev_int (C : Cb) {i} : ev C (.int i) = fun _ h => .ok (.int i) h := by
  funext f h; first | rfl | simp only [ev]
theorem ev_str (C : Cb) {s} : ev C (.str s) = fun _ h => .ok (.str s) h := by
  funext f h; first | rfl | simp only [ev]
theorem ev_fnv (C : Cb) {g} : ev C (.fnv g) = fun _ h => .ok (.fn g) h := by
  funext f h; first | rfl | simp only [ev]
theorem ev_bin (C : Cb) {o} {a} {b} : ev C (.bin o a b) = fun f h => (ev C a f h).bind fun x h1 => (ev C b f h1).bind fun y h2 => binW o x y h2 := by
  funext f h; first | rfl | simp only [ev]
theorem ev_neg (C : Cb) {a} : ev C (.neg a) = fun f h => (ev C a f h).bind fun x h1 => match x with | .int i => .ok (.int (-i)) h1 | _ => .bad := by
  funext f h; first | rfl | simp only [ev]
theorem ev_cmp (C : Cb) {o} {a} {b} : ev C (.cmp o a b) = fun f h => (ev C a f h).bind fun x h1 => (ev C b f h1).bind fun y h2 => match cmpW o x y h2 with | some c => .ok (.bl c) h2 | none => .bad := by
  funext f h; first | rfl | simp only [ev]
theorem ev_chn (C : Cb) {o o' : CmpOp} {a b c : E} : ev C (.chn o o' a b c) = fun f h => (ev C a f h).bind fun x h1 => (ev C b f h1).bind fun y h2 => match cmpW o x y h2 with
    | some true => (ev C c f h2).bind fun z h3 => (match cmpW o' y z h3 with | some c => .ok (.bl c) h3 | none => .bad)
    | some false => .ok (.bl false) h2
    | none => .bad := by
  funext f h; first | rfl | simp only [ev]
theorem ev_and (C : Cb) {a} {b} : ev C (.and a b) = fun f h => (ev C a f h).bind fun x h1 => match x with | .bl true => ev C b f h1 | .bl false => .ok (.bl false) h1 | _ => .bad := by
  funext f h; first | rfl | simp only [ev]
theorem ev_or (C : Cb) {a} {b} : ev C (.or a b) = fun f h => (ev C a f h).bind fun x h1 => match x with | .bl false => ev C b f h1 | .bl true => .ok (.bl true) h1 | _ => .bad := by
  funext f h; first | rfl | simp only [ev]
theorem ev_not (C : Cb) {a} : ev C (.not a) = fun f h => (ev C a f h).bind fun x h1 => match x with | .bl b => .ok (.bl (!b)) h1 | _ => .bad := by
  funext f h; first | rfl | simp only [ev]
theorem ev_ife (C : Cb) {c} {a} {b} : ev C (.ife c a b) = fun f h => (ev C c f h).bind fun x h1 => match x with | .bl true => ev C a f h1 | .bl false => ev C b f h1 | _ => .bad := by
  funext f h; first | rfl | simp only [ev]
theorem ev_tup (C : Cb) {l} : ev C (.tup l) = fun f h => (evs C l f h).bind fun ws h1 => if ws.length ≤ line then .ok (.tup ws) h1 else .bad := by
  funext f h; first | rfl | simp only [ev]
theorem ev_lst (C : Cb) {l} : ev C (.lst l) = fun f h => (evs C l f h).bind fun ws h1 => if ws.length ≤ line then alloc (.lst ws) h1 else .bad := by
  funext f h; first | rfl | simp only [ev]
theorem ev_dnew (C : Cb) {t} : ev C (.dnew t) = fun _ h => alloc (if t then .dT [] else .dK []) h := by
  funext f h; first | rfl | simp only [ev]
theorem ev_idx (C : Cb) {a} {i} : ev C (.idx a i) = fun f h => (ev C a f h).bind fun x h1 => (ev C i f h1).bind fun y h2 => match idxW x y h2 with | some w => .ok w h2 | none => .bad := by
  funext f h; first | rfl | simp only [ev]
theorem ev_sli (C : Cb) {a} {lo} {hi} : ev C (.sli a lo hi) = fun f h => (ev C a f h).bind fun x h1 => (optI (evs C lo f h1)).bind fun l h2 => (optI (evs C hi f h2)).bind fun u h3 => sliW x l u h3 := by
  funext f h; first | rfl | simp only [ev]
theorem ev_cal (C : Cb) {g} {l} : ev C (.cal g l) = fun f h => (evs C l f h).bind fun ws h1 => C.call g ws h1 := by
  funext f h; first | rfl | simp only [ev]
theorem ev_mk (C : Cb) {c} {l} : ev C (.mk c l) = fun f h => (evs C l f h).bind fun ws h1 => C.make c ws h1 := by
  funext f h; first | rfl | simp only [ev]
theorem ev_mth (C : Cb) {m} {o} {l} : ev C (.mth m o l) = fun f h => (ev C o f h).bind fun x h1 => match x with
    | .ref a => (match h1[a]? with
      | some (.ins c fs) => (match C.tb.metI c m with
        | some g => (evs C l f h1).bind fun ws h2 => C.call g (.ref a :: ws) h2
        | none => .bad)
      | _ => .bad)
    | _ => .bad := by
  funext f h; first | rfl | simp only [ev]
theorem ev_blt (C : Cb) {b} {l} : ev C (.blt b l) = fun f h => (evs C l f h).bind fun ws h1 => bltW b ws h1 := by
  funext f h; first | rfl | simp only [ev]
theorem ev_bm (C : Cb) {m} {o} {l} : ev C (.bm m o l) = fun f h => (ev C o f h).bind fun x h1 => if bmTy m x h1 then (evs C l f h1).bind fun ws h2 => bmW m x ws h2 else .bad := by
  funext f h; first | rfl | simp only [ev]
theorem ev_fld (C : Cb) {o} {k} : ev C (.fld o k) = fun f h => (ev C o f h).bind fun x h1 => match x with
    | .ref a => (match h1[a]? with
      | some (.ins _ fs) => (match look fs k with | some w => .ok w h1 | none => .bad)
      | _ => .bad)
    | _ => .bad := by
  funext f h; first | rfl | simp only [ev]
theorem ev_isi (C : Cb) {a} {c} : ev C (.isi a c) = fun f h => (ev C a f h).bind fun x h1 => match isiW C.tb x c h1 with | some b => .ok (.bl b) h1 | none => .bad := by
  funext f h; first | rfl | simp only [ev]
theorem ev_isx (C : Cb) {d} : ev C (.isx d) = fun _ h => (match C.xc.bind fun c => C.tb.subX c d with | some b => .ok (.bl b) h | none => .bad) := by
  funext f h; first | rfl | simp only [ev]
theorem ev_lc (C : Cb) {own} {t} {it} {cond} {e} : ev C (.lc own t it cond e) = fun f h => (evI C it f h).bind fun J h1 => match J.len h1 with
    | some n => (lcL (evC C cond) (ev C e) (bindT t) J (wipe f own) n 0 [] h1).bind fun ws h2 => alloc (.lst ws) h2
    | none => .bad := by
  funext f h; first | rfl | simp only [ev]
theorem ev_agg (C : Cb) {b} {own} {t} {it} {cond} {e} : ev C (.agg b (.lc own t it cond e)) = fun f h => (evI C it f h).bind fun J h1 => match J.len h1 with
    | some n => (lcL (evC C cond) (ev C e) (bindT t) J (wipe f own) n 0 [] h1).bind fun ws h2 => bltL b ws h2
    | none => .bad := by
  funext f h; first | rfl | simp only [ev]
theorem evs_nil (C : Cb) : evs C .nil = fun _ h => .ok [] h := by funext f h; rfl
theorem evs_cons (C : Cb) {a r} : evs C (.cons a r) = fun f h => (ev C a f h).bind fun x h1 => (evs C r f h1).bind fun xs h2 => .ok (x :: xs) h2 := by funext f h; rfl
theorem evI_rng (C : Cb) {l} : evI C (.rng l) = fun f h => (evs C l f h).bind fun ws h1 => match rngOf ws with | some J => .ok J h1 | none => .bad := by funext f h; rfl
theorem evI_zip (C : Cb) {a b} : evI C (.zip a b) = fun f h => (ev C a f h).bind fun x h1 => (ev C b f h1).bind fun y h2 => match lstOf x h2, lstOf y h2 with
    | some _, some _ => .ok (.zip x y) h2
    | _, _ => .bad := by funext f h; rfl
theorem evI_enu (C : Cb) {a} : evI C (.enu a) = fun f h => (ev C a f h).bind fun x h1 => match lstOf x h1 with
    | some _ => .ok (.enu x) h1
    | none => .bad := by funext f h; rfl
theorem evI_sq (C : Cb) {e : E} : evI C (.sq e) = fun f h => (ev C e f h).bind fun x h1 => match seqOf x h1 with
    | some _ => .ok (.seq x) h1
    | none => .bad := by funext f h; rfl
theorem evC_nil (C : Cb) : evC C .nil = fun _ h => .ok (.bl true) h := by funext f h; rfl
theorem evC_e (C : Cb) {e r : E} : evC C (.cons e r) = ev C e := by funext f h; rfl
theorem ev_rev (C : Cb) {a} : ev C (.rev a) = fun f h => (ev C a f h).bind fun x h1 => match lstOf x h1 with | some l => alloc (.lst l.reverse) h1 | none => .bad := by
  funext f h; first | rfl | simp only [ev]
theorem ev_calv (C : Cb) {i} {l} : ev C (.calv i l) = fun f h => (match f[i]? with
    | some (some (.fn g)) => (evs C l f h).bind fun ws h1 => C.call g ws h1
    | some (some (.cod np ns b)) => (evs C l f h).bind fun ws h1 => C.cods np ns b ws h1
    | _ => .bad) := by
  funext f h; first | rfl | simp only [ev]
theorem ev_thk (C : Cb) {g} {b} : ev C (.thk g b) = fun f h => C.thkc g (fun h1 => ev (lowC C) b f h1) h := by funext f h; rfl
theorem ev_lam (C : Cb) {np ns} {b : E} : ev C (.lam np ns b) = fun _ h => .ok (.cod np ns b) h := by funext f h; rfl
theorem ev_bad (C : Cb) : ev C .bad = fun _ _ => .bad := by funext f h; rfl
end WL

/-! from the text to the IR -/
namespace WL
open PySem
/-- a lambda that captures nothing: its parameters, body, scope, qualified name -/
structure LamT where
  params : Arguments
  body : Expr
  scope : Scope
  qual : Str
/-- the names of a program: its defs and methods, its own classes, fields, methods' names, whole constants; the defs whose {} has tuples as keys -/
structure Nm where
  fns : List (Str × Option Str)
  cls : List Str
  exs : List Str
  flds : List Str
  mets : List Str
  consts : List (Str × Int)
  mkrs : List ((Str × Option Str) × Str) := []
  tds : List Str := []
def idxS (x : Str) : List Str → Option Nat
  | [] => none
  | y :: r => if y = x then some 0 else (idxS x r).map (· + 1)
def idxF (x : Str) : List (Str × Option Str) → Option Nat
  | [] => none
  | (y, none) :: r => if y = x then some 0 else (idxF x r).map (· + 1)
  | (_, some _) :: r => (idxF x r).map (· + 1)
/-- where one stands: names by slot, the scope, {} with tuple keys, whether lambdas are made here -/
structure Sx where
  N : List Str
  sc : Scope
  tsc : Scope
  td : Bool
  ml : Bool
def plainN (x : Str) : Bool := !(x == ("__debug__" : Str)) && !(x == ("__classdict__" : Str)) && !(x == ("__name__" : Str))
def visB (sc : Scope) (x : Str) : Bool := match sc.names.lookup x with
  | some .local => true
  | some .cell => true
  | some .free => true
  | _ => false
def locB (sc : Scope) (x : Str) : Bool := match sc.names.lookup x with
  | some .local => true
  | some .cell => true
  | _ => false
def glB (sc : Scope) (x : Str) : Bool := match sc.names.lookup x with
  | some .globalImplicit => true
  | _ => false
def noStar : Expr → Bool
  | .Starred _ _ => false
  | _ => true
def noSuper : Expr → Bool
  | .Call (.Name x _) [] [] _ => !(x == ("super" : Str))
  | _ => true
def noSet : Expr → Bool
  | .Set _ _ _ => false
  | _ => true
def noSlice : Expr → Bool
  | .Slice _ _ _ _ => false
  | _ => true
def noIf : Expr → Bool
  | .IfExp _ _ _ _ => false
  | _ => true
def noComp : Expr → Bool
  | .ListComp _ _ _ _ => false
  | .SetComp _ _ _ _ => false
  | .DictComp _ _ _ _ _ => false
  | _ => true
def ownOf (N : List Str) (scope : Scope) : List (Str × Nat) := scope.names.filterMap fun y => match y.2 with
  | .local => (idxS y.1 N).map fun i => (y.1, i)
  | .cell => (idxS y.1 N).map fun i => (y.1, i)
  | _ => none
def bltNm : B → Str
  | .len => "len" | .abs => "abs" | .max => "max" | .min => "min" | .sum => "sum" | .all => "all" | .any => "any" | .sorted => "sorted" | .list => "list" | .tuple => "tuple" | .set => "set"
def findN {α : Type} (nm : α → Str) (x : Str) : List α → Option α
  | [] => none
  | a :: r => if nm a = x then some a else findN nm x r
theorem findN_eq {α : Type} {nm : α → Str} {x : Str} : ∀ {l : List α} {a : α}, findN nm x l = some a → nm a = x ∧ a ∈ l
  | [], _, h => by cases h
  | b :: r, a, h => by
    unfold findN at h
    split at h
    · cases h; exact ⟨by assumption, List.mem_cons_self⟩
    · obtain ⟨h1, h2⟩ := findN_eq h; exact ⟨h1, List.mem_cons_of_mem _ h2⟩
def bltOf (x : Str) : Option B := findN bltNm x [.len, .abs, .max, .min, .sum, .all, .any, .sorted, .list, .tuple]
def bmNm : BM → Str
  | .append => "append" | .extend => "extend" | .remove => "remove" | .count => "count" | .insert => "insert" | .pop => "pop" | .clear => "clear" | .get => "get"
def bmOf (x : Str) : Option BM := findN bmNm x [.append, .extend, .clear, .get, .count, .remove, .insert, .pop]
/-- the slots that a target stores -/
def slotsT : E → List Nat
  | .v i => [i]
  | .tup l => slotsT l
  | .cons a r => slotsT a ++ slotsT r
  | _ => []
def clOf (G : Nm) (x : Str) : Option Cl :=
  if x = "int" then some .int else if x = "bool" then some .bool else if x = "tuple" then some .tuple else if x = "list" then some .list else if x = "str" then some .str
  else (idxS x G.cls).map Cl.own
def listE : List E → E
  | [] => .nil
  | a :: r => .cons a (listE r)
def andE : List E → E
  | [] => .bad
  | [a] => a
  | a :: r => .and a (andE r)
def orE : List E → E
  | [] => .bad
  | [a] => a
  | a :: r => .or a (orE r)
def seqS : List S → S
  | [] => .nil
  | a :: r => .seq a (seqS r)
/-- a target of a for, a comprehension, an assignment -/
def compT (s : Sx) : Nat → Expr → E
  | 0, _ => .bad
  | n + 1, e => match e with
    | .Name x _ => if locB s.tsc x && plainN x then (match idxS x s.N with | some i => .v i | none => .bad) else .bad
    | .Tuple ts _ _ => if ts.all noStar then .tup (listE (ts.map (compT s n))) else .bad
    | _ => .bad
def aggOk : B → Bool
  | .sum => true | .all => true | .any => true | _ => false
/-- what is walked -/
def compI (ce : Expr → E) (s : Sx) (tg iter : Expr) : E := match iter with
  | .Call (.Name x p) args [] q => if !(plainN x && glB s.sc x && args.all noStar) then .bad else
    if x = "range" then (if decide (1 ≤ args.length) && decide (args.length ≤ 3) then .rng (listE (args.map ce)) else .bad)
    else if x = "zip" then (match args, tg with
      | [a, b], .Tuple _ _ _ => .zip (ce a) (ce b)
      | _, _ => .bad)
    else if x = "enumerate" then (match args, tg with
      | [a], .Tuple _ _ _ => .enu (ce a)
      | _, _ => .bad)
    else .sq (ce iter)
  | _ => .sq (ce iter)
/-- a list comprehension -/
def blkX (s : Sx) (scope : Scope) : Sx := ⟨s.N, L2.relS scope s.sc, scope, s.td, s.ml⟩
def compL (ce : Sx → Expr → E) (n : Nat) (s : Sx) (elt tg iter : Expr) (ifs : List Expr) (scope : Scope) : E :=
  if !(L2.blkC s.N s.sc scope (ownOf s.N scope) && noSet iter && (slotsT (compT (blkX s scope) n tg)).all (fun i => ((ownOf s.N scope).map (·.2)).contains i) && decide (ifs.length ≤ 1) && ifs.all noIf) then .bad else
    .lc ((ownOf s.N scope).map (·.2)) (compT (blkX s scope) n tg) (compI (ce s) s tg iter) (listE (ifs.map (ce (blkX s scope)))) (ce (blkX s scope) elt)
def aggE (b : B) : E → E
  | .lc own t it c e => .agg b (.lc own t it c e)
  | _ => .bad
/-! ### names -/
def locN (sc : Scope) : List Str := sc.names.filterMap fun y => match y.2 with
  | .local => some y.1
  | .cell => some y.1
  | _ => none
def dedS : List Str → List Str → List Str
  | [], acc => acc.reverse
  | x :: r, acc => if acc.any (fun y => decide (y = x)) then dedS r acc else dedS r (x :: acc)
def optL {α : Type} : Option α → List α
  | none => []
  | some a => [a]
/-- the names that the comprehensions in an expression bind -/
def lnE : Nat → Expr → List Str
  | 0, _ => []
  | n + 1, e => match e with
    | .BoolOp _ es _ => es.flatMap (lnE n)
    | .BinOp a _ b _ => lnE n a ++ lnE n b
    | .UnaryOp _ a _ => lnE n a
    | .Lambda _ b sc _ => locN sc ++ lnE n b
    | .IfExp a b c _ => lnE n a ++ lnE n b ++ lnE n c
    | .Dict ks vs _ => (ks.flatMap optL).flatMap (lnE n) ++ vs.flatMap (lnE n)
    | .ListComp e gs sc _ => locN sc ++ lnE n e ++ gs.flatMap fun g => lnE n g.iter ++ g.ifs.flatMap (lnE n)
    | .Compare a _ bs _ => lnE n a ++ bs.flatMap (lnE n)
    | .Call f as _ _ => lnE n f ++ as.flatMap (lnE n)
    | .Attribute a _ _ => lnE n a
    | .Subscript a b _ => lnE n a ++ lnE n b
    | .List es _ => es.flatMap (lnE n)
    | .Tuple es _ _ => es.flatMap (lnE n)
    | .Slice a b c _ => (optL a ++ optL b ++ optL c).flatMap (lnE n)
    | _ => []
def parN (a : Arguments) : List Str := a.args.map (·.arg)
/-- a def's text is plain -/
def plainA (a : Arguments) : Bool := a.posonlyargs.isEmpty && a.vararg.isNone && a.kwonlyargs.isEmpty && a.kwarg.isNone
def ndS : List Str → Bool
  | [] => true
  | x :: r => !(r.any fun y => decide (y = x)) && ndS r
def scopeB (N P : List Str) (sc : Scope) : Bool := decide (sc.kind = .function) && !sc.isCoroutine && !sc.isGenerator && ndS N && decide (N.take P.length = P) && (P.all fun x => locB sc x) && (sc.names.all fun y => !decide (y.2 = .free))
/-- a lambda that captures nothing -/
def sxL (params : Arguments) (scope : Scope) (body : Expr) : Sx := ⟨dedS (parN params ++ locN scope ++ lnE 40 body) [], scope, scope, false, false⟩
def lamB (params : Arguments) (scope : Scope) (body : Expr) : Bool := plainA params && params.defaults.isEmpty && params.kw_defaults.isEmpty && scopeB (sxL params scope body).N (parN params) scope && scope.names.all fun y => !decide (y.2 = .cell)
/-- a lambda of no parameter that is handed on -/
def thkB (sc : Scope) (params : Arguments) (scope : Scope) : Bool := plainA params && params.args.isEmpty && params.defaults.isEmpty && params.kw_defaults.isEmpty && LamX.lamSB sc scope
/-- [::-1] -/
def revIx : Expr → Bool
  | .Slice none none (some (.UnaryOp .USub (.Constant (.int i) _ _) _)) _ => decide (i = 1)
  | _ => false
theorem revIx_eq {i : Expr} (h : revIx i = true) : ∃ j p1 p2 p3, i = .Slice none none (some (.UnaryOp .USub (.Constant (.int 1) j p1) p2)) p3 := by
  unfold revIx at h
  split at h
  · have e := of_decide_eq_true h
    subst e
    exact ⟨_, _, _, _, rfl⟩
  · cases h
def noLam : List Expr → Bool
  | [.Lambda _ _ _ _] => false
  | _ => true
def compE (G : Nm) : Nat → Sx → Expr → E
  | 0, _, _ => .bad
  | n + 1, s, e => match e with
    | .Name x _ => if !plainN x then .bad else if visB s.sc x then (match idxS x s.N with | some i => .v i | none => .bad)
      else if glB s.sc x then (match G.consts.lookup x with
        | some i => .int i
        | none => (match idxF x G.fns with | some f => .fnv f | none => .bad))
      else .bad
    | .Constant c _ _ => (match c with
      | .none => .non
      | .bool b => .bl b
      | .int i => .int i
      | .str x => .str x
      | _ => .bad)
    | .BinOp a o b _ => .bin o (compE G n s a) (compE G n s b)
    | .UnaryOp .USub a _ => .neg (compE G n s a)
    | .UnaryOp .Not a _ => if noIf a then .not (compE G n s a) else .bad
    | .Compare a [o] [b] _ => if behindInMarks o b then .bad else .cmp o (compE G n s a) (compE G n s b)
    | .Compare a [o, o'] [b, c] _ => if lastMarks [o, o'] [b, c] then .bad else .chn o o' (compE G n s a) (compE G n s b) (compE G n s c)
    | .BoolOp .And es _ => if es.all noIf then andE (es.map (compE G n s)) else .bad
    | .BoolOp .Or es _ => if es.all noIf then orE (es.map (compE G n s)) else .bad
    | .IfExp c a b _ => if noIf c then .ife (compE G n s c) (compE G n s a) (compE G n s b) else .bad
    | .Tuple es _ _ => if es.all noStar then .tup (listE (es.map (compE G n s))) else .bad
    | .List es _ => if es.all noStar then .lst (listE (es.map (compE G n s))) else .bad
    | .Dict [] [] _ => .dnew s.td
    | .Subscript a (.Slice lo hi none _) _ => .sli (compE G n s a) (match lo with | none => .nil | some x => .cons (compE G n s x) .nil) (match hi with | none => .nil | some x => .cons (compE G n s x) .nil)
    | .Subscript a i _ => if noSlice i then .idx (compE G n s a) (compE G n s i) else if revIx i then .rev (compE G n s a) else .bad
    | .Attribute o f _ => if noSuper o then (match idxS f G.flds with | some k => .fld (compE G n s o) k | none => .bad) else .bad
    | .Lambda params body scope _ => if s.ml && lamB params scope body then .lam (parN params).length (sxL params scope body).N.length (compE G n (sxL params scope body) body) else .bad
    | .Call (.Name x _) args [] _ => if !(plainN x && args.all noStar) then .bad else
      if visB s.sc x then (match idxS x s.N, args with
        | some i, _ :: _ => .calv i (listE (args.map (compE G n s)))
        | _, _ => .bad) else
      if !(glB s.sc x) then .bad else
      (match idxF x G.fns with
      | some f => (match args with
        | [.Lambda params body scope _] => if s.ml && thkB s.sc params scope then .thk f (compE G n ⟨s.N, scope, scope, s.td, false⟩ body) else .bad
        | args => .cal f (listE (args.map (compE G n s))))
      | none => match idxS x G.cls with
        | some c => .mk c (listE (args.map (compE G n s)))
        | none => if x = "isinstance" then (match args with
            | [a, .Name y _] => (match clOf G y with
              | some c => if plainN y && glB s.sc y then .isi (compE G n s a) c else .bad
              | none => .bad)
            | _ => .bad)
          else match bltOf x with
            | some b => (match args with
              | [] => .bad
              | [.ListComp elt [⟨tg, iter, ifs, isa⟩] scope p] => if aggOk b then (if isa = 0 then aggE b (compL (compE G n) n s elt tg iter ifs scope) else .bad) else .blt b (.cons (compE G n s (.ListComp elt [⟨tg, iter, ifs, isa⟩] scope p)) .nil)
              | args => .blt b (listE (args.map (compE G n s))))
            | none => .bad)
    | .Call (.Attribute o m apos) args [] cpos => if !(noSuper o && args.all noStar && (apos.endLine == cpos.line) && decide (args.length < 20)) then .bad else
      (match idxS m G.mets with
      | some mi => .mth mi (compE G n s o) (listE (args.map (compE G n s)))
      | none => match bmOf m with
        | some b => .bm b (compE G n s o) (listE (args.map (compE G n s)))
        | none => .bad)
    | .ListComp elt [⟨tg, iter, ifs, isa⟩] scope _ => if isa = 0 then compL (compE G n) n s elt tg iter ifs scope else .bad
    | _ => .bad

/-- all targets are plain names, two or more -/
def namesOf (s : Sx) : List Expr → Option (List Nat)
  | [] => some []
  | .Name x _ :: r => if locB s.tsc x && plainN x then (match idxS x s.N, namesOf s r with
    | some i, some is => some (i :: is)
    | _, _ => none) else none
  | _ :: _ => none
def ndupN : List Nat → Bool
  | [] => true
  | a :: r => !(r.contains a) && ndupN r
/-- no store order that the model leaves open -/
def parOk (vs : List Expr) : Bool := vs.all (PySem.foldedForSure 8) || !(vs.all (PySem.constantsAlone 8))
/-- X('..') -/
def raiseOf (v : Option Expr) : Option Str := match v with
  | some (.Call (.Name x _) [.Constant (.str _) _ _] [] _) => some x
  | _ => none
theorem raiseOf_eq {v : Option Expr} {x : Str} (h : raiseOf v = some x) : ∃ px m j p2 pc, v = some (.Call (.Name x px) [.Constant (.str m) j p2] [] pc) := by
  unfold raiseOf at h
  split at h
  · cases h; exact ⟨_, _, _, _, _, rfl⟩
  · cases h
def isCall : Expr → Bool
  | .Call _ _ _ _ => true
  | _ => false
/-- the suite of an except clause that binds the name er -/
def compXE (G : Nm) (s : Sx) (er : Str) : Nat → Expr → E
  | 0, _ => .bad
  | n + 1, e => match e with
    | .Name x _ => if !plainN x || decide (x = er) then .bad else if visB s.sc x then (match idxS x s.N with | some i => .v i | none => .bad) else .bad
    | .Constant c _ _ => (match c with
      | .bool b => .bl b
      | .str x => .str x
      | _ => .bad)
    | .BinOp a .Add b _ => .bin .Add (compXE G s er n a) (compXE G s er n b)
    | .UnaryOp .Not a _ => .not (compXE G s er n a)
    | .BoolOp .And [a, b] _ => .and (compXE G s er n a) (compXE G s er n b)
    | .List es _ => if es.all noStar then .lst (listE (es.map (compXE G s er n))) else .bad
    | .Call (.Name f _) [.Name x _, .Name y _] [] _ => if decide (f = "isinstance") && decide (x = er) && glB s.sc f && glB s.sc y && plainN y && plainN x then
        (match idxS y G.exs with
        | some d => .isx d
        | none => if y = "ValueError" then .isx G.exs.length else .bad) else .bad
    | _ => .bad
def compXS (G : Nm) (s : Sx) (er : Str) : Nat → Stmt → S
  | 0, _ => .bad
  | n + 1, st => match st with
    | .Assign [.Name x _] e _ => if locB s.tsc x && plainN x && !decide (x = er) && noComp e then (match idxS x s.N with | some i => .asg i (compXE G s er n e) | none => .bad) else .bad
    | .If c a [] _ => if isCall c then .ife (compXE G s er n c) (seqS (a.map (compXS G s er n))) .nil else .bad
    | _ => .bad
def compS (G : Nm) : Nat → Sx → Stmt → S
  | 0, _, _ => .bad
  | n + 1, s, st => match st with
    | .Pass _ => .pas
    | .Break _ => .brk
    | .Continue _ => .cnt
    | .Expr e _ => if noComp e then .exp (compE G n s e) else .bad
    | .Return (some e) _ => .ret (compE G n s e)
    | .Return none _ => .ret .non
    | .Assign [.Name x _] e _ => if locB s.tsc x && plainN x then (match idxS x s.N with | some i => .asg i (compE G n s e) | none => .bad) else .bad
    | .Assign [.Tuple ts _ _] (.Tuple vs _ _) _ => if ts.all noStar && vs.all noStar && decide (ts.length = vs.length) && parOk vs && decide (vs.length < 1000) then (match namesOf s ts with
        | some is => if ndupN is then .par is (listE (vs.map (compE G n s))) else .bad
        | none => .bad)
      else .bad
    | .Assign [.Tuple ts _ _] e _ => if ts.all noStar && noComp e then .unp (.tup (listE (ts.map (compT s n)))) (compE G n s e) else .bad
    | .Assign [.Subscript o i _] e _ => if noSlice i && noComp e then .sub (compE G n s o) (compE G n s i) (compE G n s e) else .bad
    | .Assign [.Attribute o f _] e _ => (match idxS f G.flds with | some k => .stf (compE G n s o) k (compE G n s e) | none => .bad)
    | .AugAssign (.Name x _) o e _ => if locB s.tsc x && plainN x then (match idxS x s.N with | some i => .aug i o (compE G n s e) | none => .bad) else .bad
    | .If c a b _ => if !noIf c then .bad else .ife (compE G n s c) (seqS (a.map (compS G n s))) (seqS (b.map (compS G n s)))
    | .While c b [] _ => if !noIf c then .bad else .whl (compE G n s c) (seqS (b.map (compS G n s)))
    | .For tg it b [] _ => if noSet it then .forS (compT s n tg) (compI (compE G n s) s tg it) (seqS (b.map (compS G n s))) else .bad
    | .Raise v none _ => (match raiseOf v with
      | some x => if plainN x && glB s.sc x then (match idxS x G.exs with | some c => .rai c | none => .bad) else .bad
      | none => .bad)
    | _ => .bad
def lnS : Nat → Stmt → List Str
  | 0, _ => []
  | n + 1, st => match st with
    | .Return v _ => (optL v).flatMap (lnE n)
    | .Assign ts v _ => ts.flatMap (lnE n) ++ lnE n v
    | .AugAssign _ _ v _ => lnE n v
    | .For _ it b _ _ => lnE n it ++ b.flatMap (lnS n)
    | .While c b _ _ => lnE n c ++ b.flatMap (lnS n)
    | .If c a b _ => lnE n c ++ a.flatMap (lnS n) ++ b.flatMap (lnS n)
    | .Try b hs _ _ _ => b.flatMap (lnS n) ++ hs.flatMap fun h => match h with
      | .ExceptHandler _ _ s _ => s.flatMap (lnS n)
    | .Expr e _ => lnE n e
    | _ => []
def slotN (d : He.DefD) : List Str := dedS (parN d.params ++ locN d.scope ++ d.body.flatMap (lnS 40)) []
def sxOf (G : Nm) (d : He.DefD) : Sx := ⟨slotN d, d.scope, d.scope, G.tds.any (fun x => decide (x = d.name)), G.mkrs.any (fun p => decide (p.1 = d.at_))⟩
def fnI (G : Nm) (d : He.DefD) : FnI := ⟨(parN d.params).length, (slotN d).length, seqS (d.body.map (compS G 40 (sxOf G d)))⟩
def defB (d : He.DefD) : Bool := plainA d.params && d.dfl.isEmpty && d.kwd.isEmpty && scopeB (slotN d) (parN d.params) d.scope
def constE : Expr → Option E
  | .List [] _ => some (.lst .nil)
  | .Constant (.bool b) _ _ => some (.bl b)
  | .Constant (.str x) _ _ => some (.str x)
  | _ => none
/-- x = e0; try: a() except c as i: s; return y -/
def tkOf (G : Nm) (d : He.DefD) : Option TkI := match d.body with
  | [.Assign [.Name y _] e1 _, .Try [.Expr (.Call (.Name a _) [] [] _) _] [.ExceptHandler (some (.Name x _)) (some er) (s0 :: suite) _] [] [] _, .Return (some (.Name y2 _)) _] =>
    (match constE e1, idxS y (slotN d), idxS x G.exs, idxS er (slotN d), idxS y2 (slotN d) with
    | some e0, some iy, some c, some ie, some iy2 =>
      if decide (parN d.params = [a]) && locB d.scope y && plainN y && visB d.scope a && plainN a && plainN x && glB d.scope x && decide (d.scope.names.lookup er = some .local) && visB d.scope y2 && plainN y2 && !decide (iy = ie) && !decide (iy = 0) && !decide (ie = 0) then
        some ⟨(slotN d).length, iy, e0, c, ie, seqS ((s0 :: suite).map (compXS G (sxOf G d) er 40)), iy2⟩ else none
    | _, _, _, _, _ => none)
  | _ => none
end WL

/-! how the machine's state stands for the model's -/
namespace WL
open PySem PySem.Spec PyProof.Rows L2
abbrev St := L2.St
section
variable (G : Nm) (K : PySem.W.Frag)
def cA (c : Nat) : Addr := match G.cls[c]? with | some x => He.ga K x | none => 0
def xA (c : Nat) : Addr := match G.exs[c]? with | some x => He.ga K x | none => 0
def fA (f : Nat) : Addr := match G.fns[f]? with | some p => He.fAd K p | none => 0
/-- the object at f is the lambda L; its code object at c -/
def LamO (f : Addr) (L : LamT) (c : Addr) : HO := .ext fun h => ∃ pm ctv, h.get? f = some (PySem.W.kla_obj "<lambda>" L.qual L.params L.body L.scope [] pm c ctv)
/-- b is what the machine makes of L's body -/
structure CodOk (L : LamT) (np ns : Nat) (b : E) : Prop where
  ok : lamB L.params L.scope L.body = true
  np : np = (parN L.params).length
  ns : ns = (sxL L.params L.scope L.body).N.length
  b : ∃ n, b = compE G n (sxL L.params L.scope L.body) L.body
/-- the tables of the defs that make lambdas -/
def tabL : List (Addr × Str) := G.mkrs.map fun p => ((He.cT K p.1).2, p.2)
/-- what may be written -/
def Mt : Option HO → Prop
  | some (.lst _) => True
  | some (.dK _) => True
  | some (.dT _) => True
  | some (.ins _ _ _) => True
  | _ => False
mutual
def RV (r : List Addr) (H : Hp) : W → V → Prop
  | .non, v => v = .non
  | .bl b, v => v = .bl b
  | .int i, v => v = .int i
  | .str x, v => v = .str x
  | .tup l, v => ∃ a vs, v = .ref a ∧ H a = some (.tup vs) ∧ RVs r H l vs
  | .ref n, v => ∃ a, v = .ref a ∧ r[n]? = some a
  | .scr l, v => ∃ a, v = .ref a ∧ ((∃ o, H a = some (.frz o (.lst (l.map V.int)))) ∨ ∃ (o : Obj) (its : Array Value) (n : Nat), K.lookup a = some o ∧ o.cls = .type "list" ∧ o.dict = none ∧ o.data = .seq its n ∧ its.size ≤ sizeLine ∧ Vals (l.map V.int) its.toList)
  | .fn f, v => f < G.fns.length ∧ v = .ref (fA G K f)
  | .cod np ns b, v => ∃ a L c, v = .ref a ∧ H a = some (LamO a L c) ∧ H c = some (LamX.CodeO c L.qual) ∧ CodOk G L np ns b
def RVs (r : List Addr) (H : Hp) : List W → List V → Prop
  | [], vs => vs = []
  | w :: ws, vs => ∃ v rest, vs = v :: rest ∧ RV r H w v ∧ RVs r H ws rest
end
/-- what was, is: for values -/
structure Ext0 (r : List Addr) (H : Hp) (r' : List Addr) (H' : Hp) : Prop where
  rho : ∀ (n : Nat) (a : Addr), r[n]? = some a → r'[n]? = some a
  tup : ∀ a xs, H a = some (.tup xs) → H' a = some (.tup xs)
  frz : ∀ a o u, H a = some (.frz o u) → H' a = some (.frz o u)
  ext : ∀ a u, H a = some (.ext u) → H' a = some (.ext u)
/-- what the machine does not know stays as it is; what is new was free -/
structure Ext (r : List Addr) (H : Hp) (r' : List Addr) (H' : Hp) : Prop extends Ext0 r H r' H' where
  keep : ∀ a o, H a = some o → (∀ n : Nat, r[n]? ≠ some a) → (∀ ps, o ≠ .tbl ps) → H' a = some o
  fresh : ∀ (n : Nat) (a : Addr), r'[n]? = some a → (∃ m : Nat, r[m]? = some a) ∨ H a = none
  stay : ∀ a o, H a = some o → ∃ o', H' a = some o'
def RK (r : List Addr) (H : Hp) : List (Int × W) → List (Key × V) → Prop
  | [], kvs => kvs = []
  | (k, w) :: l, kvs => ∃ v rest, kvs = (Sum.inl k, v) :: rest ∧ RV G K r H w v ∧ RK r H l rest
def RT (r : List Addr) (H : Hp) : List (List Int × W) → List (List Key × V) → Prop
  | [], kvs => kvs = []
  | (k, w) :: l, kvs => ∃ v rest, kvs = (k.map Sum.inl, v) :: rest ∧ RV G K r H w v ∧ RT r H l rest
def RFd (r : List Addr) (H : Hp) : List (Nat × W) → List (Str × V) → Prop
  | [], kvs => kvs = []
  | (k, w) :: l, kvs => ∃ x v rest, G.flds[k]? = some x ∧ kvs = (x, v) :: rest ∧ RV G K r H w v ∧ RFd r H l rest
def RO (r : List Addr) (H : Hp) (a : Addr) : O → Prop
  | .lst l => ∃ vs, H a = some (.lst vs) ∧ RVs G K r H l vs
  | .dK l => ∃ kvs, H a = some (.dK kvs) ∧ RK G K r H l kvs
  | .dT l => ∃ kvs, H a = some (.dT kvs) ∧ RT G K r H l kvs
  | .ins c fs => ∃ dx fs', H a = some (.ins (cA G K c) dx fs') ∧ RFd G K r H fs fs' ∧ c < G.cls.length
structure RelH (r : List Addr) (h : Hm) (H : Hp) : Prop where
  len : r.length = h.length
  inj : ∀ (i j : Nat) (a : Addr), r[i]? = some a → r[j]? = some a → i = j
  obj : ∀ (n : Nat) (a : Addr) (o : O), r[n]? = some a → h[n]? = some o → RO G K r H a o
  tabs : LamX.Tabs (tabL G K) H
structure RelS (r : List Addr) (f : F) (h : Hm) (σ : St) (H : Hp) : Prop where
  heap : RelH G K r h H
  fr : ∀ (i : Nat) (w : W), f[i]? = some (some w) → ∃ v, σ[i]? = some (some v) ∧ RV G K r H w v
  len : f.length = σ.length
end
section
variable {G : Nm} {K : PySem.W.Frag} {r r' r'' : List Addr} {H H' H'' : Hp}
theorem Ext.refl : Ext r H r H := ⟨⟨fun _ _ h => h, fun _ _ h => h, fun _ _ _ h => h, fun _ _ h => h⟩, fun _ _ h _ _ => h, fun n a h => .inl ⟨n, h⟩, fun _ o h => ⟨o, h⟩⟩
theorem Ext.trans (a : Ext r H r' H') (b : Ext r' H' r'' H'') : Ext r H r'' H'' := by
  refine ⟨⟨fun n x h => b.rho n x (a.rho n x h), fun x xs h => b.tup x xs (a.tup x xs h), fun x o u h => b.frz x o u (a.frz x o u h), fun x u h => b.ext x u (a.ext x u h)⟩, fun x o h hn ht => ?_, fun n x h => ?_, fun x o h => ?_⟩
  · refine b.keep x o (a.keep x o h hn ht) (fun n hx => ?_) ht
    rcases a.fresh n x hx with ⟨m, hm⟩ | z
    · exact hn m hm
    · rw [h] at z; cases z
  · rcases b.fresh n x h with ⟨m, hm⟩ | z
    · exact a.fresh m x hm
    · cases q : H x with
      | none => exact .inr rfl
      | some o =>
        obtain ⟨o', h'⟩ := a.stay x o q
        rw [z] at h'; cases h'
  · obtain ⟨o', h'⟩ := a.stay x o h
    exact b.stay x o' h'
mutual
theorem RV.ext0 (e : Ext0 r H r' H') : ∀ {w : W} {v : V}, RV G K r H w v → RV G K r' H' w v
  | .non, _, h => h
  | .bl _, _, h => h
  | .int _, _, h => h
  | .str _, _, h => h
  | .tup l, _, h => by
    obtain ⟨a, vs, h1, h2, h3⟩ := h
    exact ⟨a, vs, h1, e.tup a vs h2, RVs.ext0 e h3⟩
  | .ref n, _, h => by
    obtain ⟨a, h1, h2⟩ := h
    exact ⟨a, h1, e.rho n a h2⟩
  | .scr l, _, h => by
    obtain ⟨a, h1, h2⟩ := h
    rcases h2 with ⟨o, h2⟩ | h2
    · exact ⟨a, h1, .inl ⟨o, e.frz _ _ _ h2⟩⟩
    · exact ⟨a, h1, .inr h2⟩
  | .fn f, _, h => h
  | .cod np ns b, _, h => by
    obtain ⟨a, L, c, h1, h2, h3, h4⟩ := h
    exact ⟨a, L, c, h1, e.ext _ _ h2, e.ext _ _ h3, h4⟩
theorem RVs.ext0 (e : Ext0 r H r' H') : ∀ {ws : List W} {vs : List V}, RVs G K r H ws vs → RVs G K r' H' ws vs
  | [], _, h => h
  | w :: ws, _, h => by
    obtain ⟨v, rest, h1, h2, h3⟩ := h
    exact ⟨v, rest, h1, RV.ext0 e h2, RVs.ext0 e h3⟩
end
theorem RV.ext (e : Ext r H r' H') {w : W} {v : V} (q : RV G K r H w v) : RV G K r' H' w v := RV.ext0 e.toExt0 q
theorem RVs.ext (e : Ext r H r' H') {w : List W} {v : List V} (q : RVs G K r H w v) : RVs G K r' H' w v := RVs.ext0 e.toExt0 q
theorem RVs.length : ∀ {ws : List W} {vs : List V}, RVs G K r H ws vs → vs.length = ws.length
  | [], _, h => by rw [show _ = [] from h]; rfl
  | w :: ws, _, h => by
    obtain ⟨v, rest, rfl, _, h3⟩ := h
    rw [List.length_cons, List.length_cons, RVs.length h3]
theorem RVs.app : ∀ {ws ws' : List W} {vs vs' : List V}, RVs G K r H ws vs → RVs G K r H ws' vs' → RVs G K r H (ws ++ ws') (vs ++ vs')
  | [], _, _, _, h, h' => by rw [show _ = [] from h]; exact h'
  | w :: ws, _, _, _, h, h' => by
    obtain ⟨v, rest, rfl, h2, h3⟩ := h
    exact ⟨v, rest ++ _, rfl, h2, RVs.app h3 h'⟩
theorem RVs.get : ∀ {ws : List W} {vs : List V} {i : Nat} {w : W}, RVs G K r H ws vs → ws[i]? = some w → ∃ v, vs[i]? = some v ∧ RV G K r H w v
  | [], _, _, _, _, e => by simp at e
  | x :: ws, _, 0, w, h, e => by
    obtain ⟨v, rest, rfl, h2, h3⟩ := h
    simp at e
    subst e
    exact ⟨v, rfl, h2⟩
  | x :: ws, _, i + 1, w, h, e => by
    obtain ⟨v, rest, rfl, h2, h3⟩ := h
    obtain ⟨u, h4, h5⟩ := RVs.get (i := i) (w := w) h3 (by simpa using e)
    exact ⟨u, by simpa using h4, h5⟩
theorem RVs.set {w : W} {v : V} (hw : RV G K r H w v) : ∀ {ws : List W} {vs : List V} (i : Nat), RVs G K r H ws vs → RVs G K r H (ws.set i w) (vs.set i v)
  | [], _, _, h => by rw [show _ = [] from h]; rfl
  | x :: ws, _, 0, h => by
    obtain ⟨u, rest, rfl, h2, h3⟩ := h
    exact ⟨v, rest, rfl, hw, h3⟩
  | x :: ws, _, i + 1, h => by
    obtain ⟨u, rest, rfl, h2, h3⟩ := h
    exact ⟨u, rest.set i v, rfl, h2, RVs.set hw i h3⟩
theorem RVs.take : ∀ {ws : List W} {vs : List V} (n : Nat), RVs G K r H ws vs → RVs G K r H (ws.take n) (vs.take n)
  | [], _, n, h => by rw [show _ = [] from h]; simp; rfl
  | x :: ws, _, 0, h => by simp; rfl
  | x :: ws, _, n + 1, h => by
    obtain ⟨u, rest, rfl, h2, h3⟩ := h
    exact ⟨u, rest.take n, rfl, h2, RVs.take n h3⟩
theorem RVs.drop : ∀ {ws : List W} {vs : List V} (n : Nat), RVs G K r H ws vs → RVs G K r H (ws.drop n) (vs.drop n)
  | [], _, n, h => by rw [show _ = [] from h]; simp; rfl
  | x :: ws, _, 0, h => h
  | x :: ws, _, n + 1, h => by
    obtain ⟨u, rest, rfl, h2, h3⟩ := h
    exact RVs.drop n h3
theorem RVs.ofInts : ∀ {ws : List W} {vs : List V} {ns : List Int}, RVs G K r H ws vs → intsOf ws = some ns → vs = ns.map V.int
  | [], _, ns, h, e => by
    rw [show _ = [] from h]
    simp [intsOf] at e
    subst e; rfl
  | .int i :: ws, _, ns, h, e => by
    obtain ⟨u, rest, rfl, h2, h3⟩ := h
    simp only [intsOf] at e
    cases q : intsOf ws with
    | none => rw [q] at e; cases e
    | some l =>
      rw [q] at e
      cases e
      rw [RVs.ofInts h3 q, show u = .int i from h2]
      rfl
  | .non :: _, _, _, _, e => by cases e
  | .bl _ :: _, _, _, _, e => by cases e
  | .str _ :: _, _, _, _, e => by cases e
  | .tup _ :: _, _, _, _, e => by cases e
  | .ref _ :: _, _, _, _, e => by cases e
  | .scr _ :: _, _, _, _, e => by cases e
  | .fn _ :: _, _, _, _, e => by cases e
  | .cod _ _ _ :: _, _, _, _, e => by cases e
theorem RVs.ofBls : ∀ {ws : List W} {vs : List V} {ns : List Bool}, RVs G K r H ws vs → bls ws = some ns → vs = ns.map V.bl
  | [], _, ns, h, e => by
    rw [show _ = [] from h]
    simp [bls] at e
    subst e; rfl
  | .bl i :: ws, _, ns, h, e => by
    obtain ⟨u, rest, rfl, h2, h3⟩ := h
    simp only [bls] at e
    cases q : bls ws with
    | none => rw [q] at e; cases e
    | some l =>
      rw [q] at e
      cases e
      rw [RVs.ofBls h3 q, show u = .bl i from h2]
      rfl
  | .non :: _, _, _, _, e => by cases e
  | .int _ :: _, _, _, _, e => by cases e
  | .str _ :: _, _, _, _, e => by cases e
  | .tup _ :: _, _, _, _, e => by cases e
  | .ref _ :: _, _, _, _, e => by cases e
  | .scr _ :: _, _, _, _, e => by cases e
  | .fn _ :: _, _, _, _, e => by cases e
  | .cod _ _ _ :: _, _, _, _, e => by cases e
theorem RVs.ints : ∀ (ns : List Int), RVs G K r H (ns.map W.int) (ns.map V.int)
  | [] => rfl
  | n :: ns => ⟨_, _, rfl, rfl, RVs.ints ns⟩
theorem RVs.snoc {ws : List W} {vs : List V} {w : W} {v : V} (h : RVs G K r H ws vs) (hw : RV G K r H w v) : RVs G K r H (ws ++ [w]) (vs ++ [v]) :=
  h.app ⟨v, [], rfl, hw, rfl⟩
theorem RK.ext0 (e : Ext0 r H r' H') : ∀ {l : List (Int × W)} {kvs : List (Key × V)}, RK G K r H l kvs → RK G K r' H' l kvs
  | [], _, h => h
  | (k, w) :: l, _, h => by
    obtain ⟨v, rest, h1, h2, h3⟩ := h
    exact ⟨v, rest, h1, h2.ext0 e, RK.ext0 e h3⟩
theorem RT.ext0 (e : Ext0 r H r' H') : ∀ {l : List (List Int × W)} {kvs : List (List Key × V)}, RT G K r H l kvs → RT G K r' H' l kvs
  | [], _, h => h
  | (k, w) :: l, _, h => by
    obtain ⟨v, rest, h1, h2, h3⟩ := h
    exact ⟨v, rest, h1, h2.ext0 e, RT.ext0 e h3⟩
theorem RFd.ext0 (e : Ext0 r H r' H') : ∀ {l : List (Nat × W)} {kvs : List (Str × V)}, RFd G K r H l kvs → RFd G K r' H' l kvs
  | [], _, h => h
  | (k, w) :: l, _, h => by
    obtain ⟨x, v, rest, h0, h1, h2, h3⟩ := h
    exact ⟨x, v, rest, h0, h1, h2.ext0 e, RFd.ext0 e h3⟩
/-- an object that still stands -/
theorem RO.ext0 (e : Ext0 r H r' H') {a : Addr} (s : H' a = H a) : ∀ {o : O}, RO G K r H a o → RO G K r' H' a o
  | .lst l, h => by obtain ⟨vs, h1, h2⟩ := h; exact ⟨vs, s.trans h1, h2.ext0 e⟩
  | .dK l, h => by obtain ⟨vs, h1, h2⟩ := h; exact ⟨vs, s.trans h1, h2.ext0 e⟩
  | .dT l, h => by obtain ⟨vs, h1, h2⟩ := h; exact ⟨vs, s.trans h1, h2.ext0 e⟩
  | .ins c fs, h => by obtain ⟨dx, vs, h1, h2, h3⟩ := h; exact ⟨dx, vs, s.trans h1, h2.ext0 e, h3⟩
theorem RO.some {a : Addr} : ∀ {o : O}, RO G K r H a o → ∃ u, H a = some u ∧ Mt (some u)
  | .lst l, h => by obtain ⟨vs, h1, h2⟩ := h; exact ⟨_, h1, trivial⟩
  | .dK l, h => by obtain ⟨vs, h1, h2⟩ := h; exact ⟨_, h1, trivial⟩
  | .dT l, h => by obtain ⟨vs, h1, h2⟩ := h; exact ⟨_, h1, trivial⟩
  | .ins c fs, h => by obtain ⟨dx, vs, h1, h2⟩ := h; exact ⟨_, h1, trivial⟩
theorem RO.ext (e : Ext r H r' H') {a : Addr} (s : H' a = H a) {o : O} (q : RO G K r H a o) : RO G K r' H' a o := RO.ext0 e.toExt0 s q
theorem Ext.new {p : Addr} {ho : HO} (hp : H p = none) : Ext r H r (upd H p ho) :=
  ⟨⟨fun _ _ h => h, fun a xs h => by rw [upd_ne (ne_of_none h hp)]; exact h, fun a o u h => by rw [upd_ne (ne_of_none h hp)]; exact h, fun a u h => by rw [upd_ne (ne_of_none h hp)]; exact h⟩, fun a o h _ _ => by rw [upd_ne (ne_of_none h hp)]; exact h, fun n a h => .inl ⟨n, h⟩, fun a o h => ⟨o, by rw [upd_ne (ne_of_none h hp)]; exact h⟩⟩
theorem stay_upd {p : Addr} {ho o : HO} {a : Addr} (h : H a = some o) : ∃ o', upd H p ho a = some o' := by
  by_cases e : a = p
  · exact ⟨ho, by rw [e, upd_same]⟩
  · exact ⟨o, by rw [upd_ne e]; exact h⟩
theorem Ext0.put {p : Addr} {u ho : HO} (hp : H p = some u) (hm : Mt (some u)) : Ext0 r H r (upd H p ho) := by
  refine ⟨fun _ _ h => h, fun a xs h => ?_, fun a o u' h => ?_, fun a u' h => ?_⟩
  · rw [upd_ne]; exact h
    rintro rfl; rw [hp] at h; cases h; exact hm
  · rw [upd_ne]; exact h
    rintro rfl; rw [hp] at h; cases h; exact hm
  · rw [upd_ne]; exact h
    rintro rfl; rw [hp] at h; cases h; exact hm
theorem Ext.put {n : Nat} {p : Addr} {u ho : HO} (hn : r[n]? = some p) (hp : H p = some u) (hm : Mt (some u)) : Ext r H r (upd H p ho) :=
  ⟨Ext0.put hp hm, fun a o h z _ => by rw [upd_ne (fun e => z n (by rw [e]; exact hn))]; exact h, fun n a h => .inl ⟨n, h⟩, fun a o h => stay_upd h⟩
theorem Ext.laid {p : Addr} {ho : HO} (hp : H p = none) : Ext r H (r ++ [p]) (upd H p ho) := by
  refine ⟨⟨fun n a h => by rw [List.getElem?_append_left (List.getElem?_eq_some_iff.mp h).1]; exact h, (Ext.new (r := r) hp).tup, (Ext.new (r := r) hp).frz, (Ext.new (r := r) hp).ext⟩, (Ext.new (r := r) hp).keep, fun n a h => ?_, (Ext.new (r := r) hp).stay⟩
  by_cases hl : n < r.length
  · rw [List.getElem?_append_left hl] at h; exact .inl ⟨n, h⟩
  · rw [List.getElem?_append_right (Nat.le_of_not_lt hl)] at h
    have : n - r.length = 0 := by
      have := (List.getElem?_eq_some_iff.mp h).1
      simp at this; omega
    rw [this] at h
    simp at h
    exact .inr (h ▸ hp)
/-- a thing aside that came later is written -/
theorem Ext.side {p : Addr} {ho : HO} (e : Ext r H r' H') (hp : H p = none) : Ext r H r' (upd H' p ho) := by
  refine ⟨⟨e.rho, fun a xs h => ?_, fun a o u h => ?_, fun a u h => ?_⟩, fun a o h hn ht => ?_, e.fresh, fun a o h => ?_⟩
  · rw [upd_ne (ne_of_none h hp)]; exact e.tup a xs h
  · rw [upd_ne (ne_of_none h hp)]; exact e.frz a o u h
  · rw [upd_ne (ne_of_none h hp)]; exact e.ext a u h
  · rw [upd_ne (ne_of_none h hp)]; exact e.keep a o h hn ht
  · obtain ⟨o', h'⟩ := e.stay a o h
    exact stay_upd h'
/-- .. and is taken up -/
theorem Ext.adopt {p : Addr} (e : Ext r H r' H') (hp : H p = none) : Ext r H (r' ++ [p]) H' := by
  refine ⟨⟨fun n a h => ?_, e.tup, e.frz, e.ext⟩, e.keep, fun n a h => ?_, e.stay⟩
  · have h' := e.rho n a h
    rw [List.getElem?_append_left (List.getElem?_eq_some_iff.mp h').1]; exact h'
  · by_cases hl : n < r'.length
    · rw [List.getElem?_append_left hl] at h; exact e.fresh n a h
    · rw [List.getElem?_append_right (Nat.le_of_not_lt hl)] at h
      have : n - r'.length = 0 := by
        have := (List.getElem?_eq_some_iff.mp h).1
        simp at this; omega
      rw [this] at h
      simp at h
      exact .inr (h ▸ hp)
variable {h : Hm}
theorem tabs_put {T : List (Addr × Str)} {p : Addr} {u ho : HO} (t : LamX.Tabs T H) (hp : H p = some u) (hm : Mt (some u)) : LamX.Tabs T (upd H p ho) := fun q hq => by
  obtain ⟨ps, h1, h2, h3⟩ := t q hq
  have n1 : q.1 ≠ p := fun e => by rw [e, hp] at h1; cases h1; exact hm
  refine ⟨ps, by rw [upd_ne n1]; exact h1, h2, fun pos cv hc => ?_⟩
  obtain ⟨c, e1, e2⟩ := h3 pos cv hc
  have n2 : c ≠ p := fun e => by rw [e, hp] at e2; cases e2; exact hm
  exact ⟨c, e1, by rw [upd_ne n2]; exact e2⟩
theorem tabs_new {T : List (Addr × Str)} {p : Addr} {ho : HO} (t : LamX.Tabs T H) (hp : H p = none) : LamX.Tabs T (upd H p ho) := t.ext fun b o e => by rw [upd_ne (ne_of_none e hp)]; exact e
theorem RelH.isAt (R : RelH G K r h H) {n : Nat} {a : Addr} (hn : r[n]? = some a) : ∃ u, H a = some u ∧ Mt (some u) := by
  have hl : n < h.length := R.len ▸ (List.getElem?_eq_some_iff.mp hn).1
  exact (R.obj n a _ hn (List.getElem?_eq_getElem hl)).some
theorem RelH.out (R : RelH G K r h H) {p : Addr} (hp : H p = none) (n : Nat) : r[n]? ≠ some p := fun z => by
  obtain ⟨u, h1, _⟩ := R.isAt z
  rw [hp] at h1; cases h1
/-- a thing that the machine does not know is laid -/
theorem RelH.aside (R : RelH G K r h H) {p : Addr} {ho : HO} (hp : H p = none) : RelH G K r h (upd H p ho) :=
  ⟨R.len, R.inj, fun n a o h1 h2 => (R.obj n a o h1 h2).ext (Ext.new hp) (upd_ne fun e => R.out hp n (e ▸ h1)), tabs_new R.tabs hp⟩
/-- .. is written -/
theorem RelH.aput (R : RelH G K r h H) {p : Addr} {u ho : HO} (hn : ∀ n : Nat, r[n]? ≠ some p) (hp : H p = some u) (hm : Mt (some u)) : RelH G K r h (upd H p ho) :=
  ⟨R.len, R.inj, fun n a o h1 h2 => (R.obj n a o h1 h2).ext0 (Ext0.put hp hm) (upd_ne fun e => hn n (e ▸ h1)), tabs_put R.tabs hp hm⟩
theorem snoc_at {p : Addr} {i : Nat} {a : Addr} (hi : (r ++ [p])[i]? = some a) : r[i]? = some a ∨ (i = r.length ∧ a = p) := by
  by_cases hl : i < r.length
  · rw [List.getElem?_append_left hl] at hi; exact .inl hi
  · rw [List.getElem?_append_right (Nat.le_of_not_lt hl)] at hi
    have : i - r.length = 0 := by
      have := (List.getElem?_eq_some_iff.mp hi).1
      simp at this; omega
    rw [this] at hi
    simp at hi
    exact .inr ⟨by omega, hi.symm⟩
/-- an object that stands is taken up -/
theorem RelH.adopt (R : RelH G K r h H) {p : Addr} {o : O} (hn : ∀ n : Nat, r[n]? ≠ some p) (ro : RO G K r H p o) : RelH G K (r ++ [p]) (h ++ [o]) H := by
  have e1 : Ext0 r H (r ++ [p]) H := ⟨fun n a h => by rw [List.getElem?_append_left (List.getElem?_eq_some_iff.mp h).1]; exact h, fun _ _ h => h, fun _ _ _ h => h, fun _ _ h => h⟩
  refine ⟨by simp [R.len], fun i j a hi hj => ?_, fun n a o' h1 h2 => ?_, R.tabs⟩
  · rcases snoc_at hi with hi | ⟨ei, ea⟩ <;> rcases snoc_at hj with hj | ⟨ej, ea'⟩
    · exact R.inj i j a hi hj
    · exact absurd (ea' ▸ hi) (hn i)
    · exact absurd (ea ▸ hj) (hn j)
    · rw [ei, ej]
  · rcases snoc_at h1 with h1 | ⟨ei, ea⟩
    · have hl : n < h.length := R.len ▸ (List.getElem?_eq_some_iff.mp h1).1
      rw [List.getElem?_append_left hl] at h2
      exact (R.obj n a o' h1 h2).ext0 e1 rfl
    · rw [ei, R.len, List.getElem?_append_right (Nat.le_refl _)] at h2
      simp at h2
      rw [← h2, ea]
      exact ro.ext0 e1 rfl
/-- a new object -/
theorem RelH.laid (R : RelH G K r h H) {p : Addr} {ho : HO} {o : O} (hp : H p = none) (ro : RO G K r (upd H p ho) p o) : RelH G K (r ++ [p]) (h ++ [o]) (upd H p ho) :=
  (R.aside hp).adopt (R.out hp) ro
/-- an object that is written -/
theorem RelH.put (R : RelH G K r h H) {n : Nat} {p : Addr} {ho u : HO} {o : O} (hn : r[n]? = some p) (hp : H p = some u) (hm : Mt (some u)) (ro : RO G K r (upd H p ho) p o) : RelH G K r (h.set n o) (upd H p ho) := by
  have e1 : Ext r H r (upd H p ho) := Ext.put hn hp hm
  refine ⟨by simp [R.len], R.inj, fun i a o' h1 h2 => ?_, tabs_put R.tabs hp hm⟩
  by_cases hi : i = n
  · subst hi
    rw [hn] at h1; cases h1
    have hl : i < h.length := R.len ▸ (List.getElem?_eq_some_iff.mp hn).1
    rw [List.getElem?_set_self hl] at h2
    cases h2
    exact ro
  · rw [List.getElem?_set_ne (Ne.symm hi)] at h2
    exact (R.obj i a o' h1 h2).ext e1 (upd_ne fun z => hi (R.inj i n a h1 (by rw [z]; exact hn)))
theorem RelS.ext0 {f : F} {σ : St} {h' : Hm} (S : RelS G K r f h σ H) (e : Ext0 r H r' H') (R : RelH G K r' h' H') : RelS G K r' f h' σ H' :=
  ⟨R, fun i w hi => let ⟨v, h1, h2⟩ := S.fr i w hi; ⟨v, h1, h2.ext0 e⟩, S.len⟩
theorem RelS.ext {f : F} {σ : St} {h' : Hm} (S : RelS G K r f h σ H) (e : Ext r H r' H') (R : RelH G K r' h' H') : RelS G K r' f h' σ H' :=
  ⟨R, fun i w hi => let ⟨v, h1, h2⟩ := S.fr i w hi; ⟨v, h1, h2.ext e⟩, S.len⟩
end
/-! ### what the machine's answer asks -/
section
variable (G : Nm) (K : PySem.W.Frag)
def PostG {α β : Type} (rel : List Addr → Hp → Hm → α → β → Prop) (Wx : WX) (σ : St) (r : List Addr) (H : Hp) (x : R α) (Q : β → Hp → Prop) : Prop := match x with
  | .ok a h => ∀ r' H' b, Ext r H r' H' → RelH G K r' h H' → rel r' H' h a b → Q b H'
  | .exc c h => ∀ r' H', Ext r H r' H' → RelH G K r' h H' → Wx (.ref (xA G K c)) none σ H'
  | .bad => False
abbrev relW : List Addr → Hp → Hm → W → V → Prop := fun r H _ w v => RV G K r H w v
abbrev relA : List Addr → Hp → Hm → List W → List V → Prop := fun r H _ w v => RVs G K r H w v
abbrev relB : List Addr → Hp → Hm → W → Bool → Prop := fun _ _ _ w b => w = .bl b
abbrev relO : List Addr → Hp → Hm → Option Int → Option Int → Prop := fun _ _ _ w b => w = b
def TmG {α β : Type} (rel : List Addr → Hp → Hm → α → β → Prop) (Wx : WX) (m : F → Hm → R α) : St → Hp → (β → Hp → Prop) → Prop := fun σ H Q => ∃ r f h, RelS G K r f h σ H ∧ PostG G K rel Wx σ r H (m f h) Q
end
section
variable {G : Nm} {K : PySem.W.Frag} {Wx : WX} {σ : St} {r : List Addr} {H : Hp}
theorem PostG.mono {α β : Type} {rel : List Addr → Hp → Hm → α → β → Prop} {x : R α} {Q Q' : β → Hp → Prop} (p : PostG G K rel Wx σ r H x Q) (hq : ∀ b H', Q b H' → Q' b H') : PostG G K rel Wx σ r H x Q' := by
  cases x with
  | ok a h => exact fun r' H' b e R q => hq _ _ (p r' H' b e R q)
  | exc c h => exact p
  | bad => exact p
/-- one part behind another -/
theorem PostG.seq {α β γ δ : Type} {rel : List Addr → Hp → Hm → α → β → Prop} {rel' : List Addr → Hp → Hm → γ → δ → Prop} {x : R α} {f : α → Hm → R γ} {Q : δ → Hp → Prop} (p : PostG G K rel' Wx σ r H (x.bind f) Q) :
    PostG G K rel Wx σ r H x fun b H1 => ∃ r1 a h1, Ext r H r1 H1 ∧ RelH G K r1 h1 H1 ∧ rel r1 H1 h1 a b ∧ PostG G K rel' Wx σ r1 H1 (f a h1) Q := by
  cases x with
  | ok a h =>
    intro r' H' b e R q
    refine ⟨r', a, h, e, R, q, ?_⟩
    have p : PostG G K rel' Wx σ r H (f a h) Q := p
    cases z : f a h with
    | ok c h2 => rw [z] at p; exact fun r2 H2 d e2 R2 q2 => p r2 H2 d (e.trans e2) R2 q2
    | exc c h2 => rw [z] at p; exact fun r2 H2 e2 R2 => p r2 H2 (e.trans e2) R2
    | bad => rw [z] at p; exact p
  | exc c h => exact p
  | bad => exact p
theorem PostG.seq' {α β γ δ : Type} {rel : List Addr → Hp → Hm → α → β → Prop} {rel' : List Addr → Hp → Hm → γ → δ → Prop} {x : R α} {f : α → Hm → R γ} {Q : δ → Hp → Prop} (p : PostG G K rel' Wx σ r H (x.bind f) Q) :
    PostG G K rel Wx σ r H x fun b H1 => ∃ r1 a h1, x = .ok a h1 ∧ Ext r H r1 H1 ∧ RelH G K r1 h1 H1 ∧ rel r1 H1 h1 a b ∧ PostG G K rel' Wx σ r1 H1 (f a h1) Q := by
  cases x with
  | ok a h =>
    intro r' H' b e R q
    refine ⟨r', a, h, rfl, e, R, q, ?_⟩
    have p : PostG G K rel' Wx σ r H (f a h) Q := p
    cases z : f a h with
    | ok c h2 => rw [z] at p; exact fun r2 H2 d e2 R2 q2 => p r2 H2 d (e.trans e2) R2 q2
    | exc c h2 => rw [z] at p; exact fun r2 H2 e2 R2 => p r2 H2 (e.trans e2) R2
    | bad => rw [z] at p; exact p
  | exc c h => exact p
  | bad => exact p
theorem PostG.ok {α β : Type} {rel : List Addr → Hp → Hm → α → β → Prop} {a : α} {h : Hm} {b : β} {Q : β → Hp → Prop} (p : PostG G K rel Wx σ r H (.ok a h) Q) (R : RelH G K r h H) (q : rel r H h a b) : Q b H := p r H b .refl R q
end
end WL

/-! lemmas ahead of the expressions -/
namespace WL
open PySem PySem.Spec PyProof.Rows L2
section
variable {G : Nm} {K : PySem.W.Frag} {r r' : List Addr} {h : Hm} {H H' : Hp}
/-! ### lists that are read -/
theorem lstOf_ok (R : RelH G K r h H) {w : W} {v : V} {l : List W} (q : RV G K r H w v) (e : lstOf w h = some l) : ∃ a vs, v = .ref a ∧ SqL K H a vs ∧ RVs G K r H l vs := by
  cases w with
  | ref n =>
    obtain ⟨a, rfl, ha⟩ := q
    simp only [lstOf] at e
    cases z : h[n]? with
    | none => rw [z] at e; cases e
    | some o =>
      rw [z] at e
      cases o with
      | lst xs =>
        cases e
        obtain ⟨vs, h1, h2⟩ := R.obj n a _ ha z
        exact ⟨a, vs, rfl, SqL.of h1, h2⟩
      | dK _ => cases e
      | dT _ => cases e
      | ins _ _ => cases e
  | scr ns =>
    obtain ⟨a, rfl, ha⟩ := q
    cases e
    rcases ha with ⟨o, ha⟩ | ha
    · exact ⟨a, _, rfl, .inl (.inr ⟨o, ha⟩), RVs.ints ns⟩
    · exact ⟨a, _, rfl, .inr ha, RVs.ints ns⟩
  | non => cases e
  | bl _ => cases e
  | int _ => cases e
  | str _ => cases e
  | tup _ => cases e
  | fn _ => cases e
  | cod _ _ _ => cases e
theorem seqOf_ok (R : RelH G K r h H) {w : W} {v : V} {l : List W} (q : RV G K r H w v) (e : seqOf w h = some l) : ∃ a vs, v = .ref a ∧ (SqL K H a vs ∨ SqT K H a vs) ∧ RVs G K r H l vs := by
  cases w with
  | tup ws =>
    cases e
    obtain ⟨a, vs, rfl, h1, h2⟩ := q
    exact ⟨a, vs, rfl, .inr (SqT.of h1), h2⟩
  | ref n => obtain ⟨a, vs, h1, h2, h3⟩ := lstOf_ok R q e; exact ⟨a, vs, h1, .inl h2, h3⟩
  | scr n => obtain ⟨a, vs, h1, h2, h3⟩ := lstOf_ok R q e; exact ⟨a, vs, h1, .inl h2, h3⟩
  | non => cases e
  | bl _ => cases e
  | int _ => cases e
  | str _ => cases e
  | fn _ => cases e
  | cod _ _ _ => cases e
/-! ### data -/
mutual
theorem toD_ok (R : RelH G K r h H) : ∀ (n : Nat) (w : W) (v : V) (d : PyData), RV G K r H w v → toD n h w = some d → Dp K H v d ∧ d.canLay0 = true ∧ d.depth ≤ n
  | 0, _, _, _, _, e => by simp [toD] at e
  | n + 1, .non, v, d, q, e => by
    simp only [toD] at e; cases e
    rw [show v = .non from q]
    exact ⟨.non, by simp [PyData.canLay0], by simp [PyData.depth]⟩
  | n + 1, .bl b, v, d, q, e => by
    simp only [toD] at e; cases e
    rw [show v = .bl b from q]
    exact ⟨.bl b, by simp [PyData.canLay0], by simp [PyData.depth]⟩
  | n + 1, .int b, v, d, q, e => by
    simp only [toD] at e; cases e
    rw [show v = .int b from q]
    exact ⟨.int b, by simp [PyData.canLay0], by simp [PyData.depth]⟩
  | n + 1, .str b, v, d, q, e => by
    simp only [toD] at e
    by_cases z : PyData.strOk b = true
    · rw [if_pos z] at e; cases e
      rw [show v = .str b from q]
      exact ⟨.str b, by simp [PyData.canLay0, z], by simp [PyData.depth]⟩
    · rw [if_neg z] at e; cases e
  | n + 1, .tup l, v, d, q, e => by
    rw [toD_tup] at e
    cases z : toDs n h l with
    | none => rw [z] at e; cases e
    | some ds =>
      rw [z] at e; cases e
      obtain ⟨a, vs, rfl, h1, h2⟩ := q
      obtain ⟨k1, k2, k3⟩ := toDs_ok R n l vs ds h2 z
      exact ⟨.tup (SqT.of h1) k1, by simp [PyData.canLay0, k2], by simp [PyData.depth]; omega⟩
  | n + 1, .scr l, v, d, q, e => by
    simp only [toD] at e; cases e
    obtain ⟨a, rfl, ha⟩ := q
    have hs : SqL K H a (l.map V.int) := by
      rcases ha with ⟨o, ha⟩ | ha
      · exact .inl (.inr ⟨o, ha⟩)
      · exact .inr ha
    have k1 : ∀ l : List Int, DpAll K H (l.map V.int) (l.map PyData.int) ∧ PyData.canLayAll0 (l.map PyData.int) = true ∧ PyData.depthAll (l.map PyData.int) = 0 := by
      intro l
      induction l with
      | nil => exact ⟨.nil, by simp [PyData.canLayAll0], by simp [PyData.depthAll]⟩
      | cons x l ih => exact ⟨.cons (.int x) ih.1, by simp [PyData.canLayAll0, PyData.canLay0]; exact ih.2.1, by simp [PyData.depthAll, PyData.depth]; exact ih.2.2⟩
    exact ⟨.lst hs (k1 l).1, by simp [PyData.canLay0, (k1 l).2.1], by simp [PyData.depth, (k1 l).2.2]⟩
  | n + 1, .ref a, v, d, q, e => by
    rw [toD_ref] at e
    cases z : h[a]? with
    | none => rw [z] at e; cases e
    | some o =>
      rw [z] at e
      cases o with
      | lst l =>
        simp only at e
        cases z2 : toDs n h l with
        | none => rw [z2] at e; cases e
        | some ds =>
          rw [z2] at e; cases e
          obtain ⟨b, rfl, hb⟩ := q
          obtain ⟨vs, h1, h2⟩ := R.obj a b _ hb z
          obtain ⟨k1, k2, k3⟩ := toDs_ok R n l vs ds h2 z2
          exact ⟨.lst (SqL.of h1) k1, by simp [PyData.canLay0, k2], by simp [PyData.depth]; omega⟩
      | dK _ => cases e
      | dT _ => cases e
      | ins _ _ => cases e
  | n + 1, .fn _, v, d, q, e => by simp [toD] at e
  | n + 1, .cod _ _ _, v, d, q, e => by simp [toD] at e
theorem toDs_ok (R : RelH G K r h H) : ∀ (n : Nat) (ws : List W) (vs : List V) (ds : List PyData), RVs G K r H ws vs → toDs n h ws = some ds → DpAll K H vs ds ∧ PyData.canLayAll0 ds = true ∧ PyData.depthAll ds ≤ n
  | n, [], vs, ds, q, e => by
    rw [toDs_nil] at e; cases e
    rw [show vs = [] from q]
    exact ⟨.nil, by simp [PyData.canLayAll0], by simp [PyData.depthAll]⟩
  | n, w :: ws, vs, ds, q, e => by
    rw [toDs_cons] at e
    cases z : toD n h w with
    | none => rw [z] at e; cases e
    | some d =>
      rw [z] at e
      cases z2 : toDs n h ws with
      | none => rw [z2] at e; cases e
      | some ds' =>
        rw [z2] at e; cases e
        obtain ⟨v, rest, rfl, h1, h2⟩ := q
        obtain ⟨a1, a2, a3⟩ := toD_ok R n w v d h1 z
        obtain ⟨b1, b2, b3⟩ := toDs_ok R n ws rest ds' h2 z2
        exact ⟨.cons a1 b1, by simp [PyData.canLayAll0, a2, b2], by simp [PyData.depthAll]; omega⟩
end
theorem eqW_ok (R : RelH G K r h H) {x y : W} {v u : V} {b : Bool} (qx : RV G K r H x v) (qy : RV G K r H y u) (e : eqW x y h = some b) : ∃ d e', Dp K H v d ∧ Dp K H u e' ∧ SeqAt.shaped d = true ∧ SeqAt.shaped e' = true ∧ PyData.eqv d e' = b := by
  unfold eqW at e
  cases z1 : toD deep h x with
  | none => rw [z1] at e; cases e
  | some d =>
    cases z2 : toD deep h y with
    | none => rw [z1, z2] at e; cases e
    | some d2 =>
      rw [z1, z2] at e
      obtain ⟨a1, a2, a3⟩ := toD_ok R _ _ _ _ qx z1
      obtain ⟨b1, b2, b3⟩ := toD_ok R _ _ _ _ qy z2
      refine ⟨d, d2, a1, b1, ?_, ?_, Option.some.inj e⟩
      · unfold SeqAt.shaped; rw [a2]; simp; unfold deep at a3; omega
      · unfold SeqAt.shaped; rw [b2]; simp; unfold deep at b3; omega
/-! ### flat values -/
theorem flat_ok {w : W} {v : V} (q : RV G K r H w v) (e : flat w = true) : flatV v = true := by
  cases w with
  | non => rw [show v = .non from q]; rfl
  | bl b => rw [show v = .bl b from q]; rfl
  | int b => rw [show v = .int b from q]; rfl
  | str b => rw [show v = .str b from q]; rfl
  | tup _ => cases e
  | ref _ => cases e
  | scr _ => cases e
  | fn _ => cases e
  | cod _ _ _ => cases e
theorem eqF_ok {x y : W} {v u : V} (qx : RV G K r H x v) (qy : RV G K r H y u) (ex : flat x = true) (ey : flat y = true) : eqV v u = eqF x y := by
  cases x <;> first | (cases ex; done) | (cases y <;> first | (cases ey; done) | (cases qx; cases qy; rfl))
theorem flats_ok : ∀ {ws : List W} {vs : List V}, RVs G K r H ws vs → ws.all flat = true → vs.all flatV = true
  | [], vs, q, e => by rw [show vs = [] from q]; rfl
  | w :: ws, vs, q, e => by
    obtain ⟨v, rest, rfl, h1, h2⟩ := q
    simp only [List.all_cons, Bool.and_eq_true] at e ⊢
    exact ⟨flat_ok h1 e.1, flats_ok h2 e.2⟩
theorem inW_ok {x : W} {v : V} (qx : RV G K r H x v) (ex : flat x = true) : ∀ {ws : List W} {vs : List V}, RVs G K r H ws vs → ws.all flat = true → inV v vs = inW x ws
  | [], vs, q, e => by rw [show vs = [] from q]; rfl
  | w :: ws, vs, q, e => by
    obtain ⟨u, rest, rfl, h1, h2⟩ := q
    simp only [List.all_cons, Bool.and_eq_true] at e
    show (eqV u v || inV v rest) = (eqF w x || inW x ws)
    rw [eqF_ok h1 qx e.1 ex, inW_ok qx ex h2 e.2]
/-! ### places -/
theorem ixN_eq (n : Nat) (i : Int) : L2.ixN n i = ixN n i := rfl
theorem atI_ok {ws : List W} {vs : List V} {i : Int} {w : W} (q : RVs G K r H ws vs) (e : atI ws i = some w) : ∃ v, L2.atI vs i = some v ∧ RV G K r H w v := by
  unfold atI at e
  cases z : ixN ws.length i with
  | none => rw [z] at e; cases e
  | some j =>
    rw [z] at e
    obtain ⟨v, h1, h2⟩ := q.get (show ws[j]? = some w from e)
    refine ⟨v, ?_, h2⟩
    unfold L2.atI
    rw [ixN_eq, q.length, z]
    exact h1
theorem cut_ok {ws : List W} {vs : List V} (lo hi : Option Int) (q : RVs G K r H ws vs) : RVs G K r H (cutW ws lo hi) (cutV vs lo hi) := by
  have e : ∀ n d o, HT.sIx n d o = sIx n d o := fun n d o => by cases o <;> rfl
  unfold cutW cutV
  rw [e, e, q.length]
  exact (q.drop _).take _
/-! ### tables -/
theorem look_ok : ∀ {l : List (Int × W)} {kvs : List (Key × V)} (k : Int), RK G K r H l kvs → match look l k with
    | some w => ∃ v, valV kvs (Sum.inl k) = some v ∧ RV G K r H w v
    | none => valV kvs (Sum.inl k) = none
  | [], kvs, k, q => by rw [show kvs = [] from q]; rfl
  | (j, w) :: l, kvs, k, q => by
    obtain ⟨v, rest, rfl, h1, h2⟩ := q
    by_cases e : j = k
    · subst e
      have e1 : look ((j, w) :: l) j = some w := by simp [look]
      rw [e1]
      exact ⟨v, valV_pos rfl, h1⟩
    · have e1 : look ((j, w) :: l) k = look l k := by simp [look, e]
      have e2 : valV ((Sum.inl j, v) :: rest) (Sum.inl k) = valV rest (Sum.inl k : Key) := valV_neg (fun z => e (Sum.inl.inj z))
      rw [e1, e2]
      exact look_ok k h2
theorem inl_inj : ∀ {a b : List Int}, a.map (Sum.inl : Int → Key) = b.map Sum.inl → a = b
  | [], [], _ => rfl
  | [], _ :: _, e => by cases e
  | _ :: _, [], e => by cases e
  | a :: r, b :: s, e => by
    simp only [List.map_cons, List.cons.injEq] at e
    rw [Sum.inl.inj e.1, inl_inj e.2]
theorem lookT_ok : ∀ {l : List (List Int × W)} {kvs : List (List Key × V)} (k : List Int), RT G K r H l kvs → match look l k with
    | some w => ∃ v, valV kvs (k.map Sum.inl) = some v ∧ RV G K r H w v
    | none => valV kvs (k.map Sum.inl) = none
  | [], kvs, k, q => by rw [show kvs = [] from q]; rfl
  | (j, w) :: l, kvs, k, q => by
    obtain ⟨v, rest, rfl, h1, h2⟩ := q
    by_cases e : j = k
    · subst e
      have e1 : look ((j, w) :: l) j = some w := by simp [look]
      rw [e1]
      exact ⟨v, valV_pos rfl, h1⟩
    · have e1 : look ((j, w) :: l) k = look l k := by simp [look, e]
      have e2 : valV ((j.map Sum.inl, v) :: rest) (k.map Sum.inl) = valV rest (k.map Sum.inl : List Key) := valV_neg (fun z => e (inl_inj z))
      rw [e1, e2]
      exact lookT_ok k h2
theorem RK.app : ∀ {l l' : List (Int × W)} {k k' : List (Key × V)}, RK G K r H l k → RK G K r H l' k' → RK G K r H (l ++ l') (k ++ k')
  | [], _, _, _, h, h' => by rw [show _ = [] from h]; exact h'
  | (j, w) :: l, _, _, _, h, h' => by
    obtain ⟨v, rest, rfl, h2, h3⟩ := h
    exact ⟨v, rest ++ _, rfl, h2, RK.app h3 h'⟩
theorem RT.app : ∀ {l l' : List (List Int × W)} {k k' : List (List Key × V)}, RT G K r H l k → RT G K r H l' k' → RT G K r H (l ++ l') (k ++ k')
  | [], _, _, _, h, h' => by rw [show _ = [] from h]; exact h'
  | (j, w) :: l, _, _, _, h, h' => by
    obtain ⟨v, rest, rfl, h2, h3⟩ := h
    exact ⟨v, rest ++ _, rfl, h2, RT.app h3 h'⟩
theorem RK.length : ∀ {l : List (Int × W)} {k : List (Key × V)}, RK G K r H l k → k.length = l.length
  | [], _, h => by rw [show _ = [] from h]; rfl
  | (j, w) :: l, _, h => by
    obtain ⟨v, rest, rfl, h2, h3⟩ := h
    rw [List.length_cons, List.length_cons, RK.length h3]
theorem RT.length : ∀ {l : List (List Int × W)} {k : List (List Key × V)}, RT G K r H l k → k.length = l.length
  | [], _, h => by rw [show _ = [] from h]; rfl
  | (j, w) :: l, _, h => by
    obtain ⟨v, rest, rfl, h2, h3⟩ := h
    rw [List.length_cons, List.length_cons, RT.length h3]
theorem RK.keys : ∀ {l : List (Int × W)} {k : List (Key × V)}, RK G K r H l k → k.map (·.1) = (l.map (·.1)).map Sum.inl
  | [], _, h => by rw [show _ = [] from h]; rfl
  | (j, w) :: l, _, h => by
    obtain ⟨v, rest, rfl, h2, h3⟩ := h
    simp only [List.map_cons, RK.keys h3]
theorem RK.mapput {k : Int} {w : W} {v : V} (hw : RV G K r H w v) : ∀ {l : List (Int × W)} {kvs : List (Key × V)}, RK G K r H l kvs → RK G K r H (l.map fun p => if p.1 = k then (p.1, w) else p) (kvs.map fun p => if p.1 = Sum.inl k then (p.1, v) else p)
  | [], _, h => by rw [show _ = [] from h]; rfl
  | (j, x) :: l, _, h => by
    obtain ⟨u, rest, rfl, h2, h3⟩ := h
    by_cases e : j = k
    · subst e
      simp only [List.map_cons, if_pos]
      exact ⟨v, _, rfl, hw, RK.mapput hw h3⟩
    · simp only [List.map_cons, if_neg e, if_neg (show ¬ (Sum.inl j : Key) = Sum.inl k from fun z => e (Sum.inl.inj z))]
      exact ⟨u, _, rfl, h2, RK.mapput hw h3⟩
theorem RT.mapput {k : List Int} {w : W} {v : V} (hw : RV G K r H w v) : ∀ {l : List (List Int × W)} {kvs : List (List Key × V)}, RT G K r H l kvs → RT G K r H (l.map fun p => if p.1 = k then (p.1, w) else p) (kvs.map fun p => if p.1 = k.map Sum.inl then (p.1, v) else p)
  | [], _, h => by rw [show _ = [] from h]; rfl
  | (j, x) :: l, _, h => by
    obtain ⟨u, rest, rfl, h2, h3⟩ := h
    by_cases e : j = k
    · subst e
      simp only [List.map_cons, if_pos]
      exact ⟨v, _, rfl, hw, RT.mapput hw h3⟩
    · simp only [List.map_cons, if_neg e, if_neg (show ¬ (j.map Sum.inl : List Key) = k.map Sum.inl from fun z => e (inl_inj z))]
      exact ⟨u, _, rfl, h2, RT.mapput hw h3⟩
theorem RK.anyEq (k : Int) : ∀ {l : List (Int × W)} {kvs : List (Key × V)}, RK G K r H l kvs → (kvs.any fun kv => decide (kv.1 = Sum.inl k)) = l.any fun p => decide (p.1 = k)
  | [], _, h => by rw [show _ = [] from h]; rfl
  | (j, x) :: l, _, h => by
    obtain ⟨u, rest, rfl, h2, h3⟩ := h
    simp only [List.any_cons, RK.anyEq k h3, key_ll]
    by_cases e : j = k <;> simp [e]
theorem RT.anyEq (k : List Int) : ∀ {l : List (List Int × W)} {kvs : List (List Key × V)}, RT G K r H l kvs → (kvs.any fun kv => decide (kv.1 = k.map Sum.inl)) = l.any fun p => decide (p.1 = k)
  | [], _, h => by rw [show _ = [] from h]; rfl
  | (j, x) :: l, _, h => by
    obtain ⟨u, rest, rfl, h2, h3⟩ := h
    simp only [List.any_cons, RT.anyEq k h3]
    by_cases e : j = k
    · subst e; simp
    · rw [decide_eq_false (fun z => e (inl_inj z)), decide_eq_false e]
theorem put_ok {k : Int} {w : W} {v : V} (hw : RV G K r H w v) {l : List (Int × W)} {kvs : List (Key × V)} (q : RK G K r H l kvs) : RK G K r H (put l k w) (putK kvs (Sum.inl k) v) := by
  unfold put putK
  rw [q.anyEq k]
  split
  · exact q.mapput hw
  · exact q.app ⟨v, [], rfl, hw, rfl⟩
theorem putT_ok {k : List Int} {w : W} {v : V} (hw : RV G K r H w v) {l : List (List Int × W)} {kvs : List (List Key × V)} (q : RT G K r H l kvs) : RT G K r H (put l k w) (putK kvs (k.map Sum.inl) v) := by
  unfold put putK
  rw [q.anyEq k]
  split
  · exact q.mapput hw
  · exact q.app ⟨v, [], rfl, hw, rfl⟩
/-! ### fields -/
theorem fd_look (nd : G.flds.Nodup) : ∀ {l : List (Nat × W)} {fs : List (Str × V)} {k : Nat} {x : Str} {w : W}, RFd G K r H l fs → G.flds[k]? = some x → look l k = some w → ∃ v, fs.lookup x = some v ∧ RV G K r H w v
  | [], fs, k, x, w, q, hk, e => by cases e
  | (j, u) :: l, fs, k, x, w, q, hk, e => by
    obtain ⟨y, v, rest, h0, rfl, h1, h2⟩ := q
    by_cases z : j = k
    · subst z
      have e1 : look ((j, u) :: l) j = some u := by simp [look]
      rw [e1] at e; cases e
      rw [h0] at hk; cases hk
      exact ⟨v, by simp [List.lookup], h1⟩
    · have e1 : look ((j, u) :: l) k = look l k := by simp [look, z]
      rw [e1] at e
      obtain ⟨v', h3, h4⟩ := fd_look nd h2 hk e
      refine ⟨v', ?_, h4⟩
      have ne : ¬ x = y := fun q => by
        subst q
        have hj := List.getElem?_eq_some_iff.mp h0
        have hk' := List.getElem?_eq_some_iff.mp hk
        exact z ((List.getElem_inj nd).mp (hj.2.trans hk'.2.symm))
      rw [List.lookup_cons]
      have : (x == y) = false := by simp [ne]
      rw [this]; exact h3
theorem fd_none (nd : G.flds.Nodup) : ∀ {l : List (Nat × W)} {fs : List (Str × V)} {x : Str}, RFd G K r H l fs → (∀ k : Nat, G.flds[k]? ≠ some x) → fs.lookup x = none
  | [], fs, x, q, hk => by rw [show fs = [] from q]; rfl
  | (j, u) :: l, fs, x, q, hk => by
    obtain ⟨y, v, rest, h0, rfl, h1, h2⟩ := q
    have ne : ¬ x = y := fun q => hk j (by rw [h0, q])
    rw [List.lookup_cons]
    have : (x == y) = false := by simp [ne]
    rw [this]; exact fd_none nd h2 hk
theorem fd_put (nd : G.flds.Nodup) {k : Nat} {x : Str} {w : W} {v : V} (hk : G.flds[k]? = some x) (hw : RV G K r H w v) : ∀ {l : List (Nat × W)} {fs : List (Str × V)}, RFd G K r H l fs → (l.map (·.1)).Nodup → RFd G K r H (put l k w) (putF x v fs)
  | [], fs, q, _ => by rw [show fs = [] from q]; exact ⟨x, v, [], hk, rfl, hw, rfl⟩
  | (j, u) :: l, fs, q, hn => by
    obtain ⟨y, v', rest, h0, rfl, h1, h2⟩ := q
    by_cases z : j = k
    · subst z
      rw [h0] at hk; cases hk
      have e1 : put ((j, u) :: l) j w = (j, w) :: l := by
        unfold put
        simp only [List.any_cons, decide_true, Bool.true_or, if_pos, List.map_cons]
        congr 1
        have hn2 : j ∉ l.map (·.1) := (List.nodup_cons.mp hn).1
        have : ∀ l : List (Nat × W), j ∉ l.map (·.1) → l.map (fun p => if p.1 = j then (p.1, w) else p) = l := by
          intro l
          induction l with
          | nil => intro _; rfl
          | cons p l ih =>
            intro hp
            simp only [List.map_cons, List.mem_cons, not_or] at hp
            rw [List.map_cons, if_neg (fun e => hp.1 e.symm), ih hp.2]
        exact this l hn2
      have e2 : putF x v ((x, v') :: rest) = (x, v) :: rest := by simp [putF]
      rw [e1, e2]
      exact ⟨x, v, rest, h0, rfl, hw, h2⟩
    · have ne : ¬ y = x := fun q => by
        subst q
        have hj := List.getElem?_eq_some_iff.mp h0
        have hk' := List.getElem?_eq_some_iff.mp hk
        exact z ((List.getElem_inj nd).mp (hj.2.trans hk'.2.symm))
      have e1 : put ((j, u) :: l) k w = (j, u) :: put l k w := by
        unfold put
        simp only [List.any_cons, decide_eq_false z, Bool.false_or, List.map_cons, if_neg z]
        split <;> rfl
      have e2 : putF x v ((y, v') :: rest) = (y, v') :: putF x v rest := by simp [putF, ne]
      rw [e1, e2]
      exact ⟨y, v', _, h0, rfl, h1, fd_put nd hk hw h2 (List.nodup_cons.mp hn).2⟩
end
/-! ### sorting -/
theorem insI_perm (a : Int) : ∀ l : List Int, (insI a l).Perm (a :: l)
  | [] => List.Perm.refl _
  | b :: r => by
    unfold insI
    split
    · exact List.Perm.refl _
    · exact ((insI_perm a r).cons b).trans (List.Perm.swap a b r)
theorem sortI_perm : ∀ l : List Int, (sortI l).Perm l
  | [] => List.Perm.refl _
  | a :: r => (insI_perm a (sortI r)).trans ((sortI_perm r).cons a)
theorem insI_sorted (a : Int) : ∀ l : List Int, l.Pairwise (· ≤ ·) → (insI a l).Pairwise (· ≤ ·)
  | [], _ => by simp [insI]
  | b :: r, h => by
    unfold insI
    have h' := List.pairwise_cons.mp h
    split
    · rename_i hab
      refine List.pairwise_cons.mpr ⟨fun c hc => ?_, h⟩
      rcases List.mem_cons.mp hc with rfl | hc
      · exact hab
      · exact Int.le_trans hab (h'.1 c hc)
    · rename_i hab
      refine List.pairwise_cons.mpr ⟨fun c hc => ?_, insI_sorted a r h'.2⟩
      rcases List.mem_cons.mp ((insI_perm a r).mem_iff.mp hc) with rfl | hc
      · omega
      · exact h'.1 c hc
theorem sortI_sorted : ∀ l : List Int, (sortI l).Pairwise (· ≤ ·)
  | [] => List.Pairwise.nil
  | a :: r => insI_sorted a _ (sortI_sorted r)
theorem sorted_one : ∀ {a b : List Int}, a.Perm b → a.Pairwise (· ≤ ·) → b.Pairwise (· ≤ ·) → a = b
  | [], b, p, _, _ => (List.Perm.nil_eq p)
  | x :: a, b, p, ha, hb => by
    cases b with
    | nil => exact absurd p.symm.nil_eq (by simp)
    | cons y b =>
      have ha' := List.pairwise_cons.mp ha
      have hb' := List.pairwise_cons.mp hb
      have e : x = y := by
        have h1 : x ∈ y :: b := p.mem_iff.mp List.mem_cons_self
        have h2 : y ∈ x :: a := p.mem_iff.mpr List.mem_cons_self
        rcases List.mem_cons.mp h1 with h1 | h1
        · exact h1
        · rcases List.mem_cons.mp h2 with h2 | h2
          · exact h2.symm
          · have := hb'.1 x h1
            have := ha'.1 y h2
            omega
      subst e
      rw [sorted_one (List.Perm.cons_inv p) ha'.2 hb'.2]
theorem sort_eq {a b : List Int} (p : a.Perm b) (h : a.Pairwise (· ≤ ·)) : a = sortI b := sorted_one (p.trans (sortI_perm b).symm) h (sortI_sorted b)
/-- sorted(d) of a dict, all keys ints, any number of them (as the library's call_sortedDI, with the sort of any length) -/
theorem call_sortedDN {X : Cx} (hcalm : X.calm = true) : CallR X (.builtin "sorted") (fun xs H Q => ∃ (a : Addr) (kvs : List (Key × V)) (ks : List Int), xs = [.ref a] ∧ Rd H a (.dK kvs) ∧ kvs.map (·.1) = ks.map Sum.inl ∧
    ∀ (ys : List Int) (p : Addr), ys.Perm ks → ys.Pairwise (· ≤ ·) → H p = none → Q (.ref p) (upd H p (.lst (ys.map V.int)))) := by
  intro pins s σ H xs us Q I r q
  obtain ⟨a, kvs, ks, ex, hd, hks, q⟩ := q
  subst ex
  obtain ⟨u, eu, rx⟩ := vals1 r
  subst eu
  cases rx
  obtain ⟨z, lo, vs, rel, dd⟩ := dk_rd I.hok hd
  obtain ⟨ep, hat⟩ := dd.dictAt
  have hkeys : vs.map (·.1) = ks.map Sum.inl := rel.keys.symm.trans hks
  have hl : vs.length = ks.length := by
    have e := congrArg List.length hkeys
    rw [List.length_map, List.length_map] at e
    exact e
  have h16 : vs.length ≤ sizeLine := by rw [← rel.length]; exact z
  refine Calls.call_function_entry PyProof.Rows.kind_sorted PyProof.Rows.plain_sorted PyProof.Rows.entry_sorted (PyProof.Rows.args_sorted1 _) ?_
  unfold Builtin.«sorted»
  refine wpAny_bind (m := checkCount "sorted" 1 1 _) (wpAny_pure ?_)
  refine wpAny_bind (PySem.W.kdu_collect (A := X.A.in1) (PySem.W.kdl_dict (knd := mixKind X.prog X.w) (kvs := vs) (ep := ep) lo) (I.ok.hd hcalm) hat h16 fun h' tk acc hk hacc => ?_)
  have hal : acc.toList.length = ks.length := by rw [Array.length_toList, hacc.1, hl]
  have hS : IntsAre acc.toList ks := ints_each hal fun j v e => by
    obtain ⟨k, x, e1, e2⟩ := hacc.2 j v (by rw [← Array.getElem?_toList]; exact e)
    have e3 : (vs.map (·.1))[j]? = some k := by rw [List.getElem?_map, e1]; rfl
    rw [hkeys, List.getElem?_map] at e3
    cases e4 : ks[j]? with
    | none => rw [e4] at e3; cases e3
    | some y =>
      rw [e4] at e3
      have e5 : Sum.inl y = k := Option.some.inj e3
      subst e5
      rcases keyIs_shape (show keyIs (Sum.inl y) v = true from e2) with ⟨i, t, ek, ev⟩ | ⟨z, t, ek, ev⟩
      · cases ek
        exact ⟨y, t, rfl, ev⟩
      · cases ek
  have I1 : Inv X pins σ H { s with heap := h', toks := tk } := I.kept hk
  have hsz : acc.toList.length ≤ sizeLine := by rw [hal, ← hl]; exact h16
  refine wpAny_bind (wpAny_newList ?_ hsz)
  have hoL : (h'.push (seqObj "list" acc.toList.toArray 0)).get? h'.objs.size = some (seqObj "list" acc.toList.toArray 0) := Heap.get?_push_size _ rfl
  show wpAny _ _ _ _ _ { s with heap := h'.push (seqObj "list" acc.toList.toArray 0), toks := tk }
  refine wpAny_bind (wpAny_holding (wpAny_call_entry PyProof.Rows.slot_list_sort ⟨_, hoL, rfl⟩ PyProof.Rows.entry_list_sort
    (SrtO.list_sort_ord (s := { s with heap := h'.push (seqObj "list" acc.toList.toArray 0), toks := tk }) SrtO.swo_int hoL hsz (fun h2 => SrtO.ints_sortable hS h2) fun out g1 g2 => ⟨_, rfl, ?_⟩) (PyProof.Rows.args_list_sort _)))
  obtain ⟨k1, k2, k3⟩ := SrtO.ints_out hS g1 g2
  obtain ⟨e', he'⟩ := PyProof.Rows.sortedHeap_at (vs := acc.toList) (out := out.toArray) hoL
  have hlen : ((out.map SrtO.iv).map V.int).length ≤ sizeLine := by
    rw [List.length_map, k2.length_eq, ← hal]
    exact hsz
  refine wpAny_pure ⟨_, rfl, .ref h'.objs.size, upd H h'.objs.size (.lst ((out.map SrtO.iv).map V.int)), I1.laid (t' := tk) (fun b u e => ?_) (Nat.le_refl _)
    (show ObjOk X.prog X.w _ _ _ (.lst ((out.map SrtO.iv).map V.int)) from ⟨hlen, out, e', vals_of_ints k1, he'⟩), rfl, q _ _ k2 k3 (I1.hok.fresh (Nat.le_refl _))⟩
  have hb : b < h'.objs.size := Heap.lt_size e
  rw [PyProof.Rows.sortedHeap_old (Nat.ne_of_lt hb) (by rw [size_push']; exact Nat.lt_succ_of_lt hb)]
  exact Heap.get?_push_of_some _ e
end WL

/-! expressions: each rule -/
namespace WL
open PySem PySem.Spec PyProof.Rows L2
def R.tst (x : R W) : R Bool := x.bind fun w h => match w with
  | .bl b => .ok b h
  | _ => .bad
def relQ {α : Type} : List Addr → Hp → Hm → α → α → Prop := fun _ _ _ a b => a = b
abbrev TEm (G : Nm) (K : PySem.W.Frag) (Wx : WX) (m : F → Hm → R W) : TE := TmG G K (relW G K) Wx m
abbrev TTm (G : Nm) (K : PySem.W.Frag) (Wx : WX) (m : F → Hm → R W) : TT := TmG G K (relQ) Wx (fun f h => (m f h).tst)
abbrev TAm (G : Nm) (K : PySem.W.Frag) (Wx : WX) (m : F → Hm → R (List W)) : TA := TmG G K (relA G K) Wx m
section
variable {G : Nm} {X : Cx} {Wx : WX} {e a b c : Expr} {es : List Expr} {ma mb mc : F → Hm → R W} {pos : Pos}
theorem pe_weak {t t' : TE} (p : PE X e t) (h : ∀ σ H Q, t' σ H Q → t σ H Q) : PE X e t' := ⟨fun pins s σ H Q I q => p.run pins s σ H Q I (h σ H Q q)⟩
theorem pt_weak {t t' : TT} (p : PT X e t) (h : ∀ σ H Q, t' σ H Q → t σ H Q) : PT X e t' := ⟨fun pins s σ H Q I q => p.run pins s σ H Q I (h σ H Q q)⟩
theorem pw_weak {t t' : TT} (p : PW X e t) (h : ∀ σ H Q, t' σ H Q → t σ H Q) : PW X e t' := ⟨fun wh pins s σ H Q I q => p.run wh pins s σ H Q I (h σ H Q q)⟩
theorem pa_weak {t t' : TA} (p : PA X es t) (h : ∀ σ H Q, t' σ H Q → t σ H Q) : PA X es t' := ⟨fun po pins s σ H Q I q => p.run po pins s σ H Q I (h σ H Q q)⟩
theorem pe_bad : PE X e (TEm G X.K Wx fun _ _ => .bad) := ⟨fun _ _ _ _ _ _ h => by obtain ⟨_, _, _, _, p⟩ := h; exact p.elim⟩
theorem pt_bad : PT X e (TTm G X.K Wx fun _ _ => .bad) := ⟨fun _ _ _ _ _ _ h => by obtain ⟨_, _, _, _, p⟩ := h; exact p.elim⟩
theorem pa_bad : PA X es (TAm G X.K Wx fun _ _ => .bad) := ⟨fun _ _ _ _ _ _ _ h => by obtain ⟨_, _, _, _, p⟩ := h; exact p.elim⟩
/-- a value that is there -/
theorem te_c {w : W} {v : V} (hv : ∀ r H, RV G X.K r H w v) : ∀ σ H Q, TEm G X.K Wx (fun _ h => .ok w h) σ H Q → tC v σ H Q := by
  rintro σ H Q ⟨r, f, h, S, p⟩
  exact p r H v .refl S.heap (hv r H)
theorem te_var {i : Nat} : ∀ σ H Q, TEm G X.K Wx (fun f h => match f[i]? with | some (some w) => .ok w h | _ => .bad) σ H Q → tVar i σ H Q := by
  rintro σ H Q ⟨r, f, h, S, p⟩
  cases e : f[i]? with
  | none => simp only [e] at p; exact p.elim
  | some o =>
    cases o with
    | none => simp only [e] at p; exact p.elim
    | some w =>
      simp only [e] at p
      obtain ⟨v, h1, h2⟩ := S.fr i w e
      exact ⟨v, h1, p r H v .refl S.heap h2⟩
/-- two parts and a step upon their values -/
theorem te_op {r : R2} {fop : W → W → Hm → R W} (hr : ∀ (σ : St) (r0 : List Addr) (h : Hm) (H : Hp) (x y : W) (v u : V) (Q : VK), RelH G X.K r0 h H → RV G X.K r0 H x v → RV G X.K r0 H y u → PostG G X.K (relW G X.K) Wx σ r0 H (fop x y h) Q → r v u H Q) :
    ∀ σ H Q, TEm G X.K Wx (fun f h => (ma f h).bind fun x h1 => (mb f h1).bind fun y h2 => fop x y h2) σ H Q → tOp r (TEm G X.K Wx ma) (TEm G X.K Wx mb) σ H Q := by
  rintro σ H Q ⟨r0, f, h, S, p⟩
  refine ⟨r0, f, h, S, (PostG.seq (rel := relW G X.K) p).mono ?_⟩
  rintro v H1 ⟨r1, x, h1, e1, R1, q1, p1⟩
  refine ⟨r1, f, h1, S.ext e1 R1, (PostG.seq (rel := relW G X.K) p1).mono ?_⟩
  rintro u H2 ⟨r2, y, h2, e2, R2, q2, p2⟩
  exact hr σ r2 h2 H2 x y v u Q R2 (q1.ext e2) q2 p2
theorem te_un {r : V → Hp → VK → Prop} {fop : W → Hm → R W} (hr : ∀ (σ : St) (r0 : List Addr) (h : Hm) (H : Hp) (x : W) (v : V) (Q : VK), RelH G X.K r0 h H → RV G X.K r0 H x v → PostG G X.K (relW G X.K) Wx σ r0 H (fop x h) Q → r v H Q) :
    ∀ σ H Q, TEm G X.K Wx (fun f h => (ma f h).bind fun x h1 => fop x h1) σ H Q → tUn r (TEm G X.K Wx ma) σ H Q := by
  rintro σ H Q ⟨r0, f, h, S, p⟩
  refine ⟨r0, f, h, S, (PostG.seq (rel := relW G X.K) p).mono ?_⟩
  rintro v H1 ⟨r1, x, h1, e1, R1, q1, p1⟩
  exact hr σ r1 h1 H1 x v Q R1 q1 p1
/-- a test's answer out of a value's -/
theorem post_tst {σ : St} {r : List Addr} {H : Hp} {x : R W} {K : PySem.W.Frag} {Q : Bool → Hp → Prop} (p : PostG G K relQ Wx σ r H x.tst Q) : PostG G K (relW G K) Wx σ r H x fun v H1 => ∃ c, v = .bl c ∧ Q c H1 := by
  cases x with
  | ok w h =>
    cases w with
    | bl b =>
      intro r' H' v e R q
      exact ⟨b, q, p r' H' b e R rfl⟩
    | non => exact p.elim
    | int _ => exact p.elim
    | str _ => exact p.elim
    | tup _ => exact p.elim
    | ref _ => exact p.elim
    | scr _ => exact p.elim
    | fn _ => exact p.elim
    | cod _ _ _ => exact p.elim
  | exc c h => exact p
  | bad => exact p
def plainT : Expr → Bool
  | .UnaryOp .Not _ _ => false
  | .BoolOp _ _ _ => false
  | .IfExp _ _ _ _ => false
  | .Compare _ _ _ _ => false
  | _ => true
theorem isTrue_plainT (h : plainT e = true) (env : Env) : ∀ whole, isTrue e env whole = (do let v ← whole; standAt e.pos; holding [v] (truthy v)) := by
  intro whole
  cases e with
  | UnaryOp op _ _ => cases op <;> first | rfl | cases h
  | BoolOp _ _ _ => cases h
  | IfExp _ _ _ _ => cases h
  | Compare _ _ _ _ => cases h
  | _ => rfl
theorem pt_of_pe (h : plainT e = true) (p : PE X e (TEm G X.K Wx ma)) : PT X e (TTm G X.K Wx ma) := by
  refine pt_weak (pt_val p (isTrue_plainT h X.env)) ?_
  rintro σ H Q ⟨r, f, h, S, q⟩
  exact ⟨r, f, h, S, post_tst q⟩
/-! ### and, or, not, if -/
theorem te_and : ∀ σ H Q, TEm G X.K Wx (fun f h => (ma f h).bind fun x h1 => match x with | .bl true => mb f h1 | .bl false => .ok (.bl false) h1 | _ => .bad) σ H Q → tAndV (TEm G X.K Wx ma) (TEm G X.K Wx mb) σ H Q := by
  rintro σ H Q ⟨r0, f, h, S, p⟩
  refine ⟨r0, f, h, S, (PostG.seq (rel := relW G X.K) p).mono ?_⟩
  rintro v H1 ⟨r1, x, h1, e1, R1, q1, p1⟩
  cases x with
  | bl b =>
    refine ⟨b, q1, ?_⟩
    cases b with
    | true => exact ⟨r1, f, h1, S.ext e1 R1, p1⟩
    | false => exact p1 r1 H1 _ .refl R1 rfl
  | _ => exact p1.elim
theorem te_or : ∀ σ H Q, TEm G X.K Wx (fun f h => (ma f h).bind fun x h1 => match x with | .bl false => mb f h1 | .bl true => .ok (.bl true) h1 | _ => .bad) σ H Q → tOrV (TEm G X.K Wx ma) (TEm G X.K Wx mb) σ H Q := by
  rintro σ H Q ⟨r0, f, h, S, p⟩
  refine ⟨r0, f, h, S, (PostG.seq (rel := relW G X.K) p).mono ?_⟩
  rintro v H1 ⟨r1, x, h1, e1, R1, q1, p1⟩
  cases x with
  | bl b =>
    refine ⟨b, q1, ?_⟩
    cases b with
    | false => exact ⟨r1, f, h1, S.ext e1 R1, p1⟩
    | true => exact p1 r1 H1 _ .refl R1 rfl
  | _ => exact p1.elim
theorem te_not : ∀ σ H Q, TEm G X.K Wx (fun f h => (ma f h).bind fun x h1 => match x with | .bl b => .ok (.bl (!b)) h1 | _ => .bad) σ H Q → tNotV (TEm G X.K Wx ma) σ H Q := by
  rintro σ H Q ⟨r0, f, h, S, p⟩
  refine ⟨r0, f, h, S, (PostG.seq (rel := relW G X.K) p).mono ?_⟩
  rintro v H1 ⟨r1, x, h1, e1, R1, q1, p1⟩
  cases x with
  | bl b => exact ⟨b, q1, p1 r1 H1 _ .refl R1 rfl⟩
  | _ => exact p1.elim
theorem bind_assoc {α β γ : Type} (x : R α) (f : α → Hm → R β) (g : β → Hm → R γ) : (x.bind f).bind g = x.bind fun a h => (f a h).bind g := by cases x <;> rfl
theorem tt_seq {m1 : F → Hm → R W} {f1 : Bool → F → Hm → R W} (hf : ∀ f h, m1 f h = (ma f h).tst.bind fun b h1 => f1 b f h1) {σ : St} {H : Hp} {Q : Bool → Hp → Prop} (q : TTm G X.K Wx m1 σ H Q) :
    TTm G X.K Wx ma σ H fun b H1 => TTm G X.K Wx (f1 b) σ H1 Q := by
  obtain ⟨r0, f, h, S, p⟩ := q
  refine ⟨r0, f, h, S, ?_⟩
  have e : (m1 f h).tst = (ma f h).tst.bind fun b h1 => (f1 b f h1).tst := by
    rw [hf]; unfold R.tst; exact bind_assoc _ _ _
  have p : PostG G X.K relQ Wx σ r0 H ((m1 f h).tst) Q := p
  rw [e] at p
  refine (PostG.seq (rel := relQ) p).mono ?_
  rintro b H1 ⟨r1, x, h1, e1, R1, rfl, p1⟩
  exact ⟨r1, f, h1, S.ext e1 R1, p1⟩
theorem tt_okb {b : Bool} {σ : St} {H : Hp} {Q : Bool → Hp → Prop} (q : TTm G X.K Wx (fun _ h => .ok (.bl b) h) σ H Q) : Q b H := by
  obtain ⟨r0, f, h, S, p⟩ := q
  exact p r0 H b .refl S.heap rfl
theorem tt_and : ∀ σ H Q, TTm G X.K Wx (fun f h => (ma f h).bind fun x h1 => match x with | .bl true => mb f h1 | .bl false => .ok (.bl false) h1 | _ => .bad) σ H Q → tAnd (TTm G X.K Wx ma) (TTm G X.K Wx mb) σ H Q := by
  intro σ H Q q
  have q2 := tt_seq (f1 := fun b f h1 => if b then mb f h1 else .ok (.bl false) h1) (ma := ma) (fun f h => by
    unfold R.tst; rw [bind_assoc]; congr 1; funext x h1; cases x with
    | bl b => cases b <;> rfl
    | _ => rfl) q
  obtain ⟨r0, f, h, S, p⟩ := q2
  refine ⟨r0, f, h, S, p.mono fun b H1 z => ?_⟩
  cases b with
  | true => exact z
  | false => exact tt_okb z
theorem tt_or : ∀ σ H Q, TTm G X.K Wx (fun f h => (ma f h).bind fun x h1 => match x with | .bl false => mb f h1 | .bl true => .ok (.bl true) h1 | _ => .bad) σ H Q → tOr (TTm G X.K Wx ma) (TTm G X.K Wx mb) σ H Q := by
  intro σ H Q q
  have q2 := tt_seq (f1 := fun b f h1 => if b then .ok (.bl true) h1 else mb f h1) (ma := ma) (fun f h => by
    unfold R.tst; rw [bind_assoc]; congr 1; funext x h1; cases x with
    | bl b => cases b <;> rfl
    | _ => rfl) q
  obtain ⟨r0, f, h, S, p⟩ := q2
  refine ⟨r0, f, h, S, p.mono fun b H1 z => ?_⟩
  cases b with
  | false => exact z
  | true => exact tt_okb z
theorem tt_not : ∀ σ H Q, TTm G X.K Wx (fun f h => (ma f h).bind fun x h1 => match x with | .bl b => .ok (.bl (!b)) h1 | _ => .bad) σ H Q → tNot (TTm G X.K Wx ma) σ H Q := by
  intro σ H Q q
  have q2 := tt_seq (f1 := fun b f h1 => .ok (.bl (!b)) h1) (ma := ma) (fun f h => by
    unfold R.tst; rw [bind_assoc]; congr 1; funext x h1; cases x with
    | bl b => rfl
    | _ => rfl) q
  obtain ⟨r0, f, h, S, p⟩ := q2
  exact ⟨r0, f, h, S, p.mono fun b H1 z => tt_okb z⟩
theorem te_if : ∀ σ H Q, TEm G X.K Wx (fun f h => (mc f h).bind fun x h1 => match x with | .bl true => ma f h1 | .bl false => mb f h1 | _ => .bad) σ H Q → tIf (TTm G X.K Wx mc) (TEm G X.K Wx ma) (TEm G X.K Wx mb) σ H Q := by
  rintro σ H Q ⟨r0, f, h, S, p⟩
  refine ⟨r0, f, h, S, ?_⟩
  have e : ((mc f h).bind fun x h1 => match x with | .bl true => ma f h1 | .bl false => mb f h1 | _ => .bad) = (mc f h).tst.bind fun b h1 => if b then ma f h1 else mb f h1 := by
    unfold R.tst; rw [bind_assoc]; congr 1; funext x h1; cases x with
    | bl b => cases b <;> rfl
    | _ => rfl
  have p : PostG G X.K (relW G X.K) Wx σ r0 H ((mc f h).bind fun x h1 => match x with | .bl true => ma f h1 | .bl false => mb f h1 | _ => .bad) Q := p
  rw [e] at p
  refine (PostG.seq (rel := relQ) p).mono ?_
  rintro b H1 ⟨r1, x, h1, e1, R1, rfl, p1⟩
  cases x with
  | true => exact ⟨r1, f, h1, S.ext e1 R1, p1⟩
  | false => exact ⟨r1, f, h1, S.ext e1 R1, p1⟩
/-! ### argument lists -/
theorem ta_cons {me : F → Hm → R W} {ms : F → Hm → R (List W)} : ∀ σ H Q, TAm G X.K Wx (fun f h => (me f h).bind fun x h1 => (ms f h1).bind fun xs h2 => .ok (x :: xs) h2) σ H Q → tCons (TEm G X.K Wx me) (TAm G X.K Wx ms) σ H Q := by
  rintro σ H Q ⟨r0, f, h, S, p⟩
  refine ⟨r0, f, h, S, (PostG.seq (rel := relW G X.K) p).mono ?_⟩
  rintro v H1 ⟨r1, x, h1, e1, R1, q1, p1⟩
  refine ⟨r1, f, h1, S.ext e1 R1, (PostG.seq (rel := relA G X.K) p1).mono ?_⟩
  rintro u H2 ⟨r2, xs, h2, e2, R2, q2, p2⟩
  exact p2 r2 H2 _ .refl R2 ⟨v, u, rfl, q1.ext e2, q2⟩
theorem ta_nil : ∀ σ H Q, TAm G X.K Wx (fun _ h => .ok [] h) σ H Q → tNil σ H Q := by
  rintro σ H Q ⟨r0, f, h, S, p⟩
  exact p r0 H [] .refl S.heap rfl
theorem star_cons {env : Env} (h : noStar e = true) (es : List Expr) : starEach (e :: es) env = (false, eval e env) :: starEach es env := by
  cases e <;> first | rfl | cases h
theorem star_any {env : Env} {pos : Pos} : ∀ {es : List Expr}, es.all noStar = true → (backTo pos (starEach es env)).any (·.1) = false
  | [], _ => rfl
  | e :: es, h => by
    simp only [List.all_cons, Bool.and_eq_true] at h
    rw [star_cons h.1]
    show (false || (backTo pos (starEach es env)).any (·.1)) = false
    rw [star_any h.2]; rfl
theorem star_all {env : Env} {pos : Pos} : ∀ {es : List Expr}, es.all noStar = true → (backTo pos (starEach es env)).all (fun x => !x.1) = true
  | [], _ => rfl
  | e :: es, h => by
    simp only [List.all_cons, Bool.and_eq_true] at h
    rw [star_cons h.1]
    show (true && (backTo pos (starEach es env)).all (fun x => !x.1)) = true
    rw [star_all h.2]; rfl
theorem pa_all {C : Cb} {ce : Expr → E} (hp : ∀ e, PE X e (TEm G X.K Wx (ev C (ce e)))) : ∀ {es : List Expr}, es.all noStar = true → PA X es (TAm G X.K Wx (evs C (listE (es.map ce))))
  | [], _ => pa_weak pa_nil (by
      intro σ H Q q
      rw [show (listE (List.map ce [])) = E.nil from rfl, evs_nil] at q
      exact ta_nil σ H Q q)
  | e :: es, h => by
    simp only [List.all_cons, Bool.and_eq_true] at h
    refine pa_weak (pa_cons (hp e) (pa_all hp h.2) (star_cons h.1 es)) ?_
    intro σ H Q q
    rw [show (listE (List.map ce (e :: es))) = E.cons (ce e) (listE (List.map ce es)) from rfl, evs_cons] at q
    exact ta_cons σ H Q q
/-! ### displays -/
theorem te_tup {ms : F → Hm → R (List W)} : ∀ σ H Q, TEm G X.K Wx (fun f h => (ms f h).bind fun ws h1 => if ws.length ≤ line then .ok (.tup ws) h1 else .bad) σ H Q → tTup (TAm G X.K Wx ms) σ H Q := by
  rintro σ H Q ⟨r0, f, h, S, p⟩
  refine ⟨r0, f, h, S, (PostG.seq (rel := relA G X.K) p).mono ?_⟩
  rintro v H1 ⟨r1, x, h1, e1, R1, q1, p1⟩
  by_cases hl : x.length ≤ line
  · rw [if_pos hl] at p1
    refine ⟨by rw [q1.length]; exact hl, fun pt hp => ?_⟩
    exact p1 r1 _ _ (Ext.new hp) (R1.aside hp) ⟨pt, v, rfl, upd_same, q1.ext (Ext.new hp)⟩
  · rw [if_neg hl] at p1; exact p1.elim
/-- a new object, as the machine lays it -/
theorem post_alloc {K : PySem.W.Frag} {σ : St} {r : List Addr} {h : Hm} {H : Hp} {o : O} {ho : HO} {pt : Addr} {Q : VK} (p : PostG G K (relW G K) Wx σ r H (alloc o h) Q) (R : RelH G K r h H) (hp : H pt = none) (ro : RO G K r (upd H pt ho) pt o) : Q (.ref pt) (upd H pt ho) := by
  refine p (r ++ [pt]) (upd H pt ho) (.ref pt) (Ext.laid hp) (R.laid hp ro) ⟨pt, rfl, ?_⟩
  rw [← R.len, List.getElem?_append_right (Nat.le_refl _)]; simp
theorem ext_laid {r : List Addr} {H : Hp} {pt : Addr} {ho : HO} (hp : H pt = none) : Ext r H r (upd H pt ho) := Ext.new hp
theorem te_lst {ms : F → Hm → R (List W)} : ∀ σ H Q, TEm G X.K Wx (fun f h => (ms f h).bind fun ws h1 => if ws.length ≤ line then alloc (.lst ws) h1 else .bad) σ H Q → tLst (TAm G X.K Wx ms) σ H Q := by
  rintro σ H Q ⟨r0, f, h, S, p⟩
  refine ⟨r0, f, h, S, (PostG.seq (rel := relA G X.K) p).mono ?_⟩
  rintro v H1 ⟨r1, x, h1, e1, R1, q1, p1⟩
  by_cases hl : x.length ≤ line
  · rw [if_pos hl] at p1
    refine ⟨by rw [q1.length]; exact hl, fun pt hp => ?_⟩
    exact post_alloc p1 R1 hp ⟨v, upd_same, q1.ext (ext_laid hp)⟩
  · rw [if_neg hl] at p1; exact p1.elim
theorem te_dK : ∀ σ H Q, TEm G X.K Wx (fun _ h => alloc (.dK []) h) σ H Q → tDNewK σ H Q := by
  rintro σ H Q ⟨r0, f, h, S, p⟩ pt hp
  exact post_alloc p S.heap hp ⟨[], upd_same, rfl⟩
theorem te_dT : ∀ σ H Q, TEm G X.K Wx (fun _ h => alloc (.dT []) h) σ H Q → tDNewT σ H Q := by
  rintro σ H Q ⟨r0, f, h, S, p⟩ pt hp
  exact post_alloc p S.heap hp ⟨[], upd_same, rfl⟩
end
end WL

/-! operators, subscripts, slices -/
namespace WL
open PySem PySem.Spec PyProof.Rows L2
section
variable {G : Nm} {X : Cx} {Wx : WX} {e a b c : Expr} {es : List Expr} {ma mb mc : F → Hm → R W} {pos : Pos}
theorem no_op {f : Value → Value → Sem Value} : OpR X f (fun _ _ _ _ => False) := fun _ _ _ _ _ _ _ _ _ _ _ _ h => h.elim
theorem post_ok {K : PySem.W.Frag} {σ : St} {r : List Addr} {h : Hm} {H : Hp} {w : W} {v : V} {Q : VK} (p : PostG G K (relW G K) Wx σ r H (.ok w h) Q) (R : RelH G K r h H) (q : RV G K r H w v) : Q v H := p r H v .refl R q
theorem ro_lst {K : PySem.W.Frag} {r : List Addr} {h : Hm} {H : Hp} {n : Nat} {a : Addr} {l : List W} (R : RelH G K r h H) (ha : r[n]? = some a) (e : h[n]? = some (.lst l)) : ∃ vs, H a = some (.lst vs) ∧ RVs G K r H l vs := R.obj n a _ ha e
theorem RVs.rep {K : PySem.W.Frag} {r : List Addr} {H : Hp} {l : List W} {vs : List V} (q : RVs G K r H l vs) : ∀ n : Nat, RVs G K r H (List.replicate n l).flatten (List.replicate n vs).flatten
  | 0 => rfl
  | n + 1 => by
    rw [List.replicate_succ, List.replicate_succ, List.flatten_cons, List.flatten_cons]
    exact q.app (RVs.rep q n)
theorem pe_bin {o : Operator} (ha : PE X a (TEm G X.K Wx ma)) (hb : PE X b (TEm G X.K Wx mb)) : PE X (.BinOp a o b pos) (TEm G X.K Wx fun f h => (ma f h).bind fun x h1 => (mb f h1).bind fun y h2 => binW o x y h2) := by
  have nope : (∀ x y h, binW o x y h = .bad) → PE X (.BinOp a o b pos) (TEm G X.K Wx fun f h => (ma f h).bind fun x h1 => (mb f h1).bind fun y h2 => binW o x y h2) := fun z =>
    pe_weak (pe_op no_op ha hb) (te_op fun σ r0 h H x y v u Q R q1 q2 p => by rw [z] at p; exact p)
  cases o with
  | Add =>
    refine pe_weak (pe_op (OpR.or op_add op_cat) ha hb) (te_op fun σ r0 h H x y v u Q R q1 q2 p => ?_)
    cases x with
    | int i =>
      cases y with
      | int j => exact .inl ⟨i, j, q1, q2, post_ok p R rfl⟩
      | _ => exact p.elim
    | ref m =>
      cases y with
      | ref n =>
        obtain ⟨pa, rfl, ha⟩ := q1
        obtain ⟨pb, rfl, hb⟩ := q2
        simp only [binW] at p
        cases e1 : h[m]? with
        | none => simp only [e1] at p; exact p.elim
        | some o1 =>
          cases o1 with
          | lst xs =>
            cases e2 : h[n]? with
            | none => simp only [e1, e2] at p; exact p.elim
            | some o2 =>
              cases o2 with
              | lst ys =>
                simp only [e1, e2] at p
                by_cases hl : xs.length + ys.length ≤ line
                · rw [if_pos hl] at p
                  obtain ⟨vx, k1, k2⟩ := ro_lst R ha e1
                  obtain ⟨vy, k3, k4⟩ := ro_lst R hb e2
                  refine .inr ⟨pa, pb, vx, vy, rfl, rfl, k1, k3, by rw [k2.length, k4.length]; exact hl, fun pt hp => ?_⟩
                  exact post_alloc p R hp ⟨_, upd_same, (k2.app k4).ext (ext_laid hp)⟩
                · rw [if_neg hl] at p; exact p.elim
              | _ => simp only [e1, e2] at p; exact p.elim
          | _ => simp only [e1] at p; exact p.elim
      | _ => exact p.elim
    | _ => exact p.elim
  | Sub =>
    refine pe_weak (pe_op op_sub ha hb) (te_op fun σ r0 h H x y v u Q R q1 q2 p => ?_)
    cases x with
    | int i =>
      cases y with
      | int j => exact ⟨i, j, q1, q2, post_ok p R rfl⟩
      | _ => exact p.elim
    | _ => exact p.elim
  | Mult =>
    refine pe_weak (pe_op (OpR.or op_mulW op_rep) ha hb) (te_op fun σ r0 h H x y v u Q R q1 q2 p => ?_)
    cases x with
    | int i =>
      cases y with
      | int j =>
        simp only [binW] at p
        by_cases hc : i.natAbs.log2 + j.natAbs.log2 < 1000000
        · rw [if_pos hc] at p; exact .inl ⟨i, j, q1, q2, hc, post_ok p R rfl⟩
        · rw [if_neg hc] at p; exact p.elim
      | _ => exact p.elim
    | ref m =>
      cases y with
      | int k =>
        obtain ⟨pa, rfl, ha⟩ := q1
        simp only [binW] at p
        cases e1 : h[m]? with
        | none => simp only [e1] at p; exact p.elim
        | some o1 =>
          cases o1 with
          | lst xs =>
            simp only [e1] at p
            by_cases hl : -(2 ^ 63) ≤ k ∧ k < 2 ^ 63 ∧ xs.length * k.toNat ≤ line
            · rw [if_pos hl] at p
              obtain ⟨vx, k1, k2⟩ := ro_lst R ha e1
              refine .inr ⟨pa, k, vx, rfl, q2, k1, hl.1, hl.2.1, by rw [k2.length]; exact hl.2.2, fun pt hp => ?_⟩
              exact post_alloc p R hp ⟨_, upd_same, (k2.rep _).ext (ext_laid hp)⟩
            · rw [if_neg hl] at p; exact p.elim
          | _ => simp only [e1] at p; exact p.elim
      | _ => exact p.elim
    | _ => exact p.elim
  | FloorDiv =>
    refine pe_weak (pe_op op_fdivW ha hb) (te_op fun σ r0 h H x y v u Q R q1 q2 p => ?_)
    cases x with
    | int i =>
      cases y with
      | int j =>
        simp only [binW] at p
        by_cases hc : 0 < j ∧ j.natAbs.log2 < 9000
        · rw [if_pos hc] at p; exact ⟨i, j, q1, q2, hc, post_ok p R rfl⟩
        · rw [if_neg hc] at p; exact p.elim
      | _ => exact p.elim
    | _ => exact p.elim
  | Mod =>
    refine pe_weak (pe_op op_mod ha hb) (te_op fun σ r0 h H x y v u Q R q1 q2 p => ?_)
    cases x with
    | int i =>
      cases y with
      | int j =>
        simp only [binW] at p
        by_cases hc : 0 < j
        · rw [if_pos hc] at p; exact ⟨i, j, q1, q2, hc, post_ok p R rfl⟩
        · rw [if_neg hc] at p; exact p.elim
      | _ => exact p.elim
    | _ => exact p.elim
  | Pow =>
    refine pe_weak (pe_op op_pow ha hb) (te_op fun σ r0 h H x y v u Q R q1 q2 p => ?_)
    cases x with
    | int i =>
      cases y with
      | int j =>
        simp only [binW] at p
        by_cases hc : 0 ≤ j ∧ j ≤ 1000000 ∧ i.natAbs < 2 ^ 64
        · rw [if_pos hc] at p; exact ⟨i, j, q1, q2, hc, post_ok p R rfl⟩
        · rw [if_neg hc] at p; exact p.elim
      | _ => exact p.elim
    | _ => exact p.elim
  | RShift =>
    refine pe_weak (pe_op op_shr ha hb) (te_op fun σ r0 h H x y v u Q R q1 q2 p => ?_)
    cases x with
    | int i =>
      cases y with
      | int j =>
        simp only [binW] at p
        by_cases hc : 0 ≤ j
        · rw [if_pos hc] at p; exact ⟨i, j, q1, q2, hc, post_ok p R rfl⟩
        · rw [if_neg hc] at p; exact p.elim
      | _ => exact p.elim
    | _ => exact p.elim
  | _ => exact nope fun x y h => by cases x <;> cases y <;> rfl
theorem pe_neg (ha : PE X a (TEm G X.K Wx ma)) : PE X (.UnaryOp .USub a pos) (TEm G X.K Wx fun f h => (ma f h).bind fun x h1 => match x with | .int i => .ok (.int (-i)) h1 | _ => .bad) := by
  refine pe_weak (pe_un un_neg ha) (te_un fun σ r0 h H x v Q R q1 p => ?_)
  cases x with
  | int i => exact ⟨i, q1, post_ok p R rfl⟩
  | _ => exact p.elim
/-! ### comparisons: each operator's rule -/
/-- what the model asks at a comparison -/
def rCmp (X : Cx) (o : CmpOp) : R2 := match o with
  | .Eq => rEqD X.K
  | .NotEq => rNeD X.K
  | .Lt => rI0 fun i j => .bl (decide (i < j))
  | .LtE => rI0 fun i j => .bl (decide (i ≤ j))
  | .Gt => rI0 fun i j => .bl (decide (j < i))
  | .GtE => rI0 fun i j => .bl (decide (j ≤ i))
  | .Is => fun x y H Q => (y = .non ∧ Q (.bl (decide (x = .non))) H) ∨ rIsB x y H Q
  | .IsNot => fun x y H Q => (y = .non ∧ Q (.bl (!decide (x = .non))) H) ∨ rNotB x y H Q
  | .In => rIn X.K false
  | .NotIn => rIn X.K true
theorem op_cmp (hu : X.A.units + 64 < cLine) (o : CmpOp) : OpR X (compareOp o) (rCmp X o) := by
  cases o with
  | Eq => exact op_eqD hu
  | NotEq => exact op_neD hu
  | Lt => exact op_lt
  | LtE => exact op_le
  | Gt => exact op_gt
  | GtE => exact op_ge
  | Is => exact OpR.or op_isN op_isBl
  | IsNot => exact OpR.or op_notN op_notBl
  | In => exact op_in_seq
  | NotIn => exact op_notIn_seq
theorem non_iff {K : PySem.W.Frag} {r : List Addr} {H : Hp} {x : W} {v : V} (q : RV G K r H x v) : decide (v = .non) = isNon x := by
  cases x with
  | non => rw [show v = .non from q]; rfl
  | bl b => rw [show v = .bl b from q]; rfl
  | int b => rw [show v = .int b from q]; rfl
  | str b => rw [show v = .str b from q]; rfl
  | tup l => obtain ⟨a, vs, rfl, _⟩ := q; rfl
  | ref n => obtain ⟨a, rfl, _⟩ := q; rfl
  | scr n => obtain ⟨a, rfl, _⟩ := q; rfl
  | fn f => rw [show v = .ref _ from q.2]; rfl
  | cod _ _ _ => obtain ⟨a, _, _, rfl, _⟩ := q; rfl
theorem cmp_ok {r : List Addr} {h : Hm} {H : Hp} {o : CmpOp} {x y : W} {v u : V} {k : Bool} {Q : VK} (R : RelH G X.K r h H) (q1 : RV G X.K r H x v) (q2 : RV G X.K r H y u) (e : cmpW o x y h = some k) (z : Q (.bl k) H) : rCmp X o v u H Q := by
  cases o with
  | Eq =>
    obtain ⟨d, d', h1, h2, h3, h4, h5⟩ := eqW_ok R q1 q2 e
    exact ⟨d, d', h1, h2, h3, h4, by rw [h5]; exact z⟩
  | NotEq =>
    simp only [cmpW] at e
    cases e1 : eqW x y h with
    | none => rw [e1] at e; cases e
    | some b =>
      rw [e1] at e; cases e
      obtain ⟨d, d', h1, h2, h3, h4, h5⟩ := eqW_ok R q1 q2 e1
      exact ⟨d, d', h1, h2, h3, h4, by rw [h5]; exact z⟩
  | Lt =>
    cases x with
    | int i =>
      cases y with
      | int j => cases e; exact ⟨i, j, q1, q2, z⟩
      | _ => cases e
    | _ => cases e
  | LtE =>
    cases x with
    | int i =>
      cases y with
      | int j => cases e; exact ⟨i, j, q1, q2, z⟩
      | _ => cases e
    | _ => cases e
  | Gt =>
    cases x with
    | int i =>
      cases y with
      | int j => cases e; exact ⟨i, j, q1, q2, z⟩
      | _ => cases e
    | _ => cases e
  | GtE =>
    cases x with
    | int i =>
      cases y with
      | int j => cases e; exact ⟨i, j, q1, q2, z⟩
      | _ => cases e
    | _ => cases e
  | Is =>
    unfold cmpW at e
    simp only at e
    split at e
    · exact .inr ⟨_, _, q1, q2, by rw [Option.some.inj e]; exact z⟩
    · refine .inl ⟨q2, ?_⟩
      show Q (.bl (decide (v = .non))) H
      rw [non_iff q1]
      rw [show isNon x = k from Option.some.inj e]; exact z
    · cases e
  | IsNot =>
    unfold cmpW at e
    simp only at e
    split at e
    · exact .inr ⟨_, _, q1, q2, by rw [Option.some.inj e]; exact z⟩
    · refine .inl ⟨q2, ?_⟩
      show Q (.bl (!decide (v = .non))) H
      rw [non_iff q1]
      rw [show (!isNon x) = k from Option.some.inj e]; exact z
    · cases e
  | In =>
    simp only [cmpW] at e
    cases e1 : seqOf y h with
    | none => rw [e1] at e; cases e
    | some l =>
      rw [e1] at e
      simp only at e
      by_cases hf : (flat x && l.all flat) = true
      · rw [if_pos hf] at e
        have hf' := Bool.and_eq_true_iff.mp hf
        obtain ⟨a, vs, rfl, h2, h3⟩ := seqOf_ok R q2 e1
        refine ⟨a, vs, rfl, h2, flat_ok q1 hf'.1, flats_ok h3 hf'.2, ?_⟩
        show Q (.bl (inV v vs)) H
        rw [inW_ok q1 hf'.1 h3 hf'.2, Option.some.inj e]; exact z
      · rw [if_neg hf] at e; cases e
  | NotIn =>
    simp only [cmpW] at e
    cases e1 : seqOf y h with
    | none => rw [e1] at e; cases e
    | some l =>
      rw [e1] at e
      simp only at e
      by_cases hf : (flat x && l.all flat) = true
      · rw [if_pos hf] at e
        have hf' := Bool.and_eq_true_iff.mp hf
        obtain ⟨a, vs, rfl, h2, h3⟩ := seqOf_ok R q2 e1
        refine ⟨a, vs, rfl, h2, flat_ok q1 hf'.1, flats_ok h3 hf'.2, ?_⟩
        show Q (.bl (!inV v vs)) H
        rw [inW_ok q1 hf'.1 h3 hf'.2, Option.some.inj e]; exact z
      · rw [if_neg hf] at e; cases e
abbrev mCmp (o : CmpOp) (ma mb : F → Hm → R W) : F → Hm → R W := fun f h => (ma f h).bind fun x h1 => (mb f h1).bind fun y h2 => match cmpW o x y h2 with | some c => .ok (.bl c) h2 | none => .bad
theorem te_cmp {o : CmpOp} : ∀ σ H Q, TEm G X.K Wx (mCmp o ma mb) σ H Q → tOp (rCmp X o) (TEm G X.K Wx ma) (TEm G X.K Wx mb) σ H Q :=
  te_op fun σ r0 h H x y v u Q R q1 q2 p => by
    cases e : cmpW o x y h with
    | none => simp only [e] at p; exact p.elim
    | some k => simp only [e] at p; exact cmp_ok R q1 q2 e (post_ok p R rfl)
theorem tt_test {t : TE} {m : F → Hm → R W} (hw : ∀ σ H Q, TEm G X.K Wx m σ H Q → t σ H Q) : ∀ σ H Q, TTm G X.K Wx m σ H Q → tTest t σ H Q := by
  rintro σ H Q ⟨r, f, h, S, q⟩
  exact hw _ _ _ ⟨r, f, h, S, post_tst q⟩
theorem pe_cmpA {o : CmpOp} (hu : X.A.units + 64 < cLine) (hm : behindInMarks o b = false) (ha : PE X a (TEm G X.K Wx ma)) (hb : PE X b (TEm G X.K Wx mb)) : PE X (.Compare a [o] [b] pos) (TEm G X.K Wx (mCmp o ma mb)) :=
  pe_weak (pe_cmpR (op_cmp hu o) ha hb hm) te_cmp
theorem pt_cmpA {o : CmpOp} (hu : X.A.units + 64 < cLine) (hm : behindInMarks o b = false) (ha : PE X a (TEm G X.K Wx ma)) (hb : PE X b (TEm G X.K Wx mb)) : PT X (.Compare a [o] [b] pos) (TTm G X.K Wx (mCmp o ma mb)) :=
  pt_weak (pt_cmpR (op_cmp hu o) ha hb hm) (tt_test te_cmp)
abbrev mChn (o o' : CmpOp) (ma mb mc : F → Hm → R W) : F → Hm → R W := fun f h => (ma f h).bind fun x h1 => (mb f h1).bind fun y h2 => match cmpW o x y h2 with
    | some true => (mc f h2).bind fun z h3 => (match cmpW o' y z h3 with | some c => .ok (.bl c) h3 | none => .bad)
    | some false => .ok (.bl false) h2
    | none => .bad
theorem te_chn {o o' : CmpOp} : ∀ σ H Q, TEm G X.K Wx (mChn o o' ma mb mc) σ H Q → tChain (rCmp X o) (rCmp X o') (TEm G X.K Wx ma) (TEm G X.K Wx mb) (TEm G X.K Wx mc) σ H Q := by
  rintro σ H Q ⟨r0, f, h, S, p⟩
  refine ⟨r0, f, h, S, (PostG.seq (rel := relW G X.K) p).mono ?_⟩
  rintro v H1 ⟨r1, x, h1, e1, R1, q1, p1⟩
  refine ⟨r1, f, h1, S.ext e1 R1, (PostG.seq (rel := relW G X.K) p1).mono ?_⟩
  rintro u H2 ⟨r2, y, h2, e2, R2, q2, p2⟩
  cases e : cmpW o x y h2 with
  | none => simp only [e] at p2; exact p2.elim
  | some k =>
    refine cmp_ok R2 (q1.ext e2) q2 e ⟨k, rfl, ?_⟩
    cases k with
    | false => simp only [e] at p2; exact post_ok p2 R2 rfl
    | true =>
      simp only [e] at p2
      refine ⟨r2, f, h2, (S.ext e1 R1).ext e2 R2, (PostG.seq (rel := relW G X.K) p2).mono ?_⟩
      rintro w H3 ⟨r3, z, h3, e3, R3, q3, p3⟩
      cases e4 : cmpW o' y z h3 with
      | none => simp only [e4] at p3; exact p3.elim
      | some k => simp only [e4] at p3; exact cmp_ok R3 (q2.ext e3) q3 e4 (post_ok p3 R3 rfl)
theorem pe_chnA {o o' : CmpOp} (hu : X.A.units + 64 < cLine) (hm : lastMarks [o, o'] [b, c] = false) (ha : PE X a (TEm G X.K Wx ma)) (hb : PE X b (TEm G X.K Wx mb)) (hc : PE X c (TEm G X.K Wx mc)) : PE X (.Compare a [o, o'] [b, c] pos) (TEm G X.K Wx (mChn o o' ma mb mc)) :=
  pe_weak (pe_chain (op_cmp hu o) (op_cmp hu o') ha hb hc hm) te_chn
theorem pt_chnA {o o' : CmpOp} (hu : X.A.units + 64 < cLine) (hm : lastMarks [o, o'] [b, c] = false) (ha : PE X a (TEm G X.K Wx ma)) (hb : PE X b (TEm G X.K Wx mb)) (hc : PE X c (TEm G X.K Wx mc)) : PT X (.Compare a [o, o'] [b, c] pos) (TTm G X.K Wx (mChn o o' ma mb mc)) :=
  pt_weak (pt_chain (op_cmp hu o) (op_cmp hu o') ha hb hc hm) (tt_test te_chn)
/-! ### subscripts -/
def rIxD : R2 := fun x y H Q => ∃ a v, x = .ref a ∧ DGet H a y (some v) ∧ Q v H
theorem ix_dict (hu : X.A.units + 1 < cLine) : IxR X rIxD := by
  intro value slice pins s σ H x y v u Q I rx ry h hs
  obtain ⟨a, z, rfl, g, q⟩ := h
  cases rx
  unfold subscriptTail
  refine wpAny_bind ?_
  rw [getitemInPython_of_ne (dict_typeIs I g).not_modules]
  refine wpAny_bind (wpAny_specialOf (dict_typeIs I g) PySem.F.slot_dict_getitem.lookup ?_)
  have fin : wpAny (model X.prog X.w) X.A (subscripted slice false (.ref a) u) (fun r s₃ => wpAny (model X.prog X.w) X.A (letTemporaryGo value (.ref a) r >>= fun _ => pure r) (EP X pins σ Q) X.xe s₃) X.xe s := by
    rw [hs]
    exact wpAny_operating (wpAny_mono (d_getItem (E := X.xe) hu I g ry fun w' s3 I3 rw' => (⟨z, H, I3, rw', q⟩ : EP X pins σ Q w' s3)) (fun r s₃ h₃ => wpAny_bind (wpAny_letTemporaryGo (wpAny_pure h₃))) fun _ _ x => x)
  first
    | exact wpAny_pure (wpAny_bind fin)
    | exact wpAny_bind (wpAny_pure (wpAny_bind fin))
    | exact wpAny_pure fin
theorem noSlice_plain (h : noSlice b = true) : PlainIx b := by
  intro o i
  cases b <;> first | rfl | cases h
theorem DGet.ki {H : Hp} {a : Addr} {kvs : List (Key × V)} {k : Int} (e : H a = some (.dK kvs)) : DGet H a (.int k) (valV kvs (Sum.inl k)) := DGet.k (k := Sum.inl k) e
theorem kV_ints : ∀ ks : List Int, (ks.map (Sum.inl : Int → Key)).map kV = ks.map V.int
  | [] => rfl
  | k :: ks => by simp only [List.map_cons, kV_ints ks]; rfl
theorem tup_key {K : PySem.W.Frag} {r : List Addr} {H : Hp} {ks : List W} {is : List Int} {v : V} (q : RV G K r H (.tup ks) v) (e : intsOf ks = some is) : ∃ b, v = .ref b ∧ H b = some (.tup ((is.map Sum.inl).map kV)) := by
  obtain ⟨b, vs, rfl, h1, h2⟩ := q
  refine ⟨b, rfl, ?_⟩
  rw [kV_ints, ← h2.ofInts e]; exact h1
theorem pe_idxA (hu : X.A.units + 1 < cLine) (hs : noSlice b = true) (ha : PE X a (TEm G X.K Wx ma)) (hb : PE X b (TEm G X.K Wx mb)) : PE X (.Subscript a b pos) (TEm G X.K Wx fun f h => (ma f h).bind fun x h1 => (mb f h1).bind fun y h2 => match idxW x y h2 with | some w => .ok w h2 | none => .bad) := by
  refine pe_weak (pe_ix (IxR.or ix_list (IxR.or ix_tup (ix_dict hu))) ha hb (noSlice_plain hs)) (te_op fun σ r0 h H x y v u Q R q1 q2 p => ?_)
  cases e : idxW x y h with
  | none => simp only [e] at p; exact p.elim
  | some w =>
    simp only [e] at p
    cases x with
    | ref n =>
      obtain ⟨pa, rfl, hn⟩ := q1
      cases y with
      | int k =>
        simp only [idxW] at e
        cases e1 : h[n]? with
        | none => simp only [e1] at e; cases e
        | some o =>
          simp only [e1] at e
          cases o with
          | lst l =>
            obtain ⟨vs, k1, k2⟩ := R.obj n pa _ hn e1
            obtain ⟨z, k3, k4⟩ := atI_ok k2 e
            exact .inl ⟨pa, vs, k, z, rfl, q2, SqL.of k1, k3, post_ok p R k4⟩
          | dK l =>
            obtain ⟨kvs, k1, k2⟩ := R.obj n pa _ hn e1
            have k3 := look_ok k k2
            rw [show look l k = some w from e] at k3
            obtain ⟨z, k4, k5⟩ := k3
            refine .inr (.inr ⟨pa, z, rfl, ?_, post_ok p R k5⟩)
            rw [show u = .int k from q2, ← k4]
            exact DGet.ki k1
          | dT _ => cases e
          | ins _ _ => cases e
      | tup ks =>
        simp only [idxW] at e
        cases e1 : h[n]? with
        | none => simp only [e1] at e; cases e
        | some o =>
          cases o with
          | dT l =>
            cases e2 : intsOf ks with
            | none => simp only [e1, e2] at e; cases e
            | some is =>
              simp only [e1, e2] at e
              obtain ⟨kvs, k1, k2⟩ := R.obj n pa _ hn e1
              have k3 := lookT_ok is k2
              rw [show look l is = some w from e] at k3
              obtain ⟨z, k4, k5⟩ := k3
              obtain ⟨b, rfl, hb⟩ := tup_key q2 e2
              refine .inr (.inr ⟨pa, z, rfl, ?_, post_ok p R k5⟩)
              rw [← k4]
              exact DGet.t k1 hb
          | _ => simp only [e1] at e; cases e
      | _ => cases e
    | tup l =>
      cases y with
      | int k =>
        obtain ⟨pa, vs, rfl, k1, k2⟩ := q1
        obtain ⟨z, k3, k4⟩ := atI_ok k2 (show atI l k = some w from e)
        exact .inr (.inl ⟨pa, vs, k, z, rfl, q2, SqT.of k1, k3, post_ok p R k4⟩)
      | _ => cases e
    | scr l =>
      cases y with
      | int k =>
        obtain ⟨pa, vs, h1, h2, h3⟩ := lstOf_ok R q1 rfl
        obtain ⟨z, k3, k4⟩ := atI_ok h3 (show atI (l.map W.int) k = some w from e)
        exact .inl ⟨pa, vs, k, z, h1, q2, h2, k3, post_ok p R k4⟩
      | _ => cases e
    | _ => cases e
/-! ### slices -/
theorem sIx_eq (n d : Nat) (o : Option Int) : HT.sIx n d o = sIx n d o := by cases o <;> rfl
abbrev TOm (G : Nm) (K : PySem.W.Frag) (Wx : WX) (m : F → Hm → R (List W)) : TO := TmG G K relQ Wx (fun f h => optI (m f h))
theorem po_weak {eo : Option Expr} {t t' : TO} (p : PO X eo t) (h : ∀ σ H Q, t' σ H Q → t σ H Q) : PO X eo t' := ⟨fun pins s σ H Q I q => p.run pins s σ H Q I (h σ H Q q)⟩
theorem po_noneA {C : Cb} : PO X none (TOm G X.K Wx (evs C .nil)) := by
  refine po_weak po_none ?_
  rw [evs_nil]
  rintro σ H Q ⟨r, f, h, S, p⟩
  exact p r H _ .refl S.heap rfl
theorem po_someA {C : Cb} {ce : E} (he : PE X e (TEm G X.K Wx (ev C ce))) : PO X (some e) (TOm G X.K Wx (evs C (.cons ce .nil))) := by
  refine po_weak (po_some he) ?_
  rw [evs_cons, evs_nil]
  rintro σ H Q ⟨r, f, h, S, p⟩
  refine ⟨r, f, h, S, ?_⟩
  have p : PostG G X.K relQ Wx σ r H (optI ((ev C ce f h).bind fun x h1 => (R.ok [] h1 : R (List W)).bind fun xs h2 => .ok (x :: xs) h2)) Q := p
  cases z : ev C ce f h with
  | ok w h1 =>
    rw [z] at p
    intro r' H' v ex Rx q
    cases w with
    | int i => exact ⟨i, q, p r' H' _ ex Rx rfl⟩
    | _ => exact p.elim
  | exc c h1 => rw [z] at p; exact p
  | bad => rw [z] at p; exact p
theorem pe_sliA {lo hi : Option Expr} {ml mh : F → Hm → R (List W)} {p2 : Pos} (ha : PE X a (TEm G X.K Wx ma)) (hl : PO X lo (TOm G X.K Wx ml)) (hh : PO X hi (TOm G X.K Wx mh)) :
    PE X (.Subscript a (.Slice lo hi none p2) pos) (TEm G X.K Wx fun f h => (ma f h).bind fun x h1 => (optI (ml f h1)).bind fun l h2 => (optI (mh f h2)).bind fun u h3 => sliW x l u h3) := by
  refine pe_weak (pe_slice (SlR.or sl_list sl_tup) ha hl hh) ?_
  rintro σ H Q ⟨r0, f, h, S, p⟩
  refine ⟨r0, f, h, S, (PostG.seq (rel := relW G X.K) p).mono ?_⟩
  rintro v H1 ⟨r1, x, h1, e1, R1, q1, p1⟩
  refine ⟨r1, f, h1, S.ext e1 R1, (PostG.seq (rel := relQ) p1).mono ?_⟩
  rintro l H2 ⟨r2, l', h2, e2, R2, q2, p2⟩
  refine ⟨r2, f, h2, (S.ext e1 R1).ext e2 R2, (PostG.seq (rel := relQ) p2).mono ?_⟩
  rintro u H3 ⟨r3, u', h3, e3, R3, q3, p3⟩
  have q2 : l' = l := q2
  have q3 : u' = u := q3
  subst q2
  subst q3
  have q1 := (q1.ext e2).ext e3
  have aslist : ∀ w : W, RV G X.K r3 H3 w v → (sliW w l' u' h3 = (match lstOf w h3 with | some l => alloc (.lst (cutW l l' u')) h3 | none => .bad)) → PostG G X.K (relW G X.K) Wx σ r3 H3 (sliW w l' u' h3) Q → rSlL X.K v l' u' H3 Q := by
    intro w qw ew pw
    rw [ew] at pw
    cases e : lstOf w h3 with
    | none => rw [e] at pw; exact pw.elim
    | some l =>
      rw [e] at pw
      obtain ⟨pa, vs, rfl, k1, k2⟩ := lstOf_ok R3 qw e
      exact ⟨pa, vs, rfl, k1, fun pt hp => post_alloc pw R3 hp ⟨_, upd_same, (cut_ok l' u' k2).ext (ext_laid hp)⟩⟩
  cases x with
  | tup l =>
    obtain ⟨pa, vs, rfl, k1, k2⟩ := q1
    simp only [sliW] at p3
    by_cases hc : sIx l.length 0 l' = 0 ∧ sIx l.length l.length u' = l.length
    · rw [if_pos hc] at p3; exact p3.elim
    · rw [if_neg hc] at p3
      refine .inr ⟨pa, vs, rfl, SqT.of k1, by rw [sIx_eq, sIx_eq, k2.length]; exact hc, fun pt hp => ?_⟩
      exact p3 r3 _ _ (Ext.new hp) (R3.aside hp) ⟨pt, _, rfl, upd_same, (cut_ok l' u' k2).ext (Ext.new hp)⟩
  | ref n => exact .inl (aslist _ q1 rfl p3)
  | scr n => exact .inl (aslist _ q1 rfl p3)
  | non => exact p3.elim
  | bl _ => exact p3.elim
  | int _ => exact p3.elim
  | str _ => exact p3.elim
  | fn _ => exact p3.elim
  | cod _ _ _ => exact p3.elim
end
end WL

/-! targets, what is walked, comprehensions -/
namespace WL
open PySem PySem.Spec PyProof.Rows L2
/-! ### slots that are wiped -/
theorem wipe_in {σ : St} {i : Nat} : ∀ {vs : List Nat}, i ∈ vs → (L2.wipe σ vs)[i]? = if i < σ.length then some none else none
  | [], h => by cases h
  | v :: vs, h => by
    unfold L2.wipe
    by_cases e : v = i
    · subst e
      rw [List.getElem?_set]
      simp only [if_pos, wipe_length]
    · rw [List.getElem?_set_ne e]
      exact wipe_in ((List.mem_cons.mp h).resolve_left (fun q => e q.symm))
theorem wipe_set {σ : St} {i : Nat} {x : Option V} {vs : List Nat} (h : i ∈ vs) : L2.wipe (σ.set i x) vs = L2.wipe σ vs := by
  apply List.ext_getElem?
  intro j
  by_cases hj : j ∈ vs
  · rw [wipe_in hj, wipe_in hj, List.length_set]
  · rw [L2.wipe_out hj, L2.wipe_out hj, List.getElem?_set_ne]
    exact fun e => hj (e ▸ h)
theorem wipe_wipe {σ : St} {vs : List Nat} : L2.wipe (L2.wipe σ vs) vs = L2.wipe σ vs := by
  apply List.ext_getElem?
  intro j
  by_cases hj : j ∈ vs
  · rw [wipe_in hj, wipe_in hj, wipe_length]
  · rw [L2.wipe_out hj]
theorem wipeW_length (f : F) : ∀ vs : List Nat, (wipe f vs).length = f.length
  | [] => rfl
  | v :: vs => by unfold wipe; rw [List.length_set]; exact wipeW_length f vs
theorem wipeW_get {f : F} {i : Nat} {w : W} : ∀ {vs : List Nat}, (wipe f vs)[i]? = some (some w) → f[i]? = some (some w) ∧ i ∉ vs
  | [], h => ⟨h, fun z => nomatch z⟩
  | v :: vs, h => by
    unfold wipe at h
    by_cases e : v = i
    · subst e
      rw [List.getElem?_set] at h
      simp only [if_pos] at h
      split at h <;> cases h
    · rw [List.getElem?_set_ne e] at h
      obtain ⟨h1, h2⟩ := wipeW_get h
      exact ⟨h1, fun z => (List.mem_cons.mp z).elim (fun q => e q.symm) h2⟩
section
variable {G : Nm} {K : PySem.W.Frag} {r : List Addr} {h : Hm} {H : Hp} {f : F} {σ : St}
theorem RelS.wipe (S : RelS G K r f h σ H) (vs : List Nat) : RelS G K r (wipe f vs) h (L2.wipe σ vs) H :=
  ⟨S.heap, fun i w e => by
    obtain ⟨h1, h2⟩ := wipeW_get e
    obtain ⟨v, h3, h4⟩ := S.fr i w h1
    exact ⟨v, by rw [L2.wipe_out h2]; exact h3, h4⟩, by rw [wipeW_length, wipe_length]; exact S.len⟩
theorem RelS.set (S : RelS G K r f h σ H) {i : Nat} {w : W} {v : V} (q : RV G K r H w v) : RelS G K r (f.set i (some w)) h (σ.set i (some v)) H :=
  ⟨S.heap, fun j u e => by
    by_cases hj : i = j
    · subst hj
      rw [List.getElem?_set] at e
      simp only [if_pos] at e
      split at e
      · rename_i hl
        cases e
        exact ⟨v, by rw [List.getElem?_set_self (S.len ▸ hl)], q⟩
      · cases e
    · rw [List.getElem?_set_ne hj] at e
      obtain ⟨z, h1, h2⟩ := S.fr j u e
      exact ⟨z, by rw [List.getElem?_set_ne hj]; exact h1, h2⟩, by rw [List.length_set, List.length_set]; exact S.len⟩
end
/-! ### targets -/
def inOwn (t : E) (own : List Nat) : Prop := ∀ i ∈ slotsT t, i ∈ own
def TGm (G : Nm) (K : PySem.W.Frag) (t : E) : TG := fun v σ H Q => ∃ r f h w f', RelS G K r f h σ H ∧ RV G K r H w v ∧ bindT t w f = some f' ∧
  ∀ σ', RelS G K r f' h σ' H → (∀ own, inOwn t own → L2.wipe σ' own = L2.wipe σ own) → Q σ' H
def TGsm (G : Nm) (K : PySem.W.Frag) (t : E) : TGs := fun vs σ H Q => ∃ r f h ws f', RelS G K r f h σ H ∧ RVs G K r H ws vs ∧ bindTs t ws f = some f' ∧
  ∀ σ', RelS G K r f' h σ' H → (∀ own, inOwn t own → L2.wipe σ' own = L2.wipe σ own) → Q σ' H
theorem idxS_get {x : Str} : ∀ {l : List Str} {i : Nat}, idxS x l = some i → l[i]? = some x
  | [], _, h => by cases h
  | y :: l, i, h => by
    unfold idxS at h
    split at h
    · rename_i e
      cases h
      rw [e]; rfl
    · cases z : idxS x l with
      | none => rw [z] at h; cases h
      | some j =>
        rw [z] at h; cases h
        show l[j]? = some x
        exact idxS_get z
theorem idxF_get {x : Str} : ∀ {l : List (Str × Option Str)} {i : Nat}, idxF x l = some i → l[i]? = some (x, none)
  | [], _, h => by cases h
  | (y, none) :: l, i, h => by
    unfold idxF at h
    split at h
    · rename_i e
      cases h
      rw [e]; rfl
    · cases z : idxF x l with
      | none => rw [z] at h; cases h
      | some j =>
        rw [z] at h; cases h
        show l[j]? = some (x, none)
        exact idxF_get z
  | (y, some m) :: l, i, h => by
    unfold idxF at h
    cases z : idxF x l with
    | none => rw [z] at h; cases h
    | some j =>
      rw [z] at h; cases h
      show l[j]? = some (x, none)
      exact idxF_get z
theorem visB_ok {sc : Scope} {x : Str} (h : visB sc x = true) : Vis sc x := by
  unfold visB at h
  unfold Vis
  split at h
  · exact .inl (by assumption)
  · exact .inr (.inl (by assumption))
  · exact .inr (.inr (by assumption))
  · cases h
theorem locB_ok {sc : Scope} {x : Str} (h : locB sc x = true) : L2.Loc sc x := by
  unfold locB at h
  unfold L2.Loc
  split at h
  · exact .inl (by assumption)
  · exact .inr (by assumption)
  · cases h
theorem glB_ok {sc : Scope} {x : Str} (h : glB sc x = true) : sc.names.lookup x = some .globalImplicit := by
  unfold glB at h
  split at h
  · assumption
  · cases h
theorem plainN_ok {x : Str} (h : plainN x = true) : (x == ("__debug__" : Str)) = false ∧ (x == ("__classdict__" : Str)) = false ∧ x ≠ "__name__" := by
  unfold plainN at h
  simp only [Bool.and_eq_true, Bool.not_eq_true'] at h
  refine ⟨h.1.1, h.1.2, fun e => ?_⟩
  have := h.2
  rw [e] at this
  simp at this
/-- how the names of a text stand where it runs -/
structure NmOk (s : Sx) (X : Cx) : Prop where
  eN : X.N = s.N
  nd : s.N.Nodup
  eS : X.env.scope = s.sc
  tgt : ∀ x, locB s.tsc x = true → L2.Loc X.env.scope x ∧ (X.fn x = true ∨ X.env.scope.names.lookup x = some .local)
  calm : X.calm = true
section
variable {G : Nm} {X : Cx} {s : Sx}
theorem pg_weak {e : Expr} {t t' : TG} (p : PG X e t) (h : ∀ v σ H Q, t' v σ H Q → t v σ H Q) : PG X e t' := ⟨fun pins st σ H v u Q I q z => p.run pins st σ H v u Q I q (h v σ H Q z)⟩
theorem pg_bad {e : Expr} {t : E} (h : ∀ w f, bindT t w f = none) : PG X e (TGm G X.K t) := ⟨fun pins st σ H v u Q I q z => by
  obtain ⟨r, f, h', w, f', _, _, e, _⟩ := z
  rw [h] at e; cases e⟩
theorem ae_cons {e : Expr} {es : List Expr} {env : Env} (h : noStar e = true) : assignEach (e :: es) env = (false, assign e env) :: assignEach es env := by
  cases e <;> first | rfl | cases h
theorem ae_len {env : Env} : ∀ {es : List Expr}, es.all noStar = true → (assignEach es env).length = es.length
  | [], _ => rfl
  | e :: es, h => by
    simp only [List.all_cons, Bool.and_eq_true] at h
    rw [ae_cons h.1, List.length_cons, List.length_cons, ae_len h.2]
theorem ae_find {env : Env} : ∀ {es : List Expr}, es.all noStar = true → (assignEach es env).findIdx? (·.1) = none
  | [], _ => rfl
  | e :: es, h => by
    simp only [List.all_cons, Bool.and_eq_true] at h
    rw [ae_cons h.1, List.findIdx?_cons]
    simp [ae_find h.2]
theorem bindTs_len : ∀ {t : List E} {ws : List W} {f f' : F}, bindTs (listE t) ws f = some f' → ws.length = t.length
  | [], [], _, _, _ => rfl
  | [], _ :: _, _, _, h => by simp [listE, bindTs] at h
  | _ :: _, [], _, _, h => by simp [listE, bindTs] at h
  | t :: ts, w :: ws, f, f', h => by
    simp only [listE, bindTs] at h
    cases z : bindT t w f with
    | none => rw [z] at h; cases h
    | some f1 =>
      rw [z] at h
      rw [List.length_cons, List.length_cons, bindTs_len h]
theorem pgs_of {ct : Expr → E} (hp : ∀ e, PG X e (TGm G X.K (ct e))) : ∀ {es : List Expr}, es.all noStar = true → PGs X es (TGsm G X.K (listE (es.map ct)))
  | [], _ => ⟨fun pins st σ H vs us Q I q z => by
      obtain ⟨r, f, h, ws, f', S, q2, e, k⟩ := z
      refine pgs_nil.run pins st σ H vs us Q I q ?_
      simp only [List.map_nil, listE] at e k
      cases ws with
      | nil =>
        simp only [bindTs] at e
        cases e
        exact ⟨q2, k σ S fun _ _ => rfl⟩
      | cons _ _ => simp [bindTs] at e⟩
  | e :: es, hs => by
    simp only [List.all_cons, Bool.and_eq_true] at hs
    have p := pgs_cons (hp e) (pgs_of hp hs.2) (by rw [ae_cons hs.1]; rfl)
    refine ⟨fun pins st σ H vs us Q I q z => p.run pins st σ H vs us Q I q ?_⟩
    obtain ⟨r, f, h, ws, f', S, q2, e1, k⟩ := z
    simp only [List.map_cons, listE] at e1 k
    cases ws with
    | nil => simp [bindTs] at e1
    | cons w ws =>
      simp only [bindTs] at e1
      cases z1 : bindT (ct e) w f with
      | none => rw [z1] at e1; cases e1
      | some f1 =>
        rw [z1] at e1
        obtain ⟨v, rest, rfl, k1, k2⟩ := q2
        refine ⟨v, rest, rfl, r, f, h, w, f1, S, k1, z1, fun σ1 S1 w1 => ?_⟩
        refine ⟨r, f1, h, ws, f', S1, k2, e1, fun σ2 S2 w2 => k σ2 S2 fun own ho => ?_⟩
        rw [w2 own (fun i hi => ho i (by show i ∈ slotsT (ct e) ++ _; exact List.mem_append_right _ hi)), w1 own (fun i hi => ho i (by show i ∈ slotsT (ct e) ++ _; exact List.mem_append_left _ hi))]
theorem pgT (O : NmOk s X) : ∀ (n : Nat) (e : Expr), PG X e (TGm G X.K (compT s n e))
  | 0, e => pg_bad fun w f => by simp [compT, bindT]
  | n + 1, e => by
    have nope : compT s (n + 1) e = .bad → PG X e (TGm G X.K (compT s (n + 1) e)) := fun z => by
      rw [z]; exact pg_bad fun w f => by simp [bindT]
    cases e with
    | Name x p =>
      by_cases c1 : (locB s.tsc x && plainN x) = true
      · cases c2 : idxS x s.N with
        | none => exact nope (by simp only [compT, c1, c2, if_pos])
        | some i =>
          have z : compT s (n + 1) (.Name x p) = .v i := by simp only [compT, c1, c2, if_pos]
          rw [z]
          have c1' := Bool.and_eq_true_iff.mp c1
          obtain ⟨k1, k2⟩ := O.tgt x c1'.1
          refine pg_weak (pg_name (i := i) (O.eN ▸ O.nd) (by rw [O.eN]; exact idxS_get c2) k1 k2) ?_
          rintro v σ H Q ⟨r, f, h, w, f', S, q, e, k⟩
          simp only [bindT, stV] at e
          split at e
          · cases e
            exact k _ (S.set q) fun own ho => wipe_set (ho i (by simp [slotsT]))
          · cases e
      · exact nope (by simp only [compT]; rw [if_neg c1])
    | Tuple ts kk p =>
      by_cases c1 : ts.all noStar = true
      · have z : compT s (n + 1) (.Tuple ts kk p) = .tup (listE (ts.map (compT s n))) := by simp only [compT]; rw [if_pos c1]
        rw [z]
        refine pg_weak (pg_tup O.calm (pgs_of (pgT O n) c1) (ae_len c1) (ae_find c1)) ?_
        rintro v σ H Q ⟨r, f, h, w, f', S, q, e, k⟩
        cases w with
        | tup ws =>
          obtain ⟨a, vs, rfl, k1, k2⟩ := q
          simp only [bindT] at e
          refine ⟨a, vs, rfl, SqT.of k1, ?_, r, f, h, ws, f', S, k2, e, k⟩
          rw [k2.length, bindTs_len e, List.length_map]
        | _ => simp [bindT] at e
      · exact nope (by simp only [compT]; rw [if_neg c1])
    | _ => exact nope rfl
end
/-! ### what is walked -/
def RI (G : Nm) (K : PySem.W.Frag) (r : List Addr) (H : Hp) : It → L2.It → Prop
  | .seq w, J => ∃ a, RV G K r H w (.ref a) ∧ ((∃ l, w = .tup l) ∧ J = Itt K a ∨ (∀ l, w ≠ .tup l) ∧ J = Itl K a)
  | .rng lo c n, J => (c = 1 ∧ J = Itr lo n) ∨ J = Itc lo c n
  | .zip x y, J => ∃ a b, RV G K r H x (.ref a) ∧ RV G K r H y (.ref b) ∧ J = Itz K a b
  | .enu x, J => ∃ a, RV G K r H x (.ref a) ∧ J = Ite K a
abbrev relI (G : Nm) (K : PySem.W.Frag) : List Addr → Hp → Hm → It → L2.It → Prop := fun r H _ J J' => RI G K r H J J'
abbrev TIm (G : Nm) (K : PySem.W.Frag) (Wx : WX) (m : F → Hm → R It) : TI := TmG G K (relI G K) Wx m
section
variable {G : Nm} {K : PySem.W.Frag} {r r' : List Addr} {h : Hm} {H H' : Hp}
theorem RI.ext0 (e : Ext0 r H r' H') : ∀ {J : It} {J' : L2.It}, RI G K r H J J' → RI G K r' H' J J'
  | .seq w, _, ⟨a, h1, h2⟩ => ⟨a, h1.ext0 e, h2⟩
  | .rng _ _ _, _, h => h
  | .zip _ _, _, ⟨a, b, h1, h2, h3⟩ => ⟨a, b, h1.ext0 e, h2.ext0 e, h3⟩
  | .enu _, _, ⟨a, h1, h2⟩ => ⟨a, h1.ext0 e, h2⟩
theorem seq_lst {w : W} {l : List W} (hn : ∀ l, w ≠ .tup l) (e : seqOf w h = some l) : lstOf w h = some l := by
  cases w with
  | tup l => exact absurd rfl (hn l)
  | _ => exact e
/-- a turn of the walk -/
theorem RI.go (R : RelH G K r h H) : ∀ {J : It} {J' : L2.It} {i : Nat} {w : W}, RI G K r H J J' → J.item i h = some w →
    J'.go i H ∧ ∀ x H1, J'.yld i H x H1 → Ext r H r H1 ∧ RelH G K r h H1 ∧ RV G K r H1 w x ∧ ∀ b o, H b = some o → H1 b = some o
  | .seq u, J', i, w, ⟨a, q, hh⟩, e => by
    simp only [It.item] at e
    cases z : seqOf u h with
    | none => rw [z] at e; cases e
    | some l =>
      rw [z] at e
      have e : l[i]? = some w := e
      rcases hh with ⟨⟨l0, rfl⟩, rfl⟩ | ⟨hn, rfl⟩
      · obtain ⟨a', vs, ea, k1, k2⟩ := q
        cases ea
        cases z
        obtain ⟨v, k3, k4⟩ := k2.get e
        refine ⟨⟨vs, v, SqT.of k1, k3⟩, fun x H1 y => ?_⟩
        obtain ⟨rfl, y⟩ := y
        have := y vs (SqT.of k1)
        rw [k3] at this; cases this
        exact ⟨.refl, R, k4, fun _ _ h => h⟩
      · obtain ⟨a', vs, ea, k1, k2⟩ := lstOf_ok R q (seq_lst hn z)
        cases ea
        obtain ⟨v, k3, k4⟩ := k2.get e
        refine ⟨⟨vs, v, k1, k3⟩, fun x H1 y => ?_⟩
        obtain ⟨rfl, y⟩ := y
        have := y vs k1
        rw [k3] at this; cases this
        exact ⟨.refl, R, k4, fun _ _ h => h⟩
  | .rng lo c n, J', i, w, hh, e => by
    simp only [It.item] at e
    split at e
    · rename_i hi
      cases e
      rcases hh with ⟨rfl, rfl⟩ | rfl
      · refine ⟨hi, fun x H1 y => ?_⟩
        obtain ⟨rfl, rfl⟩ := y
        exact ⟨.refl, R, by show V.int _ = V.int _; rw [Int.mul_one], fun _ _ h => h⟩
      · refine ⟨hi, fun x H1 y => ?_⟩
        obtain ⟨rfl, rfl⟩ := y
        exact ⟨.refl, R, rfl, fun _ _ h => h⟩
    · cases e
  | .zip u u2, J', i, w, ⟨a, b, q1, q2, ej⟩, e => by
    subst ej
    simp only [It.item] at e
    cases z1 : lstOf u h with
    | none => rw [z1] at e; cases e
    | some l =>
      cases z2 : lstOf u2 h with
      | none => rw [z1, z2] at e; cases e
      | some m =>
        rw [z1, z2] at e
        cases z3 : l[i]? with
        | none => simp only [Option.bind, z3] at e; cases e
        | some x =>
          cases z4 : m[i]? with
          | none => simp only [Option.bind, z3, z4] at e; cases e
          | some y =>
            simp only [Option.bind, z3, z4, Option.map] at e
            cases e
            obtain ⟨a', vs, ea, k1, k2⟩ := lstOf_ok R q1 z1
            obtain ⟨b', us, eb, k3, k4⟩ := lstOf_ok R q2 z2
            cases ea; cases eb
            obtain ⟨v, k5, k6⟩ := k2.get z3
            obtain ⟨v2, k7, k8⟩ := k4.get z4
            refine ⟨⟨vs, us, v, v2, k1, k3, k5, k7⟩, fun x H1 y => ?_⟩
            obtain ⟨T, x1, y1, rfl, hT, rfl, y2, y3⟩ := y
            have := y2 vs k1
            rw [k5] at this; cases this
            have := y3 us k3
            rw [k7] at this; cases this
            refine ⟨Ext.new hT, R.aside hT, ⟨T, _, rfl, upd_same, _, _, rfl, k6.ext (Ext.new hT), _, _, rfl, k8.ext (Ext.new hT), rfl⟩, fun b o hb => ?_⟩
            rw [upd_ne (ne_of_none hb hT)]; exact hb
  | .enu u, J', i, w, ⟨a, q1, ej⟩, e => by
    subst ej
    simp only [It.item] at e
    cases z1 : lstOf u h with
    | none => rw [z1] at e; cases e
    | some l =>
      rw [z1] at e
      cases z3 : l[i]? with
      | none => simp only [Option.bind, z3] at e; cases e
      | some x =>
        simp only [Option.bind, z3, Option.map] at e
        cases e
        obtain ⟨a', vs, ea, k1, k2⟩ := lstOf_ok R q1 z1
        cases ea
        obtain ⟨v, k5, k6⟩ := k2.get z3
        refine ⟨⟨vs, v, k1, k5⟩, fun x H1 y => ?_⟩
        obtain ⟨T, x1, rfl, hT, rfl, y2⟩ := y
        have := y2 vs k1
        rw [k5] at this; cases this
        refine ⟨Ext.new hT, R.aside hT, ⟨T, _, rfl, upd_same, _, _, rfl, rfl, _, _, rfl, k6.ext (Ext.new hT), rfl⟩, fun b o hb => ?_⟩
        rw [upd_ne (ne_of_none hb hT)]; exact hb
theorem RI.stop (R : RelH G K r h H) : ∀ {J : It} {J' : L2.It} {i : Nat}, RI G K r H J J' → J.stop i h = true → J'.stop i H
  | .seq u, J', i, ⟨a, q, hh⟩, e => by
    simp only [It.stop, It.len] at e
    cases z : seqOf u h with
    | none => simp [z] at e
    | some l =>
      simp [z] at e
      rcases hh with ⟨⟨l0, rfl⟩, rfl⟩ | ⟨hn, rfl⟩
      · obtain ⟨a', vs, ea, k1, k2⟩ := q
        cases ea
        cases z
        exact ⟨vs, SqT.of k1, by rw [k2.length]; exact e⟩
      · obtain ⟨a', vs, ea, k1, k2⟩ := lstOf_ok R q (seq_lst hn z)
        cases ea
        exact ⟨vs, k1, by rw [k2.length]; exact e⟩
  | .rng lo c n, J', i, hh, e => by
    simp [It.stop, It.len] at e
    rcases hh with ⟨rfl, rfl⟩ | rfl
    · exact e
    · exact e
  | .zip u u2, J', i, ⟨a, b, q1, q2, ej⟩, e => by
    subst ej
    simp only [It.stop, It.len] at e
    cases z1 : lstOf u h with
    | none => simp [z1] at e
    | some l =>
      cases z2 : lstOf u2 h with
      | none => simp [z1, z2] at e
      | some m =>
        simp [z1, z2] at e
        obtain ⟨a', vs, ea, k1, k2⟩ := lstOf_ok R q1 z1
        obtain ⟨b', us, eb, k3, k4⟩ := lstOf_ok R q2 z2
        cases ea; cases eb
        refine ⟨vs, us, k1, k3, ?_⟩
        rw [k2.length, k4.length]
        omega
  | .enu u, J', i, ⟨a, q1, ej⟩, e => by
    subst ej
    simp only [It.stop, It.len] at e
    cases z1 : lstOf u h with
    | none => simp [z1] at e
    | some l =>
      simp [z1] at e
      obtain ⟨a', vs, ea, k1, k2⟩ := lstOf_ok R q1 z1
      cases ea
      exact ⟨vs, k1, by rw [k2.length]; exact e⟩
end
section
variable {G : Nm} {X : Cx} {Wx : WX} {e a b tg : Expr} {es : List Expr} {ma mb : F → Hm → R W} {ms : F → Hm → R (List W)} {pos p : Pos}
theorem pi_weak {iter : Expr} {t t' : TI} (q : PI X tg iter t) (h : ∀ σ H Q, t' σ H Q → t σ H Q) : PI X tg iter t' := ⟨fun pins s σ H Q I z => q.run pins s σ H Q I (h σ H Q z)⟩
/-- a list or a tuple -/
theorem pi_seq {l : Expr} {tl : TE} (hl : PE X l tl) : PI X tg l (fun σ H R => tl σ H fun x H1 => (∃ a, x = .ref a ∧ (∃ xs, SqL X.K H1 a xs) ∧ R (Itl X.K a) H1) ∨ ∃ a, x = .ref a ∧ (∃ xs, SqT X.K H1 a xs) ∧ R (Itt X.K a) H1) := by
  refine ⟨fun pins s σ H R I h => ?_⟩
  refine thn (hl.run pins s σ H _ I h) fun v s1 ⟨x, H1, I1, r1, q1⟩ => ?_
  rcases q1 with ⟨a, e, ⟨xs, hq⟩, q⟩ | ⟨a, e, ⟨xs, hq⟩, q⟩
  · subst e
    cases r1
    obtain ⟨its, rv, p, hz⟩ := I1.list hq
    refine wpAny_pyIter_list p.isList ?_
    refine ⟨s1.heap.objs.size, [s1.heap.objs.size], _, _, H1, rfl, I1.kept (t' := s1.toks) fun b o e => Heap.get?_push_of_some _ e, turn_list a _, ⟨_, Heap.get?_push_size _ rfl, rfl, rfl⟩, fun b hb => ?_, q⟩
    have e : b = s1.heap.objs.size := by simpa using hb
    subst e
    exact I1.fpOk (Nat.le_refl _) I1.fresh
  · subst e
    cases r1
    obtain ⟨its, rv, p, hz⟩ := I1.tuple hq
    refine wpAny_pyIter_tuple (show s1.heap.IsTuple a its.toArray from p) ?_
    refine ⟨s1.heap.objs.size, [s1.heap.objs.size], _, _, H1, rfl, I1.kept (t' := s1.toks) fun b o e => Heap.get?_push_of_some _ e, turn_tuple a _, ⟨_, Heap.get?_push_size _ rfl, rfl, rfl⟩, fun b hb => ?_, q⟩
    have e : b = s1.heap.objs.size := by simpa using hb
    subst e
    exact I1.fpOk (Nat.le_refl _) I1.fresh
theorem pi_seqA {C : Cb} {ce : E} (he : PE X e (TEm G X.K Wx (ev C ce))) : PI X tg e (TIm G X.K Wx (evI C (.sq ce))) := by
  refine pi_weak (pi_seq he) ?_
  rw [evI_sq]
  rintro σ H Q ⟨r, f, h, S, p⟩
  refine ⟨r, f, h, S, (PostG.seq (rel := relW G X.K) p).mono ?_⟩
  rintro v H1 ⟨r1, x, h1, e1, R1, q1, p1⟩
  cases z : seqOf x h1 with
  | none => simp only [z] at p1; exact p1.elim
  | some l =>
    simp only [z] at p1
    obtain ⟨pa, vs, rfl, k1, k2⟩ := seqOf_ok R1 q1 z
    have fin : ∀ J, ((∃ l, x = .tup l) ∧ J = Itt X.K pa ∨ (∀ l, x ≠ .tup l) ∧ J = Itl X.K pa) → Q J H1 := fun J hj => p1 r1 H1 J .refl R1 ⟨pa, q1, hj⟩
    by_cases ht : ∃ l, x = .tup l
    · obtain ⟨l0, rfl⟩ := ht
      obtain ⟨a', vs', ea, k3, k4⟩ := q1
      cases ea
      exact .inr ⟨pa, rfl, ⟨vs', SqT.of k3⟩, fin _ (.inl ⟨⟨l0, rfl⟩, rfl⟩)⟩
    · have hn : ∀ l, x ≠ .tup l := fun l e => ht ⟨l, e⟩
      obtain ⟨a', vs', ea, k3, k4⟩ := lstOf_ok R1 q1 (seq_lst hn z)
      cases ea
      exact .inl ⟨pa, rfl, ⟨vs', k3⟩, fin _ (.inr ⟨hn, rfl⟩)⟩
theorem ta2 {ma mb : F → Hm → R W} {σ : St} {H : Hp} {Q : List V → Hp → Prop} (q : TEm G X.K Wx ma σ H fun v H1 => TEm G X.K Wx mb σ H1 fun u H2 => Q [v, u] H2) : tCons (TEm G X.K Wx ma) (tCons (TEm G X.K Wx mb) tNil) σ H Q := q
theorem pi_zipA' {C : Cb} {ca cb : E} {elts : List Expr} {kk : Nat} {tpos : Pos} (hg : Gl X "zip") (hm : X.mg "zip" = none) (na : noStar a = true) (nb : noStar b = true) (ha : PE X a (TEm G X.K Wx (ev C ca))) (hb : PE X b (TEm G X.K Wx (ev C cb))) :
    PI X (.Tuple elts kk tpos) (.Call (.Name "zip" p) [a, b] [] pos) (TIm G X.K Wx (evI C (.zip ca cb))) := by
  refine pi_weak (pi_zip hg hm (pa_cons ha (pa_cons hb pa_nil (star_cons nb [])) (star_cons na [b])) (star_cons na [b]) (star_any (es := [b]) (by simp [nb]))) ?_
  rw [evI_zip]
  rintro σ H Q ⟨r, f, h, S, p⟩
  refine ⟨r, f, h, S, (PostG.seq (rel := relW G X.K) p).mono ?_⟩
  rintro v H1 ⟨r1, x, h1, e1, R1, q1, p1⟩
  refine ⟨r1, f, h1, S.ext e1 R1, (PostG.seq (rel := relW G X.K) p1).mono ?_⟩
  rintro u H2 ⟨r2, y, h2, e2, R2, q2, p2⟩
  cases z1 : lstOf x h2 with
  | none => simp only [z1] at p2; exact p2.elim
  | some l =>
    cases z2 : lstOf y h2 with
    | none => simp only [z1, z2] at p2; exact p2.elim
    | some m =>
      simp only [z1, z2] at p2
      have q1 := q1.ext e2
      obtain ⟨pa, vs, rfl, k1, k2⟩ := lstOf_ok R2 q1 z1
      obtain ⟨pb, us, rfl, k3, k4⟩ := lstOf_ok R2 q2 z2
      exact ⟨pa, pb, vs, us, rfl, k1, k3, p2 r2 H2 _ .refl R2 ⟨pa, pb, q1, q2, rfl⟩⟩
theorem pi_enuA {C : Cb} {ca : E} {elts : List Expr} {kk : Nat} {tpos : Pos} (hg : Gl X "enumerate") (hm : X.mg "enumerate" = none) (na : noStar a = true) (ha : PE X a (TEm G X.K Wx (ev C ca))) :
    PI X (.Tuple elts kk tpos) (.Call (.Name "enumerate" p) [a] [] pos) (TIm G X.K Wx (evI C (.enu ca))) := by
  refine pi_weak (pi_enum hg hm (pa_cons ha pa_nil (star_cons na [])) (star_cons na [])) ?_
  rw [evI_enu]
  rintro σ H Q ⟨r, f, h, S, p⟩
  refine ⟨r, f, h, S, (PostG.seq (rel := relW G X.K) p).mono ?_⟩
  rintro v H1 ⟨r1, x, h1, e1, R1, q1, p1⟩
  cases z1 : lstOf x h1 with
  | none => simp only [z1] at p1; exact p1.elim
  | some l =>
    simp only [z1] at p1
    obtain ⟨pa, vs, rfl, k1, k2⟩ := lstOf_ok R1 q1 z1
    exact ⟨pa, vs, rfl, k1, p1 r1 H1 _ .refl R1 ⟨pa, q1, rfl⟩⟩
theorem evs_len {C : Cb} : ∀ {l : List E} {f : F} {h h' : Hm} {ws : List W}, evs C (listE l) f h = .ok ws h' → ws.length = l.length
  | [], f, h, h', ws, e => by
    rw [show listE ([] : List E) = E.nil from rfl, evs_nil] at e
    cases e; rfl
  | a :: l, f, h, h', ws, e => by
    rw [show listE (a :: l) = E.cons a (listE l) from rfl, evs_cons] at e
    simp only at e
    cases z : ev C a f h with
    | ok x h1 =>
      rw [z] at e
      simp only [R.bind] at e
      cases z2 : evs C (listE l) f h1 with
      | ok xs h2 =>
        rw [z2] at e
        cases e
        rw [List.length_cons, List.length_cons, evs_len z2]
      | exc c h2 => rw [z2] at e; cases e
      | bad => rw [z2] at e; cases e
    | exc c h1 => rw [z] at e; cases e
    | bad => rw [z] at e; cases e
theorem rv_int {K : PySem.W.Frag} {r : List Addr} {H : Hp} {i : Int} {v : V} (q : RV G K r H (.int i) v) : v = .int i := q
theorem pi_rngA {C : Cb} {ce : Expr → E} (hg : Gl X "range") (hm : X.mg "range" = none) (hp : ∀ e, PE X e (TEm G X.K Wx (ev C (ce e)))) (hs : es.all noStar = true) (h1 : 1 ≤ es.length) (h3 : es.length ≤ 3) :
    PI X tg (.Call (.Name "range" p) es [] pos) (TIm G X.K Wx (evI C (.rng (listE (es.map ce))))) := by
  have ha := pa_all (C := C) hp hs
  rw [evI_rng]
  have key : ∀ σ H Q, TIm G X.K Wx (fun f h => (evs C (listE (es.map ce)) f h).bind fun ws h1 => match rngOf ws with | some J => .ok J h1 | none => .bad) σ H Q →
      TAm G X.K Wx (evs C (listE (es.map ce))) σ H fun vs H1 => ∃ ws r h1 J, ws.length = es.length ∧ RelH G X.K r h1 H1 ∧ RVs G X.K r H1 ws vs ∧ rngOf ws = some J ∧ ∀ J', RI G X.K r H1 J J' → Q J' H1 := by
    rintro σ H Q ⟨r, f, h, S, p⟩
    refine ⟨r, f, h, S, (PostG.seq' (rel := relA G X.K) p).mono ?_⟩
    rintro vs H1 ⟨r1, ws, h1, e0, e1, R1, q1, p1⟩
    cases z : rngOf ws with
    | none => simp only [z] at p1; exact p1.elim
    | some J =>
      simp only [z] at p1
      exact ⟨ws, r1, h1, J, by rw [evs_len e0, List.length_map], R1, q1, z, fun J' hj => p1 r1 H1 J' .refl R1 hj⟩
  match es, hs, h1, h3, ha, key with
  | [a], hs, _, _, ha, key =>
    simp only [List.all_cons, Bool.and_eq_true] at hs
    refine pi_weak (pi_range1 hg hm ha (star_cons hs.1 [])) fun σ H Q z => ?_
    obtain ⟨r, f, h, S, p⟩ := key σ H Q z
    refine ⟨r, f, h, S, p.mono ?_⟩
    rintro vs H1 ⟨ws, r1, h1, J, hl, R1, q1, e, k⟩
    match ws, hl, e, q1 with
    | [w], _, e, q1 =>
      cases w with
      | int i =>
        obtain ⟨v, rest, rfl, k1, k2⟩ := q1
        rw [rv_int k1, show rest = [] from k2]
        simp only [rngOf] at e
        split at e
        · rename_i hb
          cases e
          exact ⟨i, rfl, hb.1, hb.2, k _ (.inl ⟨rfl, rfl⟩)⟩
        · cases e
      | _ => simp [rngOf] at e
  | [a, b], hs, _, _, ha, key =>
    simp only [List.all_cons, Bool.and_eq_true] at hs
    refine pi_weak (pi_range2 hg hm ha (by rw [star_cons hs.1, star_cons hs.2.1]; rfl) (star_cons hs.2.1 [])) fun σ H Q z => ?_
    obtain ⟨r, f, h, S, p⟩ := key σ H Q z
    refine ⟨r, f, h, S, p.mono ?_⟩
    rintro vs H1 ⟨ws, r1, h1, J, hl, R1, q1, e, k⟩
    match ws, hl, e, q1 with
    | [w, w2], _, e, q1 =>
      cases w with
      | int i =>
        cases w2 with
        | int j =>
          obtain ⟨v, rest, rfl, k1, v2, rest2, rfl, k2, k3⟩ := q1
          rw [rv_int k1, rv_int k2, show rest2 = [] from k3]
          simp only [rngOf] at e
          split at e
          · rename_i hb
            cases e
            exact ⟨i, j, rfl, ⟨hb.1.1, hb.1.2, hb.2.1, hb.2.2⟩, k _ (.inl ⟨rfl, rfl⟩)⟩
          · cases e
        | _ => simp [rngOf] at e
      | _ => simp [rngOf] at e
  | [a, b, c], hs, _, _, ha, key =>
    simp only [List.all_cons, Bool.and_eq_true] at hs
    refine pi_weak (pi_range3 hg hm ha (star_cons hs.1 _) (star_any (es := [b, c]) (by simp [hs.2.1, hs.2.2.1]))) fun σ H Q z => ?_
    obtain ⟨r, f, h, S, p⟩ := key σ H Q z
    refine ⟨r, f, h, S, p.mono ?_⟩
    rintro vs H1 ⟨ws, r1, h1, J, hl, R1, q1, e, k⟩
    match ws, hl, e, q1 with
    | [w, w2, w3], _, e, q1 =>
      cases w with
      | int i =>
        cases w2 with
        | int j =>
          cases w3 with
          | int c =>
            obtain ⟨v, rest, rfl, k1, v2, rest2, rfl, k2, v3, rest3, rfl, k3, k4⟩ := q1
            rw [rv_int k1, rv_int k2, rv_int k3, show rest3 = [] from k4]
            simp only [rngOf] at e
            split at e
            · rename_i hb
              cases e
              obtain ⟨⟨hb1, hb2⟩, rfl⟩ := hb
              exact ⟨i, j, -1, _, rfl, RgC.neg hb1.1 hb1.2 hb2.1 hb2.2, k _ (.inr rfl)⟩
            · cases e
          | _ => simp [rngOf] at e
        | _ => simp [rngOf] at e
      | _ => simp [rngOf] at e
end
end WL

/-! comprehensions -/
namespace WL
open PySem PySem.Spec PyProof.Rows L2
abbrev Wno : WX := fun _ _ _ _ => False
/-- the new list at D holds what the machine has gathered -/
def PostL (G : Nm) (K : PySem.W.Frag) (D : Addr) (r : List Addr) (H : Hp) (x : R (List W)) (Qd : Hp → Prop) : Prop := match x with
  | .ok ws h => ∀ r' H' vs, Ext r H r' H' → RelH G K r' h H' → H' D = some (.lst vs) → RVs G K r' H' ws vs → (∀ n : Nat, r'[n]? ≠ some D) → Qd H'
  | _ => False
section
variable {G : Nm} {K : PySem.W.Frag}
theorem lc_inv {C : Cb} {t cond e : E} {own : List Nat} {n : Nat} {J : It} {J' : L2.It} {r1 : List Addr} {h1 : Hm} {H1 : Hp} {f : F} {σ : St} {D : Addr} {Qd : Hp → Prop}
    (S1 : RelS G K r1 f h1 σ H1) (hJ : RI G K r1 H1 J J') (hD : H1 D = none) (ho : inOwn t own)
    (p : PostL G K D r1 H1 (lcL (evC C cond) (ev C e) (bindT t) J (wipe f own) n 0 [] h1) Qd) :
    ∃ Wi : Nat → Nat → Hp → Prop, (∃ m, Wi 0 m (upd H1 D (.lst []))) ∧ ∀ i m H, Wi i m H →
      (J'.stop i H ∧ Qd H) ∨ (J'.go i H ∧ ∃ Nx : Hp → Prop, (∀ H', Nx H' → ∃ m', m' < m ∧ Wi (i + 1) m' H') ∧ ∀ x H', J'.yld i H x H' → TGm G K t x (L2.wipe σ own) H' fun σ2 H2 => L2.wipe σ2 own = L2.wipe σ own ∧ TTm G K Wno (evC C cond) σ2 H2 fun b H3 =>
        if b = true then TEm G K Wno (ev C e) σ2 H3 fun y H4 => ∃ acc, H4 D = some (.lst acc) ∧ acc.length < sizeLine ∧ Nx (upd H4 D (.lst (acc ++ [y]))) else Nx H3) := by
  refine ⟨fun i m H => ∃ r h acc vs, Ext r1 H1 r H ∧ RelS G K r (wipe f own) h (L2.wipe σ own) H ∧ RI G K r H J J' ∧ H D = some (.lst vs) ∧ RVs G K r H acc vs ∧ (∀ n : Nat, r[n]? ≠ some D) ∧
    PostL G K D r1 H1 (lcL (evC C cond) (ev C e) (bindT t) J (wipe f own) m i acc h) Qd, ⟨n, r1, h1, [], [], Ext.new hD, ?_, hJ.ext0 (Ext.new hD).toExt0, upd_same, rfl, S1.heap.out hD, p⟩, ?_⟩
  · exact (S1.wipe own).ext (Ext.new hD) (S1.heap.aside hD)
  · rintro i m H ⟨r, h, acc, vs, X1, S, qJ, hd, qa, nD, p⟩
    cases m with
    | zero =>
      simp only [lcL] at p
      by_cases hs : J.stop i h = true
      · rw [if_pos hs] at p
        exact .inl ⟨qJ.stop S.heap hs, p r H vs X1 S.heap hd qa nD⟩
      · rw [if_neg hs] at p; exact p.elim
    | succ m =>
      simp only [lcL] at p
      cases z : (J.item i h).bind fun w => bindT t w (wipe f own) with
      | none => rw [z] at p; exact p.elim
      | some f1 =>
        rw [z] at p
        simp only at p
        cases z1 : J.item i h with
        | none => rw [z1] at z; cases z
        | some w =>
          rw [z1] at z
          have z : bindT t w (wipe f own) = some f1 := z
          obtain ⟨hgo, hy⟩ := qJ.go S.heap z1
          refine .inr ⟨hgo, fun H' => ∃ r h acc vs, Ext r1 H1 r H' ∧ RelS G K r (wipe f own) h (L2.wipe σ own) H' ∧ RI G K r H' J J' ∧ H' D = some (.lst vs) ∧ RVs G K r H' acc vs ∧ (∀ n : Nat, r[n]? ≠ some D) ∧
            PostL G K D r1 H1 (lcL (evC C cond) (ev C e) (bindT t) J (wipe f own) m (i + 1) acc h) Qd, fun H' q => ⟨m, Nat.lt_succ_self _, q⟩, fun x H2 y => ?_⟩
          obtain ⟨e2, R2, q2, k2⟩ := hy x H2 y
          have S2 := S.ext e2 R2
          refine ⟨r, wipe f own, h, w, f1, S2, q2, z, fun σ2 S3 w2 => ⟨by rw [w2 own ho, wipe_wipe], ?_⟩⟩
          refine ⟨r, f1, h, S3, ?_⟩
          show PostG G K relQ Wno σ2 r H2 (evC C cond f1 h).tst _
          cases z3 : evC C cond f1 h with
          | exc c hx => simp only [z3] at p; exact p.elim
          | bad => simp only [z3] at p; exact p.elim
          | ok wc h3 =>
            simp only [z3] at p
            cases wc with
            | bl b =>
              intro r3 H3 b' e3 R3 qb
              have qb : b = b' := qb
              subst qb
              have X3 : Ext r1 H1 r3 H3 := (X1.trans e2).trans e3
              have nD3 : ∀ n : Nat, r3[n]? ≠ some D := fun n hn => by
                rcases e3.fresh n D hn with ⟨m', hm⟩ | q
                · exact nD m' hm
                · rw [k2 D _ hd] at q; cases q
              have hd3 : H3 D = some (.lst vs) := e3.keep D _ (k2 D _ hd) nD (fun _ z => by cases z)
              have e23 := (e2.trans e3)
              cases b with
              | false =>
                simp only [Bool.false_eq_true, if_false]
                exact ⟨r3, h3, acc, vs, X3, S.ext e23 R3, qJ.ext0 e23.toExt0, hd3, qa.ext e23, nD3, p⟩
              | true =>
                simp only [if_true]
                refine ⟨r3, f1, h3, S3.ext e3 R3, ?_⟩
                cases z4 : ev C e f1 h3 with
                | exc c hx => simp only [z4] at p; exact p.elim
                | bad => simp only [z4] at p; exact p.elim
                | ok w4 h4 =>
                  simp only [z4] at p
                  intro r4 H4 y4 e4 R4 q4
                  have X4 : Ext r1 H1 r4 H4 := X3.trans e4
                  have nD4 : ∀ n : Nat, r4[n]? ≠ some D := fun n hn => by
                    rcases e4.fresh n D hn with ⟨m', hm⟩ | q
                    · exact nD3 m' hm
                    · rw [hd3] at q; cases q
                  have hd4 : H4 D = some (.lst vs) := e4.keep D _ hd3 nD3 (fun _ z => by cases z)
                  have e24 := e23.trans e4
                  have qa4 := qa.ext e24
                  by_cases hl : acc.length < line
                  · rw [if_pos hl] at p
                    have e5 : Ext0 r4 H4 r4 (upd H4 D (.lst (vs ++ [y4]))) := Ext0.put hd4 trivial
                    have R5 := R4.aput (ho := .lst (vs ++ [y4])) nD4 hd4 trivial
                    refine ⟨vs, hd4, by rw [qa4.length]; exact hl, r4, h4, acc ++ [w4], vs ++ [y4], X4.side hD, ?_, (qJ.ext0 e24.toExt0).ext0 e5, upd_same, ?_, nD4, p⟩
                    · exact (S.ext e24 R4).ext0 e5 R5
                    · exact (qa4.snoc q4).ext0 e5
                  · rw [if_neg hl] at p; exact p.elim
            | _ => exact p.elim
end
/-! ### the rule -/
theorem relS_scope {scope : Scope} {cl : List (Str × Addr)} {C : Addr} {env : Env} : (compEnvC scope cl C env).scope = relS scope env.scope := rfl
theorem foldSet {iter : Expr} (h : noSet iter = true) (env : Env) : ∀ x, foldedSetIterable iter env x = pure x := by
  intro x
  cases iter <;> first | rfl | cases h
section
variable {G : Nm} {X : Cx} {Wx : WX}
/-- how the machine's gathered list answers as the list at D -/
theorem lc_read {elt tg iter : Expr} {ifs : List Expr} {scope : Scope} {own : List (Str × Nat)} {pos : Pos} {C : Cb} {t it cond e : E} (hc : X.calm = true) (hN : X.N.Nodup) (hb : BlkOk X.N X.env.scope scope own) (ho : inOwn t (own.map (·.2))) (hs : noSet iter = true)
    (hi : PI X tg iter (TIm G X.K Wx (evI C it)))
    (hg : ∀ (s : Shared) (H : Hp) (Ca : Addr) (cl : List (Str × Addr)) (fp : List Addr), PG (X.blk s H scope (compEnvC scope cl Ca X.env) fp) tg (TGm G X.K t))
    (ht : ∀ (s : Shared) (H : Hp) (Ca : Addr) (cl : List (Str × Addr)) (fp : List Addr), PTs (X.blk s H scope (compEnvC scope cl Ca X.env) fp) ifs (TTm G X.K Wno (evC C cond)))
    (he : ∀ (s : Shared) (H : Hp) (Ca : Addr) (cl : List (Str × Addr)) (fp : List Addr), PE (X.blk s H scope (compEnvC scope cl Ca X.env) fp) elt (TEm G X.K Wno (ev C e))) :
    PE X (.ListComp elt [⟨tg, iter, ifs, 0⟩] scope pos) (tLc (TIm G X.K Wx (evI C it)) (TGm G X.K t) (TTm G X.K Wno (evC C cond)) (TEm G X.K Wno (ev C e)) (own.map (·.2))) :=
  pe_lc hc hN hi hb hg ht he (foldSet hs X.env)
abbrev mLc (C : Cb) (own : List Nat) (t it cond e : E) (k : List W → Hm → R W) : F → Hm → R W := fun f h => (evI C it f h).bind fun J h1 => match J.len h1 with
    | some n => (lcL (evC C cond) (ev C e) (bindT t) J (wipe f own) n 0 [] h1).bind fun ws h2 => k ws h2
    | none => .bad
theorem te_lc {C : Cb} {own : List Nat} {t it cond e : E} {k : List W → Hm → R W} (ho : inOwn t own) (R1 : VK → V → Hp → Prop)
    (hk : ∀ (σ : St) (Q : VK) (D : Addr) (r1 : List Addr) (H1 : Hp) (ws : List W) (h2 : Hm) (r' : List Addr) (H' : Hp) (vs : List V), H1 D = none → PostG G X.K (relW G X.K) Wx σ r1 H1 (k ws h2) Q → Ext r1 H1 r' H' → RelH G X.K r' h2 H' → H' D = some (.lst vs) → RVs G X.K r' H' ws vs → (∀ n : Nat, r'[n]? ≠ some D) → R1 Q (.ref D) H')  :
    ∀ σ H Q, TEm G X.K Wx (mLc C own t it cond e k) σ H Q → tLc (TIm G X.K Wx (evI C it)) (TGm G X.K t) (TTm G X.K Wno (evC C cond)) (TEm G X.K Wno (ev C e)) own σ H (R1 Q) := by
  rintro σ H Q ⟨r, f, h, S, p⟩
  refine ⟨r, f, h, S, (PostG.seq (rel := relI G X.K) p).mono ?_⟩
  rintro J' H1 ⟨r1, J, h1, e1, Rl, q1, p1⟩
  cases z : J.len h1 with
  | none => simp only [z] at p1; exact p1.elim
  | some n =>
    simp only [z] at p1
    intro D hD
    refine lc_inv (S.ext e1 Rl) q1 hD ho (n := n) (Qd := fun H' => R1 Q (.ref D) H') ?_
    -- the gathered list's end
    cases z2 : lcL (evC C cond) (ev C e) (bindT t) J (wipe f own) n 0 [] h1 with
    | ok ws h2 =>
      rw [z2] at p1
      intro r' H' vs X1 Rr hd qa nD
      exact hk σ Q D r1 H1 ws h2 r' H' vs hD p1 X1 Rr hd qa nD
    | exc c hx =>
      exfalso
      have nex : ∀ m i acc h c hx, lcL (evC C cond) (ev C e) (bindT t) J (wipe f own) m i acc h ≠ .exc c hx := by
        intro m
        induction m with
        | zero =>
          intro i acc h c hx
          simp only [lcL]
          split <;> exact fun q => nomatch q
        | succ m ih =>
          intro i acc h c hx
          simp only [lcL]
          split
          · exact fun q => nomatch q
          · split
            · split
              · split
                · exact ih _ _ _ _ _
                · exact fun q => nomatch q
              · exact fun q => nomatch q
            · exact ih _ _ _ _ _
            · exact fun q => nomatch q
      exact nex _ _ _ _ _ _ z2
    | bad => rw [z2] at p1; exact p1.elim
/-- a new list -/
theorem te_lcA {C : Cb} {own : List Nat} {t it cond e : E} (ho : inOwn t own) : ∀ σ H Q, TEm G X.K Wx (mLc C own t it cond e fun ws h2 => alloc (.lst ws) h2) σ H Q → tLc (TIm G X.K Wx (evI C it)) (TGm G X.K t) (TTm G X.K Wno (evC C cond)) (TEm G X.K Wno (ev C e)) own σ H Q :=
  te_lc ho (fun Q v H => Q v H) fun σ Q D r1 H1 ws h2 r' H' vs hD p X1 Rr hd qa nD => by
    refine p (r' ++ [D]) H' (.ref D) (X1.adopt hD) (Rr.adopt nD ⟨vs, hd, qa⟩) ⟨D, rfl, ?_⟩
    rw [← Rr.len, List.getElem?_append_right (Nat.le_refl _)]; simp
end
end WL

/-! calls, built-ins, methods -/
namespace WL
open PySem PySem.Spec PyProof.Rows L2
theorem ndS_ok : ∀ {l : List Str}, ndS l = true → l.Nodup
  | [], _ => List.nodup_nil
  | x :: r, h => by
    unfold ndS at h
    simp only [Bool.and_eq_true, Bool.not_eq_true'] at h
    refine List.nodup_cons.mpr ⟨fun hm => ?_, ndS_ok h.2⟩
    have : (r.any fun y => decide (y = x)) = true := List.any_eq_true.mpr ⟨x, hm, by simp⟩
    rw [h.1] at this; cases this
theorem scope_ok {N P : List Str} {sc : Scope} (h : scopeB N P sc = true) : FnScope N P sc := by
  unfold scopeB at h
  simp only [Bool.and_eq_true, Bool.not_eq_true', decide_eq_true_eq, List.all_eq_true, decide_eq_false_iff_not] at h
  obtain ⟨⟨⟨⟨⟨⟨h1, h2⟩, h3⟩, h4⟩, h5⟩, h6⟩, h7⟩ := h
  exact ⟨h1, h2, h3, ndS_ok h4, h5, fun x hx => locB_ok (h6 x hx), h7⟩
/-! ### parameters bound -/
theorem zip_lookup : ∀ {ps : List Str} {us : List Value}, ps.Nodup → us.length = ps.length → ∀ {i : Nat} {x : Str}, ps[i]? = some x → ∃ u, us[i]? = some u ∧ (ps.zip us).lookup x = some u
  | [], us, _, _, i, x, h => by simp at h
  | p :: ps, [], _, hl, _, _, _ => by simp at hl
  | p :: ps, u :: us, hn, hl, 0, x, h => by
    simp at h; subst h
    exact ⟨u, rfl, by simp [List.zip_cons_cons, List.lookup_cons]⟩
  | p :: ps, u :: us, hn, hl, i + 1, x, h => by
    rw [List.nodup_cons] at hn
    obtain ⟨v, h1, h2⟩ := zip_lookup (us := us) hn.2 (by simpa using hl) (i := i) (x := x) (by simpa using h)
    have hx : x ≠ p := fun e => hn.1 (e ▸ List.mem_of_getElem? (by simpa using h))
    refine ⟨v, by simpa using h1, ?_⟩
    rw [List.zip_cons_cons, List.lookup_cons, beq_eq_false_iff_ne.mpr hx]
    exact h2
theorem zip_fm {ps : List Str} {us : List Value} (hn : ps.Nodup) (hl : us.length = ps.length) : ps.filterMap (fun n => ((ps.zip us).lookup n).map fun v => (n, v)) = ps.zip us := by
  have h1 : ∀ n ∈ ps, ∃ v, (ps.zip us).lookup n = some v := fun n hm => by
    obtain ⟨i, hi, e⟩ := List.mem_iff_getElem.mp hm
    obtain ⟨u, _, h⟩ := zip_lookup hn hl (i := i) (x := n) (by rw [List.getElem?_eq_getElem hi, e])
    exact ⟨u, h⟩
  have h2 : ∀ l : List Str, (∀ n ∈ l, ∃ v, (ps.zip us).lookup n = some v) → (l.filterMap (fun n => ((ps.zip us).lookup n).map fun v => (n, v))).length = l.length := by
    intro l
    induction l with
    | nil => intro _; rfl
    | cons a l ih =>
      intro h
      obtain ⟨v, hv⟩ := h a List.mem_cons_self
      rw [List.filterMap_cons, hv]
      simp only [Option.map_some, List.length_cons]
      rw [ih fun n hn => h n (List.mem_cons_of_mem _ hn)]
  have h3 : ∀ l : List Str, (∀ n ∈ l, ∃ v, (ps.zip us).lookup n = some v) → ∀ i : Nat, (l.filterMap (fun n => ((ps.zip us).lookup n).map fun v => (n, v)))[i]? = (l[i]?).bind fun n => ((ps.zip us).lookup n).map fun v => (n, v) := by
    intro l
    induction l with
    | nil => intro _ i; simp
    | cons a l ih =>
      intro h i
      obtain ⟨v, hv⟩ := h a List.mem_cons_self
      rw [List.filterMap_cons, hv]
      cases i with
      | zero => simp [hv]
      | succ i => simpa using ih (fun n hn => h n (List.mem_cons_of_mem _ hn)) i
  apply List.ext_getElem?
  intro i
  rw [h3 ps h1 i]
  cases q : ps[i]? with
  | none =>
    have : ps.length ≤ i := List.getElem?_eq_none_iff.mp q
    rw [List.getElem?_eq_none (by simp; omega)]; rfl
  | some x =>
    obtain ⟨u, h4, h5⟩ := zip_lookup hn hl q
    have : (ps.zip us)[i]? = some (x, u) := by
      rw [List.getElem?_zip_eq_some]; exact ⟨q, h4⟩
    rw [this]
    simp [h5]
theorem bind_plain {fd : FuncData} {ps : List Str} {us : List Value} (h1 : plainA fd.params = true) (h2 : fd.defaults = .none) (h3 : parN fd.params = ps) (hn : ps.Nodup) (hl : us.length = ps.length) : bindArgs fd ⟨us, []⟩ = pure (ps.zip us) := by
  unfold plainA at h1
  simp only [Bool.and_eq_true, List.isEmpty_iff, Option.isNone_iff_eq_none] at h1
  obtain ⟨⟨⟨k1, k2⟩, k3⟩, k4⟩ := h1
  have e1 : seqItems? .none = (pure none : Sem (Option (Array Value))) := by first | rfl | (unfold seqItems?; rfl)
  have e2 : fd.params.args.map (·.arg) = ps := h3
  have hm : ∀ n ∈ ps, ∃ v, (ps.zip us).lookup n = some v := fun n hm => by
    obtain ⟨i, hi, e⟩ := List.mem_iff_getElem.mp hm
    obtain ⟨u, _, h⟩ := zip_lookup hn hl (i := i) (x := n) (by rw [List.getElem?_eq_getElem hi, e])
    exact ⟨u, h⟩
  have hmiss : (ps.filter fun n => ((ps.zip us).lookup n).isNone) = [] := by
    rw [List.filter_eq_nil_iff]
    intro n hnm
    obtain ⟨v, hv⟩ := hm n hnm
    rw [hv]; simp
  have hz := zip_fm hn hl
  unfold bindArgs
  simp only [k1, k2, k3, k4, h2, e1, e2, List.map_nil, List.nil_append, List.append_nil, hl]
  simp [hmiss, hz]
def bnames : List Str := ["len", "abs", "max", "min", "sum", "all", "any", "sorted", "list", "tuple", "range", "zip", "enumerate", "isinstance", "int", "bool", "str", "ValueError"]
def spM (G : Nm) (K : PySem.W.Frag) (T : Tb) (k g : Nat) : Sp := fun vs H Q E => ∃ r h ws, RelH G K r h H ∧ RVs G K r H ws vs ∧ PostG G K (relW G K) (fun c d _ H' => E c d H') [] r H (callM T k g ws h) Q
/-- what isinstance asks of an own class -/
structure ClT (K : PySem.W.Frag) (C : Addr) : Prop where
  ha : PySem.W.findIn K (.ref C) "__class__" = some (some (.builtin "object.__class__"))
  hn : PySem.W.specialIn K (.builtin "object.__class__") "__get__" = some (some (.builtin "getset_descriptor.__get__"))
  ht : PySem.W.takesIn K (.builtin "object.__class__") = some true
  hm : PySem.W.mroIn K C (.type "object") = some true
/-- a class that has no __init__ of its own -/
structure Mk0 (K : PySem.W.Frag) (C : Addr) : Prop where
  makes : PySem.W.makesIn K C = true
  init : PySem.W.findIn K (.ref C) "__init__" = some (some (.builtin "object.__init__"))
  kp : PySem.W.keepIn K (.ref C) = true
/-- the class that the number d stands for -/
def xV (G : Nm) (K : PySem.W.Frag) (d : Nat) : Value := if d < G.exs.length then .ref (xA G K d) else .type "ValueError"
structure Sta (G : Nm) (T : Tb) (K : PySem.W.Frag) (mg : Str → Option Value) : Prop where
  glo : ∀ (g : Nat) (x : Str), G.fns[g]? = some (x, none) → mg x = some (.ref (fA G K g))
  kp : ∀ (g : Nat) (p : Str × Option Str), G.fns[g]? = some p → PySem.W.keepIn K (.ref (fA G K g)) = true
  free : ∀ x ∈ bnames, mg x = none
  con : ∀ x i, G.consts.lookup x = some i → ∃ t, mg x = some (.int i t)
  cls : ∀ (c : Nat) (x : Str), G.cls[c]? = some x → mg x = some (.ref (cA G K c)) ∧ Cls K (cA G K c) ∧ ClT K (cA G K c) ∧ PySem.W.keepIn K (.ref (cA G K c)) = true
  noat : ∀ (c k : Nat) (f : Str), c < G.cls.length → G.flds[k]? = some f → NoAttr K (cA G K c) f
  met : ∀ (c m g : Nat) (mn : Str), T.metI c m = some g → G.mets[m]? = some mn → Meth K (cA G K c) mn (fA G K g) ∧ c < G.cls.length ∧ g < G.fns.length
  ini : ∀ (c i : Nat), T.init[c]? = some (some i) → Mk K (cA G K c) (fA G K i) ∧ i < G.fns.length
  ini0 : ∀ c : Nat, T.init[c]? = some none → Mk0 K (cA G K c)
  sub : ∀ c d : Nat, c < G.cls.length → d < G.cls.length → PySem.W.kitOne K (.ref (cA G K c)) (.ref (cA G K d)) = some (T.subB c d)
  fnd : G.flds.Nodup
  dis : ∀ (m k : Nat) (x : Str), G.mets[m]? = some x → G.flds[k]? ≠ some x
  exm : ∀ (e c : Nat) (b : Bool), T.subX e c = some b → c < G.exs.length → PySem.W.exmOne K (.ref (xA G K e)) (.ref (xA G K c)) = some b
  exi : ∀ (e d : Nat) (b : Bool), T.subX e d = some b → PySem.W.kitOne K (.ref (xA G K e)) (xV G K d) = some b
  exc : ∀ (e d : Nat) (b : Bool), T.subX e d = some b → ExcC K (xA G K e)
  exg : ∀ (c : Nat) (x : Str), G.exs[c]? = some x → mg x = some (.ref (xA G K c))
  dfs : ∀ (g : Nat) (p : Str × Option Str), G.fns[g]? = some p → ∃ d fd, d.at_ = p ∧ FunD K d.name d.qual d.params d.body d.scope [] [] (fA G K g) fd ∧ defB d = true ∧ T.fns[g]? = some (fnI G d)
  tks : ∀ (g : Nat) (tk : TkI), T.tks[g]? = some (some tk) → ∃ x d fd, G.fns[g]? = some (x, none) ∧ d.name = x ∧ d.qual = x ∧ FunD K d.name d.qual d.params d.body d.scope [] [] (fA G K g) fd ∧ defB d = true ∧ tkOf G d = some tk
/-- lambdas as values keep what the machine says -/
def spC (G : Nm) (K : PySem.W.Frag) (T : Tb) (k np ns : Nat) (b : E) : Sp := fun vs H Q E => ∃ r h ws, RelH G K r h H ∧ RVs G K r H ws vs ∧ PostG G K (relW G K) (fun c d _ H' => E c d H') [] r H (codM T k np ns b ws h) Q
structure Lev (G : Nm) (T : Tb) (P : Program) (w : World) (K : PySem.W.Frag) (mg : Str → Option Value) (base : Heap) (k : Nat) : Prop where
  fn : ∀ (g : Nat) (p : Str × Option Str), G.fns[g]? = some p → ∃ fd ps, Binds K fd ps [] ∧ FnOk P w K mg base (L2.CX P w) k (fA G K g) fd ps (spM G K T k g)
  cod : ∀ (L : LamT) (np ns : Nat) (b : E), CodOk G L np ns b → ∀ (A : Around) (outer : List Env) (s : Shared) (H : Hp) (us : List Value) (vs : List V) (Q : VK) (E' : XK) (a c : Addr), Room k A → Env0 P w K mg base A outer s H → H a = some (LamO a L c) → H c = some (LamX.CodeO c L.qual) → Vals vs us → spC G K T k np ns b vs H Q E' →
    codeAny (model P w) A (.call (.ref a) ⟨us, []⟩) (CR (L2.CX P w) outer P w H s Q E') s
/-- the defs that make lambdas: their code objects and tables -/
def MkOk (G : Nm) (K : PySem.W.Frag) (mg : Str → Option Value) (base : Heap) (code : Value) (qual : Str) : Prop := ∃ c P, code = .ref c ∧ LamX.TabB base mg c P ∧ (P, qual) ∈ tabL G K ∧ ∀ p ∈ tabL G K, p.1 = P → p.2 = qual
structure Good (G : Nm) (T : Tb) (k : Nat) (C : Cb) (s : Sx) (X : Cx) (Wx : WX) : Prop extends NmOk s X where
  room : Room k X.A
  tk : Takes X Wx
  sta : Sta G T X.K X.mg
  lev : ∀ j, j ≤ k → Lev G T X.prog X.w X.K X.mg X.base j
  mkr : MkOk G X.K X.mg X.base X.env.code (X.env.qual ++ "<lambda>") ∨ s.ml = false
  cT : C.tb = T
  cC : C.call = callM T k
  cM : C.make = mkM T k
  cD : C.cods = codM T k
  cK : (∀ g th h, C.thkc g th h = .bad) ∨ ∃ j, k = j + 2 ∧ C.thkc = runT (cbM T (j + 1)) ∧ C.lcall = callM T j ∧ C.lmake = mkM T j ∧ C.lcods = codM T j
section
variable {G : Nm} {T : Tb} {k : Nat} {C : Cb} {s : Sx} {X : Cx} {Wx : WX}
theorem Good.gl (O : Good G T k C s X Wx) {x : Str} (h : glB s.sc x = true) : Gl X x := by
  show X.env.scope.names.lookup x = some .globalImplicit
  rw [O.eS]; exact glB_ok h
theorem Good.blk (O : Good G T k C s X Wx) (scope : Scope) (sh : Shared) (H : Hp) (Ca : Addr) (cl : List (Str × Addr)) (fp : List Addr) : Good G T k C (blkX s scope) (X.blk sh H scope (compEnvC scope cl Ca X.env) fp) Wno where
  eN := O.eN
  nd := O.nd
  eS := by
    show relS scope X.env.scope = relS scope s.sc
    rw [O.eS]
  tgt := fun x hx => by
    have hx : locB scope x = true := hx
    have hl := locB_ok hx
    show L2.Loc (relS scope X.env.scope) x ∧ ((scope.names.lookup x == some .cell) = true ∨ (relS scope X.env.scope).names.lookup x = some .local)
    rcases hl with hl | hl
    · have := lookup_relS_keep (sc := X.env.scope) (k := .local) (by decide) hl
      exact ⟨.inl this, .inr this⟩
    · have := lookup_relS_keep (sc := X.env.scope) (k := .cell) (by decide) hl
      exact ⟨.inr this, .inl (by rw [hl]; rfl)⟩
  calm := O.calm
  room := O.room
  tk := L2.takes0
  sta := O.sta
  lev := O.lev
  mkr := O.mkr
  cT := O.cT
  cC := O.cC
  cM := O.cM
  cD := O.cD
  cK := O.cK
end
/-! ### a def is called -/
section
variable {G : Nm} {T : Tb} {k : Nat} {X : Cx} {Wx : WX} {x : Str} {p pos : Pos} {es : List Expr} {ms : F → Hm → R (List W)}
theorem post_any {K : PySem.W.Frag} {σ : St} {r : List Addr} {H : Hp} {y : R W} {Q : VK} (q : PostG G K (relW G K) Wx σ r H y Q) : PostG G K (relW G K) (fun c d _ H' => WE Wx σ c d H') [] r H y Q := by
  cases y with
  | ok a h => exact q
  | exc c h => exact q
  | bad => exact q
theorem te_cal {g : Nat} {σ : St} {H : Hp} {Q : VK} (q : TEm G X.K Wx (fun f h => (ms f h).bind fun ws h1 => callM T k g ws h1) σ H Q) : TAm G X.K Wx ms σ H fun vs H1 => spM G X.K T k g vs H1 Q (WE Wx σ) := by
  obtain ⟨r, f, h, S, p⟩ := q
  refine ⟨r, f, h, S, (PostG.seq (rel := relA G X.K) p).mono ?_⟩
  rintro vs H1 ⟨r1, ws, h1, e1, R1, q1, p1⟩
  exact ⟨r1, h1, ws, R1, q1, post_any p1⟩
theorem pe_cal {g : Nat} (sta : Sta G T X.K X.mg) (lev : Lev G T X.prog X.w X.K X.mg X.base k) (room : Room k X.A) (tk : Takes X Wx) (hg : Gl X x) (hpn : plainN x = true) (hf : idxF x G.fns = some g) (hs : es.all noStar = true) (ha : PA X es (TAm G X.K Wx ms)) (h0 : es = [] → ∀ σ H Q, TAm G X.K Wx ms σ H Q → Q [] H) :
    PE X (.Call (.Name x p) es [] pos) (TEm G X.K Wx fun f h => (ms f h).bind fun ws h1 => callM T k g ws h1) := by
  have hat := idxF_get hf
  obtain ⟨fd, ps, hb, F⟩ := lev.fn g _ hat
  have hm := sta.glo g x hat
  have hk := sta.kp g _ hat
  have hdb := (plainN_ok hpn).1
  cases es with
  | nil =>
    refine ⟨fun pins s σ H Q I q => ?_⟩
    refine wpAny_Call_Name_kw (ld_glob I hg hm ?_ hdb)
    refine PySem.W.callWith_K0 I.kIn hk ?_
    exact run_fnS F room hb (passAt tk σ) I .nil (h0 rfl σ H _ (te_cal q))
  | cons e es =>
    simp only [List.all_cons, Bool.and_eq_true] at hs
    refine pe_weak (pe_callS F room hg hm hk hb (fun σ => passAt tk σ) ha hdb (star_cons hs.1 es) (star_any hs.2)) ?_
    intro σ H Q q
    exact te_cal q
end
/-! ### built-ins -/
section
variable {G : Nm} {X : Cx} {Wx : WX}
def rB (X : Cx) : B → List V → Hp → VK → Prop
  | .len => fun xs H Q => ∃ p ys, xs = [.ref p] ∧ (SqL X.K H p ys ∨ SqT X.K H p ys) ∧ Q (.int ys.length) H
  | .abs => fun xs H Q => ∃ i, xs = [.int i] ∧ Q (.int (if i < 0 then -i else i)) H
  | .max => fun xs H Q => (∃ i j, xs = [.int i, .int j] ∧ Q (.int (if j > i then j else i)) H) ∨ rMax X.K xs H Q
  | .min => fun xs H Q => ∃ i j, xs = [.int i, .int j] ∧ Q (.int (if j < i then j else i)) H
  | .sum => rSum X.K
  | .all => rAll X.K
  | .any => rAny X.K
  | .sorted => fun xs H Q => rSortedI X.K xs H Q ∨ ∃ (a : Addr) (kvs : List (Key × V)) (ks : List Int), xs = [.ref a] ∧ Rd H a (.dK kvs) ∧ kvs.map (·.1) = ks.map Sum.inl ∧
    ∀ (ys : List Int) (p : Addr), ys.Perm ks → ys.Pairwise (· ≤ ·) → H p = none → Q (.ref p) (upd H p (.lst (ys.map V.int)))
  | .list => fun xs H Q => ∃ p ys, xs = [.ref p] ∧ (SqL X.K H p ys ∨ SqT X.K H p ys) ∧ ∀ l, H l = none → Q (.ref l) (upd H l (.lst ys))
  | .tuple => fun xs H Q => ∃ p ys, xs = [.ref p] ∧ ((SqL X.K H p ys ∧ ∀ l, H l = none → Q (.ref l) (upd H l (.tup ys))) ∨ (SqT X.K H p ys ∧ Q (.ref p) H))
  | .set => fun _ _ _ => False
def valB : B → Value
  | .len => .builtin "len" | .abs => .builtin "abs" | .max => .builtin "max" | .min => .builtin "min" | .sum => .builtin "sum" | .all => .builtin "all" | .any => .builtin "any" | .sorted => .builtin "sorted"
  | .list => .type "list" | .tuple => .type "tuple" | .set => .type "set"
theorem cr_B (hc : X.calm = true) : ∀ b, CallR X (valB b) (rB X b)
  | .len => call_len_seq
  | .abs => call_abs
  | .max => CallR.or (call_max2 hc) (cr_max hc)
  | .min => call_min2 hc
  | .sum => cr_sum hc
  | .all => cr_all hc
  | .any => cr_any hc
  | .sorted => CallR.or cr_sortedI (call_sortedDN hc)
  | .list => call_list_of
  | .tuple => call_tuple_of
  | .set => fun _ _ _ _ _ _ _ _ _ h => h.elim
theorem boot_B : ∀ b, b ∈ ([.len, .abs, .max, .min, .sum, .all, .any, .sorted, .list, .tuple] : List B) → bootBuiltins (bltNm b) = some (valB b)
  | .len, _ => by decide +kernel
  | .abs, _ => by decide +kernel
  | .max, _ => by decide +kernel
  | .min, _ => by decide +kernel
  | .sum, _ => by decide +kernel
  | .all, _ => by decide +kernel
  | .any, _ => by decide +kernel
  | .sorted, _ => by decide +kernel
  | .list, _ => by decide +kernel
  | .tuple, _ => by decide +kernel
  | .set, h => by cases h <;> contradiction
theorem max_eq {ns : List Int} {n m : Int} (hm : m ∈ n :: ns) (hle : ∀ y, y ∈ n :: ns → y ≤ m) : m = ns.foldl max n := by
  have key : ∀ (ns : List Int) (n : Int), (ns.foldl max n ∈ n :: ns) ∧ ∀ y, y ∈ n :: ns → y ≤ ns.foldl max n := by
    intro ns
    induction ns with
    | nil => intro n; exact ⟨List.mem_cons_self, fun y hy => by simp at hy; rw [hy]; exact Int.le_refl _⟩
    | cons a ns ih =>
      intro n
      obtain ⟨h1, h2⟩ := ih (max n a)
      refine ⟨?_, fun y hy => ?_⟩
      · show ns.foldl max (max n a) ∈ n :: a :: ns
        rcases List.mem_cons.mp h1 with h1 | h1
        · rw [h1]
          rcases Int.le_total n a with h | h
          · rw [Int.max_eq_right h]; simp
          · rw [Int.max_eq_left h]; simp
        · simp [h1]
      · show y ≤ ns.foldl max (max n a)
        have h3 := h2 (max n a) List.mem_cons_self
        rcases List.mem_cons.mp hy with hy | hy
        · rw [hy]; exact Int.le_trans (Int.le_max_left _ _) h3
        · rcases List.mem_cons.mp hy with hy | hy
          · rw [hy]; exact Int.le_trans (Int.le_max_right _ _) h3
          · exact h2 y (List.mem_cons_of_mem _ hy)
  obtain ⟨h1, h2⟩ := key ns n
  exact Int.le_antisymm (h2 m hm) (hle _ h1)
/-- a built-in upon a list that stands -/
theorem bltL_ok {σ : St} {r : List Addr} {h : Hm} {H : Hp} {b : B} {ws : List W} {vs : List V} {D : Addr} {Q : VK} {r1 : List Addr} {H1 : Hp} (X1 : Ext r1 H1 r H) (R : RelH G X.K r h H) (hd : SqL X.K H D vs) (q : RVs G X.K r H ws vs) (p : PostG G X.K (relW G X.K) Wx σ r1 H1 (bltL b ws h) Q) : rB X b [.ref D] H Q := by
  have okp : ∀ {w : W} {v : V}, PostG G X.K (relW G X.K) Wx σ r1 H1 (.ok w h) Q → RV G X.K r H w v → Q v H := fun p q => p r H _ X1 R q
  have newp : ∀ {o : O} {ho : HO} {pt : Addr}, PostG G X.K (relW G X.K) Wx σ r1 H1 (alloc o h) Q → H pt = none → RO G X.K r (upd H pt ho) pt o → Q (.ref pt) (upd H pt ho) := fun {o ho pt} p hp ro => by
    refine p (r ++ [pt]) (upd H pt ho) (.ref pt) (X1.trans (Ext.laid hp)) (R.laid hp ro) ⟨pt, rfl, ?_⟩
    rw [← R.len, List.getElem?_append_right (Nat.le_refl _)]; simp
  cases b with
  | len => exact ⟨D, vs, rfl, .inl hd, okp p (by show V.int _ = V.int _; rw [q.length])⟩
  | sum =>
    simp only [bltL] at p
    cases z : intsOf ws with
    | none => rw [z] at p; exact p.elim
    | some ns => rw [z] at p; exact ⟨D, ns, rfl, by rw [← q.ofInts z]; exact hd, okp p rfl⟩
  | all =>
    simp only [bltL] at p
    cases z : bls ws with
    | none => rw [z] at p; exact p.elim
    | some ns => rw [z] at p; exact ⟨D, ns, rfl, by rw [← q.ofBls z]; exact hd, okp p rfl⟩
  | any =>
    simp only [bltL] at p
    cases z : bls ws with
    | none => rw [z] at p; exact p.elim
    | some ns => rw [z] at p; exact ⟨D, ns, rfl, by rw [← q.ofBls z]; exact hd, okp p rfl⟩
  | sorted =>
    simp only [bltL] at p
    cases z : intsOf ws with
    | none => rw [z] at p; exact p.elim
    | some ns =>
      rw [z] at p
      refine .inl ⟨D, ns, rfl, by rw [← q.ofInts z]; exact hd, fun ns' pt hp hs hn => ?_⟩
      rw [sort_eq hp hs]
      exact newp p hn ⟨_, upd_same, RVs.ints _⟩
  | max =>
    simp only [bltL] at p
    cases z : intsOf ws with
    | none => rw [z] at p; exact p.elim
    | some ns =>
      rw [z] at p
      cases ns with
      | nil => exact p.elim
      | cons n ns =>
        refine .inr ⟨D, n :: ns, rfl, by rw [← q.ofInts z]; exact hd, Nat.succ_pos _, fun m hm hle => ?_⟩
        rw [max_eq hm hle]
        exact okp p rfl
  | list => exact ⟨D, vs, rfl, .inl hd, fun pt hp => newp p hp ⟨vs, upd_same, q.ext (Ext.new hp)⟩⟩
  | abs => exact p.elim
  | min => exact p.elim
  | tuple => exact p.elim
  | set => exact p.elim
theorem one_ref {K : PySem.W.Frag} {r : List Addr} {H : Hp} {n : Nat} {vs : List V} (q : RVs G K r H [.ref n] vs) : ∃ a, vs = [.ref a] ∧ r[n]? = some a := by
  obtain ⟨v, rest, rfl, ⟨a, rfl, h1⟩, h2⟩ := q
  exact ⟨a, by rw [show rest = [] from h2], h1⟩
theorem bltW_ok {σ : St} {r : List Addr} {h : Hm} {H : Hp} {b : B} {ws : List W} {vs : List V} {Q : VK} (R : RelH G X.K r h H) (q : RVs G X.K r H ws vs) (p : PostG G X.K (relW G X.K) Wx σ r H (bltW b ws h) Q) : rB X b vs H Q := by
  have one : ∀ {w : W}, ws = [w] → ∃ v, vs = [v] ∧ RV G X.K r H w v := fun e => by
    subst e
    obtain ⟨v, rest, rfl, h1, h2⟩ := q
    exact ⟨v, by rw [show rest = [] from h2], h1⟩
  have two : ∀ {w w' : W}, ws = [w, w'] → ∃ v v', vs = [v, v'] ∧ RV G X.K r H w v ∧ RV G X.K r H w' v' := fun e => by
    subst e
    obtain ⟨v, rest, rfl, h1, v2, rest2, rfl, h2, h3⟩ := q
    exact ⟨v, v2, by rw [show rest2 = [] from h3], h1, h2⟩
  have lst1 : ∀ {n : Nat}, ws = [.ref n] → (bltW b ws h = match h[n]? with | some (.lst l) => bltL b l h | _ => .bad) → rB X b vs H Q := fun {n} e z => by
    rw [z] at p
    cases z1 : h[n]? with
    | none => rw [z1] at p; exact p.elim
    | some o =>
      rw [z1] at p
      cases o with
      | lst l =>
        subst e
        obtain ⟨a, rfl, ha⟩ := one_ref q
        obtain ⟨us, k1, k2⟩ := R.obj n a _ ha z1
        exact bltL_ok .refl R (SqL.of k1) k2 p
      | _ => exact p.elim
  unfold bltW at p
  split at p
  · obtain ⟨v, rfl, h1⟩ := one rfl
    exact ⟨_, by rw [rv_int h1], post_ok p R rfl⟩
  · obtain ⟨v, v2, rfl, h1, h2⟩ := two rfl
    exact .inl ⟨_, _, by rw [rv_int h1, rv_int h2], post_ok p R rfl⟩
  · obtain ⟨v, v2, rfl, h1, h2⟩ := two rfl
    exact ⟨_, _, by rw [rv_int h1, rv_int h2], post_ok p R rfl⟩
  · obtain ⟨v, rfl, h1⟩ := one rfl
    split at p
    · rename_i l z
      obtain ⟨a, us, rfl, k1, k2⟩ := seqOf_ok R h1 z
      exact ⟨a, us, rfl, k1, post_ok p R (by show V.int _ = V.int _; rw [k2.length])⟩
    · exact p.elim
  · obtain ⟨v, rfl, h1⟩ := one rfl
    split at p
    · rename_i l z
      obtain ⟨a, us, rfl, k1, k2⟩ := seqOf_ok R h1 z
      exact ⟨a, us, rfl, k1, fun pt hp => post_alloc p R hp ⟨us, upd_same, k2.ext (Ext.new hp)⟩⟩
    · exact p.elim
  · obtain ⟨v, rfl, h1⟩ := one rfl
    split at p
    · rename_i l z
      obtain ⟨a, us, rfl, k1, k2⟩ := lstOf_ok R h1 z
      exact ⟨a, us, rfl, .inl ⟨k1, fun pt hp => p r _ _ (Ext.new hp) (R.aside hp) ⟨pt, us, rfl, upd_same, k2.ext (Ext.new hp)⟩⟩⟩
    · exact p.elim
  · rename_i n
    obtain ⟨a, rfl, ha⟩ := one_ref q
    split at p
    · rename_i l z1
      obtain ⟨us, k1, k2⟩ := R.obj n a _ ha z1
      exact bltL_ok .refl R (SqL.of k1) k2 p
    · rename_i l z1
      obtain ⟨kvs, k1, k2⟩ := R.obj n a _ ha z1
      refine .inr ⟨a, kvs, l.map (·.1), rfl, .inl k1, k2.keys, fun ys pt hp hs hn => ?_⟩
      rw [sort_eq hp hs]
      exact post_alloc p R hn ⟨_, upd_same, RVs.ints _⟩
    · exact p.elim
  · obtain ⟨a, rfl, ha⟩ := one_ref q
    split at p
    · rename_i l z1
      obtain ⟨us, k1, k2⟩ := R.obj _ a _ ha z1
      exact bltL_ok .refl R (SqL.of k1) k2 p
    · exact p.elim
  · exact p.elim
end
end WL

/-! built-ins and methods called, isinstance; all expressions -/
namespace WL
open PySem PySem.Spec PyProof.Rows L2
theorem bn_mem : ∀ b, b ∈ ([.len, .abs, .max, .min, .sum, .all, .any, .sorted, .list, .tuple] : List B) → bltNm b ∈ bnames := by
  intro b hb
  simp only [List.mem_cons, List.not_mem_nil, or_false] at hb
  rcases hb with rfl | rfl | rfl | rfl | rfl | rfl | rfl | rfl | rfl | rfl <;> simp [bltNm, bnames]
section
variable {G : Nm} {X : Cx} {Wx : WX} {p pos apos : Pos} {e o : Expr} {es : List Expr} {ms : F → Hm → R (List W)} {ma : F → Hm → R W}
/-- a built-in by its name -/
theorem pe_bltC {T : Tb} {b : B} {t : TA} (sta : Sta G T X.K X.mg) (hc : X.calm = true) (hb : b ∈ ([.len, .abs, .max, .min, .sum, .all, .any, .sorted, .list, .tuple] : List B)) (hg : Gl X (bltNm b)) (hpn : plainN (bltNm b) = true) (hs : (e :: es).all noStar = true) (ha : PA X (e :: es) t) :
    PE X (.Call (.Name (bltNm b) p) (e :: es) [] pos) (tCB (rB X b) t) := by
  have hm := sta.free _ (bn_mem b hb)
  have hbo := boot_B b hb
  obtain ⟨hdb, _, hn⟩ := plainN_ok hpn
  simp only [List.all_cons, Bool.and_eq_true] at hs
  have cr := cr_B (X := X) hc b
  cases b with
  | list => exact pe_callTy cr hg hm hbo ha hn hdb (star_cons hs.1 es) (star_any hs.2)
  | tuple => exact pe_callTy cr hg hm hbo ha hn hdb (star_cons hs.1 es) (star_any hs.2)
  | set => exact pe_callTy cr hg hm hbo ha hn hdb (star_cons hs.1 es) (star_any hs.2)
  | len => exact pe_callB cr hg hm hbo ha hn hdb (star_cons hs.1 es) (star_any hs.2)
  | abs => exact pe_callB cr hg hm hbo ha hn hdb (star_cons hs.1 es) (star_any hs.2)
  | max => exact pe_callB cr hg hm hbo ha hn hdb (star_cons hs.1 es) (star_any hs.2)
  | min => exact pe_callB cr hg hm hbo ha hn hdb (star_cons hs.1 es) (star_any hs.2)
  | sum => exact pe_callB cr hg hm hbo ha hn hdb (star_cons hs.1 es) (star_any hs.2)
  | all => exact pe_callB cr hg hm hbo ha hn hdb (star_cons hs.1 es) (star_any hs.2)
  | any => exact pe_callB cr hg hm hbo ha hn hdb (star_cons hs.1 es) (star_any hs.2)
  | sorted => exact pe_callB cr hg hm hbo ha hn hdb (star_cons hs.1 es) (star_any hs.2)
theorem te_blt {b : B} : ∀ σ H Q, TEm G X.K Wx (fun f h => (ms f h).bind fun ws h1 => bltW b ws h1) σ H Q → tCB (rB X b) (TAm G X.K Wx ms) σ H Q := by
  rintro σ H Q ⟨r, f, h, S, p⟩
  refine ⟨r, f, h, S, (PostG.seq (rel := relA G X.K) p).mono ?_⟩
  rintro vs H1 ⟨r1, ws, h1, e1, R1, q1, p1⟩
  exact bltW_ok R1 q1 p1
theorem te_agg {b : B} {C : Cb} {own : List Nat} {t it cond ce : E} (ho : inOwn t own) : ∀ σ H Q, TEm G X.K Wx (mLc C own t it cond ce fun ws h2 => bltL b ws h2) σ H Q →
    tCB (rB X b) (tCons (tLc (TIm G X.K Wx (evI C it)) (TGm G X.K t) (TTm G X.K Wno (evC C cond)) (TEm G X.K Wno (ev C ce)) own) tNil) σ H Q :=
  te_lc ho (fun Q v H => rB X b [v] H Q) fun σ Q D r1 H1 ws h2 r' H' vs hD p X1 Rr hd qa nD => bltL_ok X1 Rr (SqL.of hd) qa p
/-! ### methods of built-in types -/
theorem attr_base {attr : Str} (h : noSuper o = true) (env : Env) (whole : Sem Value) : attributeBase o attr env whole = whole := by
  unfold attributeBase
  split
  · rename_i x p q
    have h : (!(x == ("super" : Str))) = true := h
    have hx : (x != "super") = true := by
      simp only [bne, h]
    simp only [hx, Bool.true_or, if_true]
    try (first | rfl | exact bind_pure _ | simp)
  · rfl
def rInsA : V → List V → Hp → VK → Prop := fun x vs H Q => ∃ (l : Addr) (xs : List V) (i : Int) (y : V), x = .ref l ∧ vs = [.int i, y] ∧ H l = some (.lst xs) ∧ xs.length < sizeLine ∧ 0 ≤ i ∧ i < 2 ^ 63 ∧ Q .non (upd H l (.lst (xs.take i.toNat ++ [y] ++ xs.drop i.toNat)))
theorem remI_ok {k : Int} : ∀ {ns ns' : List Int}, remI k ns = some ns' → ∃ j : Nat, ns[j]? = some k ∧ (∀ m : Nat, m < j → ns[m]? ≠ some k) ∧ ns' = ns.eraseIdx j
  | [], _, h => by cases h
  | a :: r, ns', h => by
    unfold remI at h
    split at h
    · rename_i e
      cases h
      exact ⟨0, by simp [e], fun m hm => absurd hm (Nat.not_lt_zero m), rfl⟩
    · rename_i e
      cases z : remI k r with
      | none => rw [z] at h; cases h
      | some l =>
        rw [z] at h
        cases h
        obtain ⟨j, h1, h2, h3⟩ := remI_ok z
        refine ⟨j + 1, by simpa using h1, fun m hm => ?_, by rw [List.eraseIdx_cons_succ, h3]⟩
        cases m with
        | zero => simpa using e
        | succ m => simpa using h2 m (by omega)
def rM (X : Cx) : BM → V → List V → Hp → VK → Prop
  | .append => rAppend
  | .extend => rExtend
  | .clear => rClear
  | .get => fun x xs H Q => ∃ a y d o, x = .ref a ∧ xs = [y, d] ∧ DGet H a y o ∧ Q (o.getD d) H
  | .count => rCntI X.K
  | .remove => rRemI
  | .insert => rInsA
  | .pop => rPop
def idM : BM → String
  | .append => "list.append" | .extend => "list.extend" | .clear => "list.clear" | .get => "dict.get" | .remove => "list.remove" | .count => "list.count" | .insert => "list.insert" | .pop => "list.pop"
theorem mt_get (hu : X.A.units + 1 < cLine) : MtR X "dict.get" (rM X .get) := by
  intro pins s σ H x xs v us Q I rx rxs h
  obtain ⟨a, y, d, ov, rfl, rfl, g, q⟩ := h
  obtain ⟨u1, u2, rfl, r1, r2⟩ := vals2 rxs
  obtain rfl : v = Value.ref a := rx
  exact d_get2 hu I g r1 r2 fun w' s' I' rw' => ⟨_, H, I', rw', q⟩
/-- the kind of what a method is called of -/
def tyN : BM → String
  | .get => "dict"
  | _ => "list"
theorem bmTy_ok {r : List Addr} {h : Hm} {H : Hp} {m : BM} {w : W} {v : V} (R : RelH G X.K r h H) (q : RV G X.K r H w v) (e : bmTy m w h = true) : tyV X.K (tyN m) v H := by
  have lst : isLstW w h = true → tyV X.K "list" v H := fun e => by
    cases w with
    | ref n =>
      obtain ⟨a, rfl, ha⟩ := q
      simp only [isLstW] at e
      cases z : h[n]? with
      | none => rw [z] at e; cases e
      | some ob =>
        rw [z] at e
        cases ob with
        | lst l =>
          obtain ⟨vs, k1, k2⟩ := R.obj n a _ ha z
          exact .inl ⟨rfl, vs, SqL.of k1⟩
        | _ => cases e
    | _ => cases e
  cases m with
  | get =>
    cases w with
    | ref n =>
      obtain ⟨a, rfl, ha⟩ := q
      simp only [bmTy, isDicW] at e
      cases z : h[n]? with
      | none => rw [z] at e; cases e
      | some ob =>
        rw [z] at e
        cases ob with
        | dK l =>
          obtain ⟨vs, k1, k2⟩ := R.obj n a _ ha z
          exact .inr (.inr (.inl ⟨rfl, .inl ⟨vs, k1⟩⟩))
        | dT l =>
          obtain ⟨vs, k1, k2⟩ := R.obj n a _ ha z
          exact .inr (.inr (.inl ⟨rfl, .inr ⟨vs, k1⟩⟩))
        | _ => cases e
    | _ => cases e
  | _ => exact lst e
theorem bmW_ok {σ : St} {r : List Addr} {h : Hm} {H : Hp} {m : BM} {x : W} {v : V} {ws : List W} {vs : List V} {Q : VK} (R : RelH G X.K r h H) (qx : RV G X.K r H x v) (q : RVs G X.K r H ws vs) (p : PostG G X.K (relW G X.K) Wx σ r H (bmW m x ws h) Q) : rM X m v vs H Q := by
  have putp : ∀ {n : Nat} {a : Addr} {us us' : List V} {l' : List W}, r[n]? = some a → H a = some (.lst us) → RVs G X.K r H l' us' → PostG G X.K (relW G X.K) Wx σ r H (.ok .non (h.set n (.lst l'))) Q → Q .non (upd H a (.lst us')) := fun {n a us us' l'} ha hH q' p => by
    exact p r _ .non (Ext.put ha hH trivial) (R.put ha hH trivial ⟨us', upd_same, q'.ext0 (Ext0.put hH trivial)⟩) rfl
  unfold bmW at p
  split at p
  · rename_i n w
    obtain ⟨a, rfl, ha⟩ := qx
    obtain ⟨u, rest, rfl, q1, q2⟩ := q
    rw [show rest = [] from q2]
    split at p
    · rename_i l z
      obtain ⟨us, k1, k2⟩ := R.obj n a _ ha z
      split at p
      · rename_i hl
        exact ⟨a, us, u, rfl, rfl, k1, by rw [k2.length]; exact hl, putp ha k1 (k2.snoc q1) p⟩
      · exact p.elim
    · exact p.elim
  · rename_i n n2
    obtain ⟨a, rfl, ha⟩ := qx
    obtain ⟨b, rfl, hb⟩ := one_ref q
    split at p
    · rename_i l l2 z z2
      obtain ⟨us, k1, k2⟩ := R.obj n a _ ha z
      obtain ⟨us2, k3, k4⟩ := R.obj n2 b _ hb z2
      split at p
      · rename_i hl
        exact ⟨a, b, us, us2, rfl, rfl, k1, k3, by rw [k2.length, k4.length]; exact hl, putp ha k1 (k2.app k4) p⟩
      · exact p.elim
    · exact p.elim
  · rename_i n
    obtain ⟨a, rfl, ha⟩ := qx
    rw [show vs = [] from q]
    split at p
    · rename_i l z
      obtain ⟨us, k1, k2⟩ := R.obj n a _ ha z
      exact ⟨a, us, rfl, rfl, k1, putp (l' := []) (us' := []) ha k1 rfl p⟩
    · exact p.elim
  · rename_i n k
    obtain ⟨a, rfl, ha⟩ := qx
    obtain ⟨u, rest, rfl, q1, q2⟩ := q
    rw [show rest = [] from q2, rv_int q1]
    split at p
    · rename_i l z
      obtain ⟨us, k1, k2⟩ := R.obj n a _ ha z
      split at p
      · rename_i ns z2
        exact ⟨a, ns, k, rfl, rfl, by rw [← k2.ofInts z2]; exact SqL.of k1, post_ok p R rfl⟩
      · exact p.elim
    · exact p.elim
  · rename_i n k
    obtain ⟨a, rfl, ha⟩ := qx
    obtain ⟨u, rest, rfl, q1, q2⟩ := q
    rw [show rest = [] from q2, rv_int q1]
    split at p
    · rename_i l z
      obtain ⟨us, k1, k2⟩ := R.obj n a _ ha z
      split at p
      · rename_i ns z2
        cases z3 : intsOf l with
        | none => rw [z3] at z2; cases z2
        | some ms =>
          rw [z3] at z2
          obtain ⟨j, h1, h2, h3⟩ := remI_ok (show remI k ms = some ns from z2)
          have k4 := k2.ofInts z3
          rw [k4] at k1
          refine ⟨a, ms, k, j, rfl, rfl, k1, h1, h2, ?_⟩
          rw [← h3]
          exact putp ha k1 (RVs.ints ns) p
      · exact p.elim
    · exact p.elim
  · rename_i n i w
    obtain ⟨a, rfl, ha⟩ := qx
    obtain ⟨u, rest, rfl, q1, u2, rest2, rfl, q2, q3⟩ := q
    rw [show rest2 = [] from q3, rv_int q1]
    split at p
    · rename_i l z
      obtain ⟨us, k1, k2⟩ := R.obj n a _ ha z
      split at p
      · rename_i hc
        refine ⟨a, us, i, u2, rfl, rfl, k1, by rw [k2.length]; exact hc.1, hc.2.1, hc.2.2, ?_⟩
        exact putp ha k1 (((k2.take _).snoc q2).app (k2.drop _)) p
      · exact p.elim
    · exact p.elim
  · rename_i n
    obtain ⟨a, rfl, ha⟩ := qx
    rw [show vs = [] from q]
    split at p
    · rename_i l z
      obtain ⟨us, k1, k2⟩ := R.obj n a _ ha z
      split at p
      · rename_i w z2
        obtain ⟨v, h1, h2⟩ := k2.get z2
        refine ⟨a, us, v, rfl, rfl, k1, by rw [k2.length]; exact h1, ?_⟩
        have e0 := Ext0.put (r := r) (ho := .lst us.dropLast) k1 trivial
        have k3 : RVs G X.K r H l.dropLast us.dropLast := by
          rw [List.dropLast_eq_take, List.dropLast_eq_take, k2.length]; exact k2.take _
        exact p r _ v (Ext.put ha k1 trivial) (R.put ha k1 trivial ⟨_, upd_same, k3.ext0 e0⟩) (h2.ext0 e0)
      · exact p.elim
    · exact p.elim
  · rename_i n k d
    obtain ⟨a, rfl, ha⟩ := qx
    obtain ⟨u, rest, rfl, q1, u2, rest2, rfl, q2, q3⟩ := q
    rw [show rest2 = [] from q3, rv_int q1]
    split at p
    · rename_i l z
      obtain ⟨kvs, k1, k2⟩ := R.obj n a _ ha z
      refine ⟨a, .int k, u2, _, rfl, rfl, DGet.ki k1, ?_⟩
      have k3 := look_ok k k2
      cases z2 : look l k with
      | none =>
        rw [z2] at k3 p
        simp only at k3
        rw [k3]
        exact post_ok p R q2
      | some w =>
        rw [z2] at k3 p
        obtain ⟨v, k4, k5⟩ := k3
        rw [k4]
        exact post_ok p R k5
    · exact p.elim
  · rename_i n ks d
    obtain ⟨a, rfl, ha⟩ := qx
    obtain ⟨u, rest, rfl, q1, u2, rest2, rfl, q2, q3⟩ := q
    rw [show rest2 = [] from q3]
    split at p
    · rename_i l is z z1
      obtain ⟨kvs, k1, k2⟩ := R.obj n a _ ha z
      obtain ⟨b, rfl, hb⟩ := tup_key q1 z1
      refine ⟨a, .ref b, u2, _, rfl, rfl, DGet.t k1 hb, ?_⟩
      have k3 := lookT_ok is k2
      cases z2 : look l is with
      | none =>
        rw [z2] at k3 p
        simp only at k3
        rw [k3]
        exact post_ok p R q2
      | some w =>
        rw [z2] at k3 p
        obtain ⟨v, k4, k5⟩ := k3
        rw [k4]
        exact post_ok p R k5
    · exact p.elim
  · exact p.elim
abbrev mBm (m : BM) (ma : F → Hm → R W) (ms : F → Hm → R (List W)) : F → Hm → R W := fun f h => (ma f h).bind fun x h1 => if bmTy m x h1 then (ms f h1).bind fun ws h2 => bmW m x ws h2 else .bad
theorem te_bm {m : BM} : ∀ σ H Q, TEm G X.K Wx (mBm m ma ms) σ H Q → tBM X.K (tyN m) (rM X m) (TEm G X.K Wx ma) (TAm G X.K Wx ms) σ H Q := by
  rintro σ H Q ⟨r, f, h, S, p⟩
  refine ⟨r, f, h, S, (PostG.seq (rel := relW G X.K) p).mono ?_⟩
  rintro v H1 ⟨r1, x, h1, e1, R1, q1, p1⟩
  by_cases hb : bmTy m x h1 = true
  · rw [if_pos hb] at p1
    refine ⟨bmTy_ok R1 q1 hb, r1, f, h1, S.ext e1 R1, (PostG.seq (rel := relA G X.K) p1).mono ?_⟩
    rintro vs H2 ⟨r2, ws, h2, e2, R2, q2, p2⟩
    exact bmW_ok R2 (q1.ext e2) q2 p2
  · rw [if_neg hb] at p1; exact p1.elim
theorem few_ok {env : Env} {cpos : Pos} (hs : es.all noStar = true) (hl : es.length < 20) : ((backTo cpos (starEach es env)).all (fun x => !x.1) && (backToKw cpos (keywordEach [] env)).all (fun x => x.1.isSome) && decide (es.length + ([] : List Keyword).length + (if ([] : List Keyword).isEmpty then 0 else 1) < 30)) = true := by
  rw [star_all hs]
  simp [keywordEach, backToKw]
  omega
theorem pe_bmA {m : BM} (hu : X.A.units + 1 < cLine) (hm : m ∈ ([.append, .extend, .clear, .get, .count, .remove, .insert, .pop] : List BM)) (ho : noSuper o = true) (hs : es.all noStar = true) (hl : es.length < 20) (hline : (apos.endLine == pos.line) = true) (hp : PE X o (TEm G X.K Wx ma)) (ha : PA X es (TAm G X.K Wx ms))
    (h0 : es = [] → ∀ σ H Q, TAm G X.K Wx ms σ H Q → Q [] H) : PE X (.Call (.Attribute o (bmNm m) apos) es [] pos) (TEm G X.K Wx (mBm m ma ms)) := by
  cases es with
  | nil =>
    have z0 : ∀ {id : String} {T : String} (pa : PlainAttrs T) (slot : Slot T (bmNm m) id) (hty : typeOf (.builtin id) = pure (.type "method_descriptor")) (mt : MtR X id (rM X m)) (eT : tyN m = T), PE X (.Call (.Attribute o (bmNm m) apos) [] [] pos) (TEm G X.K Wx (mBm m ma ms)) := fun pa slot hty mt eT => by
      subst eT
      refine pe_weak (pe_bm0 pa slot hty mt hp (attr_base ho _ _) hline) ?_
      intro σ H Q q
      obtain ⟨r, f, h, S, q⟩ := te_bm σ H Q q
      refine ⟨r, f, h, S, q.mono ?_⟩
      rintro v H1 ⟨k1, k2⟩
      exact ⟨k1, h0 rfl σ H1 _ k2⟩
    simp only [List.mem_cons, List.not_mem_nil, or_false] at hm
    rcases hm with rfl | rfl | rfl | rfl | rfl | rfl | rfl | rfl
    · exact z0 PySem.F.plainAttrs_list PySem.F.slot_list_append PySem.F.type_list_append mt_append rfl
    · exact z0 PySem.F.plainAttrs_list PySem.F.slot_list_extend PySem.F.type_list_extend mt_extend rfl
    · exact z0 PySem.F.plainAttrs_list PySem.F.slot_list_clear PySem.F.type_list_clear mt_clear rfl
    · exact z0 PySem.F.plainAttrs_dict PySem.F.slot_dict_get PySem.F.type_dict_get (mt_get hu) rfl
    · exact z0 PySem.F.plainAttrs_list PySem.F.slot_list_count PySem.F.type_list_count mt_lcount rfl
    · exact z0 PySem.F.plainAttrs_list PySem.F.slot_list_remove PySem.F.type_list_remove mt_remove rfl
    · exact z0 PySem.F.plainAttrs_list PySem.F.slot_list_insert PySem.F.type_list_insert mt_insert rfl
    · exact z0 PySem.F.plainAttrs_list PySem.F.slot_list_pop PySem.F.type_list_pop mt_pop rfl
  | cons e es =>
    have hs' := hs
    simp only [List.all_cons, Bool.and_eq_true] at hs'
    have z0 : ∀ {id : String} {T : String} (pa : PlainAttrs T) (slot : Slot T (bmNm m) id) (hty : typeOf (.builtin id) = pure (.type "method_descriptor")) (mt : MtR X id (rM X m)) (eT : tyN m = T), PE X (.Call (.Attribute o (bmNm m) apos) (e :: es) [] pos) (TEm G X.K Wx (mBm m ma ms)) := fun pa slot hty mt eT => by
      subst eT
      exact pe_weak (pe_bm pa slot hty mt hp ha (attr_base ho _ _) (few_ok hs hl) hline (star_cons hs'.1 es) (star_any hs'.2)) te_bm
    simp only [List.mem_cons, List.not_mem_nil, or_false] at hm
    rcases hm with rfl | rfl | rfl | rfl | rfl | rfl | rfl | rfl
    · exact z0 PySem.F.plainAttrs_list PySem.F.slot_list_append PySem.F.type_list_append mt_append rfl
    · exact z0 PySem.F.plainAttrs_list PySem.F.slot_list_extend PySem.F.type_list_extend mt_extend rfl
    · exact z0 PySem.F.plainAttrs_list PySem.F.slot_list_clear PySem.F.type_list_clear mt_clear rfl
    · exact z0 PySem.F.plainAttrs_dict PySem.F.slot_dict_get PySem.F.type_dict_get (mt_get hu) rfl
    · exact z0 PySem.F.plainAttrs_list PySem.F.slot_list_count PySem.F.type_list_count mt_lcount rfl
    · exact z0 PySem.F.plainAttrs_list PySem.F.slot_list_remove PySem.F.type_list_remove mt_remove rfl
    · exact z0 PySem.F.plainAttrs_list PySem.F.slot_list_insert PySem.F.type_list_insert mt_insert rfl
    · exact z0 PySem.F.plainAttrs_list PySem.F.slot_list_pop PySem.F.type_list_pop mt_pop rfl
/-! ### isinstance of a built-in type -/
def clTy : Cl → String
  | .int => "int" | .bool => "bool" | .tuple => "tuple" | .list => "list" | .str => "str" | .own _ => ""
def clNm : Cl → Str
  | .int => "int" | .bool => "bool" | .tuple => "tuple" | .list => "list" | .str => "str" | .own _ => ""
theorem isi_ok {T : Tb} {r : List Addr} {h : Hm} {H : Hp} {c : Cl} {x : W} {v : V} {b : Bool} (hc : ∀ d, c ≠ .own d) (R : RelH G X.K r h H) (q : RV G X.K r H x v) (e : isiW T x c h = some b) : ∃ t, TyX X.K H v t ∧ PySem.W.kitOne X.K t (.type (clTy c)) = some b := by
  have fin : ∀ {n : String}, TyX X.K H v (.type n) → kitB n (clTy c) = some b → ∃ t, TyX X.K H v t ∧ PySem.W.kitOne X.K t (.type (clTy c)) = some b := fun h1 h2 => ⟨_, h1, kit_ty h2⟩
  cases x with
  | non =>
    refine fin (n := "NoneType") (by rw [show v = .non from q]; exact .base .non) ?_
    cases c <;> first | (exact absurd rfl (hc _)) | (rw [← show some false = some b from e]; decide +kernel)
  | bl k =>
    refine fin (n := "bool") (by rw [show v = .bl k from q]; exact .base (.bl k)) ?_
    cases c <;> first | (exact absurd rfl (hc _)) | (rw [← show some true = some b from e]; decide +kernel) | (rw [← show some false = some b from e]; decide +kernel)
  | int k =>
    refine fin (n := "int") (by rw [show v = .int k from q]; exact .base (.int k)) ?_
    cases c <;> first | (exact absurd rfl (hc _)) | (rw [← show some true = some b from e]; decide +kernel) | (rw [← show some false = some b from e]; decide +kernel)
  | str k =>
    refine fin (n := "str") (by rw [show v = .str k from q]; exact .base (.str k)) ?_
    cases c <;> first | (exact absurd rfl (hc _)) | (rw [← show some true = some b from e]; decide +kernel) | (rw [← show some false = some b from e]; decide +kernel)
  | tup l =>
    obtain ⟨a, vs, rfl, k1, k2⟩ := q
    refine fin (n := "tuple") (.base (.tup k1)) ?_
    cases c <;> first | (exact absurd rfl (hc _)) | (rw [← show some true = some b from e]; decide +kernel) | (rw [← show some false = some b from e]; decide +kernel)
  | scr l =>
    obtain ⟨a, rfl, k1⟩ := q
    have ty : TyX X.K H (.ref a) (.type "list") := by
      rcases k1 with ⟨ob, k1⟩ | ⟨ob, its, n, k1, k2, _⟩
      · exact .base (.frz k1)
      · exact .kList k1 k2
    refine fin (n := "list") ty ?_
    cases c <;> first | (exact absurd rfl (hc _)) | (rw [← show some true = some b from e]; decide +kernel) | (rw [← show some false = some b from e]; decide +kernel)
  | ref n =>
    obtain ⟨a, rfl, ha⟩ := q
    cases z : h[n]? with
    | none => cases c <;> first | (exact absurd rfl (hc _)) | (simp [isiW, z] at e)
    | some ob =>
      cases ob with
      | lst l =>
        obtain ⟨vs, k1, k2⟩ := R.obj n a _ ha z
        refine fin (n := "list") (.base (.lst k1)) ?_
        cases c <;> first | (exact absurd rfl (hc _)) | (simp [isiW, z] at e; subst e; decide +kernel)
      | dK l =>
        obtain ⟨vs, k1, k2⟩ := R.obj n a _ ha z
        refine fin (n := "dict") (.base (.dK k1)) ?_
        cases c <;> first | (exact absurd rfl (hc _)) | (simp [isiW, z] at e; subst e; decide +kernel)
      | dT l =>
        obtain ⟨vs, k1, k2⟩ := R.obj n a _ ha z
        refine fin (n := "dict") (.base (.dT k1)) ?_
        cases c <;> first | (exact absurd rfl (hc _)) | (simp [isiW, z] at e; subst e; decide +kernel)
      | ins _ _ => cases c <;> first | (exact absurd rfl (hc _)) | (simp [isiW, z] at e)
  | fn f => cases c <;> first | (exact absurd rfl (hc _)) | (simp [isiW] at e)
  | cod _ _ _ => cases c <;> first | (exact absurd rfl (hc _)) | (simp [isiW] at e)
theorem pe_isiA {T : Tb} {c : Cl} {py : Pos} (sta : Sta G T X.K X.mg) (hc : ∀ d, c ≠ .own d) (hg : Gl X "isinstance") (hy : Gl X (clNm c)) (ns : noStar e = true) (he : PE X e (TEm G X.K Wx ma)) :
    PE X (.Call (.Name "isinstance" p) [e, .Name (clNm c) py] [] pos) (TEm G X.K Wx fun f h => (ma f h).bind fun x h1 => match isiW T x c h1 with | some b => .ok (.bl b) h1 | none => .bad) := by
  have hcl : PE X (.Name (clNm c) py) (tC (.ty (clTy c))) := by
    cases c with
    | own d => exact absurd rfl (hc d)
    | int => exact pe_bltn hy (sta.free _ (by simp [clNm, bnames])) (by decide +kernel : bootBuiltins "int" = some (.type "int")) rfl (by decide +kernel) (by decide +kernel)
    | bool => exact pe_bltn hy (sta.free _ (by simp [clNm, bnames])) (by decide +kernel : bootBuiltins "bool" = some (.type "bool")) rfl (by decide +kernel) (by decide +kernel)
    | tuple => exact pe_bltn hy (sta.free _ (by simp [clNm, bnames])) (by decide +kernel : bootBuiltins "tuple" = some (.type "tuple")) rfl (by decide +kernel) (by decide +kernel)
    | list => exact pe_bltn hy (sta.free _ (by simp [clNm, bnames])) (by decide +kernel : bootBuiltins "list" = some (.type "list")) rfl (by decide +kernel) (by decide +kernel)
    | str => exact pe_bltn hy (sta.free _ (by simp [clNm, bnames])) (by decide +kernel : bootBuiltins "str" = some (.type "str")) rfl (by decide +kernel) (by decide +kernel)
  refine pe_weak (pe_callB call_isi hg (sta.free _ (by simp [bnames])) (by decide +kernel : bootBuiltins "isinstance" = some (.builtin "isinstance")) (pa_cons he (pa_cons hcl pa_nil (star_cons rfl [])) (star_cons ns _)) (by decide +kernel) (by decide +kernel) (star_cons ns _) (star_any (es := [.Name (clNm c) py]) rfl)) ?_
  rintro σ H Q ⟨r, f, h, S, p⟩
  refine ⟨r, f, h, S, (PostG.seq (rel := relW G X.K) p).mono ?_⟩
  rintro v H1 ⟨r1, x, h1, e1, R1, q1, p1⟩
  cases z : isiW T x c h1 with
  | none => simp only [z] at p1; exact p1.elim
  | some b =>
    simp only [z] at p1
    obtain ⟨t, k1, k2⟩ := isi_ok hc R1 q1 z
    exact ⟨v, .ty (clTy c), t, .type (clTy c), b, rfl, .ty _, k1, k2, post_ok p1 R1 rfl⟩
end
end WL

/-! own classes: fields, methods, makings, isinstance; [::-1] -/
namespace WL
open PySem PySem.Spec PyProof.Rows L2
section
variable {G : Nm} {K : PySem.W.Frag} {r : List Addr} {H : Hp}
theorem flds_eq (nd : G.flds.Nodup) {i j : Nat} {x : Str} (hi : G.flds[i]? = some x) (hj : G.flds[j]? = some x) : i = j := by
  exact nodup_ix nd hi hj
theorem RFd.look (nd : G.flds.Nodup) {k : Nat} {x : Str} (hk : G.flds[k]? = some x) : ∀ {fs : List (Nat × W)} {kvs : List (Str × V)} {w : W}, RFd G K r H fs kvs → look fs k = some w → ∃ v, kvs.lookup x = some v ∧ RV G K r H w v
  | [], _, _, _, e => by cases e
  | (j, u) :: fs, _, w, q, e => by
    obtain ⟨y, v, rest, h0, rfl, h1, h2⟩ := q
    by_cases ej : j = k
    · subst ej
      have e : some u = some w := by simpa [WL.look] using e
      cases e
      rw [h0] at hk; cases hk
      exact ⟨v, by simp [List.lookup_cons], h1⟩
    · have e : WL.look fs k = some w := by simpa [WL.look, ej] using e
      obtain ⟨v', k1, k2⟩ := RFd.look nd hk h2 e
      have hne : (x == y) = false := beq_eq_false_iff_ne.mpr fun z => ej (flds_eq nd h0 (z ▸ hk))
      exact ⟨v', by rw [List.lookup_cons, hne]; exact k1, k2⟩
theorem RFd.putN (nd : G.flds.Nodup) {k : Nat} {x : Str} {w : W} {v : V} (hk : G.flds[k]? = some x) (hw : RV G K r H w v) : ∀ {fs : List (Nat × W)} {kvs : List (Str × V)}, RFd G K r H fs kvs → RFd G K r H (WL.putN k w fs) (putF x v kvs)
  | [], kvs, q => by
    rw [show kvs = [] from q]
    exact ⟨x, v, [], hk, rfl, hw, rfl⟩
  | (j, u) :: fs, kvs, q => by
    obtain ⟨y, v', rest, h0, rfl, h1, h2⟩ := q
    by_cases ej : j = k
    · subst ej
      have hyx : y = x := Option.some.inj (h0.symm.trans hk)
      have e1 : WL.putN j w ((j, u) :: fs) = (j, w) :: fs := by simp [WL.putN]
      have e2 : putF x v ((y, v') :: rest) = (y, v) :: rest := by simp [putF, hyx]
      rw [e1, e2]
      exact ⟨y, v, rest, h0, rfl, hw, h2⟩
    · have hne : y ≠ x := fun z => ej (flds_eq nd h0 (z ▸ hk))
      have e1 : WL.putN k w ((j, u) :: fs) = (j, u) :: WL.putN k w fs := by simp [WL.putN, ej]
      have e2 : putF x v ((y, v') :: rest) = (y, v') :: putF x v rest := by simp [putF, hne]
      rw [e1, e2]
      exact ⟨y, v', _, h0, rfl, h1, RFd.putN nd hk hw h2⟩
theorem RFd.out {x : Str} (hx : ∀ k : Nat, G.flds[k]? ≠ some x) : ∀ {fs : List (Nat × W)} {kvs : List (Str × V)}, RFd G K r H fs kvs → kvs.lookup x = none
  | [], kvs, q => by rw [show kvs = [] from q]; rfl
  | (j, u) :: fs, kvs, q => by
    obtain ⟨y, v', rest, h0, rfl, h1, h2⟩ := q
    have hne : (x == y) = false := beq_eq_false_iff_ne.mpr fun z => hx j (z ▸ h0)
    rw [List.lookup_cons, hne]
    exact RFd.out hx h2
theorem RFd.length : ∀ {fs : List (Nat × W)} {kvs : List (Str × V)}, RFd G K r H fs kvs → kvs.length = fs.length
  | [], kvs, q => by rw [show kvs = [] from q]; rfl
  | (j, u) :: fs, kvs, q => by
    obtain ⟨y, v', rest, h0, rfl, h1, h2⟩ := q
    rw [List.length_cons, List.length_cons, RFd.length h2]
end
section
variable {G : Nm} {T : Tb} {k : Nat} {X : Cx} {Wx : WX} {p pos apos : Pos} {e o : Expr} {es : List Expr} {ma mb : F → Hm → R W} {ms : F → Hm → R (List W)}
/-! ### fields -/
abbrev mFld (ma : F → Hm → R W) (n : Nat) : F → Hm → R W := fun f h => (ma f h).bind fun x h1 => match x with
    | .ref a => (match h1[a]? with
      | some (.ins _ fs) => (match look fs n with | some w => .ok w h1 | none => .bad)
      | _ => .bad)
    | _ => .bad
theorem pe_fldA {n : Nat} {x : Str} (sta : Sta G T X.K X.mg) (hn : G.flds[n]? = some x) (hs : noSuper o = true) (ho : PE X o (TEm G X.K Wx ma)) : PE X (.Attribute o x pos) (TEm G X.K Wx (mFld ma n)) := by
  refine pe_weak (pe_fld ho (attr_base hs _ _)) ?_
  rintro σ H Q ⟨r, f, h, S, q⟩
  refine ⟨r, f, h, S, (PostG.seq (rel := relW G X.K) q).mono ?_⟩
  rintro v H1 ⟨r1, w, h1, e1, R1, q1, p1⟩
  cases w with
  | ref a =>
    obtain ⟨b, rfl, hb⟩ := q1
    cases z : h1[a]? with
    | none => simp only [z] at p1; exact p1.elim
    | some ob =>
      cases ob with
      | ins c fs =>
        simp only [z] at p1
        obtain ⟨dx, fs', k1, k2, k3⟩ := R1.obj a b _ hb z
        cases z2 : look fs n with
        | none => simp only [z2] at p1; exact p1.elim
        | some w =>
          simp only [z2] at p1
          obtain ⟨v, l1, l2⟩ := RFd.look sta.fnd hn k2 z2
          have hc : G.cls[c]? = some G.cls[c] := List.getElem?_eq_getElem k3
          exact ⟨b, _, dx, fs', v, rfl, k1, (sta.cls c _ hc).2.1, sta.noat c n x k3 hn, l1, post_ok p1 R1 l2⟩
      | _ => simp only [z] at p1; exact p1.elim
  | _ => exact p1.elim
theorem ps_fldA {C : Cb} {n : Nat} {x : Str} {eo ee : E} {pos' : Pos} (sta : Sta G T X.K X.mg) (hn : G.flds[n]? = some x) (ho : PE X o (TEm G X.K Wx (ev C eo))) (he : PE X e (TEm G X.K Wx (ev C ee))) (hsw : swapsWith e (some (.Attribute o x pos')) pos.line X.env = pure false) :
    PS X (.Assign [.Attribute o x pos'] e pos) (fun D σ H => ∃ r f h, RelS G X.K r f h σ H ∧ (match (ev C ee f h) with
      | .bad => False
      | .exc c h1 => ∀ r' H' σ', Ext r H r' H' → RelS G X.K r' f h1 σ' H' → Wx (.ref (xA G X.K c)) none σ' H'
      | .ok w h1 => (match ev C eo f h1 with
        | .bad => False
        | .exc c h2 => ∀ r' H' σ', Ext r H r' H' → RelS G X.K r' f h2 σ' H' → Wx (.ref (xA G X.K c)) none σ' H'
        | .ok (.ref a) h2 => (match h2[a]? with
          | some (.ins c fs) => fs.length < 1000 ∧ ∀ r' H' σ', Ext r H r' H' → RelS G X.K r' f (h2.set a (.ins c (WL.putN n w fs))) σ' H' → D.nx σ' H'
          | _ => False)
        | .ok _ _ => False))) := by
  refine ⟨fun pins s σ H D I q => (ps_fld ho he hsw).run pins s σ H D I ?_⟩
  obtain ⟨r, f, h, S, q⟩ := q
  refine ⟨r, f, h, S, ?_⟩
  cases z : ev C ee f h with
  | bad => rw [z] at q; exact q.elim
  | exc c h1 => rw [z] at q; exact fun r' H' e1 R1 => q r' H' σ e1 (S.ext e1 R1)
  | ok w h1 =>
    rw [z] at q
    simp only at q
    intro r1 H1 y e1 R1 q1
    refine ⟨r1, f, h1, S.ext e1 R1, ?_⟩
    cases z2 : ev C eo f h1 with
    | bad => rw [z2] at q; exact q.elim
    | exc c h2 => rw [z2] at q; exact fun r' H' e2 R2 => q r' H' σ (e1.trans e2) ((S.ext e1 R1).ext e2 R2)
    | ok wo h2 =>
      rw [z2] at q
      intro r2 H2 x' e2 R2 q2
      cases wo with
      | ref a =>
        simp only at q
        obtain ⟨b, rfl, hb⟩ := q2
        cases z3 : h2[a]? with
        | none => rw [z3] at q; exact q.elim
        | some ob =>
          rw [z3] at q
          cases ob with
          | ins c fs =>
            simp only at q
            obtain ⟨hl, q⟩ := q
            obtain ⟨dx, fs', k1, k2, k3⟩ := R2.obj a b _ hb z3
            have hc : G.cls[c]? = some G.cls[c] := List.getElem?_eq_getElem k3
            refine ⟨b, _, dx, fs', rfl, k1, (sta.cls c _ hc).2.1, sta.noat c n x k3 hn, by rw [k2.length]; exact hl, ?_⟩
            have k4 := RFd.putN sta.fnd hn (q1.ext e2) k2
            have x0 : Ext0 r2 H2 r2 (upd H2 b (.ins (cA G X.K c) dx (putF x y fs'))) := Ext0.put k1 trivial
            have x1 : Ext r2 H2 r2 (upd H2 b (.ins (cA G X.K c) dx (putF x y fs'))) := Ext.put hb k1 trivial
            have R3 := R2.put (ho := .ins (cA G X.K c) dx (putF x y fs')) (o := .ins c (WL.putN n w fs)) hb k1 trivial ⟨dx, _, upd_same, k4.ext0 x0, k3⟩
            exact q r2 _ σ ((e1.trans e2).trans x1) (((S.ext e1 R1).ext e2 R2).ext x1 R3)
          | _ => exact q.elim
      | _ => exact q.elim
/-! ### [::-1] -/
theorem pe_revA {j : Nat} {p1 p2 p3 : Pos} (ho : PE X o (TEm G X.K Wx ma)) : PE X (.Subscript o (.Slice none none (some (.UnaryOp .USub (.Constant (.int 1) j p1) p2)) p3) pos) (TEm G X.K Wx fun f h => (ma f h).bind fun x h1 => match lstOf x h1 with | some l => alloc (.lst l.reverse) h1 | none => .bad) := by
  refine pe_weak (pe_revL ho) ?_
  rintro σ H Q ⟨r, f, h, S, q⟩
  refine ⟨r, f, h, S, (PostG.seq (rel := relW G X.K) q).mono ?_⟩
  rintro v H1 ⟨r1, w, h1, e1, R1, q1, p1⟩
  cases z : lstOf w h1 with
  | none => simp only [z] at p1; exact p1.elim
  | some l =>
    simp only [z] at p1
    obtain ⟨a, vs, rfl, k1, k2⟩ := lstOf_ok R1 q1 z
    refine ⟨a, vs, rfl, k1, fun pt hp => post_alloc p1 R1 hp ⟨_, upd_same, ?_⟩⟩
    have rv : ∀ {ws : List W} {us : List V}, RVs G X.K r1 H1 ws us → RVs G X.K r1 H1 ws.reverse us.reverse := by
      intro ws
      induction ws with
      | nil => intro us q; rw [show us = [] from q]; rfl
      | cons w ws ih =>
        intro us q
        obtain ⟨v, rest, rfl, q1, q2⟩ := q
        rw [List.reverse_cons, List.reverse_cons]
        exact (ih q2).snoc q1
    exact (rv k2).ext (Ext.new hp)
/-! ### isinstance of an own class -/
theorem isiO_ok {c : Nat} {r : List Addr} {h : Hm} {H : Hp} {w : W} {v : V} {b : Bool} (sta : Sta G T X.K X.mg) (hc : c < G.cls.length) (R : RelH G X.K r h H) (q : RV G X.K r H w v) (z : isiW T w (.own c) h = some b) : ∃ t, TyX X.K H v t ∧ PySem.W.kitOne X.K t (.ref (cA G X.K c)) = some b := by
  cases w with
  | ref a =>
    obtain ⟨d, rfl, hd⟩ := q
    simp only [isiW] at z
    cases z1 : h[a]? with
    | none => rw [z1] at z; cases z
    | some ob =>
      rw [z1] at z
      cases ob with
      | ins cc fs =>
        have z : some (T.subB cc c) = some b := z
        cases z
        obtain ⟨dx, fs', k1, k2, k3⟩ := R.obj a d _ hd z1
        obtain ⟨_, c2, c3, _⟩ := sta.cls cc _ (List.getElem?_eq_getElem k3)
        exact ⟨_, .base (.ins k1 c2 c3.ha c3.hn c3.ht c3.hm), sta.sub cc c k3 hc⟩
      | _ => cases z
  | _ => cases z
theorem pe_isiO {c : Nat} {y : Str} {py : Pos} (sta : Sta G T X.K X.mg) (hy : G.cls[c]? = some y) (hg : Gl X "isinstance") (hgy : Gl X y) (hpy : plainN y = true) (ns : noStar e = true) (he : PE X e (TEm G X.K Wx ma)) :
    PE X (.Call (.Name "isinstance" p) [e, .Name y py] [] pos) (TEm G X.K Wx fun f h => (ma f h).bind fun x h1 => match isiW T x (.own c) h1 with | some b => .ok (.bl b) h1 | none => .bad) := by
  obtain ⟨c1, c2, c3, _⟩ := sta.cls c y hy
  have hcl : PE X (.Name y py) (tC (.ref (cA G X.K c))) := pe_glob hgy c1 rfl (plainN_ok hpy).1
  refine pe_weak (pe_callB call_isi hg (sta.free _ (by simp [bnames])) (by decide +kernel : bootBuiltins "isinstance" = some (.builtin "isinstance")) (pa_cons he (pa_cons hcl pa_nil (star_cons rfl [])) (star_cons ns _)) (by decide +kernel) (by decide +kernel) (star_cons ns _) (star_any (es := [.Name y py]) rfl)) ?_
  rintro σ H Q ⟨r, f, h, S, q⟩
  refine ⟨r, f, h, S, (PostG.seq (rel := relW G X.K) q).mono ?_⟩
  rintro v H1 ⟨r1, w, h1, e1, R1, q1, p1⟩
  have hc : c < G.cls.length := (List.getElem?_eq_some_iff.mp hy).1
  cases z : isiW T w (.own c) h1 with
  | none => simp only [z] at p1; exact p1.elim
  | some b =>
    simp only [z] at p1
    obtain ⟨t, k1, k2⟩ := isiO_ok sta hc R1 q1 z
    exact ⟨v, .ref (cA G X.K c), t, .ref (cA G X.K c), b, rfl, .own _, k1, k2, post_ok p1 R1 rfl⟩
end
end WL

/-! methods, makings, values that are called -/
namespace WL
open PySem PySem.Spec PyProof.Rows L2
section
variable {prog : Program} {w : World} {A : Around} {E : Value → Shared → Prop} {s : Shared} {env : Env}
/-- o.name(..), whatever o's class -/
theorem wp_meth {o : Expr} {name : Str} {apos pos : Pos} {args : List Expr} {Q : Value → Shared → Prop} (hb : attributeBase o name env (eval o env) = eval o env)
    (hs : args.all noStar = true) (hl : args.length < 20) (hline : (apos.endLine == pos.line) = true)
    (h : wpAny (model prog w) A (eval o env) (fun ov t => ∀ pl, wpAny (model prog w) A (getMethod ov name pl) (fun fx t2 => wpAny (model prog w) A (callWith pos fx.1 fx.2 (backTo pos (starEach args env)) []) Q E t2) E t) E s) :
    wpAny (model prog w) A (eval (.Call (.Attribute o name apos) args [] pos) env) Q E s := by
  have hform : methodCallForm (args.length + ([] : List Keyword).length) (backTo pos (starEach args env)) (backToKw pos (keywordEach [] env)) = true := few_ok (env := env) (cpos := pos) hs hl
  have hpos : methodCallPos true o env apos pos = pure pos := by unfold methodCallPos; simp [hline]
  rw [arm_eval_Call, hb]
  refine wpAny_bind (wpAny_mono h (fun ov t q => wpAny_bind (wpAny_standAt ?_)) fun _ _ x => x)
  unfold methodCall
  rw [hform]
  exact wpAny_bind (wpAny_holding (wpAny_mono (q _) (fun fx t2 q2 => wpAny_bind (wpAny_of_eq hpos q2)) fun _ _ x => x))
end
section
variable {G : Nm} {T : Tb} {k : Nat} {X : Cx} {Wx : WX} {p pos apos : Pos} {e o : Expr} {es : List Expr} {ma mb : F → Hm → R W} {ms : F → Hm → R (List W)}
/-- arguments, then what is called -/
theorem cw_args {pins : List (Addr × Obj)} {σ : St} {H : Hp} {s : Shared} {fv : Value} {first : List Value} {Q : Value → Shared → Prop} {Rr : List V → Hp → Prop} (hk : PySem.W.keepIn X.K fv = true) (hs : es.all noStar = true) (ha : PA X es (TAm G X.K Wx ms)) (h0 : es = [] → ∀ σ H Q, TAm G X.K Wx ms σ H Q → Q [] H)
    (I : Inv X pins σ H s) (q : TAm G X.K Wx ms σ H Rr) (fin : ∀ vs us H1 s1, Inv X pins σ H1 s1 → Vals vs us → Rr vs H1 → wpAny (model X.prog X.w) X.A (call fv (first ++ us)) Q X.xe s1) :
    wpAny (model X.prog X.w) X.A (callWith pos fv first (backTo pos (starEach es X.env)) []) Q X.xe s := by
  cases es with
  | nil => exact PySem.W.callWith_K0 I.kIn hk (fin [] [] H s I .nil (h0 rfl σ H _ q))
  | cons e es =>
    simp only [List.all_cons, Bool.and_eq_true] at hs
    exact PySem.W.callWith_K (h₀ := X.base) I.ok.mod.kin hk (thn (ha.run pos pins s σ H _ I q) fun us s1 ⟨vs, H1, I1, r1, q1⟩ => ⟨I1.kIn, fin vs us H1 s1 I1 r1 q1⟩) (star_cons hs.1 es) (star_any hs.2)
/-! ### methods -/
abbrev mMth (T : Tb) (call : Nat → List W → Hm → R W) (m : Nat) (ma : F → Hm → R W) (ms : F → Hm → R (List W)) : F → Hm → R W := fun f h => (ma f h).bind fun x h1 => match x with
    | .ref a => (match h1[a]? with
      | some (.ins c fs) => (match T.metI c m with
        | some g => (ms f h1).bind fun ws h2 => call g (.ref a :: ws) h2
        | none => .bad)
      | _ => .bad)
    | _ => .bad
theorem pe_mthA {m : Nat} {mn : Str} (sta : Sta G T X.K X.mg) (lev : Lev G T X.prog X.w X.K X.mg X.base k) (room : Room k X.A) (tk : Takes X Wx) (hm : G.mets[m]? = some mn) (hso : noSuper o = true) (hs : es.all noStar = true) (hl : es.length < 20) (hline : (apos.endLine == pos.line) = true)
    (ho : PE X o (TEm G X.K Wx ma)) (ha : PA X es (TAm G X.K Wx ms)) (h0 : es = [] → ∀ σ H Q, TAm G X.K Wx ms σ H Q → Q [] H) :
    PE X (.Call (.Attribute o mn apos) es [] pos) (TEm G X.K Wx (mMth T (callM T k) m ma ms)) := by
  refine ⟨fun pins s σ H Q I q => ?_⟩
  refine wp_meth (attr_base hso _ _) hs hl hline ?_
  obtain ⟨r, f, h, S, q⟩ := q
  refine thn (ho.run pins s σ H _ I ⟨r, f, h, S, PostG.seq (rel := relW G X.K) q⟩) fun u s1 ⟨v, H1, I1, rv, r1, x, h1, e1, R1, q1, p1⟩ => ?_
  cases x with
  | ref a =>
    obtain ⟨b, rfl, hb⟩ := q1
    obtain rfl : u = Value.ref b := rv
    simp only at p1
    cases z : h1[a]? with
    | none => rw [z] at p1; exact p1.elim
    | some ob =>
      rw [z] at p1
      cases ob with
      | ins c fs =>
        simp only at p1
        cases z2 : T.metI c m with
        | none => rw [z2] at p1; exact p1.elim
        | some g =>
          rw [z2] at p1
          simp only at p1
          obtain ⟨dx, fs', k1, k2, k3⟩ := R1.obj a b _ hb z
          obtain ⟨hM, hc, hg⟩ := sta.met c m g mn z2 hm
          obtain ⟨_, hC, _⟩ := sta.cls c _ (List.getElem?_eq_getElem k3)
          obtain ⟨fd, ps, hB, F⟩ := lev.fn g _ (List.getElem?_eq_getElem hg)
          intro pl
          refine getmeth_ok I1 k1 hC hM (RFd.out (fun j => sta.dis m j mn hm) k2) ?_
          refine cw_args (first := [.ref b]) hM.kp hs ha h0 I1 (Rr := fun vs H2 => spM G X.K T k g (.ref b :: vs) H2 Q (WE Wx σ)) ?_ fun vs us H2 s2 I2 r2 q2 => ?_
          · refine ⟨r1, f, h1, S.ext e1 R1, (PostG.seq (rel := relA G X.K) p1).mono ?_⟩
            rintro vs H2 ⟨r2, ws, h2, e2, R2, q2, p2⟩
            exact ⟨r2, h2, .ref a :: ws, R2, ⟨_, _, rfl, ⟨b, rfl, e2.rho a b hb⟩, q2⟩, post_any p2⟩
          · exact run_fnS F room hB (passAt tk σ) I2 (Paired.cons (show RelV (.ref b) (.ref b) from rfl) r2) q2
      | _ => exact p1.elim
  | _ => exact p1.elim
/-! ### makings -/
theorem run_mk {C f : Addr} {fd : FuncData} {ps : List Str} {sp : Sp} {En : XK} {pins : List (Addr × Obj)} {σ : St} {H : Hp} {s : Shared} {Q : VK} {us : List Value} {vs : List V} (M : Mk X.K C f) (F : FnOk X.prog X.w X.K X.mg X.base (L2.CX X.prog X.w) k f fd ps sp) (room : Room (k + 1) X.A)
    (hB : Binds X.K fd ps []) (hx : PassesAt (L2.CX X.prog X.w) X σ En) (I : Inv X pins σ H s) (rv : Vals vs us)
    (q : ∀ x dx, H x = none → H dx = none → dx ≠ x → sp (.ref x :: vs) (upd (upd H dx (.own x)) x (.ins C dx [])) (fun v H2 => v = .non ∧ Q (.ref x) H2) En) : wpAny (model X.prog X.w) X.A (call (.ref C) us) (EP X pins σ Q) X.xe s := by
  have n0 : H s.heap.objs.size = none := I.hok.fresh (Nat.le_refl _)
  have n1 : H (s.heap.objs.size + 1) = none := I.hok.fresh (Nat.le_succ _)
  have q1 := q (s.heap.objs.size + 1) s.heap.objs.size n1 n0 (Nat.ne_of_lt (Nat.lt_succ_self _))
  have J := Inv.made (C := C) I
  have r2 : Vals (V.ref (s.heap.objs.size + 1) :: vs) (Value.ref (s.heap.objs.size + 1) :: us) := Paired.cons (show RelV (.ref _) (.ref _) from rfl) rv
  have len2 : (Value.ref (s.heap.objs.size + 1) :: us ++ []).length = ps.length := by
    rw [List.append_nil, ← r2.length]; exact F.len _ _ _ _ q1
  have bind2 := hB _ (Value.ref (s.heap.objs.size + 1) :: us) J.kIn len2
  rw [List.append_nil] at bind2
  have run2 := F.run _ X.stack _ _ ⟨Value.ref (s.heap.objs.size + 1) :: us, []⟩ _ _ _ En (room.make C us []) (J.env0.make C us []) bind2 r2 q1
  refine wpAny_call (make_map (f := f) I.kIn M.makes M.init (beq_iff_eq.mp M.fn) (codeAny_mono run2 fun res s' z => ?_))
  cases res with
  | error e => exact hx pins _ _ e s' J z
  | ok fl =>
    cases fl with
    | ret u =>
      obtain ⟨v, H', J2, rr, ev, q3⟩ := J.after z
      subst ev
      exact ⟨rr, V.ref (s.heap.objs.size + 1), H', J2, rfl, q3⟩
    | _ => exact False.elim z
theorem run_mk0 {C : Addr} {pins : List (Addr × Obj)} {σ : St} {H : Hp} {s : Shared} {Q : VK} (M : Mk0 X.K C) (I : Inv X pins σ H s) (q : ∀ x dx, H x = none → H dx = none → dx ≠ x → Q (.ref x) (upd (upd H dx (.own x)) x (.ins C dx []))) :
    wpAny (model X.prog X.w) X.A (call (.ref C) []) (EP X pins σ Q) X.xe s := by
  have n0 : H s.heap.objs.size = none := I.hok.fresh (Nat.le_refl _)
  have n1 : H (s.heap.objs.size + 1) = none := I.hok.fresh (Nat.le_succ _)
  have q1 := q (s.heap.objs.size + 1) s.heap.objs.size n1 n0 (Nat.ne_of_lt (Nat.lt_succ_self _))
  have J := Inv.made (C := C) I
  have Y := PySem.W.makes_of (M := model X.prog X.w) I.kIn M.makes
  have get2 : ((s.heap.push PySem.W.emptyDict).push (PySem.W.instObj C s.heap.objs.size)).get? (s.heap.objs.size + 1) = some (PySem.W.instObj C s.heap.objs.size) := by
    have z := Heap.get?_push_size (s.heap.push PySem.W.emptyDict) (o := PySem.W.instObj C s.heap.objs.size) rfl
    rwa [Heap.size_push] at z
  have ty : PySem.W.Looks (model X.prog X.w) ((s.heap.push PySem.W.emptyDict).push (PySem.W.instObj C s.heap.objs.size)) (typeOf (.ref (s.heap.objs.size + 1))) (.ref C) := (PySem.W.Looks.ld get2).andThen .now
  have isO : PySem.W.Looks (model X.prog X.w) ((s.heap.push PySem.W.emptyDict).push (PySem.W.instObj C s.heap.objs.size)) (isInstance (.ref (s.heap.objs.size + 1)) (.type "object")) true := ty.andThen (Y.top.keeps fun b o z => Heap.get?_push_of_some _ (Heap.get?_push_of_some _ z))
  refine wpAny_call (make_map0 I.kIn M.makes M.init (fun self => PySem.W.Looks.of_pure (PySem.W.oi_bind self)) ?_)
  refine codeAny_call_builtin PySem.W.oi_plain PySem.W.entry_oi (@PySem.W.check_slot (model X.prog X.w) _ _ _ "object.__init__" "object" "__init__" _ [] [] _ PySem.W.oi_kind PySem.W.oi_split isO (PySem.W.oi_args _) ?_)
  rw [PySem.W.oi_run]
  exact wpAny_pure ⟨rfl, V.ref (s.heap.objs.size + 1), _, J, rfl, q1⟩
theorem made_rel {r : List Addr} {h : Hm} {H : Hp} {c : Nat} {x dx : Addr} (R : RelH G X.K r h H) (hc : c < G.cls.length) (hx : H x = none) (hd : H dx = none) (ne : dx ≠ x) :
    Ext r H (r ++ [x]) (upd (upd H dx (.own x)) x (.ins (cA G X.K c) dx [])) ∧ RelH G X.K (r ++ [x]) (h ++ [.ins c []]) (upd (upd H dx (.own x)) x (.ins (cA G X.K c) dx [])) := by
  have hx2 : upd H dx (.own x) x = none := by rw [upd_ne (Ne.symm ne)]; exact hx
  exact ⟨(Ext.new hd).trans (Ext.laid hx2), (R.aside hd).laid hx2 ⟨dx, [], upd_same, rfl, hc⟩⟩
theorem pe_mkA {c : Nat} {x : Str} (sta : Sta G T X.K X.mg) (lev : ∀ j, j + 1 = k → Lev G T X.prog X.w X.K X.mg X.base j) (room : Room k X.A) (tk : Takes X Wx) (hx : G.cls[c]? = some x) (hg : Gl X x) (hpn : plainN x = true) (hs : es.all noStar = true)
    (ha : PA X es (TAm G X.K Wx ms)) (h0 : es = [] → ∀ σ H Q, TAm G X.K Wx ms σ H Q → Q [] H) :
    PE X (.Call (.Name x p) es [] pos) (TEm G X.K Wx fun f h => (ms f h).bind fun ws h1 => mkM T k c ws h1) := by
  have hc : c < G.cls.length := (List.getElem?_eq_some_iff.mp hx).1
  obtain ⟨hm, _, _, hkp⟩ := sta.cls c x hx
  refine ⟨fun pins s σ H Q I q => ?_⟩
  refine wpAny_Call_Name_kw (ld_glob I hg hm ?_ (plainN_ok hpn).1)
  obtain ⟨r, f, h, S, q⟩ := q
  refine cw_args (first := []) hkp hs ha h0 I (Rr := fun vs H1 => ∃ r1 ws h1, RelH G X.K r1 h1 H1 ∧ RVs G X.K r1 H1 ws vs ∧ PostG G X.K (relW G X.K) Wx σ r1 H1 (mkM T k c ws h1) Q) ?_ fun vs us H1 s1 I1 rv q1 => ?_
  · refine ⟨r, f, h, S, (PostG.seq (rel := relA G X.K) q).mono ?_⟩
    rintro vs H1 ⟨r1, ws, h1, e1, R1, q1, p1⟩
    exact ⟨r1, ws, h1, R1, q1, p1⟩
  · obtain ⟨r1, ws, h1, R1, q1, p1⟩ := q1
    show wpAny (model X.prog X.w) X.A (call (.ref (cA G X.K c)) us) (EP X pins σ Q) X.xe s1
    cases k with
    | zero => exact p1.elim
    | succ k =>
      rw [mkM_succ] at p1
      unfold mkOf at p1
      split at p1
      · rename_i i zi
        obtain ⟨hM, hi⟩ := sta.ini c i zi
        obtain ⟨fd, ps, hB, F⟩ := (lev k rfl).fn i _ (List.getElem?_eq_getElem hi)
        refine run_mk hM F room hB (passAt tk σ) I1 rv fun y dy ny nd ne => ?_
        obtain ⟨x1, R2⟩ := made_rel (c := c) R1 hc ny nd ne
        refine ⟨r1 ++ [y], h1 ++ [.ins c []], .ref h1.length :: ws, R2, ⟨_, _, rfl, ⟨y, rfl, ?_⟩, q1.ext x1⟩, ?_⟩
        · rw [← R1.len, List.getElem?_append_right (Nat.le_refl _)]; simp
        · have aty : (r1 ++ [y])[h1.length]? = some y := by rw [← R1.len, List.getElem?_append_right (Nat.le_refl _)]; simp
          cases z : callM T k i (.ref h1.length :: ws) (h1 ++ [.ins c []]) with
          | bad => rw [z] at p1; exact p1.elim
          | exc e h2 => rw [z] at p1; exact fun r' H' e' R' => p1 r' H' (x1.trans e') R'
          | ok w2 h2 =>
            rw [z] at p1
            cases w2 with
            | non => exact fun r' H' v e' R' qv => ⟨qv, p1 r' H' _ (x1.trans e') R' ⟨y, rfl, e'.rho _ _ aty⟩⟩
            | _ => exact p1.elim
      · rename_i zi
        split at p1
        · have ev : vs = [] := q1
          subst ev
          cases rv
          refine run_mk0 (sta.ini0 c zi) I1 fun y dy ny nd ne => ?_
          obtain ⟨x1, R2⟩ := made_rel (c := c) R1 hc ny nd ne
          refine p1 _ _ _ x1 R2 ⟨y, rfl, ?_⟩
          rw [← R1.len, List.getElem?_append_right (Nat.le_refl _)]; simp
        · exact p1.elim
      · exact p1.elim
/-! ### a def that a slot holds -/
theorem pe_calvF {C : Cb} {i : Nat} {x : Str} (lev : Lev G T X.prog X.w X.K X.mg X.base k) (sta : Sta G T X.K X.mg) (room : Room k X.A) (tk : Takes X Wx) (hN : X.N[i]? = some x) (hv : Vis X.env.scope x) (hpn : plainN x = true) (hs : es.all noStar = true) (ha : PA X es (TAm G X.K Wx ms)) (h0 : es = [] → ∀ σ H Q, TAm G X.K Wx ms σ H Q → Q [] H)
    (hcod : ∀ (pins : List (Addr × Obj)) (s : Shared) (σ : St) (H : Hp) (Q : VK) (r : List Addr) (f : F) (h : Hm) (np ns : Nat) (b : E) (a : Addr), Inv X pins σ H s → RelS G X.K r f h σ H → RV G X.K r H (.cod np ns b) (.ref a) → PostG G X.K (relW G X.K) Wx σ r H ((ms f h).bind fun ws h1 => C.cods np ns b ws h1) Q →
      wpAny (model X.prog X.w) X.A (callWith pos (.ref a) [] (backTo pos (starEach es X.env)) []) (EP X pins σ Q) X.xe s)
    (hC : C.call = callM T k) :
    PE X (.Call (.Name x p) es [] pos) (TEm G X.K Wx fun f h => (match f[i]? with
    | some (some (.fn g)) => (ms f h).bind fun ws h1 => C.call g ws h1
    | some (some (.cod np ns b)) => (ms f h).bind fun ws h1 => C.cods np ns b ws h1
    | _ => .bad)) := by
  obtain ⟨hdb, hcd, _⟩ := plainN_ok hpn
  refine ⟨fun pins s σ H Q I q => ?_⟩
  obtain ⟨r, f, h, S, q⟩ := q
  dsimp only at q
  split at q
  · rename_i g zg
    obtain ⟨v, hs', hv'⟩ := S.fr i _ zg
    have ev : v = .ref (fA G X.K g) := hv'.2
    have hg : g < G.fns.length := hv'.1
    subst ev
    refine wpAny_Call_Name_kw (thn ((pe_var (pos := p) hN hv hdb hcd).run pins s σ H (fun v H1 => v = .ref (fA G X.K g) ∧ H1 = H) I ⟨_, hs', rfl, rfl⟩) fun u s1 ⟨v, H1, I1, r1, q1⟩ => ?_)
    obtain ⟨ev, eH⟩ := q1
    subst ev eH
    obtain rfl : u = Value.ref (fA G X.K g) := r1
    obtain ⟨fd, ps, hB, F⟩ := lev.fn g _ (List.getElem?_eq_getElem hg)
    refine cw_args (first := []) (sta.kp g _ (List.getElem?_eq_getElem hg)) hs ha h0 I1 (Rr := fun vs H2 => spM G X.K T k g vs H2 Q (WE Wx σ)) ?_ fun vs us H2 s2 I2 r2 q2 => ?_
    · rw [hC] at q
      exact te_cal ⟨r, f, h, S, q⟩
    · exact run_fnS F room hB (passAt tk σ) I2 r2 q2
  · rename_i np ns b zg
    obtain ⟨v, hs', hv'⟩ := S.fr i _ zg
    have hv2 := hv'
    obtain ⟨a, L, c, ev, _⟩ := hv2
    subst ev
    refine wpAny_Call_Name_kw (thn ((pe_var (pos := p) hN hv hdb hcd).run pins s σ H (fun v H1 => v = .ref a ∧ H1 = H) I ⟨_, hs', rfl, rfl⟩) fun u s1 ⟨v, H1, I1, r1, q1⟩ => ?_)
    obtain ⟨ev, eH⟩ := q1
    subst ev eH
    obtain rfl : u = Value.ref a := r1
    exact hcod pins s1 σ _ Q r f h np ns b a I1 S hv' q
  · exact q.elim
end
end WL

/-! lambdas as values -/
namespace WL
open PySem PySem.Spec PyProof.Rows L2
theorem clo_nil (cells : List (Str × Addr)) : ∀ {names : List (Str × NameKind)}, (∀ y ∈ names, y.2 ≠ .free) → cloFrom cells names [] = []
  | [], _ => rfl
  | (n, k) :: r, h => by
    have hk : (k == NameKind.free) = false := beq_eq_false_iff_ne.mpr (h (n, k) List.mem_cons_self)
    unfold cloFrom
    rw [hk]
    exact clo_nil cells fun y hy => h y (List.mem_cons_of_mem _ hy)
theorem lamO_ne {f c : Addr} {L : LamT} (ps : Array Value) : LamO f L c ≠ .tbl ps := fun z => by
  unfold LamO at z
  cases z
theorem lamO_at {P : Program} {w : World} {H : Hp} {h : Heap} {f c : Addr} {L : LamT} (hok : HOk P w H h) (e : H f = some (LamO f L c)) : ∃ pm ctv, h.get? f = some (PySem.W.kla_obj "<lambda>" L.qual L.params L.body L.scope [] pm c ctv) := by
  obtain ⟨z, _, _⟩ := hok f _ e
  exact z
section
variable {G : Nm} {K : PySem.W.Frag} {r : List Addr} {h : Hm} {H H' : Hp}
/-- all but the tables stays; the machine's things are there as before -/
theorem RelH.extN (R : RelH G K r h H) (eN : LamX.ExtN H H') (back : ∀ b, H' b = none → H b = none) (T : LamX.Tabs (tabL G K) H') : Ext r H r H' ∧ RelH G K r h H' := by
  have x : Ext r H r H' := by
    refine ⟨⟨fun _ _ z => z, fun a xs z => eN a _ z (fun ps y => by cases y), fun a o u z => eN a _ z (fun ps y => by cases y), fun a u z => eN a _ z (fun ps y => by cases y)⟩, fun a o z _ ht => eN a o z ht, fun n a z => .inl ⟨n, z⟩, fun a o z => ?_⟩
    cases q : H' a with
    | none => rw [back a q] at z; cases z
    | some o' => exact ⟨o', rfl⟩
  refine ⟨x, R.len, R.inj, fun n a o h1 h2 => (R.obj n a o h1 h2).ext x ?_, T⟩
  obtain ⟨u, z, hm⟩ := R.isAt h1
  rw [z]
  exact eN a u z fun ps y => by subst y; exact hm
end
section
variable {X : Cx} {pins : List (Addr × Obj)} {σ : St} {H : Hp} {s : Shared}
/-- a lambda's object just made is known from now on -/
theorem inv_lam {L : LamT} {c : Addr} {t' : Nat} {pm ctv : Value} (I : Inv X pins σ H s) :
    Inv X pins σ (upd H s.heap.objs.size (LamO s.heap.objs.size L c)) { s with heap := s.heap.push (PySem.W.kla_obj "<lambda>" L.qual L.params L.body L.scope [] pm c ctv), toks := t' } := by
  refine I.laid (a := s.heap.objs.size) (fun b u z => Heap.get?_push_of_some _ z) (Nat.le_refl _) ?_
  have e : (s.heap.push (PySem.W.kla_obj "<lambda>" L.qual L.params L.body L.scope [] pm c ctv)).get? s.heap.objs.size = some (PySem.W.kla_obj "<lambda>" L.qual L.params L.body L.scope [] pm c ctv) := Heap.get?_push_size _ rfl
  exact ⟨⟨pm, ctv, e⟩, ⟨_, e⟩, fun h1 h2 ⟨p1, c1, z⟩ st => ⟨p1, c1, st _ z⟩⟩
theorem lam_mk {T : List (Addr × Str)} {c P : Addr} {params : Arguments} {body : Expr} {scope : Scope} {pos : Pos} {En : Value → Shared → Prop} {Q : Value → Shared → Prop} (I : Inv X pins σ H s) (TB : LamX.TabB X.base X.mg c P) (hcode : X.env.code = .ref c)
    (hm : (P, X.env.qual ++ "<lambda>") ∈ T) (hu : ∀ p ∈ T, p.1 = P → p.2 = X.env.qual ++ "<lambda>") (hT : LamX.Tabs T H) (hdef : defaultsOf params X.env = ([], [])) (nf : ∀ y ∈ scope.names, y.2 ≠ .free)
    (fin : ∀ (f c' : Addr) (H2 : Hp) (s' : Shared), Inv X pins σ H2 s' → LamX.ExtN H H2 → (∀ b, H2 b = none → H b = none) → LamX.Tabs T H2 → H2 f = some (LamO f ⟨params, body, scope, X.env.qual ++ "<lambda>"⟩ c') → H2 c' = some (LamX.CodeO c' (X.env.qual ++ "<lambda>")) → Q (.ref f) s') :
    wpAny (model X.prog X.w) X.A (eval (.Lambda params body scope pos) X.env) Q En s := by
  have hfree : ∀ y ∈ scope.names, y.2 = .free → ∃ c, X.env.cells.lookup y.1 = some c := fun y hy z => absurd z (nf y hy)
  have hcl := clo_nil X.env.cells nf
  obtain ⟨ps, hP, ht, ha⟩ := hT _ hm
  have hP' : s.heap.get? P = some { cls := .none, data := .fields ps } := I.hok P _ hP
  have bP := TB.bm.keeps I.bk
  refine PySem.W.kla_eval hdef ?_
  cases hc : codeAmong pos ps.toList with
  | some cv =>
    obtain ⟨c1, z, hco⟩ := ha pos cv hc
    subst z
    refine PySem.W.kla_makeFunctionHit (mg := X.mg) (c := c) (P := P) (ps := ps) (closure_ok hfree) I.ok.glob (I.mod.glob.keeps I.bk) hcode (TB.code.keeps I.bk) hP' ht hc bP fun ctv h' tk hx hsz => ?_
    rw [hcl]
    have I1 : Inv X pins σ H { s with heap := h', toks := tk } := I.kept hx
    have nF : H h'.objs.size = none := I1.hok.fresh (Nat.le_refl _)
    have I2 := inv_lam (L := ⟨params, body, scope, X.env.qual ++ "<lambda>"⟩) (c := c1) (t' := tk) (pm := (X.mg "__name__").getD .none) (ctv := ctv) I1
    have up : ∀ b o, H b = some o → upd H h'.objs.size (LamO h'.objs.size ⟨params, body, scope, X.env.qual ++ "<lambda>"⟩ c1) b = some o := fun b o z => (upd_ne (ne_of_none z nF)).trans z
    exact fin h'.objs.size c1 _ _ I2 (fun b o z _ => up b o z) (fun b z => NdefX.upd_none z) (hT.ext up) upd_same (up _ _ hco)
  | none =>
    refine PySem.W.kla_makeFunction (mg := X.mg) (c := c) (P := P) (ps := ps) (closure_ok hfree) I.ok.glob (I.mod.glob.keeps I.bk) hcode (TB.code.keeps I.bk) hP' ht hc TB.gP bP fun c1 ctv h' tk hx hge hlt hrec htb => ?_
    rw [hcl]
    obtain ⟨c2, oc, vs, t, z2, hoc, hdt, hv⟩ := hrec
    cases z2
    have nC : H c1 = none := I.hok.fresh hge
    have J := LamX.inv_table (t' := tk) (more := #[rawInt pos.line, rawInt pos.col, .ref c1]) (h' := h') I hP (fun b o hb z => hx b o hb z) htb hge ⟨oc, vs, t, hoc, hdt, hv⟩
    have nPc : P ≠ c1 := ne_of_none hP nC
    have eN : LamX.ExtN H (upd (upd H P (.tbl (ps ++ #[rawInt pos.line, rawInt pos.col, .ref c1]))) c1 (LamX.CodeO c1 (X.env.qual ++ "<lambda>"))) := fun b o z nt => by
      have nb : b ≠ P := fun y => nt ps (Option.some.inj (z.symm.trans (by rw [y]; exact hP)))
      rw [upd_ne (ne_of_none z nC), upd_ne nb]; exact z
    have lst : (ps ++ #[rawInt pos.line, rawInt pos.col, .ref c1]).toList = ps.toList ++ [rawInt pos.line, rawInt pos.col, .ref c1] := by simp
    have T1 : LamX.Tabs T (upd (upd H P (.tbl (ps ++ #[rawInt pos.line, rawInt pos.col, .ref c1]))) c1 (LamX.CodeO c1 (X.env.qual ++ "<lambda>"))) := fun p hp => by
      by_cases hb : p.1 = P
      · rw [hu p hp hb, hb]
        refine ⟨_, by rw [upd_ne nPc, upd_same], by rw [lst]; exact PySem.TriplesOk_snoc _ _ _ _ ht, fun p2 cv y => ?_⟩
        rw [lst] at y
        rcases LamX.among_app _ ht y with y | y
        · obtain ⟨c0, k1, k2⟩ := ha p2 cv y
          exact ⟨c0, k1, eN _ _ k2 LamX.codeO_ne⟩
        · exact ⟨c1, y, upd_same⟩
      · obtain ⟨ps2, k1, k2, k3⟩ := hT p hp
        refine ⟨ps2, by rw [upd_ne (ne_of_none k1 nC), upd_ne hb]; exact k1, k2, fun p2 cv y => ?_⟩
        obtain ⟨c0, l1, l2⟩ := k3 p2 cv y
        exact ⟨c0, l1, eN _ _ l2 LamX.codeO_ne⟩
    have nF := J.hok.fresh (Nat.le_refl _)
    have I2 := inv_lam (L := ⟨params, body, scope, X.env.qual ++ "<lambda>"⟩) (c := c1) (t' := tk) (pm := (X.mg "__name__").getD .none) (ctv := ctv) J
    refine fin h'.objs.size c1 _ _ I2 (fun b o z nt => ?_) (fun b z => NdefX.upd_none (NdefX.upd_none (NdefX.upd_none z))) (T1.ext fun b o z => ?_) upd_same ?_
    · have z1 := eN b o z nt
      exact (upd_ne (ne_of_none z1 nF)).trans z1
    · exact (upd_ne (ne_of_none z nF)).trans z
    · exact (upd_ne (Nat.ne_of_lt hlt)).trans upd_same
end
section
variable {G : Nm} {T : Tb} {k : Nat} {C : Cb} {s : Sx} {X : Cx} {Wx : WX}
theorem lamB_ok {params : Arguments} {scope : Scope} {body : Expr} (h : lamB params scope body = true) : plainA params = true ∧ params.defaults = [] ∧ params.kw_defaults = [] ∧ FnScope (sxL params scope body).N (parN params) scope ∧ ∀ y ∈ scope.names, y.2 ≠ .cell := by
  unfold lamB at h
  simp only [Bool.and_eq_true, List.isEmpty_iff, List.all_eq_true, Bool.not_eq_true', decide_eq_false_iff_not] at h
  obtain ⟨⟨⟨⟨h1, h2⟩, h3⟩, h4⟩, h5⟩ := h
  exact ⟨h1, h2, h3, scope_ok h4, h5⟩
theorem def_nil {params : Arguments} (h1 : params.defaults = []) (h2 : params.kw_defaults = []) (env : Env) : defaultsOf params env = ([], []) := by
  obtain ⟨a1, a2, a3, a4, a5, a6, a7⟩ := params
  simp only at h1 h2
  subst h1 h2
  rfl
theorem pe_lamA (O : Good G T k C s X Wx) {n : Nat} {params : Arguments} {body : Expr} {scope : Scope} {pos : Pos} (hml : s.ml = true) (hl : lamB params scope body = true) :
    PE X (.Lambda params body scope pos) (TEm G X.K Wx fun _ h => .ok (.cod (parN params).length (sxL params scope body).N.length (compE G n (sxL params scope body) body)) h) := by
  obtain ⟨h1, h2, h3, h4, h5⟩ := lamB_ok hl
  refine ⟨fun pins st σ H Q I q => ?_⟩
  obtain ⟨r, f, h, S, p⟩ := q
  have mk : MkOk G X.K X.mg X.base X.env.code (X.env.qual ++ "<lambda>") := by
    rcases O.mkr with z | z
    · exact z
    · rw [hml] at z; cases z
  obtain ⟨c, P, hcode, TB, hm, hu⟩ := mk
  refine lam_mk I TB hcode hm hu S.heap.tabs (def_nil h2 h3 _) h4.nofree fun fa c1 H2 s2 I2 eN back T2 k1 k2 => ?_
  obtain ⟨x, R2⟩ := S.heap.extN eN back T2
  exact ⟨.ref fa, H2, I2, rfl, p r H2 (.ref fa) x R2 ⟨fa, _, c1, rfl, k1, k2, hl, rfl, rfl, n, rfl⟩⟩
/-- a lambda is called -/
theorem cod_run {P : Program} {w : World} {K : PySem.W.Frag} {mg : Str → Option Value} {base : Heap} {L : LamT} {np ns : Nat} {b : E} (ok : CodOk G L np ns b) {A : Around} {outer : List Env} {st : Shared} {H : Hp} {us : List Value} {vs : List V} {Q : VK} {En : XK} {a c : Addr} (hr : Room (k + 1) A) (e0 : Env0 P w K mg base A outer st H)
    (ha : H a = some (LamO a L c)) (hc : H c = some (LamX.CodeO c L.qual)) (rv : Vals vs us) (hlen : vs.length = np)
    (hbody : ∀ (F : NdefX.NF), F.qual = L.qual → F.scope = L.scope → F.cl = [] → F.c = c → PE (NdefX.ncx (L2.CX P w) P w K mg base (sxL L.params L.scope L.body).N F a A outer st H En) L.body fun σ H' Q' => σ = NdefX.startF (sxL L.params L.scope L.body).N vs [] ∧ H' = H ∧ Q' = Q) :
    codeAny (model P w) A (.call (.ref a) ⟨us, []⟩) (CR (L2.CX P w) outer P w H st Q En) st := by
  obtain ⟨h1, h2, h3, h4, h5⟩ := lamB_ok ok.ok
  obtain ⟨pm, ctv, hget⟩ := lamO_at e0.hok ha
  have lim : st.heap.NoLimit := e0.mod.nolimit.keeps fun b o z => (e0.bs b o z).1
  have hnd : (parN L.params).Nodup := by rw [← h4.pre]; exact h4.nd.sublist (List.take_sublist _ _)
  have hpar : ∀ x ∈ parN L.params, L.scope.names.lookup x = some .local := fun x hx => by
    rcases h4.par x hx with z | z
    · exact z
    · exact absurd rfl (h5 _ (PySem.mem_of_lookup z))
  have lenu : us.length = (parN L.params).length := by rw [← rv.length, hlen, ok.np]
  refine PySem.W.kla_callFunE hr.depth hget rfl h4.co h4.gen rfl (NdefX.codeO_at e0.hok hc) ?_
  rw [bind_plain (fd := PySem.W.kla_fn "<lambda>" L.qual L.params L.body L.scope [] pm (.ref c) ctv) (ps := parN L.params) h1 rfl rfl hnd lenu]
  refine wpAny_pure (wpAny_newFunctionEnv h5 (fun ⟨n, _⟩ hy => hpar n (List.of_mem_zip hy).1) (fun h1 hns hsb => ⟨lim.fresh _ hsb, ?_⟩) h4.kind)
  have kp : ∀ b o, st.heap.get? b = some o → h1.get? b = some o := fun b o z => hsb.extBut b o (Nat.ne_of_lt (Heap.lt_size z)) (Heap.get?_push_of_some _ z)
  have NS : NdefX.NScope (sxL L.params L.scope L.body).N (parN L.params) [] L.scope := ⟨h4.kind, h4.co, h4.gen, h4.nd, by simpa using h4.pre, hpar, h5, fun y hy z => absurd z (h4.nofree y hy), fun x hx => by cases hx⟩
  have J := NdefX.inv_startN (CX := L2.CX P w) (N := (sxL L.params L.scope L.body).N) (ps := parN L.params) (fr := []) (F := ⟨"<lambda>", L.qual, L.params, [], L.scope, [], c⟩) (f := a) (E := En) (ws := []) (tk := st.toks + ((parN L.params).zip us).length) NS hr.hd e0 (by rw [hlen, ok.np]) rv
    ⟨rfl, (fun y c z => by cases z), (fun x y c z => by cases z), (fun i y z => by simp at z)⟩ hns kp
  refine PySem.W.kla_codeExpr (wpAny_mono ((hbody ⟨"<lambda>", L.qual, L.params, [], L.scope, [], c⟩ rfl rfl rfl rfl).run [] _ _ H Q J ⟨rfl, rfl, rfl⟩) (fun v s' z => ?_) fun x s' z => z)
  obtain ⟨w', H', J', rr, q⟩ := z
  exact ⟨w', H', J'.os, J'.bare, J'.base, J'.hok, rr, q⟩
end
end WL

/-! the suite of an except clause -/
namespace WL
open PySem PySem.Spec PyProof.Rows L2
section
variable {X : Cx}
theorem ps_weak {st : Stmt} {t t' : TS} (p : PS X st t) (h : ∀ D σ H, t' D σ H → t D σ H) : PS X st t' := ⟨fun pins s σ H D I q => p.run pins s σ H D I (h D σ H q)⟩
theorem pss_weak {st : List Stmt} {t t' : TS} (p : PSs X st t) (h : ∀ D σ H, t' D σ H → t D σ H) : PSs X st t' := ⟨fun pins s σ H D I q => p.run pins s σ H D I (h D σ H q)⟩
end
/-- the slot i holds the error at a -/
abbrev Sl (i : Nat) (a : Addr) (σ : St) : Prop := σ[i]? = some (some (.ref a))
abbrev TXm (G : Nm) (K : PySem.W.Frag) (i : Nat) (a : Addr) (m : F → Hm → R W) : TE := fun σ H Q => Sl i a σ ∧ TEm G K Wno m σ H Q
abbrev TXa (G : Nm) (K : PySem.W.Frag) (i : Nat) (a : Addr) (m : F → Hm → R (List W)) : TA := fun σ H Q => Sl i a σ ∧ TAm G K Wno m σ H Q
section
variable {G : Nm} {T : Tb} {X : Cx} {i : Nat} {a : Addr} {C : Cb} {e x y : Expr} {es : List Expr} {ma mb : F → Hm → R W} {pos : Pos}
theorem tm_mono {K : PySem.W.Frag} {α β : Type} {rel : List Addr → Hp → Hm → α → β → Prop} {Wx : WX} {m : F → Hm → R α} {σ : St} {H : Hp} {Q Q' : β → Hp → Prop} (q : TmG G K rel Wx m σ H Q) (h : ∀ b H', Q b H' → Q' b H') : TmG G K rel Wx m σ H Q' := by
  obtain ⟨r, f, hh, S, p⟩ := q
  exact ⟨r, f, hh, S, p.mono h⟩
theorem px_bad : PE X e (TXm G X.K i a fun _ _ => .bad) := pe_weak pe_bad fun _ _ _ q => q.2
theorem px_of (p : PE X e (TEm G X.K Wno ma)) : PE X e (TXm G X.K i a ma) := pe_weak p fun _ _ _ q => q.2
theorem px_cat (hx : PE X x (TXm G X.K i a ma)) (hy : PE X y (TXm G X.K i a mb)) : PE X (.BinOp x .Add y pos) (TXm G X.K i a fun f h => (ma f h).bind fun u h1 => (mb f h1).bind fun v h2 => binW .Add u v h2) := by
  refine pe_weak (pe_op (OpR.or op_add op_cat) hx hy) ?_
  rintro σ H Q ⟨hs, q⟩
  have q2 := te_op (G := G) (X := X) (Wx := Wno) (r := fun x y H Q => (rI0 fun i j => .int (i + j)) x y H Q ∨ rCat x y H Q) (fop := binW .Add) (ma := ma) (mb := mb) (fun σ r0 h H u v z w Q R q1 q2 p => by
    cases u with
    | int n =>
      cases v with
      | int j => exact .inl ⟨n, j, q1, q2, post_ok p R rfl⟩
      | _ => exact p.elim
    | ref m =>
      cases v with
      | ref n =>
        obtain ⟨pa, rfl, ha⟩ := q1
        obtain ⟨pb, rfl, hb⟩ := q2
        simp only [binW] at p
        cases e1 : h[m]? with
        | none => simp only [e1] at p; exact p.elim
        | some o1 =>
          cases o1 with
          | lst xs =>
            cases e2 : h[n]? with
            | none => simp only [e1, e2] at p; exact p.elim
            | some o2 =>
              cases o2 with
              | lst ys =>
                simp only [e1, e2] at p
                by_cases hl : xs.length + ys.length ≤ line
                · rw [if_pos hl] at p
                  obtain ⟨vx, k1, k2⟩ := ro_lst R ha e1
                  obtain ⟨vy, k3, k4⟩ := ro_lst R hb e2
                  exact .inr ⟨pa, pb, vx, vy, rfl, rfl, k1, k3, by rw [k2.length, k4.length]; exact hl, fun pt hp => post_alloc p R hp ⟨_, upd_same, (k2.app k4).ext (ext_laid hp)⟩⟩
                · rw [if_neg hl] at p; exact p.elim
              | _ => simp only [e1, e2] at p; exact p.elim
          | _ => simp only [e1] at p; exact p.elim
      | _ => exact p.elim
    | _ => exact p.elim) σ H Q q
  exact ⟨hs, tm_mono q2 fun v H1 q3 => ⟨hs, q3⟩⟩
theorem px_not (hx : PE X x (TXm G X.K i a ma)) : PE X (.UnaryOp .Not x pos) (TXm G X.K i a fun f h => (ma f h).bind fun u h1 => match u with | .bl b => .ok (.bl (!b)) h1 | _ => .bad) := by
  refine pe_weak (pe_not hx) ?_
  rintro σ H Q ⟨hs, q⟩
  exact ⟨hs, te_not σ H Q q⟩
theorem px_and (hx : PE X x (TXm G X.K i a ma)) (hy : PE X y (TXm G X.K i a mb)) : PE X (.BoolOp .And [x, y] pos) (TXm G X.K i a fun f h => (ma f h).bind fun u h1 => match u with | .bl true => mb f h1 | .bl false => .ok (.bl false) h1 | _ => .bad) := by
  refine pe_weak (pe_and hx (pe_one hy)) ?_
  rintro σ H Q ⟨hs, q⟩
  refine ⟨hs, tm_mono (te_and σ H Q q) ?_⟩
  rintro v H1 ⟨c, ev, q3⟩
  refine ⟨c, ev, ?_⟩
  by_cases hc : c = true
  · rw [if_pos hc] at q3 ⊢; exact ⟨hs, q3⟩
  · rw [if_neg hc] at q3 ⊢; exact q3
theorem pa_x {ce : Expr → E} (hp : ∀ e, PE X e (TXm G X.K i a (ev C (ce e)))) : ∀ {es : List Expr}, es.all noStar = true → PA X es (TXa G X.K i a (evs C (listE (es.map ce))))
  | [], _ => pa_weak pa_nil fun σ H Q q => by
      have q := q.2
      rw [show listE (List.map ce []) = E.nil from rfl, evs_nil] at q
      exact ta_nil σ H Q q
  | e :: es, hs => by
    simp only [List.all_cons, Bool.and_eq_true] at hs
    refine pa_weak (pa_cons (hp e) (pa_x hp hs.2) (star_cons hs.1 es)) ?_
    rintro σ H Q ⟨h1, q⟩
    rw [show listE (List.map ce (e :: es)) = E.cons (ce e) (listE (es.map ce)) from rfl, evs_cons] at q
    exact ⟨h1, tm_mono (ta_cons σ H Q q) fun v H1 q3 => ⟨h1, q3⟩⟩
theorem px_lst {ce : Expr → E} (hp : ∀ e, PE X e (TXm G X.K i a (ev C (ce e)))) {es : List Expr} (hs : es.all noStar = true) : PE X (.List es pos) (TXm G X.K i a (ev C (.lst (listE (es.map ce))))) := by
  refine pe_weak (pe_lst (pa_x hp hs)) ?_
  rintro σ H Q ⟨h1, q⟩
  rw [ev_lst] at q
  exact ⟨h1, te_lst σ H Q q⟩
end
/-- where a suite runs: X the def's context, the error at a of the class number e -/
structure Suit (G : Nm) (T : Tb) (C : Cb) (s : Sx) (X : Cx) (i e : Nat) (a : Addr) (oe : Obj) (er : Str) : Prop where
  eN : X.N = s.N
  nd : s.N.Nodup
  eS : X.env.scope = s.sc
  eT : s.tsc = s.sc
  ie : idxS er s.N = some i
  el : s.sc.names.lookup er = some .local
  sta : Sta G T X.K X.mg
  cT : C.tb = T
  xc : C.xc = some e
  hz : Zc (.ref (xA G X.K e)) none oe
  hf : ∃ vs, oe.data = .fields vs
  fn : ∀ x, X.fn x = true
section
variable {G : Nm} {T : Tb} {C : Cb} {s : Sx} {X : Cx} {i e : Nat} {a : Addr} {oe : Obj} {er : Str} {pn : List (Addr × Obj)}
theorem idxS_none {x : Str} : ∀ {l : List Str}, idxS x l = none → ∀ k : Nat, l[k]? ≠ some x
  | [], _, k, h => by simp at h
  | y :: l, z, k, h => by
    unfold idxS at z
    split at z
    · cases z
    · rename_i hy
      cases z2 : idxS x l with
      | some j => rw [z2] at z; cases z
      | none =>
        cases k with
        | zero => simp at h; exact hy h
        | succ k => exact idxS_none z2 k (by simpa using h)
theorem px_isx (U : Suit G T C s X i e a oe er) {f x y : Str} {p1 p2 p3 pos : Pos} {d : Nat} (hf : f = "isinstance") (hx : x = er) (hg : glB s.sc f = true) (hgy : glB s.sc y = true) (hpy : plainN y = true) (hpx : plainN x = true)
    (hd : idxS y G.exs = some d ∨ (y = "ValueError" ∧ d = G.exs.length)) : PE (X.suite a ((a, oe) :: pn)) (.Call (.Name f p1) [.Name x p2, .Name y p3] [] pos) (TXm G X.K i a (ev C (.isx d))) := by
  subst hf hx
  have gl : ∀ {z : Str}, glB s.sc z = true → Gl (X.suite a ((a, oe) :: pn)) z := fun {z} h => by
    show X.env.scope.names.lookup z = some .globalImplicit
    rw [U.eS]; exact glB_ok h
  obtain ⟨db, cd, _⟩ := plainN_ok hpx
  obtain ⟨dby, _, hny⟩ := plainN_ok hpy
  have hN : (X.suite a ((a, oe) :: pn)).N[i]? = some x := by show X.N[i]? = some x; rw [U.eN]; exact idxS_get U.ie
  have hV : Vis (X.suite a ((a, oe) :: pn)).env.scope x := by show Vis X.env.scope x; rw [U.eS]; exact .inl U.el
  have hE : PE (X.suite a ((a, oe) :: pn)) (.Name x p2) (tVar i) := pe_var hN hV db cd
  have fin : ∀ (c : V) (cv : Value), (∀ u, RelV c u → u = cv) → xV G X.K d = cv → PE (X.suite a ((a, oe) :: pn)) (.Name y p3) (tC c) → PE (X.suite a ((a, oe) :: pn)) (.Call (.Name "isinstance" p1) [.Name x p2, .Name y p3] [] pos) (TXm G X.K i a (ev C (.isx d))) := by
    intro c cv hcv exv hY
    refine ⟨fun pins st σ H Q I q => ?_⟩
    obtain ⟨hs, r, f, h, S, p⟩ := q
    rw [ev_isx] at p
    simp only [U.xc, Option.bind_some, U.cT] at p
    cases z : T.subX e d with
    | none => rw [z] at p; exact p.elim
    | some b =>
      rw [z] at p
      have k1 := U.sta.exi e d b z
      rw [exv] at k1
      refine (pe_callB (call_isE (U.sta.exc e d b z) U.hz U.hf) (gl hg) (U.sta.free _ (by simp [bnames])) (by decide +kernel : bootBuiltins "isinstance" = some (.builtin "isinstance")) (pa_cons hE (pa_cons hY pa_nil (star_cons rfl [])) (star_cons rfl _)) (by decide +kernel) (by decide +kernel) (star_cons rfl _) (star_any (es := [.Name y p3]) rfl)).run pins st σ H Q I ?_
      exact ⟨.ref a, hs, c, cv, b, rfl, hcv, k1, post_ok p S.heap rfl⟩
  rcases hd with hd | ⟨ey, ed⟩
  · have hat := idxS_get hd
    have hlt : d < G.exs.length := (List.getElem?_eq_some_iff.mp hat).1
    refine fin (.ref (xA G X.K d)) (.ref (xA G X.K d)) (fun u z => z) (by unfold xV; rw [if_pos hlt]) ?_
    exact pe_glob (gl hgy) (U.sta.exg d y hat) rfl dby
  · subst ey
    refine fin (.ty "ValueError") (.type "ValueError") (fun u z => z) (by unfold xV; rw [ed, if_neg (Nat.lt_irrefl _)]) ?_
    exact pe_bltn (gl hgy) (U.sta.free _ (by simp [bnames])) (by decide +kernel : bootBuiltins "ValueError" = some (.type "ValueError")) rfl (by decide +kernel) (by decide +kernel)
theorem soundX (U : Suit G T C s X i e a oe er) : ∀ (n : Nat) (x : Expr), PE (X.suite a ((a, oe) :: pn)) x (TXm G X.K i a (ev C (compXE G s er n x)))
  | 0, x => by rw [show compXE G s er 0 x = E.bad from rfl, ev_bad]; exact px_bad
  | n + 1, x => by
    have ih := soundX U n
    have bad : PE (X.suite a ((a, oe) :: pn)) x (TXm G X.K i a (ev C .bad)) := by rw [ev_bad]; exact px_bad
    cases x with
    | Name y p =>
      simp only [compXE]
      split
      · exact bad
      · rename_i hc
        simp only [Bool.or_eq_true, Bool.not_eq_true', not_or, Bool.not_eq_false, decide_eq_true_eq] at hc
        obtain ⟨db, cd, _⟩ := plainN_ok hc.1
        split
        · rename_i hv
          split
          · rename_i j hj
            rw [ev_v]
            refine px_of (pe_weak (pe_var (i := j) ?_ ?_ db cd) te_var)
            · show X.N[j]? = some y; rw [U.eN]; exact idxS_get hj
            · show Vis X.env.scope y; rw [U.eS]; exact visB_ok hv
          · exact bad
        · exact bad
    | Constant c kk p =>
      cases c with
      | bool b => simp only [compXE]; rw [ev_bl]; exact px_of (pe_weak pe_bl (te_c fun _ _ => rfl))
      | str z => simp only [compXE]; rw [ev_str]; exact px_of (pe_weak pe_str (te_c fun _ _ => rfl))
      | _ => exact bad
    | BinOp y o z p =>
      cases o with
      | Add => simp only [compXE]; rw [ev_bin]; exact px_cat (ih y) (ih z)
      | _ => exact bad
    | UnaryOp o y p =>
      cases o with
      | Not => simp only [compXE]; rw [ev_not]; exact px_not (ih y)
      | _ => exact bad
    | BoolOp o ys p =>
      cases o with
      | And =>
        rcases ys with _ | ⟨y, _ | ⟨z, _ | ⟨u, ys⟩⟩⟩
        · exact bad
        · exact bad
        · simp only [compXE]; rw [ev_and]; exact px_and (ih y) (ih z)
        · exact bad
      | Or => exact bad
    | List ys p =>
      simp only [compXE]
      split
      · rename_i hs
        exact px_lst (C := C) ih hs
      · exact bad
    | Call f args kws p =>
      cases kws with
      | cons k1 k2 =>
        have e1 : compXE G s er (n + 1) (.Call f args (k1 :: k2) p) = .bad := by
          cases f <;> first | rfl | (rcases args with _ | ⟨y, _ | ⟨z, _ | ⟨u, args⟩⟩⟩ <;> first | rfl | (cases y <;> first | rfl | (cases z <;> rfl)))
        rw [e1]; exact bad
      | nil =>
        by_cases hsh : ∃ fn p1 y p2 z p3, f = .Name fn p1 ∧ args = [.Name y p2, .Name z p3]
        · obtain ⟨fn, p1, y, p2, z, p3, rfl, rfl⟩ := hsh
          simp only [compXE]
          split
          · rename_i hc
            simp only [Bool.and_eq_true, decide_eq_true_eq] at hc
            obtain ⟨⟨⟨⟨⟨h1, h2⟩, h3⟩, h4⟩, h5⟩, h6⟩ := hc
            split
            · rename_i d hd
              exact px_isx U h1 h2 h3 h4 h5 h6 (.inl hd)
            · split
              · rename_i hv
                exact px_isx U h1 h2 h3 h4 h5 h6 (.inr ⟨hv, rfl⟩)
              · exact bad
          · exact bad
        · have e1 : compXE G s er (n + 1) (.Call f args [] p) = .bad := by
            cases f with
            | Name fn p1 =>
              rcases args with _ | ⟨y, _ | ⟨z, _ | ⟨u, args⟩⟩⟩
              · rfl
              · cases y <;> rfl
              · cases y with
                | Name y p2 =>
                  cases z with
                  | Name z p3 => exact absurd ⟨fn, p1, y, p2, z, p3, rfl, rfl⟩ hsh
                  | _ => rfl
                | _ => rfl
              · cases y with
                | Name y p2 => cases z <;> rfl
                | _ => rfl
            | _ => rfl
          rw [e1]; exact bad
    | _ => exact bad
/-- .. its statements -/
def PostX (G : Nm) (K : PySem.W.Frag) (i : Nat) (a : Addr) (D : Ends) (r : List Addr) (H : Hp) (x : RS) : Prop := match x with
  | .nx f h => ∀ r' H' σ', Ext r H r' H' → RelS G K r' f h σ' H' → Sl i a σ' → D.nx σ' H'
  | _ => False
abbrev TXs (G : Nm) (K : PySem.W.Frag) (i : Nat) (a : Addr) (m : F → Hm → RS) : TS := fun D σ H => Sl i a σ ∧ ∃ r f h, RelS G K r f h σ H ∧ PostX G K i a D r H (m f h)
theorem PostX.ext {K : PySem.W.Frag} {D : Ends} {r r' : List Addr} {H H' : Hp} {x : RS} (p : PostX G K i a D r H x) (z : Ext r H r' H') : PostX G K i a D r' H' x := by
  cases x with
  | nx f h => exact fun r2 H2 σ2 z2 S hs => p r2 H2 σ2 (z.trans z2) S hs
  | _ => exact p
theorem psx_bad {st : Stmt} {Y : Cx} {K : PySem.W.Frag} : PS Y st (TXs G K i a fun _ _ => .bad) := ⟨fun _ _ _ _ _ _ q => by obtain ⟨_, _, _, _, _, p⟩ := q; exact p.elim⟩
theorem pssx_of {C : Cb} {Y : Cx} {K : PySem.W.Frag} {cs : Stmt → S} (hp : ∀ st, PS Y st (TXs G K i a (exec C (cs st)))) : ∀ (sts : List Stmt), PSs Y sts (TXs G K i a (exec C (seqS (sts.map cs))))
  | [] => pss_weak pss_nil fun D σ H ⟨hs, r, f, h, S, p⟩ => by
      have p : PostX G K i a D r H (.nx f h) := p
      exact p r H σ .refl S hs
  | st :: sts => by
    refine pss_weak (pss_cons (hp st) (pssx_of hp sts)) ?_
    rintro D σ H ⟨hs, r, f, h, S, p⟩
    have p : PostX G K i a D r H (match exec C (cs st) f h with
      | .nx f1 h1 => exec C (seqS (sts.map cs)) f1 h1
      | x => x) := p
    refine ⟨hs, r, f, h, S, ?_⟩
    cases z : exec C (cs st) f h with
    | nx f1 h1 => rw [z] at p; exact fun r1 H1 σ1 e1 S1 hs1 => ⟨hs1, r1, f1, h1, S1, p.ext e1⟩
    | _ => rw [z] at p; exact p
theorem soundXS (U : Suit G T C s X i e a oe er) : ∀ (n : Nat) (st : Stmt), PS (X.suite a ((a, oe) :: pn)) st (TXs G X.K i a (exec C (compXS G s er n st)))
  | 0, st => psx_bad
  | n + 1, st => by
    have ih := fun st => soundXS U n st
    have se := soundX U n (pn := pn)
    cases st with
    | Assign ts x p =>
      rcases ts with _ | ⟨t, _ | ⟨t2, ts⟩⟩
      · exact psx_bad
      · cases t with
        | Name y py =>
          simp only [compXS]
          split
          · rename_i hc
            simp only [Bool.and_eq_true, Bool.not_eq_true', decide_eq_false_iff_not] at hc
            obtain ⟨⟨⟨h1, h2⟩, h3⟩, h4⟩ := hc
            split
            · rename_i j hj
              have hat : (X.suite a ((a, oe) :: pn)).N[j]? = some y := by show X.N[j]? = some y; rw [U.eN]; exact idxS_get hj
              have hl : L2.Loc (X.suite a ((a, oe) :: pn)).env.scope y := by
                show L2.Loc X.env.scope y
                rw [U.eS]
                rw [U.eT] at h1
                exact locB_ok h1
              have hne : j ≠ i := fun z => h3 (by
                have a1 := idxS_get hj
                have a2 := idxS_get U.ie
                rw [z] at a1
                exact Option.some.inj (a1.symm.trans a2))
              refine ps_weak (ps_set (i := j) (by show X.N.Nodup; rw [U.eN]; exact U.nd) hat hl (se x) ?_ (.inl (U.fn y))) ?_
              · cases x <;> first | rfl | cases h4
              · rintro D σ H ⟨hs, r, f, h, S, p⟩
                have p : PostX G X.K i a D r H ((ev C (compXE G s er n x) f h).asS f fun w h1 => (match stV j w f with | some f1 => .nx f1 h1 | none => .bad)) := p
                refine ⟨hs, r, f, h, S, ?_⟩
                cases z : ev C (compXE G s er n x) f h with
                | bad => rw [z] at p; exact p
                | exc c h1 => rw [z] at p; exact p.elim
                | ok w h1 =>
                  rw [z] at p
                  intro r1 H1 v e1 R1 q1
                  have p : PostX G X.K i a D r H (match stV j w f with | some f1 => .nx f1 h1 | none => .bad) := p
                  unfold stV at p
                  split at p
                  · rename_i f1 hf
                    split at hf
                    · cases hf
                      refine p r1 H1 _ e1 ((S.ext e1 R1).set q1) ?_
                      show (σ.set j (some v))[i]? = _
                      rw [List.getElem?_set_ne hne]; exact hs
                    · cases hf
                  · exact p.elim
            · exact psx_bad
          · exact psx_bad
        | _ => exact psx_bad
      · have e1 : compXS G s er (n + 1) (.Assign (t :: t2 :: ts) x p) = .bad := by cases t <;> rfl
        rw [e1]; exact psx_bad
    | If c b d p =>
      cases d with
      | cons d1 d2 => exact psx_bad
      | nil =>
        simp only [compXS]
        split
        · rename_i hcall
          have pt : PT (X.suite a ((a, oe) :: pn)) c (fun σ H Q => Sl i a σ ∧ TTm G X.K Wno (ev C (compXE G s er n c)) σ H Q) := by
            have hpl : plainT c = true := by cases c <;> first | rfl | cases hcall
            refine pt_weak (pt_val (se c) (isTrue_plainT hpl _)) ?_
            rintro σ H Q ⟨hs, r, f, h, S, q⟩
            exact ⟨hs, r, f, h, S, post_tst q⟩
          refine ps_weak (ps_if pt (pssx_of ih b) (pssx_of (cs := compXS G s er n) ih [])) ?_
          rintro D σ H ⟨hs, r, f, h, S, p⟩
          have p : PostX G X.K i a D r H ((ev C (compXE G s er n c) f h).asS f fun w h1 => (match w with
            | .bl true => exec C (seqS (b.map (compXS G s er n))) f h1
            | .bl false => exec C .nil f h1
            | _ => .bad)) := p
          refine ⟨hs, r, f, h, S, ?_⟩
          dsimp only
          cases z : ev C (compXE G s er n c) f h with
          | bad => rw [z] at p; exact p
          | exc c h1 => rw [z] at p; exact p.elim
          | ok w h1 =>
            rw [z] at p
            cases w with
            | bl bb =>
              intro r1 H1 b' e1 R1 q
              have q : bb = b' := q
              subst q
              cases bb with
              | true =>
                have p : PostX G X.K i a D r H (exec C (seqS (b.map (compXS G s er n))) f h1) := p
                exact ⟨hs, r1, f, h1, S.ext e1 R1, p.ext e1⟩
              | false =>
                have p : PostX G X.K i a D r H (exec C (seqS (([] : List Stmt).map (compXS G s er n))) f h1) := p
                exact ⟨hs, r1, f, h1, S.ext e1 R1, p.ext e1⟩
            | _ => exact p.elim
        · exact psx_bad
    | _ => exact psx_bad
end
end WL

/-! a lambda handed to a def that calls it -/
namespace WL
open PySem PySem.Spec PyProof.Rows L2
section
variable {X : Cx} {pins : List (Addr × Obj)} {σ : St} {H : Hp} {s : Shared}
theorem lam_mkT {T : List (Addr × Str)} {c P : Addr} {params : Arguments} {body : Expr} {scope : Scope} {pos : Pos} {En : Value → Shared → Prop} {Q : Value → Shared → Prop} (I : Inv X pins σ H s) (TB : LamX.TabB X.base X.mg c P) (hcode : X.env.code = .ref c)
    (hm : (P, X.env.qual ++ "<lambda>") ∈ T) (hu : ∀ p ∈ T, p.1 = P → p.2 = X.env.qual ++ "<lambda>") (hT : LamX.Tabs T H) (hdef : defaultsOf params X.env = ([], [])) (hfree : ∀ y ∈ scope.names, y.2 = .free → ∃ c, X.env.cells.lookup y.1 = some c)
    (fin : ∀ (f c1 : Addr) (pm ctv : Value) (H1 : Hp) (s1 : Shared), Inv X pins σ H1 s1 → LamX.ExtN H H1 → (∀ b, H1 b = none → H b = none) → LamX.Tabs T H1 → s1.heap.get? f = some (PySem.W.kla_obj "<lambda>" (X.env.qual ++ "<lambda>") params body scope (cloFrom X.env.cells scope.names []) pm c1 ctv) →
      H1 f = none → f ∉ frs X.stack → H1 c1 = some (LamX.CodeO c1 (X.env.qual ++ "<lambda>")) → Q (.ref f) s1) :
    wpAny (model X.prog X.w) X.A (eval (.Lambda params body scope pos) X.env) Q En s := by
  have off : ∀ f, s.heap.objs.size ≤ f → f ∉ frs X.stack := fun f hf z => by
    rcases List.mem_cons.mp (I.stkSub _ z) with y | y
    · have lt := I.lt
      rw [← y] at lt
      exact Nat.lt_irrefl _ (Nat.lt_of_lt_of_le lt hf)
    · exact I.nofs hf y
  obtain ⟨ps, hP, ht, ha⟩ := hT _ hm
  have hP' : s.heap.get? P = some { cls := .none, data := .fields ps } := I.hok P _ hP
  have bP := TB.bm.keeps I.bk
  refine PySem.W.kla_eval hdef ?_
  cases hc : codeAmong pos ps.toList with
  | some cv =>
    obtain ⟨c1, z, hco⟩ := ha pos cv hc
    subst z
    refine PySem.W.kla_makeFunctionHit (mg := X.mg) (c := c) (P := P) (ps := ps) (closure_ok hfree) I.ok.glob (I.mod.glob.keeps I.bk) hcode (TB.code.keeps I.bk) hP' ht hc bP fun ctv h' tk hx hsz => ?_
    have J : Inv X pins σ H { s with heap := h'.push (PySem.W.kla_obj "<lambda>" (X.env.qual ++ "<lambda>") params body scope (cloFrom X.env.cells scope.names []) ((X.mg "__name__").getD .none) c1 ctv), toks := tk } := I.kept fun b o z => Heap.get?_push_of_some _ (hx b o z)
    exact fin _ c1 _ ctv H _ J (LamX.ExtN.refl H) (fun b z => z) hT (Heap.get?_push_size _ rfl) (I.hok.fresh hsz) (off _ hsz) hco
  | none =>
    refine PySem.W.kla_makeFunction (mg := X.mg) (c := c) (P := P) (ps := ps) (closure_ok hfree) I.ok.glob (I.mod.glob.keeps I.bk) hcode (TB.code.keeps I.bk) hP' ht hc TB.gP bP fun c1 ctv h' tk hx hge hlt hrec htb => ?_
    obtain ⟨c2, oc, vs, t, z2, hoc, hdt, hv⟩ := hrec
    cases z2
    have hsz : s.heap.objs.size ≤ h'.objs.size := Nat.le_trans hge (Nat.le_of_lt hlt)
    have nC : H c1 = none := I.hok.fresh hge
    have nPc : P ≠ c1 := ne_of_none hP nC
    have J := LamX.inv_table (t' := tk) (more := #[rawInt pos.line, rawInt pos.col, .ref c1]) (h' := h'.push (PySem.W.kla_obj "<lambda>" (X.env.qual ++ "<lambda>") params body scope (cloFrom X.env.cells scope.names []) ((X.mg "__name__").getD .none) c1 ctv)) I hP (fun b o hb z => Heap.get?_push_of_some _ (hx b o hb z)) (Heap.get?_push_of_some _ htb) hge
      ⟨oc, vs, t, Heap.get?_push_of_some _ hoc, hdt, hv⟩
    have eN : LamX.ExtN H (upd (upd H P (.tbl (ps ++ #[rawInt pos.line, rawInt pos.col, .ref c1]))) c1 (LamX.CodeO c1 (X.env.qual ++ "<lambda>"))) := fun b o z nt => by
      have nb : b ≠ P := fun y => nt ps (Option.some.inj (z.symm.trans (by rw [y]; exact hP)))
      rw [upd_ne (ne_of_none z nC), upd_ne nb]; exact z
    have lst : (ps ++ #[rawInt pos.line, rawInt pos.col, .ref c1]).toList = ps.toList ++ [rawInt pos.line, rawInt pos.col, .ref c1] := by simp
    have T1 : LamX.Tabs T (upd (upd H P (.tbl (ps ++ #[rawInt pos.line, rawInt pos.col, .ref c1]))) c1 (LamX.CodeO c1 (X.env.qual ++ "<lambda>"))) := fun p hp => by
      by_cases hb : p.1 = P
      · rw [hu p hp hb, hb]
        refine ⟨_, by rw [upd_ne nPc, upd_same], by rw [lst]; exact PySem.TriplesOk_snoc _ _ _ _ ht, fun p2 cv y => ?_⟩
        rw [lst] at y
        rcases LamX.among_app _ ht y with y | y
        · obtain ⟨c0, k1, k2⟩ := ha p2 cv y
          exact ⟨c0, k1, eN _ _ k2 LamX.codeO_ne⟩
        · exact ⟨c1, y, upd_same⟩
      · obtain ⟨ps2, k1, k2, k3⟩ := hT p hp
        refine ⟨ps2, by rw [upd_ne (ne_of_none k1 nC), upd_ne hb]; exact k1, k2, fun p2 cv y => ?_⟩
        obtain ⟨c0, l1, l2⟩ := k3 p2 cv y
        exact ⟨c0, l1, eN _ _ l2 LamX.codeO_ne⟩
    have hP2 : P < s.heap.objs.size := Heap.lt_size hP'
    refine fin h'.objs.size c1 _ ctv _ _ J eN (fun b z => NdefX.upd_none (NdefX.upd_none z)) T1 (Heap.get?_push_size _ rfl) ?_ (off _ hsz) upd_same
    rw [upd_ne (Nat.ne_of_gt hlt), upd_ne (Nat.ne_of_gt (Nat.lt_of_lt_of_le hP2 hsz))]
    exact I.hok.fresh hsz
/-- a(), in the def that got the lambda; what is raised, at the slots of that def -/
theorem pe_actS {CXg : CXT} {Eg : XK} {Ng : List Str} {qg : Str} {sg : Scope} {g f c1 : Addr} {cdg pm ctv : Value} {params : Arguments} {body : Expr} {scope : Scope} {k i : Nat} {a : Str} {pn : List (Addr × Obj)} {xe : Value → Shared → Prop} {W : WX} {tb : XK → TE} {p1 p2 : Pos}
    (I : Inv X pins σ H s) (L : LamX.LamS X.env.scope scope) (hf : s.heap.get? f = some (PySem.W.kla_obj "<lambda>" (X.env.qual ++ "<lambda>") params body scope (cloFrom X.env.cells scope.names []) pm c1 ctv)) (hfn : H f = none) (hfr : f ∉ frs X.stack)
    (hbind : bindArgs (PySem.W.kla_fn "<lambda>" (X.env.qual ++ "<lambda>") params body scope (cloFrom X.env.cells scope.names []) pm (.ref c1) ctv) ⟨[], []⟩ = pure [])
    (tk : Takes ((cxOf CXg X.prog X.w X.K X.mg X.base Ng qg sg g cdg X.A X.stack s H Eg).tr pn xe) W) (hr : Room (k + 1) (X.A.deeper (envOfC qg sg s.heap.objs.size g cdg)))
    (hbody : ∀ (A : Around) (outer : List Env) (s : Shared) (H : Hp) (En : XK), Room k (A.deeper (LamX.lamEnv X scope s.heap.objs.size f c1)) → PE (LamX.lamCx X A outer s H En scope f c1) body (tb En))
    (hN : Ng[i]? = some a) (hv : Vis sg a) (hd : (a == ("__debug__" : Str)) = false) (hcd : (a == ("__classdict__" : Str)) = false) :
    PE ((cxOf CXg X.prog X.w X.K X.mg X.base Ng qg sg g cdg X.A X.stack s H Eg).tr pn xe) (.Call (.Name a p1) [] [] p2)
      (fun σZ HZ Q => σZ[i]? = some (some (.ref f)) ∧ HZ c1 = some (LamX.CodeO c1 (X.env.qual ++ "<lambda>")) ∧ tb (WE W σZ) σ HZ Q) := by
  refine ⟨fun pinsZ sZ σZ HZ Q IZ q => ?_⟩
  obtain ⟨hs, hc, ht⟩ := q
  have look := (pe_var (pos := p1) (i := i) hN hv hd hcd).run pinsZ sZ σZ HZ (fun v H1 => v = .ref f ∧ H1 = HZ) IZ ⟨.ref f, hs, rfl, rfl⟩
  refine wpAny_Call_Name_kw (thn look fun u s1 ⟨v, H1, I1, r1, ev, eH⟩ => ?_)
  subst ev
  rw [eH] at I1
  obtain rfl : u = Value.ref f := r1
  have getf := I1.base.keep f _ hf hfn hfr (fun z => nomatch (show f ∈ ([] : List Addr) from z))
  refine PySem.W.callWith_F0 ⟨_, _, _, _, getf⟩ ?_
  have un : Un (frs X.stack) [] H HZ s.heap s1.heap := I1.base
  have run1 : codeAny (model X.prog X.w) (X.A.deeper (envOfC qg sg s.heap.objs.size g cdg)) (.call (.ref f) ⟨[], []⟩) (CR (L2.CX X.prog X.w) (envOfC qg sg s.heap.objs.size g cdg :: X.stack) X.prog X.w HZ s1 Q (WE W σZ)) s1 := by
    refine PySem.W.kla_callFunE hr.depth getf rfl L.co L.gen rfl (NdefX.codeO_at I1.hok hc) ?_
    rw [hbind]
    refine wpAny_pure (wpAny_newFunctionEnv (fun y hy => (L.own y hy).2) (fun y hy => absurd hy (by simp)) (fun h1 hns hsb => ⟨I1.nolimit.fresh _ hsb, ?_⟩) L.kind)
    have kp : ∀ b o, s1.heap.get? b = some o → h1.get? b = some o := fun b o z => hsb.extBut b o (Nat.ne_of_lt (Heap.lt_size z)) (Heap.get?_push_of_some _ z)
    have J := LamX.lam_start2 (A := X.A.deeper (envOfC qg sg s.heap.objs.size g cdg)) (outer := envOfC qg sg s.heap.objs.size g cdg :: X.stack) (E := WE W σZ) (f := f) (c' := c1) (tk := s1.toks + ([] : List (Str × Value)).length) I L I1.env0 hr.hd un hns kp
    refine PySem.W.kla_codeExpr (wpAny_mono ((hbody _ _ s1 HZ _ (hr.deeper _)).run [] _ _ HZ Q J ht) (fun v s' z => ?_) fun x s' z => z)
    obtain ⟨w', H', J', rv, q⟩ := z
    exact ⟨w', H', J'.os, J'.bare, J'.base, J'.hok, rv, q⟩
  refine wpAny_call (codeAny_mono run1 fun res s' z => ?_)
  cases res with
  | error x => exact passAt tk σZ pinsZ HZ s1 x s' I1 z
  | ok fl =>
    cases fl with
    | ret u => exact I1.after z
    | _ => exact False.elim z
end
end WL

/-! f(lambda: ..) -/
namespace WL
open PySem PySem.Spec PyProof.Rows L2
theorem thkB_ok {sc scope : Scope} {params : Arguments} (h : thkB sc params scope = true) : plainA params = true ∧ params.args = [] ∧ params.defaults = [] ∧ params.kw_defaults = [] ∧ LamX.LamS sc scope := by
  unfold thkB at h
  simp only [Bool.and_eq_true, List.isEmpty_iff] at h
  obtain ⟨⟨⟨⟨h1, h2⟩, h3⟩, h4⟩, h5⟩ := h
  exact ⟨h1, h2, h3, h4, LamX.lamS_by h5⟩
section
variable {G : Nm} {X : Cx} {Wx : WX}
theorem pe_constE {C : Cb} {e : Expr} {e0 : E} (h : constE e = some e0) : PE X e (TEm G X.K Wx (ev C e0)) ∧ noComp e = true := by
  unfold constE at h
  split at h
  · cases h
    refine ⟨?_, rfl⟩
    rw [ev_lst]
    refine pe_weak (pe_lst pa_nil) fun σ H Q q => ?_
    have q2 := te_lst (G := G) (X := X) (Wx := Wx) σ H Q q
    obtain ⟨r, f, hh, S, p⟩ := q2
    rw [evs_nil] at p
    exact p r H [] .refl S.heap rfl
  · cases h; exact ⟨by rw [ev_bl]; exact pe_weak pe_bl (te_c fun _ _ => rfl), rfl⟩
  · cases h; exact ⟨by rw [ev_str]; exact pe_weak pe_str (te_c fun _ _ => rfl), rfl⟩
  · cases h
theorem set_none {K : PySem.W.Frag} {r : List Addr} {f : F} {h : Hm} {σ : St} {H : Hp} {i : Nat} {v : Option V} (S : RelS G K r f h σ H) : RelS G K r (f.set i none) h (σ.set i v) H := by
  refine ⟨S.heap, fun j w hj => ?_, by simp [S.len]⟩
  by_cases e : j = i
  · subst e
    by_cases hl : j < f.length
    · rw [List.getElem?_set_self hl] at hj; cases hj
    · rw [List.getElem?_eq_none (by simpa using hl)] at hj; cases hj
  · rw [List.getElem?_set_ne (Ne.symm e)] at hj ⊢
    exact S.fr j w hj
end
section
variable {G : Nm} {T : Tb} {j : Nat} {C : Cb} {s : Sx} {X : Cx} {Wx : WX}
theorem pe_thk (O : Good G T (j + 2) C s X Wx) {g : Nat} {x : Str} {p lp pos : Pos} {params : Arguments} {body : Expr} {scope : Scope} {b : E} {Cl : Cb} (hml : s.ml = true) (hg : Gl X x) (hpn : plainN x = true) (hx : idxF x G.fns = some g) (hth : thkB s.sc params scope = true)
    (hbody : ∀ (A : Around) (outer : List Env) (st : Shared) (H : Hp) (En : XK) (f c1 : Addr), Room j (A.deeper (LamX.lamEnv X scope st.heap.objs.size f c1)) → PE (LamX.lamCx X A outer st H En scope f c1) body (TEm G X.K (fun cl d _ H' => En cl d H') (ev Cl b))) :
    PE X (.Call (.Name x p) [.Lambda params body scope lp] [] pos) (TEm G X.K Wx fun f h => runT (cbM T (j + 1)) g (fun h1 => ev Cl b f h1) h) := by
  obtain ⟨a1, a2, a3, a4, a5⟩ := thkB_ok hth
  have hat := idxF_get hx
  refine ⟨fun pins st σ H Q I q => ?_⟩
  obtain ⟨r, f, h, S, q⟩ := q
  dsimp only at q
  unfold runT at q
  rw [cbM_tb] at q
  split at q
  · rename_i tk htk
    obtain ⟨x', d, fd, hx', en, eq, F, hB, hT⟩ := O.sta.tks g tk htk
    rw [hat] at hx'
    cases hx'
    obtain ⟨oc, od, dV, kV, doc, pm0, an, cdv, ct, osl, efd, lk, hcd, hDf, _⟩ := F.ex
    have LS : LamX.LamS X.env.scope scope := by rw [O.eS]; exact a5
    have mk : MkOk G X.K X.mg X.base X.env.code (X.env.qual ++ "<lambda>") := by
      rcases O.mkr with z | z
      · exact z
      · rw [hml] at z; cases z
    obtain ⟨c, P, hcode, TB, hm, hu⟩ := mk
    -- the def's text
    unfold defB at hB
    simp only [Bool.and_eq_true, List.isEmpty_iff] at hB
    obtain ⟨⟨⟨b1, b2⟩, b3⟩, b4⟩ := hB
    have sc := scope_ok b4
    unfold tkOf at hT
    split at hT
    · rename_i y py e1 pa1 a pa2 pa3 pa4 xc pxc er s0 suite ph pt y2 py2 pr hbd
      split at hT
      · rename_i e0 iy c0 ie iy2 hc0 hiy hic hie hiy2
        split at hT
        · rename_i hcond
          simp only [Bool.and_eq_true, decide_eq_true_eq, Bool.not_eq_true', decide_eq_false_iff_not] at hcond
          obtain ⟨⟨⟨⟨⟨⟨⟨⟨⟨⟨⟨⟨g1, g2⟩, g3⟩, g4⟩, g5⟩, g6⟩, g7⟩, g8⟩, g9⟩, g10⟩, g11⟩, g12⟩, g13⟩ := hcond
          cases hT
          dsimp only at q
          have hmg := O.sta.glo g x hat
          refine wpAny_Call_Name_kw (ld_glob I hg hmg ?_ (plainN_ok hpn).1)
          refine PySem.W.callWith_K (h₀ := X.base) I.ok.mod.kin F.kp ?_ (by rfl) (by rfl)
          show wpAny _ _ (spliced ((false, eval (.Lambda params body scope lp) X.env) :: backTo pos (starEach [] X.env))) _ _ st
          refine Calls.spliced_cons (lam_mkT I TB hcode hm hu S.heap.tabs (def_nil a3 a4 _) (LS.has I.ok) fun fa c1 pm ctv H1 s1 I1 eN back T1 hf hfn hfr hco => ?_)
          refine Calls.spliced_nil ⟨I1.kIn, ?_⟩
          obtain ⟨x1, R1⟩ := S.heap.extN eN back T1
          have S1 := S.ext x1 R1
          have hbind : bindArgs (PySem.W.kla_fn "<lambda>" (X.env.qual ++ "<lambda>") params body scope (cloFrom X.env.cells scope.names []) pm (.ref c1) ctv) ⟨[], []⟩ = pure [] := by
            have z := bind_plain (fd := PySem.W.kla_fn "<lambda>" (X.env.qual ++ "<lambda>") params body scope (cloFrom X.env.cells scope.names []) pm (.ref c1) ctv) (ps := []) (us := []) a1 rfl (by show params.args.map (·.arg) = []; rw [a2]; rfl) List.nodup_nil rfl
            exact z
          have hps : parN d.params = [a] := g1
          have hnd : (parN d.params).Nodup := by rw [← sc.pre]; exact sc.nd.sublist (List.take_sublist _ _)
          have hB2 : Binds X.K fd [a] [] := by
            rw [← hps]
            exact F.bindsN fun kV doc pm an cdv ct us hl => bind_plain b1 rfl rfl hnd hl
          subst efd
          have N0 : (slotN d)[0]? = some a := by
            have z := sc.pre
            rw [hps] at z
            cases hN : slotN d with
            | nil => rw [hN] at z; cases z
            | cons n0 ns => rw [hN] at z; simp at z; simp [z]
          have nlen : 1 ≤ (slotN d).length := (List.getElem?_eq_some_iff.mp N0).1
          -- the end of the call
          have rc : codeAny (model X.prog X.w) X.A (.call (.ref (fA G X.K g)) ⟨[.ref fa], []⟩) (CR (L2.CX X.prog X.w) X.stack X.prog X.w H1 s1 Q fun _ _ _ => False) s1 := by
            refine LamX.run_ofS (N := slotN d) (ps := [a]) (us := [.ref fa]) (vs := [.ref fa]) lk hcd (by rw [← hps]; exact sc) O.room I1.env0 (hB2 s1 [.ref fa] I1.kIn rfl) (.cons rfl .nil) rfl fun hr1 => ?_
            rw [hbd]
            let Xg : Cx := cxOf (L2.CX X.prog X.w) X.prog X.w X.K X.mg X.base (slotN d) d.qual d.scope (fA G X.K g) cdv X.A X.stack s1 H1 fun _ _ _ => False
            have pe1 := pe_constE (G := G) (X := Xg) (Wx := Wno) (C := cbM T (j + 1)) hc0
            have yAt : Xg.N[iy]? = some y := idxS_get hiy
            have ps1 : PS Xg (.Assign [.Name y py] e1 pa1) (tAsg (TEm G X.K Wno (ev (cbM T (j + 1)) e0)) (gName iy)) :=
              ps_set sc.nd yAt (locB_ok g2) pe1.1 (by cases e1 <;> first | rfl | cases pe1.2) (.inl rfl)
            have ps3 : PS Xg (.Return (some (.Name y2 py2)) pr) (tRet (tVar iy2)) := by
              obtain ⟨db, cd, _⟩ := plainN_ok g10
              exact ps_ret (pe_var (idxS_get hiy2) (visB_ok g9) db cd)
            obtain ⟨dba, cda, _⟩ := plainN_ok g5
            have ps2 := ps_try_as (X := Xg) (x := xc) (n := er) (c := .ref (xA G X.K c0)) (i := ie) (body := [.Expr (.Call (.Name a pa2) [] [] pa3) pa4]) (b₀ := s0) (suite := suite) (np := pxc) (pos := pt) (pos' := ph) (Wout := fun _ _ _ _ => False)
              (tb := fun W D σZ HZ => σZ[0]? = some (some (.ref fa)) ∧ HZ c1 = some (LamX.CodeO c1 (X.env.qual ++ "<lambda>")) ∧ TEm G X.K (fun cl d _ H' => WE W σZ cl d H') (ev Cl b) σ HZ fun _ HY => D.nx σZ HY)
              (ts := fun ea cls dd D σZ HZ => ∃ e, cls = .ref (xA G X.K e) ∧ dd = none ∧ TXs G X.K ie ea (exec (xcC (cbM T (j + 1)) e) (seqS ((s0 :: suite).map (compXS G (sxOf G d) er 40)))) D σZ HZ)
              rfl rfl sc.nd (idxS_get hie) g8 ⟨glB_ok g7, (plainN_ok g6).1, .inl (O.sta.exg c0 xc (idxS_get hic))⟩ takes0
              (fun W pn xe tk _ => by
                have act := pe_actS (i := 0) (k := j) (p1 := pa2) (p2 := pa3) (tb := fun En => TEm G X.K (fun cl d _ H' => En cl d H') (ev Cl b)) I1 LS hf hfn hfr hbind tk hr1 (fun A outer st H En hr2 => hbody A outer st H En fa c1 hr2) N0 (visB_ok g4) dba cda
                exact pss_one (ps_expr act))
              (fun ea oe cls dd pn hz hfl => by
                refine ⟨fun pins2 s2 σ2 H2 D I2 q2 => ?_⟩
                obtain ⟨e, ec, ed, q2⟩ := q2
                subst ec ed
                have U : Suit G T (xcC (cbM T (j + 1)) e) (sxOf G d) Xg ie e ea oe er := ⟨rfl, sc.nd, rfl, rfl, hie, g8, O.sta, cbM_tb T (j + 1), rfl, hz, hfl, fun _ => rfl⟩
                exact (pssx_of (soundXS U 40) (s0 :: suite)).run pins2 s2 σ2 H2 D I2 q2)
            refine ⟨_, pss_cons ps1 (pss_cons ps2 (pss_one ps3)), ?_⟩
            have St : RelS G X.K r (List.replicate (slotN d).length none) h (L2.start (slotN d) [.ref fa]) H1 := by
              refine ⟨R1, fun i w hi => ?_, by simp [L2.start]; omega⟩
              rw [List.getElem?_replicate] at hi
              split at hi <;> cases hi
            have q' : PostG G X.K (relW G X.K) Wno [] r H1 ((ev (cbM T (j + 1)) e0 (List.replicate (slotN d).length none) h).bind fun w0 h0 => (match stV iy w0 (List.replicate (slotN d).length none) with
              | some f1 => (match ev Cl b f h0 with
                | .ok _ h1 => (match f1[iy2]? with | some (some w) => .ok w h1 | _ => .bad)
                | .exc e h1 => (match T.subX e c0 with
                  | some true => (match exec (xcC (cbM T (j + 1)) e) (seqS ((s0 :: suite).map (compXS G (sxOf G d) er 40))) (f1.set ie none) h1 with
                    | .nx f2 h2 => (match (f2.set ie none)[iy2]? with | some (some w) => .ok w h2 | _ => .bad)
                    | _ => .bad)
                  | _ => .bad)
                | .bad => .bad)
              | none => .bad)) Q := by
              cases z0 : ev (cbM T (j + 1)) e0 (List.replicate (slotN d).length none) h with
              | bad => rw [z0] at q; exact q.elim
              | exc e h1 =>
                exfalso
                unfold constE at hc0
                split at hc0
                · cases hc0; rw [ev_lst, evs_nil] at z0; simp [R.bind, alloc] at z0
                · cases hc0; rw [ev_bl] at z0; cases z0
                · cases hc0; rw [ev_str] at z0; cases z0
                · cases hc0
              | ok w0 h0 =>
                rw [z0] at q
                simp only [R.bind] at q ⊢
                cases z1 : stV iy w0 (List.replicate (slotN d).length none) with
                | none => rw [z1] at q; exact q.elim
                | some f1 =>
                  rw [z1] at q
                  simp only at q ⊢
                  cases z2 : ev Cl b f h0 with
                  | bad => rw [z2] at q; exact q.elim
                  | ok w1 h1 =>
                    rw [z2] at q
                    simp only at q ⊢
                    cases z3 : f1[iy2]? with
                    | none => rw [z3] at q; exact q.elim
                    | some ow =>
                      rw [z3] at q
                      cases ow with
                      | none => exact q.elim
                      | some w => exact fun r' H' v e' R' qv => q r' H' v (x1.trans e') R' qv
                  | exc e h1 =>
                    rw [z2] at q
                    simp only at q ⊢
                    cases z3 : T.subX e c0 with
                    | none => rw [z3] at q; exact q.elim
                    | some bb =>
                      rw [z3] at q
                      cases bb with
                      | false => exact q.elim
                      | true =>
                        simp only at q ⊢
                        cases z4 : exec (xcC (cbM T (j + 1)) e) (seqS ((s0 :: suite).map (compXS G (sxOf G d) er 40))) (f1.set ie none) h1 with
                        | nx f2 h2 =>
                          rw [z4] at q
                          simp only at q ⊢
                          cases z5 : (f2.set ie none)[iy2]? with
                          | none => rw [z5] at q; exact q.elim
                          | some ow =>
                            rw [z5] at q
                            cases ow with
                            | none => exact q.elim
                            | some w => exact fun r' H' v e' R' qv => q r' H' v (x1.trans e') R' qv
                        | _ => rw [z4] at q; exact q.elim
            refine ⟨r, _, h, St, (PostG.seq' (rel := relW G X.K) q').mono ?_⟩
            rintro v0 H2 ⟨r2, w0, h0, z0, e2, R2, q2, p2⟩
            have St2 := St.ext e2 R2
            have iel : ie < ((L2.start (slotN d) [.ref fa]).set iy (some v0)).length := by
              have z := (List.getElem?_eq_some_iff.mp (idxS_get hie)).1
              simp [L2.start]; omega
            cases z1 : stV iy w0 (List.replicate (slotN d).length none) with
            | none => rw [z1] at p2; exact p2.elim
            | some f1 =>
              rw [z1] at p2
              simp only at p2
              have ef : f1 = (List.replicate (slotN d).length none).set iy (some w0) := by
                unfold stV at z1
                split at z1
                · cases z1; rfl
                · cases z1
              have S2 : RelS G X.K r2 f1 h0 ((L2.start (slotN d) [.ref fa]).set iy (some v0)) H2 := by rw [ef]; exact St2.set q2
              refine ⟨?_, e2.ext c1 _ hco, r2, f, h0, S1.ext e2 R2, ?_⟩
              · rw [List.getElem?_set_ne g12]; simp [L2.start]
              · cases z2 : ev Cl b f h0 with
                | bad => rw [z2] at p2; exact p2.elim
                | ok w1 h1 =>
                  rw [z2] at p2
                  simp only at p2
                  intro r3 H3 u e3 R3 q3
                  cases z3 : f1[iy2]? with
                  | none => rw [z3] at p2; exact p2.elim
                  | some ow =>
                    rw [z3] at p2
                    cases ow with
                    | none => exact p2.elim
                    | some w =>
                      obtain ⟨v, k1, k2⟩ := (S2.ext e3 R3).fr iy2 w z3
                      exact ⟨v, k1, p2 r3 H3 v e3 R3 k2⟩
                | exc e h1 =>
                  rw [z2] at p2
                  simp only at p2
                  intro r3 H3 e3 R3
                  cases z3 : T.subX e c0 with
                  | none => rw [z3] at p2; exact p2.elim
                  | some bb =>
                    rw [z3] at p2
                    cases bb with
                    | false => exact p2.elim
                    | true =>
                      simp only at p2
                      refine ⟨true, O.sta.exm e c0 true z3 (List.getElem?_eq_some_iff.mp (idxS_get hic)).1, fun _ ea nea => ⟨e, rfl, rfl, ?_, r3, f1.set ie none, h1, set_none (S2.ext e3 R3), ?_⟩, fun z => by cases z⟩
                      · show (((L2.start (slotN d) [.ref fa]).set iy (some v0)).set ie (some (.ref ea)))[ie]? = _
                        rw [List.getElem?_set_self iel]
                      · cases z4 : exec (xcC (cbM T (j + 1)) e) (seqS ((s0 :: suite).map (compXS G (sxOf G d) er 40))) (f1.set ie none) h1 with
                        | nx f2 h2 =>
                          rw [z4] at p2
                          simp only at p2
                          intro r4 H4 σ4 e4 S4 hs4
                          cases z5 : (f2.set ie none)[iy2]? with
                          | none => rw [z5] at p2; exact p2.elim
                          | some ow =>
                            rw [z5] at p2
                            cases ow with
                            | none => exact p2.elim
                            | some w =>
                              obtain ⟨v, k1, k2⟩ := (set_none (i := ie) (v := none) S4).fr iy2 w z5
                              exact ⟨v, k1, p2 r4 H4 v (e3.trans e4) S4.heap k2⟩
                        | _ => rw [z4] at p2; exact p2.elim
          refine wpAny_call (codeAny_mono rc fun res s' z => ?_)
          cases res with
          | error e =>
            obtain ⟨_, _, _, _, _, _, _, _, _, _, _, _, z⟩ := z
            exact z.elim
          | ok fl =>
            cases fl with
            | ret u => exact I1.after z
            | _ => exact False.elim z
        · cases hT
      · cases hT
    · cases hT
  · exact q.elim
end
end WL

/-! every expression -/
namespace WL
open PySem PySem.Spec PyProof.Rows L2
section
variable {G : Nm} {T : Tb} {k : Nat} {C : Cb}
/-- what holds of an expression and its compiled form -/
structure SE (G : Nm) (C : Cb) (X : Cx) (Wx : WX) (e : Expr) (c : E) : Prop where
  v : PE X e (TEm G X.K Wx (ev C c))
  t : noIf e = true → PT X e (TTm G X.K Wx (ev C c))
theorem SE.plain {X : Cx} {Wx : WX} {e : Expr} {c : E} (h : plainT e = true) (p : PE X e (TEm G X.K Wx (ev C c))) : SE G C X Wx e c := ⟨p, fun _ => pt_of_pe h p⟩
theorem SE.bad {X : Cx} {Wx : WX} {e : Expr} : SE G C X Wx e .bad := ⟨by rw [ev_bad]; exact pe_bad, fun _ => by rw [ev_bad]; exact pt_bad⟩
variable {s : Sx} {X : Cx} {Wx : WX}
theorem ev_andE {a b : E} {l : List E} : andE (a :: b :: l) = .and a (andE (b :: l)) := rfl
theorem and_ok {ce : Expr → E} (hp : ∀ e, SE G C X Wx e (ce e)) {pos : Pos} : ∀ {es : List Expr}, es.all noIf = true → es ≠ [] → PE X (.BoolOp .And es pos) (TEm G X.K Wx (ev C (andE (es.map ce)))) ∧ PW X (.BoolOp .And es pos) (TTm G X.K Wx (ev C (andE (es.map ce))))
  | [], _, h => absurd rfl h
  | [a], hn, _ => by
    simp only [List.all_cons, Bool.and_eq_true] at hn
    exact ⟨pe_one (hp a).v, pw_and1 ((hp a).t hn.1)⟩
  | a :: b :: es, hn, _ => by
    have hn' := hn
    simp only [List.all_cons, Bool.and_eq_true] at hn'
    obtain ⟨h1, h2⟩ := and_ok hp (es := b :: es) (pos := pos) (by simp only [List.all_cons, Bool.and_eq_true]; exact hn'.2) (by simp)
    have e1 : andE ((a :: b :: es).map ce) = .and (ce a) (andE ((b :: es).map ce)) := rfl
    rw [e1, ev_and]
    exact ⟨pe_weak (pe_and (hp a).v h1) te_and, pw_weak (pw_and ((hp a).t hn'.1) h2) tt_and⟩
theorem or_ok {ce : Expr → E} (hp : ∀ e, SE G C X Wx e (ce e)) {pos : Pos} : ∀ {es : List Expr}, es.all noIf = true → es ≠ [] → PE X (.BoolOp .Or es pos) (TEm G X.K Wx (ev C (orE (es.map ce)))) ∧ PW X (.BoolOp .Or es pos) (TTm G X.K Wx (ev C (orE (es.map ce))))
  | [], _, h => absurd rfl h
  | [a], hn, _ => by
    simp only [List.all_cons, Bool.and_eq_true] at hn
    exact ⟨pe_one (hp a).v, pw_or1 ((hp a).t hn.1)⟩
  | a :: b :: es, hn, _ => by
    have hn' := hn
    simp only [List.all_cons, Bool.and_eq_true] at hn'
    obtain ⟨h1, h2⟩ := or_ok hp (es := b :: es) (pos := pos) (by simp only [List.all_cons, Bool.and_eq_true]; exact hn'.2) (by simp)
    have e1 : orE ((a :: b :: es).map ce) = .or (ce a) (orE ((b :: es).map ce)) := rfl
    rw [e1, ev_or]
    exact ⟨pe_weak (pe_or (hp a).v h1) te_or, pw_weak (pw_or ((hp a).t hn'.1) h2) tt_or⟩
/-- what is walked -/
theorem pi_ok (O : Good G T k C s X Wx) {ce : Expr → E} (hp : ∀ e, SE G C X Wx e (ce e)) (tg iter : Expr) : PI X tg iter (TIm G X.K Wx (evI C (compI ce s tg iter))) := by
  have pv : ∀ e, PE X e (TEm G X.K Wx (ev C (ce e))) := fun e => (hp e).v
  have ibad : PI X tg iter (TIm G X.K Wx (evI C .bad)) := ⟨fun _ _ _ _ _ _ q => by obtain ⟨_, _, _, _, q⟩ := q; exact q.elim⟩
  have gen : PI X tg iter (TIm G X.K Wx (evI C (.sq (ce iter)))) := pi_seqA (hp iter).v
  unfold compI
  split
  · rename_i x px args pc
    split
    · exact ibad
    · rename_i hc
      simp only [Bool.not_eq_true', Bool.not_eq_false, Bool.and_eq_true] at hc
      obtain ⟨⟨h1, h2⟩, h3⟩ := hc
      split
      · rename_i ex
        subst ex
        split
        · rename_i hl
          simp only [Bool.and_eq_true, decide_eq_true_eq] at hl
          exact pi_rngA (O.gl h2) (O.sta.free _ (by simp [bnames])) pv h3 hl.1 hl.2
        · exact ibad
      · split
        · rename_i ex
          subst ex
          split
          · rename_i a b elts kk tpos
            simp only [List.all_cons, Bool.and_eq_true] at h3
            exact pi_zipA' (O.gl h2) (O.sta.free _ (by simp [bnames])) h3.1 h3.2.1 (pv a) (pv b)
          · exact ibad
        · split
          · rename_i ex
            subst ex
            split
            · rename_i a elts kk tpos
              simp only [List.all_cons, Bool.and_eq_true] at h3
              exact pi_enuA (O.gl h2) (O.sta.free _ (by simp [bnames])) h3.1 (pv a)
            · exact ibad
          · exact gen
  · exact gen
theorem pts_ok {X : Cx} {ce : Expr → E} (hp : ∀ e, noIf e = true → PT X e (TTm G X.K Wno (ev C (ce e)))) : ∀ {ifs : List Expr}, ifs.length ≤ 1 → ifs.all noIf = true → PTs X ifs (TTm G X.K Wno (evC C (listE (ifs.map ce))))
  | [], _, _ => by
    rw [show listE (List.map ce []) = E.nil from rfl, evC_nil]
    exact ⟨fun pins st σ H Q I q => pts_nil.run pins st σ H Q I (tt_okb q)⟩
  | [c], _, hn => by
    simp only [List.all_cons, Bool.and_eq_true] at hn
    rw [show listE (List.map ce [c]) = E.cons (ce c) .nil from rfl, evC_e]
    exact pts_one (hp c hn.1)
  | _ :: _ :: _, h, _ => by simp at h
/-- a comprehension's block -/
theorem lc_ok (O : Good G T k C s X Wx) {n : Nat} {ce : Sx → Expr → E} (hp : ∀ (s : Sx) (X : Cx) (Wx : WX), Good G T k C s X Wx → ∀ e, SE G C X Wx e (ce s e)) {elt tg iter : Expr} {ifs : List Expr} {scope : Scope} {pos : Pos} :
    compL ce n s elt tg iter ifs scope = .bad ∨ ∃ own t it cond c, compL ce n s elt tg iter ifs scope = .lc own t it cond c ∧ inOwn t own ∧
      PE X (.ListComp elt [⟨tg, iter, ifs, 0⟩] scope pos) (tLc (TIm G X.K Wx (evI C it)) (TGm G X.K t) (TTm G X.K Wno (evC C cond)) (TEm G X.K Wno (ev C c)) own) ∧
      ∀ (i : Nat) (y : Str) (py spos : Pos), X.N[i]? = some y → X.env.scope.names.lookup y = some .local → swapsWith (.ListComp elt [⟨tg, iter, ifs, 0⟩] scope pos) (some (.Name y py)) spos.line X.env = pure true →
        PS X (.Assign [.Name y py] (.ListComp elt [⟨tg, iter, ifs, 0⟩] scope pos) spos) (tAsg (tLc (TIm G X.K Wx (evI C it)) (TGm G X.K t) (TTm G X.K Wno (evC C cond)) (TEm G X.K Wno (ev C c)) own) (gName i)) := by
  unfold compL
  split
  · exact .inl rfl
  · rename_i hc
    simp only [Bool.not_eq_true', Bool.not_eq_false, Bool.and_eq_true, decide_eq_true_eq] at hc
    obtain ⟨⟨⟨⟨h1, h2⟩, h3⟩, h4⟩, h5⟩ := hc
    have ho : inOwn (compT (blkX s scope) n tg) ((ownOf s.N scope).map (·.2)) := fun i hi => by
      have := (List.all_eq_true.mp h3) i hi
      exact List.contains_iff_mem.mp this
    have hbk : BlkOk X.N X.env.scope scope (ownOf s.N scope) := by rw [O.eN, O.eS]; exact blkOk_by h1
    have hg : ∀ (sh : Shared) (H : Hp) (Ca : Addr) (cl : List (Str × Addr)) (fp : List Addr), PG (X.blk sh H scope (compEnvC scope cl Ca X.env) fp) tg (TGm G X.K (compT (blkX s scope) n tg)) := fun sh H Ca cl fp => pgT (O.blk scope sh H Ca cl fp).toNmOk n tg
    have ht : ∀ (sh : Shared) (H : Hp) (Ca : Addr) (cl : List (Str × Addr)) (fp : List Addr), PTs (X.blk sh H scope (compEnvC scope cl Ca X.env) fp) ifs (TTm G X.K Wno (evC C (listE (ifs.map (ce (blkX s scope)))))) := fun sh H Ca cl fp => pts_ok (fun e hn => (hp _ _ _ (O.blk scope sh H Ca cl fp) e).t hn) h4 h5
    have he : ∀ (sh : Shared) (H : Hp) (Ca : Addr) (cl : List (Str × Addr)) (fp : List Addr), PE (X.blk sh H scope (compEnvC scope cl Ca X.env) fp) elt (TEm G X.K Wno (ev C (ce (blkX s scope) elt))) := fun sh H Ca cl fp => (hp _ _ _ (O.blk scope sh H Ca cl fp) elt).v
    have hN : X.N.Nodup := by rw [O.eN]; exact O.nd
    refine .inr ⟨_, _, _, _, _, rfl, ho, lc_read O.calm hN hbk ho h2 (pi_ok O (hp s X Wx O) tg iter) hg ht he, fun i y py spos hi hl hsw => ?_⟩
    exact ps_setLc O.calm hN hi hl hsw (pi_ok O (hp s X Wx O) tg iter) hbk hg ht he (foldSet h2 X.env)
theorem ev_lcM {own : List Nat} {t it cond c : E} : ev C (.lc own t it cond c) = mLc C own t it cond c fun ws h2 => alloc (.lst ws) h2 := ev_lc C
theorem ev_aggM {b : B} {own : List Nat} {t it cond c : E} : ev C (.agg b (.lc own t it cond c)) = mLc C own t it cond c fun ws h2 => bltL b ws h2 := ev_agg C
theorem nil_ok {ce : Expr → E} : ∀ {es : List Expr}, es = [] → ∀ σ H Q, TAm G X.K Wx (evs C (listE (es.map ce))) σ H Q → Q [] H := by
  rintro es rfl σ H Q q
  rw [show listE (List.map ce []) = E.nil from rfl, evs_nil] at q
  exact ta_nil σ H Q q
theorem clOf_own {y : Str} {d : Nat} (h : clOf G y = some (.own d)) : G.cls[d]? = some y := by
  unfold clOf at h
  split at h
  · cases h
  · split at h
    · cases h
    · split at h
      · cases h
      · split at h
        · cases h
        · split at h
          · cases h
          · cases z : idxS y G.cls with
            | none => rw [z] at h; cases h
            | some e => rw [z] at h; cases h; exact idxS_get z
theorem clOf_eq {y : Str} {c : Cl} (h : clOf G y = some c) (hc : ∀ d, c ≠ .own d) : y = clNm c := by
  unfold clOf at h
  split at h
  · cases h; assumption
  · split at h
    · cases h; assumption
    · split at h
      · cases h; assumption
      · split at h
        · cases h; assumption
        · split at h
          · cases h; assumption
          · cases z : idxS y G.cls with
            | none => rw [z] at h; cases h
            | some d => rw [z] at h; cases h; exact absurd rfl (hc d)
end
end WL

namespace WL
open PySem PySem.Spec PyProof.Rows L2
section
variable {G : Nm} {T : Tb} {k : Nat}
/-- the level k keeps what the machine says -/
def SndE (G : Nm) (T : Tb) (k : Nat) : Prop := ∀ (n : Nat) (C : Cb) (s : Sx) (X : Cx) (Wx : WX), Good G T k C s X Wx → ∀ e, SE G C X Wx e (compE G n s e)
/-- a lambda that a slot holds is called -/
theorem calv_cod {C : Cb} {s : Sx} {X : Cx} {Wx : WX} (O : Good G T k C s X Wx) {es : List Expr} {pos : Pos} {ms : F → Hm → R (List W)} (hs : es.all noStar = true) (ha : PA X es (TAm G X.K Wx ms)) (h0 : es = [] → ∀ σ H Q, TAm G X.K Wx ms σ H Q → Q [] H)
    (pins : List (Addr × Obj)) (st : Shared) (σ : L2.St) (H : Hp) (Q : VK) (r : List Addr) (f : F) (h : Hm) (np ns : Nat) (b : E) (a : Addr) (I : Inv X pins σ H st) (S : RelS G X.K r f h σ H) (qa : RV G X.K r H (.cod np ns b) (.ref a)) (p : PostG G X.K (relW G X.K) Wx σ r H ((ms f h).bind fun ws h1 => C.cods np ns b ws h1) Q) :
    wpAny (model X.prog X.w) X.A (callWith pos (.ref a) [] (backTo pos (starEach es X.env)) []) (EP X pins σ Q) X.xe st := by
  obtain ⟨a', L, c, ea, k1, k2, k3⟩ := qa
  cases ea
  rw [O.cD] at p
  have fnAt : ∀ {H1 : Hp} {s1 : Shared}, Inv X pins σ H1 s1 → H1 a = some (LamO a L c) → PySem.W.FnAt a s1.heap := fun {H1 s1} I1 z => by
    obtain ⟨pm, ctv, y⟩ := lamO_at I1.hok z
    exact ⟨_, _, _, _, y⟩
  have fin : ∀ (vs : List V) (us : List Value) (H1 : Hp) (s1 : Shared), Inv X pins σ H1 s1 → Vals vs us → (H1 a = some (LamO a L c) ∧ H1 c = some (LamX.CodeO c L.qual) ∧ spC G X.K T k np ns b vs H1 Q (WE Wx σ)) → wpAny (model X.prog X.w) X.A (call (.ref a) us) (EP X pins σ Q) X.xe s1 := by
    rintro vs us H1 s1 I1 rv ⟨z1, z2, z3⟩
    refine wpAny_call (codeAny_mono ((O.lev k (Nat.le_refl _)).cod L np ns b k3 X.A X.stack s1 H1 us vs Q (WE Wx σ) a c O.room I1.env0 z1 z2 rv z3) fun res s' z => ?_)
    cases res with
    | error e => exact passAt O.tk σ pins H1 s1 e s' I1 z
    | ok fl =>
      cases fl with
      | ret u => exact I1.after z
      | _ => exact False.elim z
  have q : TAm G X.K Wx ms σ H fun vs H1 => H1 a = some (LamO a L c) ∧ H1 c = some (LamX.CodeO c L.qual) ∧ spC G X.K T k np ns b vs H1 Q (WE Wx σ) := by
    refine ⟨r, f, h, S, (PostG.seq (rel := relA G X.K) p).mono ?_⟩
    rintro vs H1 ⟨r1, ws, h1, e1, R1, q1, p1⟩
    exact ⟨e1.ext _ _ k1, e1.ext _ _ k2, r1, h1, ws, R1, q1, post_any p1⟩
  cases es with
  | nil => exact PySem.W.callWith_F0 (fnAt I k1) (fin [] [] H st I .nil (h0 rfl σ H _ q))
  | cons e es =>
    simp only [List.all_cons, Bool.and_eq_true] at hs
    exact PySem.W.callWith_F (first := []) (fnAt I k1) (thn (ha.run pos pins st σ H _ I q) fun us s1 ⟨vs, H1, I1, r1, q1⟩ => ⟨fnAt I1 q1.1, fin vs us H1 s1 I1 r1 q1⟩) (star_cons hs.1 es) (star_any hs.2)
theorem soundE (low : ∀ j, j < k → SndE G T j) : SndE G T k := by
  intro n
  induction n with
  | zero => intro C s X Wx O e; exact SE.bad
  | succ n ih =>
    intro C s X Wx O e
    have pvLow := low
    have hp : ∀ e, SE G C X Wx e (compE G n s e) := ih C s X Wx O
    have pv : ∀ e, PE X e (TEm G X.K Wx (ev C (compE G n s e))) := fun e => (hp e).v
    have hu : X.A.units + 64 < cLine := O.room.units
    have hu1 : X.A.units + 1 < cLine := hu_of O.room
    cases e with
    | Name x p =>
      refine SE.plain rfl ?_
      simp only [compE]
      split
      · rw [ev_bad]; exact pe_bad
      · rename_i hpn
        simp only [Bool.not_eq_true', Bool.not_eq_false] at hpn
        obtain ⟨hdb, hcd, hnm⟩ := plainN_ok hpn
        split
        · rename_i hv
          split
          · rename_i i hi
            rw [ev_v]
            exact pe_weak (pe_var (by rw [O.eN]; exact idxS_get hi) (by rw [O.eS]; exact visB_ok hv) hdb hcd) te_var
          · rw [ev_bad]; exact pe_bad
        · split
          · rename_i hg
            split
            · rename_i i hi
              obtain ⟨t, ht⟩ := O.sta.con x i hi
              rw [ev_int]
              exact pe_weak (pe_glob (v := .int i) (O.gl hg) ht ⟨t, rfl⟩ hdb) (te_c fun _ _ => rfl)
            · split
              · rename_i g hgi
                rw [ev_fnv]
                exact pe_weak (pe_glob (v := .ref (fA G X.K g)) (O.gl hg) (O.sta.glo g x (idxF_get hgi)) rfl hdb) (te_c fun _ _ => ⟨(List.getElem?_eq_some_iff.mp (idxF_get hgi)).1, rfl⟩)
              · rw [ev_bad]; exact pe_bad
          · rw [ev_bad]; exact pe_bad
    | Constant c kk p =>
      refine SE.plain rfl ?_
      cases c with
      | none => simp only [compE]; rw [ev_non]; exact pe_weak pe_non (te_c fun _ _ => rfl)
      | bool b => simp only [compE]; rw [ev_bl]; exact pe_weak pe_bl (te_c fun _ _ => rfl)
      | int i => simp only [compE]; rw [ev_int]; exact pe_weak pe_int (te_c fun _ _ => rfl)
      | str x => simp only [compE]; rw [ev_str]; exact pe_weak pe_str (te_c fun _ _ => rfl)
      | _ => simp only [compE]; rw [ev_bad]; exact pe_bad
    | BinOp a o b p =>
      refine SE.plain rfl ?_
      simp only [compE]; rw [ev_bin]
      exact pe_bin (pv a) (pv b)
    | UnaryOp o a p =>
      cases o with
      | USub =>
        refine SE.plain rfl ?_
        simp only [compE]; rw [ev_neg]
        exact pe_neg (pv a)
      | Not =>
        simp only [compE]
        split
        · rename_i hn
          refine ⟨?_, fun _ => ?_⟩
          · rw [ev_not]; exact pe_weak (pe_not (pv a)) te_not
          · rw [ev_not]; exact pt_weak (pt_not ((hp a).t hn)) tt_not
        · exact SE.bad
      | _ => exact SE.bad
    | Compare a ops cs p =>
      rcases ops with _ | ⟨o, _ | ⟨o', _ | ⟨o'', ops⟩⟩⟩
      · exact SE.bad
      · rcases cs with _ | ⟨b, _ | ⟨c, cs⟩⟩
        · exact SE.bad
        · simp only [compE]
          split
          · exact SE.bad
          · rename_i hm
            simp only [Bool.not_eq_true] at hm
            exact ⟨by rw [ev_cmp]; exact pe_cmpA hu hm (pv a) (pv b), fun _ => by rw [ev_cmp]; exact pt_cmpA hu hm (pv a) (pv b)⟩
        · exact SE.bad
      · rcases cs with _ | ⟨b, _ | ⟨c, _ | ⟨d, cs⟩⟩⟩
        · exact SE.bad
        · exact SE.bad
        · simp only [compE]
          split
          · exact SE.bad
          · rename_i hm
            simp only [Bool.not_eq_true] at hm
            exact ⟨by rw [ev_chn]; exact pe_chnA hu hm (pv a) (pv b) (pv c), fun _ => by rw [ev_chn]; exact pt_chnA hu hm (pv a) (pv b) (pv c)⟩
        · exact SE.bad
      · exact SE.bad
    | BoolOp o es p =>
      cases o with
      | And =>
        simp only [compE]
        split
        · rename_i hn
          cases es with
          | nil => exact SE.bad
          | cons e es =>
            obtain ⟨h1, h2⟩ := and_ok hp (pos := p) hn (by simp)
            exact ⟨h1, fun _ => h2.pt⟩
        · exact SE.bad
      | Or =>
        simp only [compE]
        split
        · rename_i hn
          cases es with
          | nil => exact SE.bad
          | cons e es =>
            obtain ⟨h1, h2⟩ := or_ok hp (pos := p) hn (by simp)
            exact ⟨h1, fun _ => h2.pt⟩
        · exact SE.bad
    | IfExp c a b p =>
      simp only [compE]
      split
      · rename_i hn
        exact ⟨by rw [ev_ife]; exact pe_weak (pe_ifExp ((hp c).t hn) (pv a) (pv b)) te_if, fun h => by cases h⟩
      · exact SE.bad
    | Tuple es kk p =>
      refine SE.plain rfl ?_
      simp only [compE]
      split
      · rename_i hs
        rw [ev_tup]
        exact pe_weak (pe_tup (pa_all pv hs)) te_tup
      · rw [ev_bad]; exact pe_bad
    | List es p =>
      refine SE.plain rfl ?_
      simp only [compE]
      split
      · rename_i hs
        rw [ev_lst]
        exact pe_weak (pe_lst (pa_all pv hs)) te_lst
      · rw [ev_bad]; exact pe_bad
    | Dict ks vs p =>
      refine SE.plain rfl ?_
      cases ks with
      | nil =>
        cases vs with
        | nil =>
          simp only [compE]
          rw [ev_dnew]
          cases s.td with
          | true => exact pe_weak pe_dnewT te_dT
          | false => exact pe_weak pe_dnewK te_dK
        | cons _ _ => simp only [compE]; rw [ev_bad]; exact pe_bad
      | cons _ _ => simp only [compE]; rw [ev_bad]; exact pe_bad
    | Subscript a i p =>
      refine SE.plain rfl ?_
      by_cases hsl : ∃ lo hi p2, i = .Slice lo hi none p2
      · obtain ⟨lo, hi, p2, rfl⟩ := hsl
        simp only [compE]
        rw [ev_sli]
        refine pe_sliA (pv a) ?_ ?_
        · cases lo with
          | none => exact po_noneA
          | some e => exact po_someA (pv e)
        · cases hi with
          | none => exact po_noneA
          | some e => exact po_someA (pv e)
      · have e1 : compE G (n + 1) s (.Subscript a i p) = if noSlice i then .idx (compE G n s a) (compE G n s i) else if revIx i then .rev (compE G n s a) else .bad := by
          cases i with
          | Slice lo hi st p2 =>
            cases st with
            | none => exact absurd ⟨lo, hi, p2, rfl⟩ hsl
            | some st => rfl
          | _ => rfl
        rw [e1]
        split
        · rename_i hn
          rw [ev_idx]
          exact pe_idxA hu1 hn (pv a) (pv i)
        · split
          · rename_i hr
            obtain ⟨j, p1, p2, p3, rfl⟩ := revIx_eq hr
            rw [ev_rev]
            exact pe_revA (pv a)
          · rw [ev_bad]; exact pe_bad
    | ListComp elt gens scope p =>
      refine SE.plain rfl ?_
      rcases gens with _ | ⟨⟨tg, iter, ifs, isa⟩, _ | ⟨g2, gens⟩⟩
      · simp only [compE]; rw [ev_bad]; exact pe_bad
      · simp only [compE]
        split
        · rename_i hz
          subst hz
          rcases lc_ok O (ih C) (n := n) (elt := elt) (tg := tg) (iter := iter) (ifs := ifs) (scope := scope) (pos := p) with h | ⟨own, t, it, cond, c, h, ho, h2, _⟩
          · rw [h, ev_bad]; exact pe_bad
          · rw [h, ev_lcM]
            exact pe_weak h2 (te_lcA ho)
        · rw [ev_bad]; exact pe_bad
      · simp only [compE]; rw [ev_bad]; exact pe_bad
    | Call fn args kws p =>
      refine SE.plain rfl ?_
      cases kws with
      | cons kw kws =>
        have e1 : compE G (n + 1) s (.Call fn args (kw :: kws) p) = .bad := by cases fn <;> rfl
        rw [e1, ev_bad]; exact pe_bad
      | nil =>
        cases fn with
        | Name x px =>
          simp only [compE]
          split
          · rw [ev_bad]; exact pe_bad
          · rename_i hc
            simp only [Bool.not_eq_true', Bool.not_eq_false, Bool.and_eq_true] at hc
            obtain ⟨h1, h3⟩ := hc
            split
            · rename_i hv
              split
              · rename_i i0 e0 es0 hi
                rw [ev_calv]
                exact pe_calvF (O.lev k (Nat.le_refl _)) O.sta O.room O.tk (by rw [O.eN]; exact idxS_get hi) (by rw [O.eS]; exact visB_ok hv) h1 h3 (pa_all pv h3) nil_ok (fun pins st σ H Q r f h np ns b a I S qa p => calv_cod O h3 (pa_all pv h3) nil_ok pins st σ H Q r f h np ns b a I S qa p) O.cC
              · rw [ev_bad]; exact pe_bad
            split
            · rw [ev_bad]; exact pe_bad
            rename_i h2
            simp only [Bool.not_eq_true', Bool.not_eq_false] at h2
            split
            · rename_i g hg
              split
              · rename_i params body scope lp
                split
                · rename_i hth
                  simp only [Bool.and_eq_true] at hth
                  rw [ev_thk]
                  rcases O.cK with hK | ⟨j, hk, hK1, hK2, hK3, hK4⟩
                  · refine ⟨fun pins st σ H Q I q => ?_⟩
                    obtain ⟨r, f, h, S, q⟩ := q
                    dsimp only at q
                    rw [hK] at q
                    exact q.elim
                  · subst hk
                    rw [hK1]
                    refine pe_thk O hth.1 (O.gl h2) h1 hg hth.2 fun A outer st H En f c1 hr => ?_
                    have a5 := (thkB_ok hth.2).2.2.2.2
                    refine (low j (by omega) n (lowC C) ⟨s.N, scope, scope, s.td, false⟩ (LamX.lamCx X A outer st H En scope f c1) (fun cl d _ H' => En cl d H') ?_ body).v
                    refine ⟨⟨O.eN, O.nd, rfl, fun x hx => ?_, rfl⟩, hr, takes_of rfl rfl rfl rfl, O.sta, fun i hi => O.lev i (by omega), .inr rfl, O.cT, hK2, hK3, hK4, .inl fun _ _ _ => rfl⟩
                    exfalso
                    rcases locB_ok hx with z | z
                    · exact (a5.own _ (PySem.mem_of_lookup z)).1 rfl
                    · exact (a5.own _ (PySem.mem_of_lookup z)).2 rfl
                · rw [ev_bad]; exact pe_bad
              · rw [ev_cal, O.cC]
                exact pe_cal O.sta (O.lev k (Nat.le_refl _)) O.room O.tk (O.gl h2) h1 hg h3 (pa_all pv h3) nil_ok
            · split
              · rename_i c hc
                rw [ev_mk, O.cM]
                exact pe_mkA O.sta (fun j hj => O.lev j (by omega)) O.room O.tk (idxS_get hc) (O.gl h2) h1 h3 (pa_all pv h3) nil_ok
              · split
                · rename_i ex
                  subst ex
                  split
                  · rename_i a y py
                    split
                    · rename_i c hcl
                      split
                      · rename_i hy
                        simp only [Bool.and_eq_true] at hy
                        simp only [List.all_cons, Bool.and_eq_true] at h3
                        rw [ev_isi, O.cT]
                        by_cases hno' : ∀ d, c ≠ .own d
                        · have ey := clOf_eq hcl hno'
                          subst ey
                          exact pe_isiA O.sta hno' (O.gl h2) (O.gl hy.2) h3.1 (pv a)
                        · have hex : ∃ d, c = .own d := Classical.byContradiction fun z => hno' fun d e => z ⟨d, e⟩
                          obtain ⟨d, rfl⟩ := hex
                          exact pe_isiO O.sta (clOf_own hcl) (O.gl h2) (O.gl hy.2) hy.1 h3.1 (pv a)
                      · rw [ev_bad]; exact pe_bad
                    · rw [ev_bad]; exact pe_bad
                  · rw [ev_bad]; exact pe_bad
                · split
                  · rename_i b hb
                    obtain ⟨ebn, hbm⟩ := findN_eq hb
                    subst ebn
                    split
                    · rw [ev_bad]; exact pe_bad
                    · rename_i elt tg iter ifs isa scope pl
                      split
                      · split
                        · rename_i hz
                          subst hz
                          rcases lc_ok O (ih C) (n := n) (elt := elt) (tg := tg) (iter := iter) (ifs := ifs) (scope := scope) (pos := pl) with h | ⟨own, t, it, cond, c, h, ho, hpe, _⟩
                          · rw [h, show aggE b .bad = .bad from rfl, ev_bad]; exact pe_bad
                          · rw [h, show aggE b (.lc own t it cond c) = .agg b (.lc own t it cond c) from rfl, ev_aggM]
                            exact pe_weak (pe_bltC O.sta O.calm hbm (O.gl h2) h1 h3 (pa_cons hpe pa_nil (star_cons rfl []))) (te_agg ho)
                        · rw [ev_bad]; exact pe_bad
                      · rw [ev_blt]
                        exact pe_weak (pe_bltC O.sta O.calm hbm (O.gl h2) h1 h3 (pa_all pv h3)) te_blt
                    · rename_i hne _
                      rw [ev_blt]
                      cases args with
                      | nil => exact absurd rfl hne
                      | cons a as => exact pe_weak (pe_bltC O.sta O.calm hbm (O.gl h2) h1 h3 (pa_all pv h3)) te_blt
                  · rw [ev_bad]; exact pe_bad
        | Attribute o m apos =>
          simp only [compE]
          split
          · rw [ev_bad]; exact pe_bad
          · rename_i hc
            simp only [Bool.not_eq_true', Bool.not_eq_false, Bool.and_eq_true, decide_eq_true_eq] at hc
            obtain ⟨⟨⟨h1, h2⟩, h3⟩, h4⟩ := hc
            split
            · rename_i mi hmi
              rw [ev_mth, O.cC, O.cT]
              exact pe_mthA O.sta (O.lev k (Nat.le_refl _)) O.room O.tk (idxS_get hmi) h1 h2 h4 h3 (pv o) (pa_all pv h2) nil_ok
            · split
              · rename_i b hb
                obtain ⟨ebn, hbm⟩ := findN_eq hb
                subst ebn
                rw [ev_bm]
                exact pe_bmA hu1 hbm h1 h2 h4 h3 (pv o) (pa_all pv h2) nil_ok
              · rw [ev_bad]; exact pe_bad
        | _ => simp only [compE]; rw [ev_bad]; exact pe_bad
    | Attribute o x p =>
      refine SE.plain rfl ?_
      simp only [compE]
      split
      · rename_i hso
        split
        · rename_i m hm
          rw [ev_fld]
          exact pe_fldA O.sta (idxS_get hm) hso (pv o)
        · rw [ev_bad]; exact pe_bad
      · rw [ev_bad]; exact pe_bad
    | Lambda params body scope p =>
      refine SE.plain rfl ?_
      simp only [compE]
      split
      · rename_i hl
        simp only [Bool.and_eq_true] at hl
        rw [ev_lam]
        exact pe_lamA O hl.1 hl.2
      · rw [ev_bad]; exact pe_bad
    | _ => exact SE.bad
theorem soundAll : ∀ k, SndE G T k := fun k => Nat.strongRecOn k fun k low => soundE low
end
end WL

namespace WL
open PySem PySem.Spec PyProof.Rows L2
def isStarB (e : Expr) : Bool := match e with
  | .Starred .. => true
  | _ => false
theorem star_not {e : Expr} (h : noStar e = true) : isStarB e = false := by cases e <;> first | rfl | cases h
theorem star_nots : ∀ {es : List Expr}, es.all noStar = true → es.any isStarB = false
  | [], _ => rfl
  | e :: es, h => by
    simp only [List.all_cons, Bool.and_eq_true] at h
    rw [List.any_cons, star_not h.1, star_nots h.2]; rfl
def nmF (env : Env) (l : Nat) (e : Expr) : Option Str := match e with
  | .Name id pos => if env.kindOf id == some .local && pos.line == l then some id else none
  | _ => none
section
variable {env : Env} {pt p2 : Pos} {kt k2 : Nat} {ts vs : List Expr}
theorem swap_eq : swappedStores [.Tuple ts kt pt] (.Tuple vs k2 p2) env =
    (if (!(ts.length == 2 || ts.length == 3) || vs.length != ts.length || env.blockKind != .function) = true then pure none
    else if vs.any isStarB = true then pure none
    else if ((ts.filterMap (nmF env ((ts.head?.map (·.pos.line)).getD 0))).length != ts.length || (ts.filterMap (nmF env ((ts.head?.map (·.pos.line)).getD 0))).eraseDups.length != (ts.filterMap (nmF env ((ts.head?.map (·.pos.line)).getD 0))).length) = true then pure none
    else if vs.all (foldedForSure 8) = true then pure none
    else if vs.all (constantsAlone 8) = true then unsupported "assign.tuple-of-constant-expressions:order-of-the-stores"
    else pure (some (ts.filterMap (nmF env ((ts.head?.map (·.pos.line)).getD 0))))) := by
  unfold swappedStores
  rfl
/-- a name that is stored -/
theorem nmF_some {l : Nat} {e : Expr} {x : Str} (h : nmF env l e = some x) : (∃ p, e = .Name x p) ∧ env.kindOf x = some .local := by
  unfold nmF at h
  split at h
  · split at h
    · rename_i hc
      cases h
      simp only [Bool.and_eq_true, beq_iff_eq] at hc
      exact ⟨⟨_, rfl⟩, hc.1⟩
    · cases h
  · cases h
theorem fm_all {α β : Type} {f : α → Option β} : ∀ {l : List α}, (l.filterMap f).length = l.length → ∀ a ∈ l, ∃ b, f a = some b
  | [], _, a, h => by cases h
  | x :: l, hl, a, ha => by
    cases z : f x with
    | none =>
      rw [List.filterMap_cons_none z, List.length_cons] at hl
      have := List.length_filterMap_le f l
      omega
    | some b =>
      rw [List.filterMap_cons_some z, List.length_cons, List.length_cons] at hl
      rcases List.mem_cons.mp ha with rfl | ha
      · exact ⟨b, z⟩
      · exact fm_all (by omega) a ha
theorem swap_dec (hp : parOk vs = true) (hs : vs.all noStar = true) : swappedStores [.Tuple ts kt pt] (.Tuple vs k2 p2) env = pure none ∨
    ∃ names, swappedStores [.Tuple ts kt pt] (.Tuple vs k2 p2) env = pure (some names) ∧ (ts.length = 2 ∨ ts.length = 3) ∧ ∃ l, names = ts.filterMap (nmF env l) ∧ names.length = ts.length := by
  rw [swap_eq]
  split
  · exact .inl rfl
  · rename_i h1
    split
    · exact .inl rfl
    · split
      · exact .inl rfl
      · rename_i h3
        split
        · exact .inl rfl
        · rename_i h4
          split
          · rename_i h5
            exfalso
            unfold parOk at hp
            simp only [Bool.or_eq_true, Bool.not_eq_true'] at hp
            rcases hp with hp | hp
            · exact h4 hp
            · rw [h5] at hp; cases hp
          · right
            simp only [Bool.or_eq_true, bne_iff_ne, ne_eq, Bool.not_eq_true', not_or, Bool.not_eq_false, Decidable.not_not, beq_iff_eq] at h1 h3
            exact ⟨_, rfl, h1.1.1, _, rfl, h3.1⟩
end
section
variable {G : Nm} {X : Cx} {s : Sx} {Wx : WX}
/-- what the machine's end of a statement asks -/
def PostS (G : Nm) (K : PySem.W.Frag) (Wx : WX) (D : Ends) (r : List Addr) (H : Hp) (x : RS) : Prop := match x with
  | .nx f h => ∀ r' H' σ', Ext r H r' H' → RelS G K r' f h σ' H' → D.nx σ' H'
  | .rt w h => ∀ r' H' v, Ext r H r' H' → RelH G K r' h H' → RV G K r' H' w v → D.rt v H'
  | .bk f h => ∀ r' H' σ', Ext r H r' H' → RelS G K r' f h σ' H' → D.bk σ' H'
  | .ct f h => ∀ r' H' σ', Ext r H r' H' → RelS G K r' f h σ' H' → D.ct σ' H'
  | .ex c f h => ∀ r' H' σ', Ext r H r' H' → RelS G K r' f h σ' H' → Wx (.ref (xA G K c)) none σ' H'
  | .bad => False
abbrev TSm (G : Nm) (K : PySem.W.Frag) (Wx : WX) (m : F → Hm → RS) : TS := fun D σ H => ∃ r f h, RelS G K r f h σ H ∧ PostS G K Wx D r H (m f h)
theorem PostS.ext {K : PySem.W.Frag} {D : Ends} {r r' : List Addr} {H H' : Hp} {x : RS} (p : PostS G K Wx D r H x) (e : Ext r H r' H') : PostS G K Wx D r' H' x := by
  cases x with
  | nx f h => exact fun r2 H2 σ2 e2 S => p r2 H2 σ2 (e.trans e2) S
  | rt f h => exact fun r2 H2 σ2 e2 S => p r2 H2 σ2 (e.trans e2) S
  | bk f h => exact fun r2 H2 σ2 e2 S => p r2 H2 σ2 (e.trans e2) S
  | ct f h => exact fun r2 H2 σ2 e2 S => p r2 H2 σ2 (e.trans e2) S
  | ex c f h => exact fun r2 H2 σ2 e2 S => p r2 H2 σ2 (e.trans e2) S
  | bad => exact p
/-- an expression, then what is done with its value -/
theorem asS_seq {K : PySem.W.Frag} {α β : Type} {rel : List Addr → Hp → Hm → α → β → Prop} {D : Ends} {r : List Addr} {f : F} {h : Hm} {σ : St} {H : Hp} {x : R α} {k : α → Hm → RS} (S : RelS G K r f h σ H) (p : PostS G K Wx D r H (x.asS f k)) :
    PostG G K rel Wx σ r H x fun b H1 => ∃ r1 a h1, Ext r H r1 H1 ∧ RelH G K r1 h1 H1 ∧ rel r1 H1 h1 a b ∧ PostS G K Wx D r1 H1 (k a h1) := by
  cases x with
  | ok a h1 =>
    intro r' H' b e R q
    have p : PostS G K Wx D r H (k a h1) := p
    exact ⟨r', a, h1, e, R, q, p.ext e⟩
  | exc c h1 => exact fun r' H' e R => p r' H' σ e (S.ext e R)
  | bad => exact p
theorem ps_bad {st : Stmt} : PS X st (TSm G X.K Wx fun _ _ => .bad) := ⟨fun _ _ _ _ _ _ q => by obtain ⟨_, _, _, _, q⟩ := q; exact q.elim⟩
/-! ### several names at once -/
theorem names_bind : ∀ {ts : List Expr} {is : List Nat} {ws : List W} {f : F}, namesOf s ts = some is → bindTs (listE (ts.map (compT s 1))) ws f = stAll is ws f
  | [], is, ws, f, h => by
    cases h
    cases ws <;> rfl
  | t :: ts, is, ws, f, h => by
    cases t with
    | Name x p =>
      simp only [namesOf] at h
      split at h
      · rename_i hc
        split at h
        · rename_i i is' h1 h2
          cases h
          have e1 : compT s 1 (.Name x p) = .v i := by simp only [compT, hc, h1, if_pos]
          cases ws with
          | nil => rfl
          | cons w ws =>
            rw [List.map_cons, e1]
            show ((stV i w f).bind fun f => bindTs (listE (ts.map (compT s 1))) ws f) = (stV i w f).bind fun f => stAll is' ws f
            congr 1
            funext f
            exact names_bind h2
        · cases h
      · cases h
    | _ => cases h
theorem names_at : ∀ {ts : List Expr} {is : List Nat}, namesOf s ts = some is → ∀ (j : Nat) (x : Str) (p : Pos), ts[j]? = some (.Name x p) → ∃ i, is[j]? = some i ∧ s.N[i]? = some x
  | [], is, h, j, x, p, e => by simp at e
  | t :: ts, is, h, j, x, p, e => by
    cases t with
    | Name y q =>
      simp only [namesOf] at h
      split at h
      · split at h
        · rename_i i is' h1 h2
          cases h
          cases j with
          | zero =>
            simp at e
            exact ⟨i, rfl, by rw [← e.1]; exact idxS_get h1⟩
          | succ j =>
            obtain ⟨i2, h3, h4⟩ := names_at h2 j x p (by simpa using e)
            exact ⟨i2, by simpa using h3, h4⟩
        · cases h
      · cases h
    | _ => cases h
theorem names_len : ∀ {ts : List Expr} {is : List Nat}, namesOf s ts = some is → is.length = ts.length
  | [], is, h => by cases h; rfl
  | t :: ts, is, h => by
    cases t with
    | Name y q =>
      simp only [namesOf] at h
      split at h
      · split at h
        · rename_i i is' h1 h2
          cases h
          rw [List.length_cons, List.length_cons, names_len h2]
        · cases h
      · cases h
    | _ => cases h
end
end WL

/-! statements: each rule -/
namespace WL
open PySem PySem.Spec PyProof.Rows L2
section
variable {G : Nm} {X : Cx} {s : Sx} {Wx : WX}
theorem Vals.snocs {v : V} {vs : List V} {us : List Value} : Vals (v :: vs) us → ∃ u us', us = u :: us' ∧ RelV v u ∧ Vals vs us' := by
  intro h
  cases h with
  | cons p q => exact ⟨_, _, rfl, p, q⟩
theorem stAll_at : ∀ {is : List Nat} {ws : List W} {f f' : F}, stAll is ws f = some f' → ws.length = is.length
  | [], [], _, _, _ => rfl
  | [], _ :: _, _, _, h => by cases h
  | _ :: _, [], _, _, h => by cases h
  | i :: is, w :: ws, f, f', h => by
    simp only [stAll] at h
    cases z : stV i w f with
    | none => rw [z] at h; cases h
    | some f1 => rw [z] at h; rw [List.length_cons, List.length_cons, stAll_at h]
/-- slots stored one behind another -/
def setAll : List Nat → List V → St → St
  | i :: is, v :: vs, σ => setAll is vs (σ.set i (some v))
  | _, _, σ => σ
theorem stAll_rel {K : PySem.W.Frag} {r : List Addr} {h : Hm} {H : Hp} : ∀ {is : List Nat} {ws : List W} {vs : List V} {f f' : F} {σ : St}, RelS G K r f h σ H → RVs G K r H ws vs → stAll is ws f = some f' → RelS G K r f' h (setAll is vs σ) H
  | [], [], vs, f, f', σ, S, q, e => by
    cases e
    rw [show vs = [] from q]; exact S
  | [], _ :: _, _, _, _, _, _, _, e => by cases e
  | _ :: _, [], _, _, _, _, _, _, e => by cases e
  | i :: is, w :: ws, vs, f, f', σ, S, q, e => by
    obtain ⟨v, rest, rfl, q1, q2⟩ := q
    simp only [stAll, stV] at e
    split at e
    · have e : stAll is ws (f.set i (some w)) = some f' := e
      show RelS G K r f' h (setAll is rest (σ.set i (some v))) H
      exact stAll_rel (S.set q1) q2 e
    · cases e
theorem len2 {α : Type} : ∀ {l : List α}, l.length = 2 → ∃ a b, l = [a, b]
  | [a, b], _ => ⟨a, b, rfl⟩
  | [], h => by cases h
  | [_], h => by cases h
  | _ :: _ :: _ :: _, h => by simp at h
theorem len3 {α : Type} : ∀ {l : List α}, l.length = 3 → ∃ a b c, l = [a, b, c]
  | [a, b, c], _ => ⟨a, b, c, rfl⟩
  | [], h => by cases h
  | [_], h => by cases h
  | [_, _], h => by cases h
  | _ :: _ :: _ :: _ :: _, h => by simp at h
theorem ps_parA {ts vs : List Expr} {is : List Nat} {kt k2 : Nat} {pt p2 pos : Pos} {ms : F → Hm → R (List W)} (O : NmOk s X) (hts : ts.all noStar = true) (hvs : vs.all noStar = true) (hl : ts.length = vs.length) (hp : parOk vs = true) (hn : namesOf s ts = some is) (hd : ndupN is = true) (ha : PA X vs (TAm G X.K Wx ms)) (hlen : ∀ f h ws h', ms f h = .ok ws h' → ws.length = vs.length) (hsz : vs.length ≤ line) :
    PS X (.Assign [.Tuple ts kt pt] (.Tuple vs k2 p2) pos) (TSm G X.K Wx fun f h => (ms f h).asS f fun ws h1 => match stAll is ws f with | some f1 => .nx f1 h1 | none => .bad) := by
  rcases swap_dec (env := X.env) (ts := ts) (kt := kt) (pt := pt) (k2 := k2) (p2 := p2) hp hvs with hw | ⟨names, hw, h23, l, hnm, hnl⟩
  · -- the tuple is made and taken apart
    refine ps_weak (ps_asg (pe_tup ha) (pg_tup O.calm (pgs_of (G := G) (pgT O 1) hts) (ae_len hts) (ae_find hts)) rfl hw rfl) ?_
    rintro D σ H ⟨r, f, h, S, p⟩
    refine ⟨r, f, h, S, ?_⟩
    dsimp only at p
    cases z : ms f h with
    | exc c hx => rw [z] at p; exact fun r' H' e R => p r' H' σ e (S.ext e R)
    | bad => rw [z] at p; exact p
    | ok ws h1 =>
      rw [z] at p
      intro r1 H1 us e1 R1 q1
      have p : PostS G X.K Wx D r H (match stAll is ws f with | some f1 => .nx f1 h1 | none => .bad) := p
      have hwl := hlen f h ws h1 z
      refine ⟨by rw [q1.length, hwl]; exact hsz, fun pt hpt => ?_⟩
      cases z2 : stAll is ws f with
      | none => rw [z2] at p; exact p.elim
      | some f1 =>
        rw [z2] at p
        have e2 := Ext.new (r := r1) (ho := .tup us) hpt
        refine ⟨pt, us, rfl, SqT.of upd_same, by rw [q1.length, hwl, hl], r1, f, h1, ws, f1, (S.ext e1 R1).ext e2 (R1.aside hpt), q1.ext e2, by rw [names_bind hn]; exact z2, fun σ' S' _ => ?_⟩
        exact p r1 _ σ' (e1.trans e2) S'
  · -- stored from the right
    refine ⟨fun pins st σ H D I q => ?_⟩
    obtain ⟨r, f, h, S, p⟩ := q
    have hTA : TAm G X.K Wx ms σ H fun us H1 => ∃ r1 h1 ws f1, us.length = vs.length ∧ stAll is ws f = some f1 ∧ RelS G X.K r1 f h1 σ H1 ∧ RVs G X.K r1 H1 ws us ∧ ∀ σ', RelS G X.K r1 f1 h1 σ' H1 → D.nx σ' H1 := by
      refine ⟨r, f, h, S, ?_⟩
      dsimp only at p
      cases z : ms f h with
      | exc c hx => rw [z] at p; exact fun r' H' e R => p r' H' σ e (S.ext e R)
      | bad => rw [z] at p; exact p
      | ok ws h1 =>
        rw [z] at p
        intro r1 H1 us e1 R1 q1
        have p : PostS G X.K Wx D r H (match stAll is ws f with | some f1 => .nx f1 h1 | none => .bad) := p
        cases z2 : stAll is ws f with
        | none => rw [z2] at p; exact p.elim
        | some f1 =>
          rw [z2] at p
          exact ⟨r1, h1, ws, f1, by rw [q1.length, hlen f h ws h1 z], z2, S.ext e1 R1, q1, fun σ' S' => p r1 H1 σ' e1 S'⟩
    rw [exec_Assign_arm]
    refine wpAny_bind (wpAny_standAt ?_)
    rw [show swapsWithSole [.Tuple ts kt pt] (.Tuple vs k2 p2) pos.line X.env = pure false from rfl]
    refine wpAny_bind (wpAny_pure ?_)
    rw [if_neg (by decide)]
    refine wpAny_bind (Tuple_ (thn (ha.run _ pins st σ H _ I hTA) fun us s1 ⟨vs', H1, I1, r1, q1⟩ => ?_))
    obtain ⟨rr, h1, ws, f1, hul, hst, S1, qv, fin⟩ := q1
    have husl : us.length = ts.length := by rw [← r1.length, hul, hl]
    refine wpAny_newObj_type ?_ (by show us.toArray.size ≤ sizeLine; rw [List.size_toArray, husl, hl]; exact hsz)
    have I2 : Inv X pins σ H1 { s1 with heap := s1.heap.push { cls := .type "tuple", data := .seq us.toArray } } := I1.kept (t' := s1.toks) fun b o e => Heap.get?_push_of_some _ e
    rw [hw]
    refine wpAny_bind (wpAny_pure ?_)
    have hall := fm_all (by rw [← hnm]; exact hnl)
    have hN : X.N.Nodup := by rw [O.eN]; exact O.nd
    have loc : ∀ (j : Nat) (t : Expr), ts[j]? = some t → ∃ x p i, t = .Name x p ∧ nmF X.env l t = some x ∧ X.env.scope.names.lookup x = some .local ∧ is[j]? = some i ∧ X.N[i]? = some x := fun j t ht => by
      obtain ⟨x, hx⟩ := hall t (List.mem_of_getElem? ht)
      obtain ⟨⟨p, rfl⟩, hk⟩ := nmF_some hx
      obtain ⟨i, h3, h4⟩ := names_at hn j x p ht
      exact ⟨x, p, i, rfl, hx, hk, h3, by rw [O.eN]; exact h4⟩
    have fin' := fin _ (stAll_rel S1 qv hst)
    have isl := names_len hn
    rcases h23 with h2 | h3
    · have hv2 : vs'.length = 2 := by rw [hul, ← hl, h2]
      have hu2 : us.length = 2 := by rw [husl, h2]
      have hi2 : is.length = 2 := by rw [isl, h2]
      clear isl hul husl
      obtain ⟨t1, t2, rfl⟩ := len2 h2
      obtain ⟨i, j, rfl⟩ := len2 hi2
      obtain ⟨v1, v2, rfl⟩ := len2 hv2
      obtain ⟨u1, u2, rfl⟩ := len2 hu2
      · obtain ⟨x, px, i', rfl, n1, l1, e1, k1⟩ := loc 0 t1 rfl
        obtain ⟨y, py, j', rfl, n2, l2, e2, k2⟩ := loc 1 t2 rfl
        cases e1; cases e2
        have hnm' : names = [x, y] := by rw [hnm]; simp [List.filterMap, n1, n2]
        subst hnm'
        obtain ⟨_, _, e3, rv1, r2⟩ := Vals.snocs r1
        obtain ⟨_, _, e4, rv2, r3⟩ := Vals.snocs r2
        cases r3; cases e4; cases e3
        have hij : i ≠ j := by
          simp [ndupN] at hd
          exact hd
        show wpAny (model X.prog X.w) X.A (do rule "assign.swapped-stores"; let items ← unpackItems (.ref s1.heap.objs.size) 2 none; assignInOrder [fun v => bindName X.env y v, fun v => bindName X.env x v] items.reverse; pure Flow.next) _ _ _
        refine wpAny_bind (wpAny_rule (wpAny_bind (unpackItems_tuple (items := #[u1, u2]) (I.ok.hd O.calm) (IsTup.new s1.heap _) fun h' hx' => ?_)))
        have I3 := I2.kept (h' := h') (t' := s1.toks) fun b o e => hx' b o (Nat.ne_of_lt (Heap.lt_size e)) e
        show wpAny _ _ (assignInOrder [fun v => bindName X.env y v, fun v => bindName X.env x v] [u2, u1] >>= fun _ => pure Flow.next) _ _ _
        refine wpAny_bind (assignInOrder_cons (wpAny_bindName (store_ok I3 hN k2 (.inl l2) rv2 (fun s2 I4 => ?_) (.inr l2))))
        refine assignInOrder_cons (wpAny_bindName (store_ok I4 hN k1 (.inl l1) rv1 (fun s3 I5 => assignInOrder_nil (wpAny_pure ?_)) (.inr l1)))
        rw [List.set_comm _ _ (Ne.symm hij)] at I5
        exact ⟨_, H1, I5, fin'⟩
    · have hv2 : vs'.length = 3 := by rw [hul, ← hl, h3]
      have hu2 : us.length = 3 := by rw [husl, h3]
      have hi2 : is.length = 3 := by rw [isl, h3]
      clear isl hul husl
      obtain ⟨t1, t2, t3, rfl⟩ := len3 h3
      obtain ⟨i, j, m, rfl⟩ := len3 hi2
      obtain ⟨v1, v2, v3, rfl⟩ := len3 hv2
      obtain ⟨u1, u2, u3, rfl⟩ := len3 hu2
      · obtain ⟨x, px, i', rfl, n1, l1, e1, k1⟩ := loc 0 t1 rfl
        obtain ⟨y, py, j', rfl, n2, l2, e2, k2⟩ := loc 1 t2 rfl
        obtain ⟨z, pz, m', rfl, n3, l3, e3, k3⟩ := loc 2 t3 rfl
        cases e1; cases e2; cases e3
        have hnm' : names = [x, y, z] := by rw [hnm]; simp [List.filterMap, n1, n2, n3]
        subst hnm'
        obtain ⟨_, _, e3, rv1, r2⟩ := Vals.snocs r1
        obtain ⟨_, _, e4, rv2, r3⟩ := Vals.snocs r2
        obtain ⟨_, _, e5, rv3, r4⟩ := Vals.snocs r3
        cases r4; cases e5; cases e4; cases e3
        have hij : (¬ i = j ∧ ¬ i = m) ∧ ¬ j = m := by
          simp [ndupN] at hd
          exact hd
        show wpAny (model X.prog X.w) X.A (do rule "assign.swapped-stores"; let items ← unpackItems (.ref s1.heap.objs.size) 3 none; assignInOrder [fun v => bindName X.env z v, fun v => bindName X.env y v, fun v => bindName X.env x v] items.reverse; pure Flow.next) _ _ _
        refine wpAny_bind (wpAny_rule (wpAny_bind (unpackItems_tuple (items := #[u1, u2, u3]) (I.ok.hd O.calm) (IsTup.new s1.heap _) fun h' hx' => ?_)))
        have I3 := I2.kept (h' := h') (t' := s1.toks) fun b o e => hx' b o (Nat.ne_of_lt (Heap.lt_size e)) e
        show wpAny _ _ (assignInOrder [fun v => bindName X.env z v, fun v => bindName X.env y v, fun v => bindName X.env x v] [u3, u2, u1] >>= fun _ => pure Flow.next) _ _ _
        refine wpAny_bind (assignInOrder_cons (wpAny_bindName (store_ok I3 hN k3 (.inl l3) rv3 (fun s2 I4 => ?_) (.inr l3))))
        refine assignInOrder_cons (wpAny_bindName (store_ok I4 hN k2 (.inl l2) rv2 (fun s3 I5 => ?_) (.inr l2)))
        refine assignInOrder_cons (wpAny_bindName (store_ok I5 hN k1 (.inl l1) rv1 (fun s4 I6 => assignInOrder_nil (wpAny_pure ?_)) (.inr l1)))
        have e6 : ((σ.set m (some v3)).set j (some v2)).set i (some v1) = setAll [i, j, m] [v1, v2, v3] σ := by
          show _ = ((σ.set i (some v1)).set j (some v2)).set m (some v3)
          rw [List.set_comm _ _ (Ne.symm hij.2), List.set_comm _ _ (Ne.symm hij.1.2), List.set_comm _ _ (Ne.symm hij.1.1)]
        rw [e6] at I6
        exact ⟨_, H1, I6, fin'⟩
/-! ### subscripts stored -/
def rSetD : V → V → V → Hp → (Hp → Prop) → Prop := fun o i v H Q => ∃ a H', o = .ref a ∧ DPut H a i v H' ∧ Q H'
theorem set_dict (hu : X.A.units + 1 < cLine) : PSet X rSetD := by
  intro pins s σ H o i v ov iv u Q I ro ri rv h
  obtain ⟨a, H', rfl, g, q⟩ := h
  obtain rfl : ov = Value.ref a := ro
  exact d_setItem hu I g ri rv fun s' I' => ⟨H', I', q⟩
theorem PSet.or {t t' : TSet} (h : PSet X t) (h' : PSet X t') : PSet X fun o i v H Q => t o i v H Q ∨ t' o i v H Q := by
  intro pins s σ H o i v ov iv u Q I ro ri rv z
  rcases z with z | z
  · exact h pins s σ H o i v ov iv u Q I ro ri rv z
  · exact h' pins s σ H o i v ov iv u Q I ro ri rv z
theorem setW_ok {r : List Addr} {h h' : Hm} {H : Hp} {x y w : W} {v u z : V} {Q : Hp → Prop} (R : RelH G X.K r h H) (q1 : RV G X.K r H x v) (q2 : RV G X.K r H y u) (q3 : RV G X.K r H w z) (e : setW x y w h = some h') (fin : ∀ H', Ext r H r H' → RelH G X.K r h' H' → Q H') : rSetL v u z H Q ∨ rSetD v u z H Q := by
  cases x with
  | ref n =>
    obtain ⟨a, rfl, ha⟩ := q1
    cases y with
    | int k =>
      simp only [setW] at e
      cases z1 : h[n]? with
      | none => rw [z1] at e; cases e
      | some o =>
        rw [z1] at e
        cases o with
        | lst l =>
          obtain ⟨us, k1, k2⟩ := R.obj n a _ ha z1
          simp only at e
          cases z2 : ixN l.length k with
          | none => rw [z2] at e; cases e
          | some j =>
            rw [z2] at e; cases e
            refine .inl ⟨a, us, k, j, rfl, q2, k1, by rw [ixN_eq, k2.length]; exact z2, ?_⟩
            exact fin _ (Ext.put ha k1 trivial) (R.put ha k1 trivial ⟨_, upd_same, (k2.set q3 j).ext0 (Ext0.put k1 trivial)⟩)
        | dK l =>
          obtain ⟨kvs, k1, k2⟩ := R.obj n a _ ha z1
          simp only at e
          split at e
          · rename_i hl
            cases e
            rw [rv_int q2]
            refine .inr ⟨a, _, rfl, DPut.k (k := Sum.inl k) k1 (by rw [k2.length]; exact hl), ?_⟩
            exact fin _ (Ext.put ha k1 trivial) (R.put ha k1 trivial ⟨_, upd_same, (put_ok q3 k2).ext0 (Ext0.put k1 trivial)⟩)
          · cases e
        | dT _ => cases e
        | ins _ _ => cases e
    | tup ks =>
      simp only [setW] at e
      cases z1 : h[n]? with
      | none => simp only [z1] at e; cases e
      | some o =>
        cases o with
        | dT l =>
          cases z2 : intsOf ks with
          | none => simp only [z1, z2] at e; cases e
          | some is =>
            simp only [z1, z2] at e
            obtain ⟨kvs, k1, k2⟩ := R.obj n a _ ha z1
            obtain ⟨b, rfl, hb⟩ := tup_key q2 z2
            split at e
            · rename_i hl
              cases e
              refine .inr ⟨a, _, rfl, DPut.t k1 hb (by rw [k2.length]; exact hl), ?_⟩
              exact fin _ (Ext.put ha k1 trivial) (R.put ha k1 trivial ⟨_, upd_same, (putT_ok q3 k2).ext0 (Ext0.put k1 trivial)⟩)
            · cases e
        | _ => simp only [z1] at e; cases e
    | _ => cases e
  | _ => cases e
end
end WL

/-! loops, and every statement -/
namespace WL
open PySem PySem.Spec PyProof.Rows L2
/-- what is known of an own exception class -/
structure ExcF (G : Nm) (K : PySem.W.Frag) (mg : Str → Option Value) (c : Nat) (x : Str) : Prop where
  mg_ : mg x = some (.ref (xA G K c))
  exc : PySem.W.excIn K (xA G K c) He.veBase "ValueError.__new__" = true
  kp : PySem.W.keepIn K (.ref (xA G K c)) = true
  sub : PySem.W.subIn K (.ref (xA G K c)) (.type "BaseException") = some true
  ty : PySem.W.typeIn K (.ref (xA G K c)) = some (.type "type")
structure GoodS (G : Nm) (T : Tb) (k : Nat) (C : Cb) (s : Sx) (X : Cx) (Wx : WX) : Prop extends Good G T k C s X Wx where
  own : PassesOwn (model X.prog X.w) X.A X.env X.xe
  exs : ∀ (c : Nat) (x : Str), G.exs[c]? = some x → ExcF G X.K X.mg c x
section
variable {G : Nm} {T : Tb} {k : Nat} {X : Cx} {s : Sx} {Wx : WX} {e : Expr} {pos : Pos} {ma mc : F → Hm → R W} {mb mt me : F → Hm → RS}
theorem ts_exp : ∀ D σ H, TSm G X.K Wx (fun f h => (ma f h).asS f fun _ h1 => .nx f h1) D σ H → tDrop (TEm G X.K Wx ma) D σ H := by
  rintro D σ H ⟨r, f, h, S, p⟩
  refine ⟨r, f, h, S, (asS_seq (rel := relW G X.K) S p).mono ?_⟩
  rintro v H1 ⟨r1, x, h1, e1, R1, q1, p1⟩
  exact p1 r1 H1 σ .refl (S.ext e1 R1)
theorem ts_ret : ∀ D σ H, TSm G X.K Wx (fun f h => (ma f h).asS f fun w h1 => .rt w h1) D σ H → tRet (TEm G X.K Wx ma) D σ H := by
  rintro D σ H ⟨r, f, h, S, p⟩
  refine ⟨r, f, h, S, (asS_seq (rel := relW G X.K) S p).mono ?_⟩
  rintro v H1 ⟨r1, x, h1, e1, R1, q1, p1⟩
  exact p1 r1 H1 v .refl R1 q1
theorem ts_set {i : Nat} : ∀ D σ H, TSm G X.K Wx (fun f h => (ma f h).asS f fun w h1 => (match stV i w f with | some f1 => .nx f1 h1 | none => .bad)) D σ H → tAsg (TEm G X.K Wx ma) (gName i) D σ H := by
  rintro D σ H ⟨r, f, h, S, p⟩
  refine ⟨r, f, h, S, (asS_seq (rel := relW G X.K) S p).mono ?_⟩
  rintro v H1 ⟨r1, x, h1, e1, R1, q1, p1⟩
  unfold stV at p1
  split at p1
  · rename_i f1 hf
    split at hf
    · cases hf
      exact p1 r1 H1 _ .refl ((S.ext e1 R1).set q1)
    · cases hf
  · exact p1.elim
theorem ts_unp {t : E} : ∀ D σ H, TSm G X.K Wx (fun f h => (ma f h).asS f fun w h1 => (match bindT t w f with | some f1 => .nx f1 h1 | none => .bad)) D σ H → tAsg (TEm G X.K Wx ma) (TGm G X.K t) D σ H := by
  rintro D σ H ⟨r, f, h, S, p⟩
  refine ⟨r, f, h, S, (asS_seq (rel := relW G X.K) S p).mono ?_⟩
  rintro v H1 ⟨r1, x, h1, e1, R1, q1, p1⟩
  cases z : bindT t x f with
  | none => simp only [z] at p1; exact p1.elim
  | some f1 =>
    simp only [z] at p1
    exact ⟨r1, f, h1, x, f1, S.ext e1 R1, q1, z, fun σ' S' _ => p1 r1 H1 σ' .refl S'⟩
theorem ts_sub {mo mi : F → Hm → R W} : ∀ D σ H, TSm G X.K Wx (fun f h => (ma f h).asS f fun w h1 => (mo f h1).asS f fun x h2 => (mi f h2).asS f fun y h3 => (match setW x y w h3 with | some h4 => .nx f h4 | none => .bad)) D σ H →
    tAsg (TEm G X.K Wx ma) (gSub (TEm G X.K Wx mo) (TEm G X.K Wx mi) fun o i v H Q => rSetL o i v H Q ∨ rSetD o i v H Q) D σ H := by
  rintro D σ H ⟨r, f, h, S, p⟩
  refine ⟨r, f, h, S, (asS_seq (rel := relW G X.K) S p).mono ?_⟩
  rintro v H1 ⟨r1, w, h1, e1, R1, q1, p1⟩
  have S1 := S.ext e1 R1
  refine ⟨r1, f, h1, S1, (asS_seq (rel := relW G X.K) S1 p1).mono ?_⟩
  rintro o H2 ⟨r2, x, h2, e2, R2, q2, p2⟩
  have S2 := S1.ext e2 R2
  refine ⟨r2, f, h2, S2, (asS_seq (rel := relW G X.K) S2 p2).mono ?_⟩
  rintro u H3 ⟨r3, y, h3, e3, R3, q3, p3⟩
  cases z : setW x y w h3 with
  | none => simp only [z] at p3; exact p3.elim
  | some h4 =>
    simp only [z] at p3
    refine setW_ok R3 (q2.ext e3) q3 ((q1.ext e2).ext e3) z fun H4 e4 R4 => ?_
    exact p3 r3 H4 σ e4 ((S2.ext e3 R3).ext e4 R4)
theorem ts_aug {i : Nat} {o : Operator} {t : TIp} (ht : ∀ (x y : W) (v u : V) (r : List Addr) (H : Hp) (Q : VK), RV G X.K r H x v → RV G X.K r H y u → (∀ a b, o = .Add → x = .int a → y = .int b → Q (.int (a + b)) H) → (∀ a b, o = .Sub → x = .int a → y = .int b → Q (.int (a - b)) H) → ((o = .Add ∨ o = .Sub) ∧ (∃ a, x = .int a) ∧ ∃ b, y = .int b) → t v u H Q) :
    ∀ D σ H, TSm G X.K Wx (fun f h => match f[i]? with
    | some (some x) => (ma f h).asS f fun y h1 => (match o, x, y with
      | .Add, .int a, .int b => (match stV i (.int (a + b)) f with | some f1 => .nx f1 h1 | none => .bad)
      | .Sub, .int a, .int b => (match stV i (.int (a - b)) f with | some f1 => .nx f1 h1 | none => .bad)
      | _, _, _ => .bad)
    | _ => .bad) D σ H → tAug i (TEm G X.K Wx ma) t D σ H := by
  rintro D σ H ⟨r, f, h, S, p⟩
  dsimp only at p
  split at p
  · rename_i x hx
    obtain ⟨v, hv, q⟩ := S.fr i x hx
    refine ⟨v, hv, r, f, h, S, (asS_seq (rel := relW G X.K) S p).mono ?_⟩
    rintro u H1 ⟨r1, y, h1, e1, R1, q1, p1⟩
    have S1 := S.ext e1 R1
    have store : ∀ {c : Int}, PostS G X.K Wx D r1 H1 (match stV i (.int c) f with | some f1 => .nx f1 h1 | none => .bad) → D.nx (σ.set i (some (.int c))) H1 := fun {c} p => by
      unfold stV at p
      split at p
      · rename_i f1 hf
        split at hf
        · cases hf
          exact p r1 H1 _ .refl (S1.set (v := .int c) rfl)
        · cases hf
      · exact p.elim
    split at p1
    · exact ht _ _ v u r1 H1 _ (q.ext e1) q1 (fun a b _ ea eb => by cases ea; cases eb; exact store p1) (fun a b ho _ _ => by cases ho) ⟨.inl rfl, ⟨_, rfl⟩, ⟨_, rfl⟩⟩
    · exact ht _ _ v u r1 H1 _ (q.ext e1) q1 (fun a b ho _ _ => by cases ho) (fun a b _ ea eb => by cases ea; cases eb; exact store p1) ⟨.inr rfl, ⟨_, rfl⟩, ⟨_, rfl⟩⟩
    · exact p1.elim
  · exact p.elim
theorem ts_if : ∀ D σ H, TSm G X.K Wx (fun f h => (mc f h).asS f fun w h1 => (match w with
    | .bl true => mt f h1
    | .bl false => me f h1
    | _ => .bad)) D σ H → tIfS (TTm G X.K Wx mc) (TSm G X.K Wx mt) (TSm G X.K Wx me) D σ H := by
  rintro D σ H ⟨r, f, h, S, p⟩
  refine ⟨r, f, h, S, ?_⟩
  dsimp only at p ⊢
  cases z : mc f h with
  | exc c hx => rw [z] at p; exact fun r' H' e R => p r' H' σ e (S.ext e R)
  | bad => rw [z] at p; exact p
  | ok w h1 =>
    rw [z] at p
    cases w with
    | bl b =>
      intro r1 H1 b' e1 R1 q
      have q : b = b' := q
      subst q
      cases b with
      | true =>
        have p : PostS G X.K Wx D r H (mt f h1) := p
        exact ⟨r1, f, h1, S.ext e1 R1, p.ext e1⟩
      | false =>
        have p : PostS G X.K Wx D r H (me f h1) := p
        exact ⟨r1, f, h1, S.ext e1 R1, p.ext e1⟩
    | _ => exact p.elim
theorem ts_while : ∀ D σ H, TSm G X.K Wx (fun f h => whlL mc mb loops f h) D σ H → tWhile (TTm G X.K Wx mc) (TSm G X.K Wx mb) D σ H := by
  rintro D σ H ⟨r0, f, h, S, p⟩
  dsimp only at p
  generalize loops = n at p
  refine ⟨fun m σ' H' => ∃ r f h, Ext r0 H r H' ∧ RelS G X.K r f h σ' H' ∧ PostS G X.K Wx D r0 H (whlL mc mb m f h), ⟨n, r0, f, h, .refl, S, p⟩, ?_⟩
  rintro m σ1 H1 ⟨r1, f1, h1, e1, S1, p1⟩
  cases m with
  | zero => exact p1.elim
  | succ m =>
    refine ⟨r1, f1, h1, S1, ?_⟩
    simp only [whlL] at p1
    dsimp only
    cases z : mc f1 h1 with
    | exc c hx => rw [z] at p1; exact fun r' H' e R => p1 r' H' σ1 (e1.trans e) (S1.ext e R)
    | bad => rw [z] at p1; exact p1
    | ok w h2 =>
      rw [z] at p1
      cases w with
      | bl b =>
        intro r2 H2 b' e2 R2 q
        have q : b = b' := q
        subst q
        have S2 := S1.ext e2 R2
        cases b with
        | false => exact p1 r2 H2 σ1 (e1.trans e2) S2
        | true =>
          simp only [if_true]
          refine ⟨fun σ' H' => ∃ r f h, Ext r0 H r H' ∧ RelS G X.K r f h σ' H' ∧ PostS G X.K Wx D r0 H (whlL mc mb m f h), fun σ' H' q => ⟨m, Nat.lt_succ_self _, q⟩, r2, f1, h2, S2, ?_⟩
          simp only at p1
          cases zb : mb f1 h2 with
          | nx f3 h3 => rw [zb] at p1; exact fun r3 H3 σ3 e3 S3 => ⟨r3, f3, h3, (e1.trans e2).trans e3, S3, p1⟩
          | ct f3 h3 => rw [zb] at p1; exact fun r3 H3 σ3 e3 S3 => ⟨r3, f3, h3, (e1.trans e2).trans e3, S3, p1⟩
          | bk f3 h3 => rw [zb] at p1; exact fun r3 H3 σ3 e3 S3 => p1 r3 H3 σ3 ((e1.trans e2).trans e3) S3
          | rt w3 h3 => rw [zb] at p1; exact fun r3 H3 v3 e3 R3 q3 => p1 r3 H3 v3 ((e1.trans e2).trans e3) R3 q3
          | ex c f3 h3 => rw [zb] at p1; exact fun r3 H3 σ3 e3 S3 => p1 r3 H3 σ3 ((e1.trans e2).trans e3) S3
          | bad => rw [zb] at p1; exact p1
      | _ => exact p1.elim
theorem ts_for {C : Cb} {t it : E} : ∀ D σ H, TSm G X.K Wx (fun f h => (evI C it f h).asS f fun J h1 => (match J.len h1 with
    | some n => forL mb (bindT t) J n 0 f h1
    | none => .bad)) D σ H → tFor (TIm G X.K Wx (evI C it)) (TGm G X.K t) (TSm G X.K Wx mb) D σ H := by
  rintro D σ H0 ⟨r, f, h, S, p⟩
  refine ⟨r, f, h, S, (asS_seq (rel := relI G X.K) S p).mono ?_⟩
  rintro J' H ⟨r0, J, h1, e0, R0, qJ, p0⟩
  cases zn : J.len h1 with
  | none => simp only [zn] at p0; exact p0.elim
  | some n =>
    simp only [zn] at p0
    refine ⟨fun i m σ' H' => ∃ r f h, Ext r0 H r H' ∧ RelS G X.K r f h σ' H' ∧ PostS G X.K Wx D r0 H (forL mb (bindT t) J m i f h), ⟨n, r0, f, h1, .refl, S.ext e0 R0, p0⟩, ?_⟩
    rintro i m σ1 H1 ⟨r1, f1, h1, e1, S1, p1⟩
    have qJ1 := qJ.ext0 e1.toExt0
    cases m with
    | zero =>
      simp only [forL] at p1
      by_cases hs : J.stop i h1 = true
      · rw [if_pos hs] at p1
        exact .inl ⟨qJ1.stop S1.heap hs, p1 r1 H1 σ1 e1 S1⟩
      · rw [if_neg hs] at p1; exact p1.elim
    | succ m =>
      simp only [forL] at p1
      cases z : (J.item i h1).bind fun w => bindT t w f1 with
      | none => rw [z] at p1; exact p1.elim
      | some f2 =>
        rw [z] at p1
        simp only at p1
        cases z1 : J.item i h1 with
        | none => rw [z1] at z; cases z
        | some w =>
          rw [z1] at z
          have z : bindT t w f1 = some f2 := z
          obtain ⟨hgo, hy⟩ := qJ1.go S1.heap z1
          refine .inr ⟨hgo, fun σ' H' => ∃ r f h, Ext r0 H r H' ∧ RelS G X.K r f h σ' H' ∧ PostS G X.K Wx D r0 H (forL mb (bindT t) J m (i + 1) f h), fun σ' H' q => ⟨m, Nat.lt_succ_self _, q⟩, fun x H2 y => ?_⟩
          obtain ⟨e2, R2, q2, _⟩ := hy x H2 y
          refine ⟨r1, f1, h1, w, f2, S1.ext e2 R2, q2, z, fun σ2 S2 _ => ⟨r1, f2, h1, S2, ?_⟩⟩
          have e12 := e1.trans e2
          cases zb : mb f2 h1 with
          | nx f3 h3 => rw [zb] at p1; exact fun r3 H3 σ3 e3 S3 => ⟨r3, f3, h3, e12.trans e3, S3, p1⟩
          | ct f3 h3 => rw [zb] at p1; exact fun r3 H3 σ3 e3 S3 => ⟨r3, f3, h3, e12.trans e3, S3, p1⟩
          | bk f3 h3 => rw [zb] at p1; exact fun r3 H3 σ3 e3 S3 => p1 r3 H3 σ3 (e12.trans e3) S3
          | rt w3 h3 => rw [zb] at p1; exact fun r3 H3 v3 e3 R3 q3 => p1 r3 H3 v3 (e12.trans e3) R3 q3
          | ex c f3 h3 => rw [zb] at p1; exact fun r3 H3 σ3 e3 S3 => p1 r3 H3 σ3 (e12.trans e3) S3
          | bad => rw [zb] at p1; exact p1
/-! ### blocks -/
theorem pss_of {C : Cb} {cs : Stmt → S} (hp : ∀ st, PS X st (TSm G X.K Wx (exec C (cs st)))) : ∀ (sts : List Stmt), PSs X sts (TSm G X.K Wx (exec C (seqS (sts.map cs))))
  | [] => pss_weak pss_nil fun D σ H ⟨r, f, h, S, p⟩ => by
      have p : PostS G X.K Wx D r H (.nx f h) := p
      exact p r H σ .refl S
  | st :: sts => by
    refine pss_weak (pss_cons (hp st) (pss_of hp sts)) ?_
    rintro D σ H ⟨r, f, h, S, p⟩
    have p : PostS G X.K Wx D r H (match exec C (cs st) f h with
      | .nx f1 h1 => exec C (seqS (sts.map cs)) f1 h1
      | x => x) := p
    refine ⟨r, f, h, S, ?_⟩
    cases z : exec C (cs st) f h with
    | nx f1 h1 => rw [z] at p; exact fun r1 H1 σ1 e1 S1 => ⟨r1, f1, h1, S1, p.ext e1⟩
    | rt w h1 => rw [z] at p; exact p
    | bk f1 h1 => rw [z] at p; exact p
    | ct f1 h1 => rw [z] at p; exact p
    | ex c f1 h1 => rw [z] at p; exact p
    | bad => rw [z] at p; exact p
end
end WL

namespace WL
open PySem PySem.Spec PyProof.Rows L2
section
variable {G : Nm} {T : Tb} {k : Nat}
theorem swap_no {e : Expr} (h : noComp e = true) (t : Option Expr) (l : Nat) (env : Env) : swapsWith e t l env = pure false := by
  cases e <;> first | rfl | cases h
theorem swapS_no {e t : Expr} (h : noComp e = true) (l : Nat) (env : Env) : swapsWithSole [t] e l env = pure false := swap_no h (some t) l env
theorem swap_tgt {e t : Expr} (l : Nat) (env : Env) (h : ∀ x p, t ≠ .Name x p) : swapsWith e (some t) l env = pure false := by
  cases e <;> first | rfl | (cases t <;> first | rfl | exact absurd rfl (h _ _))
theorem swapped_no {ts : List Expr} {kt : Nat} {pt : Pos} {e : Expr} {env : Env} (h : ∀ vs k p, e ≠ .Tuple vs k p) : swappedStores [.Tuple ts kt pt] e env = pure none := by
  cases e <;> first | rfl | exact absurd rfl (h _ _ _)
theorem exec_bad (C : Cb) : exec C .bad = fun _ _ => .bad := by funext f h; rfl
theorem assign_sub {o i : Expr} {p : Pos} {env : Env} (h : noSlice i = true) : ∀ v, assign (.Subscript o i p) env v = (do let ov ← holding [v] (eval o env); let iv ← holding [v, ov] (eval i env); standAt p; holding [v, ov, iv] (setItem ov iv v); release [v, ov, iv] []) := by
  intro v
  cases i <;> first | rfl | cases h
theorem lc_swap {elt : Expr} {gs : List Comprehension} {scope : Scope} {p py : Pos} {y : Str} {l : Nat} {env : Env} : ∃ b, swapsWith (.ListComp elt gs scope p) (some (.Name y py)) l env = pure b ∧ (b = true → env.kindOf y = some .local) := by
  refine ⟨_, rfl, fun h => ?_⟩
  simp only [Bool.and_eq_true, beq_iff_eq] at h
  exact h.1.1.2
theorem no_ip {X : Cx} {o : Operator} : PIp X o (fun _ _ _ _ => False) := fun _ _ _ _ _ _ _ _ _ _ _ _ h => h.elim
theorem soundS {C : Cb} : ∀ (n : Nat) (s : Sx) (X : Cx) (Wx : WX), GoodS G T k C s X Wx → ∀ st, PS X st (TSm G X.K Wx (exec C (compS G n s st)))
  | 0, s, X, Wx, O, st => ps_bad
  | n + 1, s, X, Wx, O, st => by
    have ih : ∀ st, PS X st (TSm G X.K Wx (exec C (compS G n s st))) := soundS n s X Wx O
    have ihs := fun sts => pss_of ih sts
    have se : ∀ e, SE G C X Wx e (compE G n s e) := soundAll k n C s X Wx O.toGood
    have pv : ∀ e, PE X e (TEm G X.K Wx (ev C (compE G n s e))) := fun e => (se e).v
    have hN : X.N.Nodup := by rw [O.eN]; exact O.nd
    have hu1 : X.A.units + 1 < cLine := hu_of O.room
    cases st with
    | Pass p => exact ps_weak ps_pass fun D σ H ⟨r, f, h, S, p⟩ => p r H σ .refl S
    | Break p => exact ps_weak ps_break fun D σ H ⟨r, f, h, S, p⟩ => p r H σ .refl S
    | Continue p => exact ps_weak ps_continue fun D σ H ⟨r, f, h, S, p⟩ => p r H σ .refl S
    | Expr e p =>
      simp only [compS]
      split
      · rename_i hn
        exact ps_weak (ps_expr (pv e) (swap_no hn _ _ _)) ts_exp
      · exact ps_bad
    | Return v p =>
      cases v with
      | none =>
        refine ps_weak ps_retN ?_
        rintro D σ H ⟨r, f, h, S, p⟩
        have p : PostS G X.K Wx D r H (.rt .non h) := p
        exact p r H .non .refl S.heap rfl
      | some e => exact ps_weak (ps_ret (pv e)) ts_ret
    | Assign ts e p =>
      rcases ts with _ | ⟨t, _ | ⟨t2, ts⟩⟩
      · exact ps_bad
      · cases t with
        | Name x px =>
          simp only [compS]
          split
          · rename_i hc
            simp only [Bool.and_eq_true] at hc
            obtain ⟨k1, k2⟩ := O.tgt x hc.1
            split
            · rename_i i hi
              have hat : X.N[i]? = some x := by rw [O.eN]; exact idxS_get hi
              by_cases hn : noComp e = true
              · exact ps_weak (ps_set hN hat k1 (pv e) (swap_no hn _ _ _) k2) ts_set
              · cases e with
                | ListComp elt gens scope pl =>
                  obtain ⟨b, hb, hb2⟩ := lc_swap (elt := elt) (gs := gens) (scope := scope) (p := pl) (py := px) (y := x) (l := p.line) (env := X.env)
                  cases b with
                  | false => exact ps_weak (ps_set hN hat k1 (pv _) hb k2) ts_set
                  | true =>
                    cases n with
                    | zero => exact ps_weak (t := fun _ _ _ => False) ⟨fun _ _ _ _ _ _ h => h.elim⟩ (fun D σ H ⟨r, f, h, S, p⟩ => p)
                    | succ n =>
                      rcases gens with _ | ⟨⟨tg, iter, ifs, isa⟩, _ | ⟨g2, gens⟩⟩
                      · exact ps_weak (t := fun _ _ _ => False) ⟨fun _ _ _ _ _ _ h => h.elim⟩ (fun D σ H ⟨r, f, h, S, p⟩ => p)
                      · simp only [compE]
                        split
                        · rename_i hz
                          subst hz
                          rcases lc_ok O.toGood (n := n) (soundAll k n C) (elt := elt) (tg := tg) (iter := iter) (ifs := ifs) (scope := scope) (pos := pl) with h | ⟨own, t, it, cond, c, h, ho, _, hset⟩
                          · rw [h]
                            exact ps_weak (t := fun _ _ _ => False) ⟨fun _ _ _ _ _ _ h => h.elim⟩ (fun D σ H ⟨r, f, h, S, p⟩ => p)
                          · rw [h]
                            refine ps_weak (hset i x px p hat (hb2 rfl) hb) fun D σ H q => ?_
                            have q2 := ts_set (G := G) (X := X) (Wx := Wx) (ma := ev C (.lc own t it cond c)) (i := i) D σ H q
                            rw [ev_lcM] at q2
                            exact te_lcA ho σ H _ q2
                        · exact ps_weak (t := fun _ _ _ => False) ⟨fun _ _ _ _ _ _ h => h.elim⟩ (fun D σ H ⟨r, f, h, S, p⟩ => p)
                      · exact ps_weak (t := fun _ _ _ => False) ⟨fun _ _ _ _ _ _ h => h.elim⟩ (fun D σ H ⟨r, f, h, S, p⟩ => p)
                | SetComp _ _ _ _ =>
                  cases n <;> exact ps_weak (t := fun _ _ _ => False) ⟨fun _ _ _ _ _ _ h => h.elim⟩ (fun D σ H ⟨r, f, h, S, p⟩ => p)
                | DictComp _ _ _ _ _ =>
                  cases n <;> exact ps_weak (t := fun _ _ _ => False) ⟨fun _ _ _ _ _ _ h => h.elim⟩ (fun D σ H ⟨r, f, h, S, p⟩ => p)
                | _ => exact absurd rfl hn
            · exact ps_bad
          · exact ps_bad
        | Tuple tl kt pt =>
          by_cases ht : ∃ vs k2 p2, e = .Tuple vs k2 p2
          · obtain ⟨vs, k2, p2, rfl⟩ := ht
            simp only [compS]
            split
            · rename_i hc
              simp only [Bool.and_eq_true, decide_eq_true_eq] at hc
              obtain ⟨⟨⟨⟨h1, h2⟩, h3⟩, h4⟩, h5⟩ := hc
              split
              · rename_i is hi
                split
                · rename_i hd
                  have hlen : ∀ f h ws h', evs C (listE (vs.map (compE G n s))) f h = .ok ws h' → ws.length = vs.length := fun f h ws h' z => by rw [evs_len z, List.length_map]
                  exact ps_parA O.toNmOk h1 h2 h3 h4 hi hd (pa_all pv h2) hlen (Nat.le_trans (Nat.le_of_lt h5) (by decide))
                · exact ps_bad
              · exact ps_bad
            · exact ps_bad
          · have ht' : ∀ vs k p, e ≠ .Tuple vs k p := fun vs k p z => ht ⟨vs, k, p, z⟩
            have e1 : compS G (n + 1) s (.Assign [.Tuple tl kt pt] e p) = if tl.all noStar && noComp e then .unp (.tup (listE (tl.map (compT s n)))) (compE G n s e) else .bad := by
              cases e <;> first | rfl | exact absurd rfl (ht' _ _ _)
            rw [e1]
            split
            · rename_i hc
              simp only [Bool.and_eq_true] at hc
              have e2 : .tup (listE (tl.map (compT s n))) = compT s (n + 1) (.Tuple tl kt pt) := by simp only [compT, hc.1, if_pos]
              rw [e2]
              exact ps_weak (ps_asg (pv e) (pgT O.toNmOk (n + 1) _) (swapS_no hc.2 _ _) (swapped_no ht') rfl) ts_unp
            · exact ps_bad
        | Subscript o i pi =>
          simp only [compS]
          split
          · rename_i hc
            simp only [Bool.and_eq_true] at hc
            exact ps_weak (ps_asg (pv e) (pg_sub (pv o) (pv i) (PSet.or set_list (set_dict hu1)) (assign_sub hc.1)) (swapS_no hc.2 _ _) rfl rfl) ts_sub
          · exact ps_bad
        | Attribute o x px =>
          simp only [compS]
          split
          · rename_i m hm
            refine ps_weak (ps_fldA (C := C) O.sta (idxS_get hm) (pv o) (pv e) (swap_tgt _ _ (fun y q => by intro z; cases z))) ?_
            rintro D σ H ⟨r, f, h, S, p⟩
            have p : PostS G X.K Wx D r H ((ev C (compE G n s e) f h).asS f fun w h1 => (ev C (compE G n s o) f h1).asS f fun y h2 => (match y with
              | .ref a => (match h2[a]? with
                | some (.ins c fs) => if fs.length < 1000 then .nx f (h2.set a (.ins c (putN m w fs))) else .bad
                | _ => .bad)
              | _ => .bad)) := p
            refine ⟨r, f, h, S, ?_⟩
            cases z : ev C (compE G n s e) f h with
            | bad => rw [z] at p; exact p.elim
            | exc c h1 => rw [z] at p; exact p
            | ok w h1 =>
              rw [z] at p
              simp only
              have p : PostS G X.K Wx D r H ((ev C (compE G n s o) f h1).asS f fun y h2 => (match y with
                | .ref a => (match h2[a]? with
                  | some (.ins c fs) => if fs.length < 1000 then .nx f (h2.set a (.ins c (putN m w fs))) else .bad
                  | _ => .bad)
                | _ => .bad)) := p
              cases z2 : ev C (compE G n s o) f h1 with
              | bad => rw [z2] at p; exact p.elim
              | exc c h2 => rw [z2] at p; exact p
              | ok y h2 =>
                rw [z2] at p
                cases y with
                | ref a =>
                  simp only
                  have p : PostS G X.K Wx D r H (match h2[a]? with
                    | some (.ins c fs) => if fs.length < 1000 then .nx f (h2.set a (.ins c (putN m w fs))) else .bad
                    | _ => .bad) := p
                  cases z3 : h2[a]? with
                  | none => rw [z3] at p; exact p.elim
                  | some ob =>
                    rw [z3] at p
                    cases ob with
                    | ins c fs =>
                      simp only at p ⊢
                      by_cases hl : fs.length < 1000
                      · rw [if_pos hl] at p; exact ⟨hl, p⟩
                      · rw [if_neg hl] at p; exact p.elim
                    | _ => exact p.elim
                | _ => exact p.elim
          · exact ps_bad
        | _ => exact ps_bad
      · have e1 : compS G (n + 1) s (.Assign (t :: t2 :: ts) e p) = .bad := by cases t <;> rfl
        rw [e1]; exact ps_bad
    | AugAssign t o e p =>
      cases t with
      | Name x px =>
        simp only [compS]
        split
        · rename_i hc
          simp only [Bool.and_eq_true] at hc
          obtain ⟨k1, k2⟩ := O.tgt x hc.1
          split
          · rename_i i hi
            have hat : X.N[i]? = some x := by rw [O.eN]; exact idxS_get hi
            by_cases ho : o = .Add
            · subst ho
              refine ps_weak (ps_aug hN hat k1 (pv e) ip_add k2) (ts_aug (o := .Add) fun x y v u r H Q q1 q2 hA hS hk => ?_)
              obtain ⟨_, ⟨a, rfl⟩, ⟨b, rfl⟩⟩ := hk
              exact ⟨a, b, q1, q2, hA a b rfl rfl rfl⟩
            · by_cases ho2 : o = .Sub
              · subst ho2
                refine ps_weak (ps_aug hN hat k1 (pv e) ip_sub k2) (ts_aug (o := .Sub) fun x y v u r H Q q1 q2 hA hS hk => ?_)
                obtain ⟨_, ⟨a, rfl⟩, ⟨b, rfl⟩⟩ := hk
                exact ⟨a, b, q1, q2, hS a b rfl rfl rfl⟩
              · exact ps_weak (ps_aug hN hat k1 (pv e) no_ip k2) (ts_aug (o := o) fun x y v u r H Q q1 q2 hA hS hk => hk.1.elim ho ho2)
          · exact ps_bad
        · exact ps_bad
      | _ => exact ps_bad
    | If c a b p =>
      simp only [compS]
      split
      · exact ps_bad
      · rename_i hn
        simp only [Bool.not_eq_true', Bool.not_eq_false] at hn
        exact ps_weak (ps_if ((se c).t hn) (ihs a) (ihs b)) ts_if
    | While c b oe p =>
      cases oe with
      | nil =>
        simp only [compS]
        split
        · exact ps_bad
        · rename_i hn
          simp only [Bool.not_eq_true', Bool.not_eq_false] at hn
          exact ps_weak (ps_while O.own ((se c).t hn) (ihs b)) ts_while
      | cons _ _ => exact ps_bad
    | For tg it b oe p =>
      cases oe with
      | nil =>
        simp only [compS]
        split
        · rename_i hn
          exact ps_weak (ps_for O.own O.calm (pi_ok O.toGood se tg it) (pgT O.toNmOk n tg) (ihs b) (foldSet hn X.env)) ts_for
        · exact ps_bad
      | cons _ _ => exact ps_bad
    | Raise v cs p =>
      cases cs with
      | some _ => exact ps_bad
      | none =>
        simp only [compS]
        split
        · rename_i x hv
          obtain ⟨px, m, j, p2, pc, rfl⟩ := raiseOf_eq hv
          split
          · rename_i hc
            simp only [Bool.and_eq_true] at hc
            split
            · rename_i c hi
              have E := O.exs c x (idxS_get hi)
              refine ps_weak (ps_raise O.calm O.tk (pmk_own PySem.F.excBase_ValueError E.exc E.mg_ E.kp (raises_own E.sub E.ty) (O.gl hc.2) (plainN_ok hc.1).1)) ?_
              rintro D σ H ⟨r, f, h, S, p⟩
              have p : PostS G X.K Wx D r H (.ex c f h) := p
              exact p r H σ .refl S
            · exact ps_bad
          · exact ps_bad
        · exact ps_bad
    | _ => exact ps_bad
end
end WL

/-! tables off the text; every def at every level -/
namespace WL
open PySem PySem.Spec PyProof.Rows L2
/-! ### the defs of a program -/
def docD (b : List Stmt) : List Stmt := b
def metD (c : Str) (s : Stmt) : Option He.DefD := match s with
  | .FunctionDef n a b _ _ _ sc _ _ _ => some ⟨(c, some n), n, c ++ "." ++ n, a, b, sc, [], []⟩
  | _ => none
def defD (s : Stmt) : List He.DefD := match s with
  | .FunctionDef n a b _ _ _ sc _ _ _ => [⟨(n, none), n, n, a, b, sc, [], []⟩]
  | .ClassDef c _ _ b _ _ _ _ _ _ _ => b.filterMap (metD c)
  | _ => []
/-! ### the names of a program -/
def exStep (acc : List Str) (s : Stmt) : List Str := match s with
  | .ClassDef c [.Name b _] _ _ _ _ _ _ _ _ _ => if decide (b = "ValueError") || acc.any (fun y => decide (y = b)) then acc ++ [c] else acc
  | _ => acc
def exsOf (b : List Stmt) : List Str := b.foldl exStep []
def clsOf (b : List Stmt) : List Str := b.filterMap fun s => match s with
  | .ClassDef c _ _ _ _ _ _ _ _ _ _ => if (exsOf b).any (fun y => decide (y = c)) then none else some c
  | _ => none
def conOf (b : List Stmt) : List (Str × Int) := b.filterMap fun s => match s with
  | .Assign [.Name x _] (.Constant (.int i) _ _) _ => some (x, i)
  | _ => none
/-- fields: self.x = .. in a method -/
def fldS (st : Stmt) : Option Str := match st with
  | .Assign [.Attribute (.Name _ _) f _] _ _ => some f
  | _ => none
def fldOf (b : List Stmt) : List Str := dedS ((b.flatMap defD).flatMap fun d => match d.at_.2 with
  | some _ => d.body.filterMap fldS
  | none => []) []
/-- whether a lambda stands in an expression, in a statement -/
def lamE : Nat → Expr → Bool
  | 0, _ => false
  | n + 1, e => match e with
    | .Lambda _ _ _ _ => true
    | .BoolOp _ es _ => es.any (lamE n)
    | .BinOp a _ b _ => lamE n a || lamE n b
    | .UnaryOp _ a _ => lamE n a
    | .IfExp a b c _ => lamE n a || lamE n b || lamE n c
    | .Compare a _ bs _ => lamE n a || bs.any (lamE n)
    | .Call f as _ _ => lamE n f || as.any (lamE n)
    | .List es _ => es.any (lamE n)
    | .Tuple es _ _ => es.any (lamE n)
    | _ => false
def lamS : Nat → Stmt → Bool
  | 0, _ => false
  | n + 1, st => match st with
    | .Return v _ => (optL v).any (lamE n)
    | .Assign _ v _ => lamE n v
    | .For _ it b _ _ => lamE n it || b.any (lamS n)
    | .While c b _ _ => lamE n c || b.any (lamS n)
    | .If c a b _ => lamE n c || a.any (lamS n) || b.any (lamS n)
    | .Expr e _ => lamE n e
    | _ => false
/-- a lambda's qualified name -/
def lamQ (q : Str) : Str := q ++ ".<locals>." ++ "<lambda>"
def mkrOf (b : List Stmt) : List ((Str × Option Str) × Str) := (b.flatMap defD).filterMap fun d => if d.body.any (lamS 40) then some (d.at_, lamQ d.qual) else none
def nmOf (b : List Stmt) (tds : List Str) : Nm := ⟨(b.flatMap defD).map (·.at_), clsOf b, exsOf b, fldOf b, dedS ((b.flatMap defD).filterMap fun d => d.at_.2) [], conOf b, mkrOf b, tds⟩
def topN (s : Stmt) : Option Str := match s with
  | .FunctionDef n _ _ _ _ _ _ _ _ _ => some n
  | .ClassDef n _ _ _ _ _ _ _ _ _ _ => some n
  | .Assign [.Name x _] _ _ => if x = "__name__" then none else some x
  | _ => none
def looseN (b : List Stmt) : List Str := (b.filterMap topN).filter (fun x : Str => !(decide (x = ("law" : Str)))) ++ [("__name__" : Str)]
end WL

namespace WL
open PySem PySem.Spec PyProof.Rows L2
/-! ### the machine's tables off the text -/
def idxM (c m : Str) : List (Str × Option Str) → Option Nat
  | [] => none
  | (x, some y) :: r => if x = c ∧ y = m then some 0 else (idxM c m r).map (· + 1)
  | (_, none) :: r => (idxM c m r).map (· + 1)
theorem idxM_get {c m : Str} : ∀ {l : List (Str × Option Str)} {g : Nat}, idxM c m l = some g → l[g]? = some (c, some m)
  | [], _, h => by cases h
  | (x, some y) :: r, g, h => by
    unfold idxM at h
    split at h
    · rename_i e
      cases h
      rw [e.1, e.2]; rfl
    · cases z : idxM c m r with
      | none => rw [z] at h; cases h
      | some k => rw [z] at h; cases h; simpa using idxM_get z
  | (x, none) :: r, g, h => by
    unfold idxM at h
    cases z : idxM c m r with
    | none => rw [z] at h; cases h
    | some k => rw [z] at h; cases h; simpa using idxM_get z
def baseC (b : List Stmt) (c : Str) : Option Str := b.findSome? fun s => match s with
  | .ClassDef x [.Name y _] _ _ _ _ _ _ _ _ _ => if x = c then some y else none
  | _ => none
def isSub (b : List Stmt) : Nat → Str → Str → Bool
  | 0, _, _ => false
  | n + 1, c, d => if c = d then true else match baseC b c with
    | some y => isSub b n y d
    | none => false
def tbOf (b : List Stmt) (G : Nm) (ds : List He.DefD) : Tb where
  fns := ds.map (fnI G)
  init := G.cls.map fun c => idxM c "__init__" G.fns
  met := G.cls.map fun c => G.mets.map fun m => idxM c m G.fns
  sub := G.cls.map fun c => G.cls.map fun d => isSub b 8 c d
  xsub := G.exs.map fun c => (G.exs.map fun d => isSub b 8 c d) ++ [true]
  tks := ds.map (tkOf G)
/-! ### what is known behind the top -/
def clTB (K : PySem.W.Frag) (C : Addr) : Bool := He.eqO (PySem.W.findIn K (.ref C) "__class__") (some (some (.builtin "object.__class__"))) && (He.eqO (PySem.W.specialIn K (.builtin "object.__class__") "__get__") (some (some (.builtin "getset_descriptor.__get__"))) &&
  (decide (PySem.W.takesIn K (.builtin "object.__class__") = some true) && decide (PySem.W.mroIn K C (.type "object") = some true)))
theorem clTB_ok {K : PySem.W.Frag} {C : Addr} (h : clTB K C = true) : ClT K C := by
  obtain ⟨h1, h⟩ := He.ba h
  obtain ⟨h2, h⟩ := He.ba h
  obtain ⟨h3, h4⟩ := He.ba h
  exact ⟨He.eqO_ok h1, He.eqO_ok h2, of_decide_eq_true h3, of_decide_eq_true h4⟩
def mk0B (K : PySem.W.Frag) (C : Addr) : Bool := PySem.W.makesIn K C && (He.eqO (PySem.W.findIn K (.ref C) "__init__") (some (some (.builtin "object.__init__"))) && PySem.W.keepIn K (.ref C))
theorem mk0B_ok {K : PySem.W.Frag} {C : Addr} (h : mk0B K C = true) : Mk0 K C := by
  obtain ⟨h1, h⟩ := He.ba h
  obtain ⟨h2, h3⟩ := He.ba h
  exact ⟨h1, He.eqO_ok h2, h3⟩
def excB (K : PySem.W.Frag) (D : Addr) : Bool := He.eqO (PySem.W.findIn K (.ref D) "__getattribute__") (some (some (.builtin "BaseException.__getattribute__"))) && (He.eqO (PySem.W.findIn K (.ref D) "__getattr__") (some none) &&
  (decide (PySem.W.subIn K (.ref D) (.type "BaseException") = some true) && (PySem.W.hasDictIn K D && clTB K D)))
theorem excB_ok {K : PySem.W.Frag} {D : Addr} (h : excB K D = true) : ExcC K D := by
  obtain ⟨h1, h⟩ := He.ba h
  obtain ⟨h2, h⟩ := He.ba h
  obtain ⟨h3, h⟩ := He.ba h
  obtain ⟨h4, h5⟩ := He.ba h
  obtain ⟨k1, k2, k3, k4⟩ := clTB_ok h5
  exact ⟨He.eqO_ok h1, He.eqO_ok h2, of_decide_eq_true h3, h4, k1, k2, k3, k4⟩
/-- the heap's part is as the tables say -/
def exB (G : Nm) (T : Tb) (K : PySem.W.Frag) : Bool :=
  ((List.range G.cls.length).all fun c => clTB K (cA G K c) && (PySem.W.keepIn K (.ref (cA G K c)) && ((match T.init[c]? with | some none => mk0B K (cA G K c) | _ => true) &&
    (List.range G.cls.length).all fun d => decide (PySem.W.kitOne K (.ref (cA G K c)) (.ref (cA G K d)) = some (T.subB c d))))) &&
  ((List.range T.xsub.length).all fun e => excB K (xA G K e) && (List.range (G.exs.length + 1)).all fun d => match T.subX e d with
    | none => true
    | some b => decide (PySem.W.kitOne K (.ref (xA G K e)) (xV G K d) = some b) && (!decide (d < G.exs.length) || decide (PySem.W.exmOne K (.ref (xA G K e)) (.ref (xA G K d)) = some b))) &&
  (G.mkrs.all fun p => G.mkrs.all fun q => !decide ((He.cT K p.1).2 = (He.cT K q.1).2) || decide (p.2 = q.2))
/-- the tables are in order -/
def ordB (G : Nm) (T : Tb) (ds : List He.DefD) : Bool := ds.all defB && ndS G.flds && (G.mets.all fun m => !(G.flds.any fun f => decide (f = m))) && (T.xsub.all fun l => decide (l.length ≤ G.exs.length + 1)) &&
  ((List.range ds.length).all fun g => match (T.tks[g]?).join, ds[g]? with
    | some _, some d => d.at_.2.isNone && decide (d.name = d.at_.1) && decide (d.qual = d.at_.1)
    | _, _ => true) && ndS (G.mkrs.map fun p => p.2) && ds.all fun d => !(G.mkrs.any fun p => decide (p.1 = d.at_)) || G.mkrs.any fun p => decide (p.1 = d.at_) && decide (p.2 = lamQ d.qual)
def faOf (G : Nm) (T : Tb) : List He.Fa :=
  (G.fns.filterMap fun p => match p.2 with | none => some (He.Fa.glo p.1) | some _ => none) ++ bnames.map He.Fa.free ++ G.consts.map (fun p => He.Fa.int p.1 p.2) ++ (G.exs.flatMap fun x => [He.Fa.glo x, He.Fa.exc x]) ++
  (G.cls.flatMap fun x => [He.Fa.glo x, He.Fa.cls x] ++ G.flds.map fun f => He.Fa.noat x f) ++
  ((List.range G.cls.length).flatMap fun c => match G.cls[c]? with
    | none => []
    | some x => (match T.init[c]? with | some (some _) => [He.Fa.mkr x] | _ => []) ++ G.mets.flatMap fun m => if (idxM x m G.fns).isSome then [He.Fa.meth x m] else [])
/-- what is known of a program's defs -/
structure Stat (G : Nm) (T : Tb) (ds : List He.DefD) (K : PySem.W.Frag) (mg : Str → Option Value) : Prop where
  eF : G.fns = ds.map (·.at_)
  eT : T.fns = ds.map (fnI G)
  ok : ds.all defB = true
  defs : ∀ d ∈ ds, ∃ fd, FunD K d.name d.qual d.params d.body d.scope [] [] (He.fAd K d.at_) fd
  sta : Sta G T K mg
  exs : ∀ (c : Nat) (x : Str), G.exs[c]? = some x → ExcF G K mg c x
  mkq : ∀ d ∈ ds, (G.mkrs.any fun p => decide (p.1 = d.at_)) = true → (d.at_, lamQ d.qual) ∈ G.mkrs
  mkn : (G.mkrs.map fun p => p.2).Nodup
  mki : ∀ p ∈ tabL G K, ∀ q ∈ tabL G K, p.1 = q.1 → p.2 = q.2
section
variable {G : Nm} {T : Tb} {ds : List He.DefD} {K : PySem.W.Frag} {mg : Str → Option Value} {P : Program} {w : World}
theorem fA_eq (S : Stat G T ds K mg) {g : Nat} {d : He.DefD} (h : ds[g]? = some d) : fA G K g = He.fAd K d.at_ := by
  unfold fA
  rw [S.eF, List.getElem?_map, h]; rfl
theorem start_rel {K : PySem.W.Frag} {r : List Addr} {h : Hm} {H : Hp} (R : RelH G K r h H) : ∀ {ws : List W} {vs : List V} (n : Nat), RVs G K r H ws vs → RelS G K r (ws.map some ++ List.replicate n none) h (vs.map some ++ List.replicate n none) H := by
  intro ws vs n q
  refine ⟨R, fun i w hi => ?_, by simp [q.length]⟩
  by_cases hl : i < ws.length
  · rw [List.getElem?_append_left (by simpa using hl), List.getElem?_map] at hi
    cases z : ws[i]? with
    | none => rw [z] at hi; cases hi
    | some u =>
      rw [z] at hi
      simp at hi; subst hi
      obtain ⟨v, h1, h2⟩ := q.get z
      exact ⟨v, by rw [List.getElem?_append_left (by simp [q.length]; exact hl), List.getElem?_map, h1]; rfl, h2⟩
  · rw [List.getElem?_append_right (by simp; omega)] at hi
    rw [List.getElem?_replicate] at hi
    split at hi
    · cases hi
    · cases hi
theorem cK_ok (T : Tb) : ∀ k, (∀ g th h, (cbM T k).thkc g th h = .bad) ∨ ∃ j, k = j + 2 ∧ (cbM T k).thkc = runT (cbM T (j + 1)) ∧ (cbM T k).lcall = callM T j ∧ (cbM T k).lmake = mkM T j ∧ (cbM T k).lcods = codM T j
  | 0 => .inl fun _ _ _ => rfl
  | 1 => .inl fun g th h => by
    show (if 0 = 0 then R.bad else runT (cbM T 0) g th h) = .bad
    exact if_pos rfl
  | k + 2 => .inr ⟨k, rfl, thkc_eq T k, rfl, rfl, rfl⟩
/-- the tables of this base -/
def TabsB (G : Nm) (K : PySem.W.Frag) (mg : Str → Option Value) (base : Heap) : Prop := ∀ p ∈ G.mkrs, LamX.TabB base mg (He.cT K p.1).1 (He.cT K p.1).2
theorem mkr_ok (S : Stat G T ds K mg) {base : Heap} (B : TabsB G K mg base) {d : He.DefD} (hd : d ∈ ds) {fd : FuncData} (F : FunD K d.name d.qual d.params d.body d.scope [] [] (He.fAd K d.at_) fd) {f : Addr} {cdv : Value} {n : Nat} (hc : fd.code = cdv) :
    MkOk G K mg base (envOfC d.qual d.scope n f cdv).code ((envOfC d.qual d.scope n f cdv).qual ++ "<lambda>") ∨ (sxOf G d).ml = false := by
  have eq : (envOfC d.qual d.scope n f cdv).qual ++ "<lambda>" = lamQ d.qual := rfl
  have ecd : (envOfC d.qual d.scope n f cdv).code = cdv := rfl
  rw [eq, ecd]
  cases z : (G.mkrs.any fun p => decide (p.1 = d.at_)) with
  | false => exact .inr z
  | true =>
    have hm := S.mkq d hd z
    obtain ⟨oc, od, dV, kV, doc, pm, an, cdv2, ct, osl, efd, lk, hcd, _, _⟩ := F.ex
    obtain ⟨c, ec⟩ := He.codeIn_ref hcd
    have e1 : fd.code = .ref c := by rw [efd]; exact ec
    have e2 : He.codeOf K d.at_ = c := He.codeOf_eq lk e1
    have mem : ((He.cT K d.at_).2, lamQ d.qual) ∈ tabL G K := List.mem_map_of_mem (f := fun p : (Str × Option Str) × Str => ((He.cT K p.1).2, p.2)) hm
    have un : ∀ p ∈ tabL G K, p.1 = (He.cT K d.at_).2 → p.2 = lamQ d.qual := fun p hp e => S.mki p hp ((He.cT K d.at_).2, lamQ d.qual) mem e
    refine .inl ⟨c, (He.cT K d.at_).2, ?_, ?_, mem, un⟩
    · rw [← hc]; exact e1
    · have z2 := B _ hm
      have e3 : (He.cT K d.at_).1 = c := e2
      rw [e3] at z2
      exact z2
/-- a def at a level, given the levels below -/
theorem lev_at (S : Stat G T ds K mg) (k : Nat) (base : Heap) (B : TabsB G K mg base) (lo : ∀ j, j < k → Lev G T P w K mg base j) {g : Nat} {d : He.DefD} (zd : ds[g]? = some d) {fd : FuncData} (F : FunD K d.name d.qual d.params d.body d.scope [] [] (He.fAd K d.at_) fd) :
    Binds K fd (parN d.params) [] ∧ FnOk P w K mg base (L2.CX P w) k (He.fAd K d.at_) fd (parN d.params) (spM G K T k g) := by
  have hb := List.all_eq_true.mp S.ok d (List.mem_of_getElem? zd)
  unfold defB at hb
  simp only [Bool.and_eq_true] at hb
  obtain ⟨⟨⟨h1, h2⟩, h3⟩, h4⟩ := hb
  have sc := scope_ok h4
  have hnd : (parN d.params).Nodup := by rw [← sc.pre]; exact sc.nd.sublist (List.take_sublist _ _)
  have hB : Binds K fd (parN d.params) [] := F.bindsN fun kV doc pm an cdv ct us hl => bind_plain h1 rfl rfl hnd hl
  refine ⟨hB, ?_⟩
  have hT : T.fns[g]? = some (fnI G d) := by rw [S.eT, List.getElem?_map, zd]; rfl
  have hlen : ∀ k vs H Q E, spM G K T k g vs H Q E → vs.length = (parN d.params).length := by
    rintro k vs H Q E ⟨r, h, ws, R, q, p⟩
    rw [q.length]
    cases k with
    | zero => exact p.elim
    | succ k =>
      rw [callM_succ] at p
      unfold runF at p
      rw [cbM_tb, hT] at p
      by_cases e : ws.length = (fnI G d).np
      · exact e
      · simp only [if_neg e] at p; exact p.elim
  cases k with
  | zero => exact ⟨hlen 0, fun A outer s H args us vs Q E hr he hb hv hs => by obtain ⟨_, _, _, _, _, p⟩ := hs; exact p.elim⟩
  | succ k =>
    obtain ⟨oc, od, dV, kV, doc, pm, an, cdv, ct, osl, efd, lk, hcd, _, _⟩ := F.ex
    have hcode : fd.code = cdv := by rw [efd]
    have mk := fun n => mkr_ok S B (List.mem_of_getElem? zd) F (f := He.fAd K d.at_) (n := n) hcode
    subst efd
    refine fn_of lk hcd sc (hlen (k + 1)) fun A outer s H vs Q E hr hsp => ?_
    refine ⟨TSm G K (fun c dd _ H' => E c dd H') (exec (cbM T k) (seqS (d.body.map (compS G 40 (sxOf G d))))), ?_, ?_⟩
    · refine pss_of (X := cxOf (L2.CX P w) P w K mg base (slotN d) d.qual d.scope (He.fAd K d.at_) cdv A outer s H E) (fun st => soundS (T := T) (k := k) 40 (sxOf G d) _ _ ?_ st) d.body
      refine ⟨⟨⟨rfl, sc.nd, rfl, fun x hx => ⟨locB_ok hx, .inl rfl⟩, rfl⟩, hr, takes_of rfl rfl rfl rfl, S.sta, fun j hj => lo j (by omega), mk _, cbM_tb T k, rfl, rfl, rfl, ?_⟩, passes_of rfl, S.exs⟩
      exact cK_ok T k
    · obtain ⟨r, h, ws, R, q, p⟩ := hsp
      rw [callM_succ] at p
      unfold runF at p
      rw [cbM_tb, hT] at p
      by_cases e : ws.length = (fnI G d).np
      · simp only [if_pos e] at p
        refine ⟨r, ws.map some ++ List.replicate ((fnI G d).ns - ws.length) none, h, ?_, ?_⟩
        · have := start_rel R ((slotN d).length - vs.length) q
          unfold L2.start
          rw [show (fnI G d).ns - ws.length = (slotN d).length - vs.length by rw [q.length]; rfl]
          exact this
        · have p : PostG G K (relW G K) (fun c d _ H' => E c d H') [] r H (match exec (cbM T k) (seqS (d.body.map (compS G 40 (sxOf G d)))) (ws.map some ++ List.replicate ((fnI G d).ns - ws.length) none) h with
            | .rt w h1 => .ok w h1
            | .nx _ h1 => .ok .non h1
            | .ex c _ h1 => .exc c h1
            | _ => .bad) Q := p
          cases z : exec (cbM T k) (seqS (d.body.map (compS G 40 (sxOf G d)))) (ws.map some ++ List.replicate ((fnI G d).ns - ws.length) none) h with
          | nx f1 h1 => rw [z] at p; exact fun r' H' σ' e' S' => p r' H' .non e' S'.heap rfl
          | rt w1 h1 => rw [z] at p; exact fun r' H' v' e' R' q' => p r' H' v' e' R' q'
          | bk f1 h1 => rw [z] at p; exact p.elim
          | ct f1 h1 => rw [z] at p; exact p.elim
          | ex c f1 h1 => rw [z] at p; exact fun r' H' σ' e' S' => p r' H' e' S'.heap
          | bad => rw [z] at p; exact p.elim
      · simp only [if_neg e] at p; exact p.elim
/-- a lambda at a level -/
theorem lev_cod (S : Stat G T ds K mg) (k : Nat) (base : Heap) (lo : ∀ j, j < k → Lev G T P w K mg base j) (L : LamT) (np ns : Nat) (b : E) (ok : CodOk G L np ns b) (A : Around) (outer : List Env) (st : Shared) (H : Hp) (us : List Value) (vs : List V) (Q : VK) (En : XK) (a c : Addr) (hr : Room k A) (e0 : Env0 P w K mg base A outer st H)
    (ha : H a = some (LamO a L c)) (hc : H c = some (LamX.CodeO c L.qual)) (rv : Vals vs us) (hsp : spC G K T k np ns b vs H Q En) : codeAny (model P w) A (.call (.ref a) ⟨us, []⟩) (CR (L2.CX P w) outer P w H st Q En) st := by
  obtain ⟨r, h, ws, R, q, p⟩ := hsp
  cases k with
  | zero => exact p.elim
  | succ k =>
    rw [codM_succ] at p
    unfold runL at p
    by_cases e : ws.length = np
    · rw [if_pos e] at p
      obtain ⟨h1, h2, h3, h4, h5⟩ := lamB_ok ok.ok
      obtain ⟨n, eb⟩ := ok.b
      refine cod_run ok hr e0 ha hc rv (by rw [q.length, e]) fun F f1 f2 f3 f4 => ?_
      have O : Good G T k (cbM T k) (sxL L.params L.scope L.body) (NdefX.ncx (L2.CX P w) P w K mg base (sxL L.params L.scope L.body).N F a A outer st H En) (fun c d _ H' => En c d H') := by
        refine ⟨⟨rfl, h4.nd, f2, fun x hx => ?_, rfl⟩, hr.deeper _, takes_of rfl rfl rfl rfl, S.sta, fun j hj => lo j (by omega), .inr rfl, cbM_tb T k, rfl, rfl, rfl, ?_⟩
        · have hl : L.scope.names.lookup x = some .local := by
            rcases locB_ok hx with z | z
            · exact z
            · exact absurd rfl (h5 _ (PySem.mem_of_lookup z))
          have hl2 : (NdefX.ncx (L2.CX P w) P w K mg base (sxL L.params L.scope L.body).N F a A outer st H En).env.scope.names.lookup x = some .local := by
            show F.scope.names.lookup x = _
            rw [f2]; exact hl
          exact ⟨.inl hl2, .inr hl2⟩
        · exact cK_ok T k
      have pe := (soundAll k n (cbM T k) _ _ _ O L.body).v
      refine pe_weak pe ?_
      rintro σ H' Q' ⟨e1, e2, e3⟩
      subst e1 e2 e3
      refine ⟨r, ws.map some ++ List.replicate (ns - ws.length) none, h, ?_, ?_⟩
      · have z := start_rel R ((sxL L.params L.scope L.body).N.length - vs.length) q
        have ez : NdefX.startF (sxL L.params L.scope L.body).N vs [] = vs.map some ++ List.replicate ((sxL L.params L.scope L.body).N.length - vs.length) none := by
          unfold NdefX.startF; simp
        rw [ez, ok.ns, show ws.length = vs.length from q.length.symm]
        exact z
      · rw [← eb]
        cases z : ev (cbM T k) b (ws.map some ++ List.replicate (ns - ws.length) none) h with
        | ok w1 h1 => rw [z] at p; exact p
        | exc c1 h1 => rw [z] at p; exact p
        | bad => rw [z] at p; exact p
    · rw [if_neg e] at p; exact p.elim
theorem lev_ok (S : Stat G T ds K mg) (base : Heap) (B : TabsB G K mg base) : ∀ (k : Nat), Lev G T P w K mg base k := fun k => Nat.strongRecOn k fun k lo => by
  refine ⟨fun g p hg => ?_, fun L np ns b ok A outer st H us vs Q En a c hr e0 ha hc rv hsp => lev_cod S k base lo L np ns b ok A outer st H us vs Q En a c hr e0 ha hc rv hsp⟩
  rw [S.eF, List.getElem?_map] at hg
  cases zd : ds[g]? with
  | none => rw [zd] at hg; cases hg
  | some d =>
    obtain ⟨fd, F⟩ := S.defs d (List.mem_of_getElem? zd)
    obtain ⟨h1, h2⟩ := lev_at S k base B lo zd F
    exact ⟨fd, _, h1, by rw [fA_eq S zd]; exact h2⟩
theorem lev_fn (S : Stat G T ds K mg) (base : Heap) (B : TabsB G K mg base) (k : Nat) {g : Nat} {d : He.DefD} (zd : ds[g]? = some d) {fd : FuncData} (F : FunD K d.name d.qual d.params d.body d.scope [] [] (He.fAd K d.at_) fd) :
    FnOk P w K mg base (L2.CX P w) k (He.fAd K d.at_) fd (parN d.params) (spM G K T k g) := (lev_at S k base B (fun j _ => lev_ok S base B j) zd F).2
theorem fn_noexc {base : Heap} {k : Nat} {f : Addr} {fd : FuncData} {ps : List Str} {sp : Sp} (F : FnOk P w K mg base (L2.CX P w) k f fd ps sp) : FnOk P w K mg base CX0 k f fd ps (fun vs H Q _ => sp vs H Q fun _ _ _ => False) := by
  refine ⟨fun vs H Q _ q => F.len vs H Q _ q, fun A outer s H args us vs Q E hr he hb hv hs => ?_⟩
  refine codeAny_mono (F.run A outer s H args us vs Q _ hr he hb hv hs) fun r s' h => ?_
  cases r with
  | ok fl => cases fl <;> exact h
  | error e =>
    obtain ⟨_, _, _, _, _, _, _, _, _, _, _, _, z⟩ := h
    exact z.elim
end
end WL

namespace WL
open PySem PySem.Spec PyProof.Rows L2
theorem all_range {n : Nat} {f : Nat → Bool} (h : (List.range n).all f = true) {i : Nat} (hi : i < n) : f i = true := List.all_eq_true.mp h i (List.mem_range.mpr hi)
theorem subX_lt {T : Tb} {e d : Nat} {b : Bool} (h : T.subX e d = some b) : e < T.xsub.length ∧ ∃ l, T.xsub[e]? = some l ∧ d < l.length := by
  unfold Tb.subX at h
  cases z : T.xsub[e]? with
  | none => rw [z] at h; cases h
  | some l =>
    rw [z] at h
    exact ⟨(List.getElem?_eq_some_iff.mp z).1, l, rfl, (List.getElem?_eq_some_iff.mp (show l[d]? = some b from h)).1⟩
theorem stat_of {b : List Stmt} {G : Nm} {T : Tb} {ds : List He.DefD} {w : World} {K : PySem.W.Frag} {h : Heap} {mg : Str → Option Value} (X : K.In h) (Gn : h.Ns mainGlobals mg) (eF : G.fns = ds.map (·.at_)) (eT : T = tbOf b G ds) (ord : ordB G T ds = true)
    (c : He.SaysX (faOf G T) ds [] (G.mkrs.map (·.1)) (exB G T) w h K) : Stat G T ds K mg := by
  have cd : He.SaysD (faOf G T) ds K := congrArg (fun z : He.AlT => z.1) c.t
  unfold ordB at ord
  simp only [Bool.and_eq_true] at ord
  obtain ⟨⟨⟨⟨⟨⟨ok, o1⟩, o2⟩, o3⟩, o4⟩, o5⟩, o6⟩ := ord
  have ex := c.more
  unfold exB at ex
  simp only [Bool.and_eq_true] at ex
  obtain ⟨⟨x1, x2⟩, x3⟩ := ex
  have fct : ∀ f ∈ faOf G T, f.ok K = true := fun f hf => cd.facts hf
  have hdef : ∀ d ∈ ds, ∃ fd, FunD K d.name d.qual d.params d.body d.scope [] [] (He.fAd K d.at_) fd := fun d hd => by
    obtain ⟨fd, F⟩ := cd.defs hd
    have hb := List.all_eq_true.mp ok d hd
    unfold defB at hb
    simp only [Bool.and_eq_true, List.isEmpty_iff] at hb
    have e1 : d.dvs K = [] := by unfold He.DefD.dvs; rw [hb.1.1.2]; rfl
    have e2 : d.kws K = [] := by unfold He.DefD.kws; rw [hb.1.2]; rfl
    rw [e1, e2] at F
    exact ⟨fd, F⟩
  have fAeq : ∀ (g : Nat) (p : Str × Option Str), G.fns[g]? = some p → fA G K g = He.fAd K p := fun g p hg => by unfold fA; rw [hg]
  have cAeq : ∀ (g : Nat) (p : Str), G.cls[g]? = some p → cA G K g = He.ga K p := fun g p hg => by unfold cA; rw [hg]
  have xAeq : ∀ (g : Nat) (p : Str), G.exs[g]? = some p → xA G K g = He.ga K p := fun g p hg => by unfold xA; rw [hg]
  have dAt : ∀ (g : Nat) (p : Str × Option Str), G.fns[g]? = some p → ∃ d, ds[g]? = some d ∧ d.at_ = p := fun g p hg => by
    rw [eF, List.getElem?_map] at hg
    cases zd : ds[g]? with
    | none => rw [zd] at hg; cases hg
    | some d => rw [zd] at hg; exact ⟨d, rfl, Option.some.inj hg⟩
  have fnsT : T.fns = ds.map (fnI G) := by rw [eT]; rfl
  have iniT : T.init = G.cls.map fun c => idxM c "__init__" G.fns := by rw [eT]; rfl
  have metT : T.met = G.cls.map fun c => G.mets.map fun m => idxM c m G.fns := by rw [eT]; rfl
  have tksT : T.tks = ds.map (tkOf G) := by rw [eT]; rfl
  -- where the facts of a class stand
  have mC : ∀ (x : Str), x ∈ G.cls → (He.Fa.glo x).ok K = true ∧ (He.Fa.cls x).ok K = true ∧ ∀ f ∈ G.flds, (He.Fa.noat x f).ok K = true := fun x hx => by
    have mem : ∀ f ∈ ([He.Fa.glo x, He.Fa.cls x] ++ G.flds.map fun f => He.Fa.noat x f), f ∈ faOf G T := fun f hf => by
      unfold faOf
      exact List.mem_append_left _ (List.mem_append_right _ (List.mem_flatMap.mpr ⟨x, hx, hf⟩))
    exact ⟨fct _ (mem _ (by simp)), fct _ (mem _ (by simp)), fun f hf => fct _ (mem _ (List.mem_append_right _ (List.mem_map.mpr ⟨f, hf, rfl⟩)))⟩
  have mM : ∀ (c : Nat) (x : Str), G.cls[c]? = some x → (∀ i, T.init[c]? = some (some i) → (He.Fa.mkr x).ok K = true) ∧ ∀ m ∈ G.mets, (idxM x m G.fns).isSome = true → (He.Fa.meth x m).ok K = true := fun c x hx => by
    have hc : c < G.cls.length := (List.getElem?_eq_some_iff.mp hx).1
    have mem : ∀ f ∈ (match T.init[c]? with | some (some _) => [He.Fa.mkr x] | _ => []) ++ G.mets.flatMap (fun m => if (idxM x m G.fns).isSome then [He.Fa.meth x m] else []), f ∈ faOf G T := fun f hf => by
      unfold faOf
      refine List.mem_append_right _ (List.mem_flatMap.mpr ⟨c, List.mem_range.mpr hc, ?_⟩)
      rw [hx]; exact hf
    refine ⟨fun i hi => fct _ (mem _ (List.mem_append_left _ (by rw [hi]; simp))), fun m hm hs => fct _ (mem _ (List.mem_append_right _ (List.mem_flatMap.mpr ⟨m, hm, ?_⟩)))⟩
    rw [if_pos hs]; simp
  have sub1 : ∀ (e d : Nat) (b : Bool), T.subX e d = some b → excB K (xA G K e) = true ∧ PySem.W.kitOne K (.ref (xA G K e)) (xV G K d) = some b ∧ (d < G.exs.length → PySem.W.exmOne K (.ref (xA G K e)) (.ref (xA G K d)) = some b) := fun e d b z => by
    obtain ⟨he, l, hl, hd⟩ := subX_lt z
    have hd2 : d < G.exs.length + 1 := Nat.lt_of_lt_of_le hd (of_decide_eq_true (List.all_eq_true.mp o3 l (List.mem_of_getElem? hl)))
    obtain ⟨y1, y2⟩ := He.ba (all_range x2 he)
    have y3 := all_range y2 hd2
    rw [z] at y3
    obtain ⟨y4, y5⟩ := He.ba y3
    refine ⟨y1, of_decide_eq_true y4, fun hlt => ?_⟩
    rw [decide_eq_true hlt] at y5
    exact of_decide_eq_true (by simpa using y5)
  refine ⟨eF, fnsT, ok, hdef, ?_, fun e x hx => ?_, fun d hd hm => ?_, ndS_ok o5, fun p hp q hq e => ?_⟩
  · refine ⟨fun g x hg => ?_, fun g p hg => ?_, fun x hx => ?_, fun x i hx => ?_, fun c x hx => ?_, fun c k f hc hf => ?_, fun c m g mn hg hm => ?_, fun c i hi => ?_, fun c hi => ?_, fun c d hc hd => ?_, ndS_ok o1, fun m k x hm hf => ?_, fun e c b z hc => (sub1 e c b z).2.2 hc, fun e d b z => (sub1 e d b z).2.1, fun e d b z => excB_ok (sub1 e d b z).1, fun c x hx => ?_, fun g p hg => ?_, fun g tk hg => ?_⟩
    · rw [fAeq g _ hg]
      refine He.glo_ok X Gn (fct (.glo x) ?_)
      unfold faOf
      exact List.mem_append_left _ (List.mem_append_left _ (List.mem_append_left _ (List.mem_append_left _ (List.mem_append_left _ (List.mem_filterMap.mpr ⟨(x, none), List.mem_of_getElem? hg, rfl⟩)))))
    · rw [fAeq g _ hg]
      obtain ⟨d, zd, ed⟩ := dAt g p hg
      obtain ⟨fd, F⟩ := hdef d (List.mem_of_getElem? zd)
      rw [← ed]; exact F.kp
    · refine He.free_ok X Gn (fct (.free x) ?_)
      unfold faOf
      exact List.mem_append_left _ (List.mem_append_left _ (List.mem_append_left _ (List.mem_append_left _ (List.mem_append_right _ (List.mem_map.mpr ⟨x, hx, rfl⟩)))))
    · refine He.int_ok X Gn (fct (.int x i) ?_)
      unfold faOf
      exact List.mem_append_left _ (List.mem_append_left _ (List.mem_append_left _ (List.mem_append_right _ (List.mem_map.mpr ⟨(x, i), PySem.mem_of_lookup hx, rfl⟩))))
    · have hc : c < G.cls.length := (List.getElem?_eq_some_iff.mp hx).1
      obtain ⟨f1, f2, f3⟩ := mC x (List.mem_of_getElem? hx)
      obtain ⟨y1, y2⟩ := He.ba (all_range x1 hc)
      obtain ⟨y3, y4⟩ := He.ba y2
      rw [cAeq c x hx] at y1 y3 ⊢
      exact ⟨He.glo_ok X Gn f1, He.cls_ok f2, clTB_ok y1, y3⟩
    · have hx : G.cls[c]? = some G.cls[c] := List.getElem?_eq_getElem hc
      rw [cAeq c _ hx]
      exact He.noat_ok ((mC _ (List.mem_of_getElem? hx)).2.2 f (List.mem_of_getElem? hf))
    · unfold Tb.metI at hg
      rw [metT, List.getElem?_map] at hg
      cases hx : G.cls[c]? with
      | none => rw [hx] at hg; cases hg
      | some x =>
        rw [hx] at hg
        simp only [Option.map_some, Option.bind_some, List.getElem?_map, hm] at hg
        have hg : idxM x mn G.fns = some g := by simpa using hg
        have hat := idxM_get hg
        have f1 := (mM c x hx).2 mn (List.mem_of_getElem? hm) (by rw [hg]; rfl)
        rw [cAeq c x hx, fAeq g _ hat]
        exact ⟨He.meth_ok f1, (List.getElem?_eq_some_iff.mp hx).1, (List.getElem?_eq_some_iff.mp hat).1⟩
    · have hi2 := hi
      rw [iniT, List.getElem?_map] at hi2
      cases hx : G.cls[c]? with
      | none => rw [hx] at hi2; cases hi2
      | some x =>
        rw [hx] at hi2
        have hg : idxM x "__init__" G.fns = some i := Option.some.inj hi2
        have hat := idxM_get hg
        have f1 := (mM c x hx).1 i hi
        rw [cAeq c x hx, fAeq i _ hat]
        exact ⟨He.mkr_ok f1, (List.getElem?_eq_some_iff.mp hat).1⟩
    · have hc : c < G.cls.length := by
        have z := (List.getElem?_eq_some_iff.mp hi).1
        rw [iniT, List.length_map] at z
        exact z
      obtain ⟨y1, y2⟩ := He.ba (all_range x1 hc)
      obtain ⟨y3, y4⟩ := He.ba y2
      obtain ⟨y5, y6⟩ := He.ba y4
      rw [hi] at y5
      exact mk0B_ok y5
    · obtain ⟨y1, y2⟩ := He.ba (all_range x1 hc)
      obtain ⟨y3, y4⟩ := He.ba y2
      obtain ⟨y5, y6⟩ := He.ba y4
      exact of_decide_eq_true (all_range y6 hd)
    · have z := List.all_eq_true.mp o2 x (List.mem_of_getElem? hm)
      rw [show (G.flds.any fun f => decide (f = x)) = true from List.any_eq_true.mpr ⟨x, List.mem_of_getElem? hf, by simp⟩] at z
      cases z
    · rw [xAeq c x hx]
      refine He.glo_ok X Gn (fct _ ?_)
      unfold faOf
      exact List.mem_append_left _ (List.mem_append_left _ (List.mem_append_right _ (List.mem_flatMap.mpr ⟨x, List.mem_of_getElem? hx, by simp⟩)))
    · obtain ⟨d, zd, ed⟩ := dAt g p hg
      obtain ⟨fd, F⟩ := hdef d (List.mem_of_getElem? zd)
      refine ⟨d, fd, ed, ?_, List.all_eq_true.mp ok d (List.mem_of_getElem? zd), by rw [fnsT, List.getElem?_map, zd]; rfl⟩
      rw [fAeq g p hg, ← ed]; exact F
    · rw [tksT, List.getElem?_map] at hg
      cases zd : ds[g]? with
      | none => rw [zd] at hg; cases hg
      | some d =>
        rw [zd] at hg
        have hk : tkOf G d = some tk := Option.some.inj hg
        have hgl : g < ds.length := (List.getElem?_eq_some_iff.mp zd).1
        have z := all_range o4 hgl
        have e1 : (T.tks[g]?).join = some tk := by rw [tksT, List.getElem?_map, zd]; simp [hk]
        rw [e1, zd] at z
        simp only [Bool.and_eq_true, decide_eq_true_eq, Option.isNone_iff_eq_none] at z
        obtain ⟨fd, F⟩ := hdef d (List.mem_of_getElem? zd)
        have hat : G.fns[g]? = some (d.at_.1, none) := by
          rw [eF, List.getElem?_map, zd]
          show some d.at_ = _
          rw [← z.1.1]
        refine ⟨d.at_.1, d, fd, hat, z.1.2, z.2, ?_, List.all_eq_true.mp ok d (List.mem_of_getElem? zd), hk⟩
        have ea : fA G K g = He.fAd K d.at_ := by unfold fA; rw [eF, List.getElem?_map, zd]; rfl
        rw [ea]; exact F
  · have hm : x ∈ G.exs := List.mem_of_getElem? hx
    have mem : ∀ f ∈ [He.Fa.glo x, He.Fa.exc x], f ∈ faOf G T := fun f hf => by
      unfold faOf
      exact List.mem_append_left _ (List.mem_append_left _ (List.mem_append_right _ (List.mem_flatMap.mpr ⟨x, hm, hf⟩)))
    have f1 : (He.Fa.glo x).ok K = true := fct _ (mem _ (by simp))
    have f2 : (He.Fa.exc x).ok K = true := fct _ (mem _ (by simp))
    obtain ⟨k1, k2, k3, k4⟩ := He.exc_ok f2
    rw [← xAeq e x hx] at k1 k2 k3 k4
    exact ⟨by rw [xAeq e x hx]; exact He.glo_ok X Gn f1, k1, k2, k3, k4⟩
  · have z := List.all_eq_true.mp o6 d hd
    rw [hm] at z
    obtain ⟨p, hp, z2⟩ := List.any_eq_true.mp (show (G.mkrs.any fun p => decide (p.1 = d.at_) && decide (p.2 = lamQ d.qual)) = true by simpa using z)
    simp only [Bool.and_eq_true, decide_eq_true_eq] at z2
    have e : p = (d.at_, lamQ d.qual) := Prod.ext z2.1 z2.2
    rw [← e]; exact hp
  · obtain ⟨p0, hp0, rfl⟩ := List.mem_map.mp hp
    obtain ⟨q0, hq0, rfl⟩ := List.mem_map.mp hq
    have z := List.all_eq_true.mp (List.all_eq_true.mp x3 p0 hp0) q0 hq0
    have e : (He.cT K p0.1).2 = (He.cT K q0.1).2 := e
    rw [decide_eq_true e] at z
    exact of_decide_eq_true (by simpa using z)
/-- the law's def, from the machine's run: no lambda is made -/
theorem law_sp {G : Nm} {T : Tb} {K : PySem.W.Frag} {k g n : Nat} (nt : G.mkrs = []) (run : ∀ ns : List Int, ns.length ≤ n → ∃ h, callM T k g [.scr ns] [] = .ok (.bl true) h) (H : Hp) (a : Addr) (ns : List Int) (hl : ns.length ≤ n) (hO : Only H) (hS : SqL K H a (ns.map V.int)) :
    (fun vs H Q (_ : XK) => spM G K T k g vs H Q fun _ _ _ => False) [.ref a] H (fun v _ => v = .bl true) fun _ _ _ => False := by
  obtain ⟨h, e⟩ := run ns hl
  have q : RV G K [] H (.scr ns) (.ref a) := by
    refine ⟨a, rfl, ?_⟩
    rcases hS with (hS | ⟨o, hS⟩) | hS
    · rcases hO a with z | ⟨o, xs, z⟩
      · rw [hS] at z; cases z
      · rw [hS] at z; cases z
    · exact .inl ⟨o, hS⟩
    · exact .inr hS
  have tb : LamX.Tabs (tabL G K) H := fun p hp => by unfold tabL at hp; rw [nt] at hp; cases hp
  refine ⟨[], [], [.scr ns], ⟨rfl, fun i j a h => by simp at h, fun n a o h => by simp at h, tb⟩, ⟨_, _, rfl, q, rfl⟩, ?_⟩
  rw [e]
  intro r' H' v e' R' qv
  exact qv
/-- .. with lambdas -/
theorem law_spT {G : Nm} {T : Tb} {K : PySem.W.Frag} {k g n : Nat} (run : ∀ ns : List Int, ns.length ≤ n → (∃ h, callM T k g [.scr ns] [] = .ok (.bl true) h) ∧ ∃ h, callM T k g [.ref 0] [.lst (ns.map W.int)] = .ok (.bl true) h) (H : Hp) (a : Addr) (ns : List Int) (hl : ns.length ≤ n)
    (hT : ∀ p ∈ (G.mkrs.map fun p => He.cT K p.1), H p.2 = some (.tbl #[])) (hS : SqL K H a (ns.map V.int)) :
    (fun vs H Q (_ : XK) => spM G K T k g vs H Q fun _ _ _ => False) [.ref a] H (fun v _ => v = .bl true) fun _ _ _ => False := by
  obtain ⟨⟨h1, e1⟩, ⟨h2, e2⟩⟩ := run ns hl
  have tb : LamX.Tabs (tabL G K) H := fun p hp => by
    obtain ⟨p0, hp0, rfl⟩ := List.mem_map.mp hp
    exact LamX.TabS.nil (hT _ (List.mem_map.mpr ⟨p0, hp0, rfl⟩))
  have scr : RV G K [] H (.scr ns) (.ref a) → (fun vs H Q (_ : XK) => spM G K T k g vs H Q fun _ _ _ => False) [.ref a] H (fun v _ => v = .bl true) fun _ _ _ => False := fun q => by
    refine ⟨[], [], [.scr ns], ⟨rfl, fun i j a h => by simp at h, fun n a o h => by simp at h, tb⟩, ⟨_, _, rfl, q, rfl⟩, ?_⟩
    rw [e1]
    intro r' H' v e' R' qv
    exact qv
  rcases hS with (hS | ⟨o, hS⟩) | hS
  · refine ⟨[a], [.lst (ns.map W.int)], [.ref 0], ⟨rfl, fun i j b hi hj => ?_, fun n b o hn ho => ?_, tb⟩, ⟨_, _, rfl, ⟨a, rfl, rfl⟩, rfl⟩, ?_⟩
    · cases i with
      | zero =>
        cases j with
        | zero => rfl
        | succ j => simp at hj
      | succ i => simp at hi
    · cases n with
      | zero =>
        simp at hn ho
        subst hn ho
        exact ⟨_, hS, RVs.ints ns⟩
      | succ n => simp at hn
    · rw [e2]
      intro r' H' v e' R' qv
      exact qv
  · exact scr ⟨a, rfl, .inl ⟨o, hS⟩⟩
  · exact scr ⟨a, rfl, .inr hS⟩
/-- the walk of a law whose defs make lambdas -/
theorem walk_T {l : PySem.W.OpenLaw} {n k : Nat} {q : Program} {loose : List Str} {XP : (Str → Option Value) → Heap → Prop} {YP : World → Heap → Prop} {d : DefRec} {x : Str} (hn : l.most = some n) (hn2 : n ≤ sizeLine) (hdf : d.params.defaults = []) (hr : Room k callerA)
    (F : ∀ (w : World) (mg : Str → Option Value) (fa : Addr) (h : Heap), YP w h → h.Ns mainGlobals mg → mg d.name = some (.ref fa) →
      ∃ (K : PySem.W.Frag) (fd : FuncData) (cs : List (Addr × Addr)) (sp : Sp), K.In h ∧ (∀ p ∈ cs, h.get? p.2 = some { cls := .none, data := .fields #[] }) ∧ (∀ p ∈ cs, K.lookup p.2 = none) ∧ (∀ p ∈ cs, PySem.W.CodeHd h p.1 p.2) ∧ (∀ (s : Shared) (u : Value), BindsTo s fd ⟨[u], []⟩ [(x, u)]) ∧
        (∀ (H : Hp) (a : Addr) (ns : List Int), ns.length ≤ n → (∀ p ∈ cs, H p.2 = some (.tbl #[])) → SqL K H a (ns.map V.int) → sp [.ref a] H (fun v _ => v = .bl true) fun _ _ _ => False) ∧
        ∀ base : Heap, K.In base → base.Ns mainGlobals mg → (∀ p ∈ cs, LamX.TabB base mg p.1 p.2) → FnOk l.prog w K mg base L2.CX0 k fa fd [x] sp) :
    PySem.W.WalkO q loose XP YP l.row.toRowW d [] (fun f vs => PySem.call f vs) := by
  refine Att.attach_call hn hdf fun w s0 s1 mg mb fa o pm cd doc a vs ns G Y ho hd hcd hmg hobj hints hlen hg => ?_
  obtain ⟨K, fd, cs, sp, KX, h1, h2, h3, hb, hsp, hF⟩ := F w mg fa _ Y G.T.g hmg
  exact LamX.law_callTs KX G.T.g G.T.b G.T.builtins G.T.nolimit hg h1 h2 h3 G.T.bmain hobj hints (Nat.le_trans hlen hn2) hr hF hb (fun H hH hS => hsp H a ns hlen hH hS) fun H e s' z => z
end WL

/-! the machine over trees: no heap; lists of a def's own are changed in its variables -/
namespace WL
open PySem
inductive D where
  | non | bl (b : Bool) | int (i : Int) | str (s : Str) | tup (l : List D) | lst (l : List D) | dK (l : List (Int × D)) | dT (l : List (List Int × D)) | ins (c : Nat) (fs : List (Nat × D)) | fn (f : Nat) | cod (np ns : Nat) (b : E)
abbrev FD := List (Option D)
inductive RB (α : Type) where
  | ok (a : α) | exc (c : Nat) | bad
def RB.bind {α β : Type} (r : RB α) (f : α → RB β) : RB β := match r with
  | .ok a => f a
  | .exc c => .exc c
  | .bad => .bad
inductive RTB where
  | nx (f : FD) | rt (d : D) | bk (f : FD) | ct (f : FD) | ex (c : Nat) | bad
def RB.asS {α : Type} (r : RB α) (k : α → RTB) : RTB := match r with
  | .ok a => k a
  | .exc c => .ex c
  | .bad => .bad
/-- what a level calls -/
structure CbB where
  tb : Tb
  call : Nat → List D → RB D
  make : Nat → List D → RB D
  dcall : Nat → List D → RB D := fun _ _ => .bad
  dmake : Nat → List D → RB D := fun _ _ => .bad
  lcall : Nat → List D → RB D := fun _ _ => .bad
  lmake : Nat → List D → RB D := fun _ _ => .bad
  thkc : Nat → RB D → RB D := fun _ _ => .bad
  cods : Nat → Nat → E → List D → RB D := fun _ _ _ _ => .bad
  dcods : Nat → Nat → E → List D → RB D := fun _ _ _ _ => .bad
  lcods : Nat → Nat → E → List D → RB D := fun _ _ _ _ => .bad
  xc : Option Nat := none
  nmake : Nat → List D → RB D := fun _ _ => .bad
  fs : List Nat := []
def lowB (C : CbB) : CbB := { tb := C.tb, call := C.lcall, make := C.lmake, cods := C.lcods }
/-! ### values -/
def seqD : D → Option (List D)
  | .tup l => some l
  | .lst l => some l
  | _ => none
def lstD : D → Option (List D)
  | .lst l => some l
  | _ => none
def dataOf : Nat → D → Option PyData
  | 0, _ => none
  | n + 1, d => match d with
    | .non => some .none
    | .bl b => some (.bool b)
    | .int i => some (.int i)
    | .str s => if PyData.strOk s then some (.str s) else none
    | .tup l => (allO (l.map (dataOf n))).map PyData.tuple
    | .lst l => (allO (l.map (dataOf n))).map PyData.list
    | _ => none
def eqD (a b : D) : Option Bool := (dataOf deep a).bind fun d => (dataOf deep b).map fun e => PyData.eqv d e
def flatD : D → Bool
  | .non => true | .bl _ => true | .int _ => true | .str _ => true | _ => false
def eqFD : D → D → Bool
  | .non, .non => true
  | .bl a, .bl b => a == b
  | .bl a, .int b => (if a then 1 else 0) == b
  | .int a, .bl b => a == (if b then 1 else 0)
  | .int a, .int b => a == b
  | .str a, .str b => a == b
  | _, _ => false
def inD (x : D) (l : List D) : Bool := l.any fun y => eqFD y x
def intsD : List D → Option (List Int)
  | [] => some []
  | .int i :: r => (intsD r).map fun l => i :: l
  | _ :: _ => none
def blsD : List D → Option (List Bool)
  | [] => some []
  | .bl i :: r => (blsD r).map fun l => i :: l
  | _ :: _ => none
def atD (xs : List D) (i : Int) : Option D := (ixN xs.length i).bind fun j => xs[j]?
def cutD (xs : List D) (lo hi : Option Int) : List D := (xs.drop (sIx xs.length 0 lo)).take (sIx xs.length xs.length hi - sIx xs.length 0 lo)
def lookD {κ : Type} [DecidableEq κ] (l : List (κ × D)) (k : κ) : Option D := (l.find? fun p => decide (p.1 = k)).map (·.2)
def putD {κ : Type} [DecidableEq κ] (l : List (κ × D)) (k : κ) (w : D) : List (κ × D) :=
  if (l.any fun p => decide (p.1 = k)) = true then l.map (fun p => if p.1 = k then (p.1, w) else p) else l ++ [(k, w)]
def putDN (k : Nat) (w : D) : List (Nat × D) → List (Nat × D)
  | [] => [(k, w)]
  | (j, x) :: r => if j = k then (j, w) :: r else (j, x) :: putDN k w r
def isNonD : D → Bool
  | .non => true
  | _ => false
/-! ### operators -/
def binB (o : Operator) (x y : D) : RB D := match o, x, y with
  | .Add, .int i, .int j => .ok (.int (i + j))
  | .Sub, .int i, .int j => .ok (.int (i - j))
  | .Mult, .int i, .int j => if i.natAbs.log2 + j.natAbs.log2 < 1000000 then .ok (.int (i * j)) else .bad
  | .FloorDiv, .int i, .int j => if 0 < j ∧ j.natAbs.log2 < 9000 then .ok (.int (i / j)) else .bad
  | .Mod, .int i, .int j => if 0 < j then .ok (.int (i % j)) else .bad
  | .Pow, .int i, .int j => if 0 ≤ j ∧ j ≤ 1000000 ∧ i.natAbs < 2 ^ 64 then .ok (.int (i ^ j.toNat)) else .bad
  | .RShift, .int i, .int j => if 0 ≤ j then .ok (.int (i / 2 ^ j.toNat)) else .bad
  | .Add, .lst xs, .lst ys => if xs.length + ys.length ≤ line then .ok (.lst (xs ++ ys)) else .bad
  | .Mult, .lst xs, .int k => if -(2 ^ 63) ≤ k ∧ k < 2 ^ 63 ∧ xs.length * k.toNat ≤ line then .ok (.lst (List.replicate k.toNat xs).flatten) else .bad
  | _, _, _ => .bad
def cmpB (o : CmpOp) (x y : D) : Option Bool := match o with
  | .Eq => eqD x y
  | .NotEq => (eqD x y).map fun b => !b
  | .Lt => (match x, y with | .int i, .int j => some (decide (i < j)) | _, _ => none)
  | .LtE => (match x, y with | .int i, .int j => some (decide (i ≤ j)) | _, _ => none)
  | .Gt => (match x, y with | .int i, .int j => some (decide (j < i)) | _, _ => none)
  | .GtE => (match x, y with | .int i, .int j => some (decide (j ≤ i)) | _, _ => none)
  | .Is => (match x, y with | .bl a, .bl b => some (decide (a = b)) | x, .non => some (isNonD x) | _, _ => none)
  | .IsNot => (match x, y with | .bl a, .bl b => some (!decide (a = b)) | x, .non => some (!isNonD x) | _, _ => none)
  | .In => (match seqD y with | some l => if flatD x && l.all flatD then some (inD x l) else none | none => none)
  | .NotIn => (match seqD y with | some l => if flatD x && l.all flatD then some (!inD x l) else none | none => none)
def idxB (x i : D) : Option D := match x, i with
  | .lst l, .int k => atD l k
  | .dK l, .int k => lookD l k
  | .dT l, .tup ks => (match intsD ks with | some ks => lookD l ks | none => none)
  | .tup l, .int k => atD l k
  | _, _ => none
def sliB (x : D) (lo hi : Option Int) : RB D := match x with
  | .tup l => if sIx l.length 0 lo = 0 ∧ sIx l.length l.length hi = l.length then .bad else .ok (.tup (cutD l lo hi))
  | .lst l => .ok (.lst (cutD l lo hi))
  | _ => .bad
def bltLB (b : B) (l : List D) : RB D := match b with
  | .len => .ok (.int l.length)
  | .sum => (match intsD l with | some ns => .ok (.int ns.sum) | none => .bad)
  | .all => (match blsD l with | some bs => .ok (.bl (bs.all id)) | none => .bad)
  | .any => (match blsD l with | some bs => .ok (.bl (bs.any id)) | none => .bad)
  | .sorted => (match intsD l with
    | some ns => .ok (.lst ((sortI ns).map D.int))
    | none => .bad)
  | .max => (match intsD l with | some (n :: ns) => .ok (.int (ns.foldl max n)) | _ => .bad)
  | .list => .ok (.lst l)
  | _ => .bad
def bltB (b : B) (l : List D) : RB D := match b, l with
  | .abs, [.int i] => .ok (.int (if i < 0 then -i else i))
  | .max, [.int i, .int j] => .ok (.int (if j > i then j else i))
  | .min, [.int i, .int j] => .ok (.int (if j < i then j else i))
  | .len, [w] => (match seqD w with | some l => .ok (.int l.length) | none => .bad)
  | .list, [w] => (match seqD w with | some l => .ok (.lst l) | none => .bad)
  | .tuple, [w] => (match lstD w with | some l => .ok (.tup l) | none => .bad)
  | .sorted, [.dK l] => .ok (.lst ((sortI (l.map (·.1))).map D.int))
  | b, [.lst l] => bltLB b l
  | _, _ => .bad
def bmB (m : BM) (x : D) (l : List D) : RB D := match m, x, l with
  | .count, .lst xs, [.int k] => (match intsD xs with | some ns => .ok (.int (ns.count k : Nat)) | none => .bad)
  | .get, .dK t, [.int k, d] => .ok ((lookD t k).getD d)
  | .get, .dT t, [.tup ks, d] => (match intsD ks with | some ks => .ok ((lookD t ks).getD d) | none => .bad)
  | _, _, _ => .bad
def bmTyB (m : BM) (x : D) : Bool := match m, x with
  | .get, .dK _ => true
  | .get, .dT _ => true
  | .get, _ => false
  | _, .lst _ => true
  | _, _ => false
/-- own lists, changed -/
def chgB (m : BM) (x : D) (l : List D) : Option D := match m, x, l with
  | .append, .lst xs, [w] => if xs.length < line then some (.lst (xs ++ [w])) else none
  | .extend, .lst xs, [.lst ys] => if xs.length + ys.length ≤ line then some (.lst (xs ++ ys)) else none
  | .remove, .lst xs, [.int k] => (match (intsD xs).bind (remI k) with | some ns => some (.lst (ns.map D.int)) | none => none)
  | .clear, .lst xs, [] => some (.lst [])
  | .insert, .lst xs, [.int i, w] => if xs.length < line ∧ 0 ≤ i ∧ i < 2 ^ 63 then some (.lst (xs.take i.toNat ++ [w] ++ xs.drop i.toNat)) else none
  | .pop, .lst xs, [] => (match xs[xs.length - 1]? with | some _ => some (.lst xs.dropLast) | none => none)
  | _, _, _ => none
def setB (x i w : D) : Option D := match x, i with
  | .lst l, .int k => (ixN l.length k).map fun j => .lst (l.set j w)
  | .dK l, .int k => if l.length < line then some (.dK (putD l k w)) else none
  | .dT l, .tup ks => (match intsD ks with | some ks => if l.length < line then some (.dT (putD l ks w)) else none | none => none)
  | _, _ => none
def isiB (T : Tb) (w : D) (c : Cl) : Option Bool := match c with
  | .own d => (match w with
    | .ins k _ => some (T.subB k d)
    | _ => none)
  | c => (match w with
    | .non => some false
    | .bl _ => some (decide (c = .int) || decide (c = .bool))
    | .int _ => some (decide (c = .int))
    | .str _ => some (decide (c = .str))
    | .tup _ => some (decide (c = .tuple))
    | .lst _ => some (decide (c = .list))
    | .dK _ => some false
    | .dT _ => some false
    | _ => none)
/-! ### targets -/
def stD (i : Nat) (w : D) (f : FD) : Option FD := if i < f.length then some (f.set i (some w)) else none
mutual
def bindB : E → D → FD → Option FD
  | .v i, w, f => stD i w f
  | .tup l, .tup ws, f => bindBs l ws f
  | _, _, _ => none
def bindBs : E → List D → FD → Option FD
  | .nil, [], f => some f
  | .cons a r, w :: ws, f => (bindB a w f).bind fun f => bindBs r ws f
  | _, _, _ => none
end
def rngL (lo c : Int) (n : Nat) : List D := (List.range n).map fun (i : Nat) => D.int (lo + (i : Nat) * c)
def rngB : List D → Option (List D)
  | [.int j] => if -(2 ^ 62) ≤ j ∧ j < 2 ^ 62 then some (rngL 0 1 j.toNat) else none
  | [.int i, .int j] => if (-(2 ^ 62) ≤ i ∧ i < 2 ^ 62) ∧ -(2 ^ 62) ≤ j ∧ j < 2 ^ 62 then some (rngL i 1 (j - i).toNat) else none
  | [.int i, .int j, .int c] => if ((-(2 ^ 62) ≤ i ∧ i < 2 ^ 62) ∧ -(2 ^ 62) ≤ j ∧ j < 2 ^ 62) ∧ c = -1 then some (rngL i (-1) (i - j).toNat) else none
  | _ => none
def zipD (l m : List D) : List D := List.zipWith (fun x y => D.tup [x, y]) l m
def enuD : Nat → List D → List D
  | _, [] => []
  | n, x :: r => .tup [.int n, x] :: enuD (n + 1) r
def forB (b : FD → RTB) (bt : D → FD → Option FD) : List D → FD → RTB
  | [], f => .nx f
  | w :: r, f => match bt w f with
    | none => .bad
    | some f1 => match b f1 with
      | .nx f2 => forB b bt r f2
      | .ct f2 => forB b bt r f2
      | .bk f2 => .nx f2
      | x => x
def whlB (c : FD → RB D) (b : FD → RTB) : Nat → FD → RTB
  | 0, _ => .bad
  | m + 1, f => match c f with
    | .ok (.bl true) => (match b f with
      | .nx f2 => whlB c b m f2
      | .ct f2 => whlB c b m f2
      | .bk f2 => .nx f2
      | r => r)
    | .ok (.bl false) => .nx f
    | .ok _ => .bad
    | .exc c => .ex c
    | .bad => .bad
def lcB (c e : FD → RB D) (bt : D → FD → Option FD) (wf : FD) : List D → RB (List D)
  | [] => .ok []
  | w :: r => match bt w wf with
    | none => .bad
    | some f1 => match c f1 with
      | .ok (.bl true) => (match e f1 with
        | .ok d => (lcB c e bt wf r).bind fun ds => .ok (d :: ds)
        | _ => .bad)
      | .ok (.bl false) => lcB c e bt wf r
      | _ => .bad
def wipeB (f : FD) : List Nat → FD
  | [] => f
  | v :: vs => (wipeB f vs).set v none
def optB : RB (List D) → RB (Option Int)
  | .ok [] => .ok none
  | .ok [.int i] => .ok (some i)
  | .ok _ => .bad
  | .exc c => .exc c
  | .bad => .bad
/-! ### expressions -/
mutual
def evB (C : CbB) : E → FD → RB D
  | .v i, f => (match f[i]? with | some (some w) => .ok w | _ => .bad)
  | .non, _ => .ok .non
  | .bl b, _ => .ok (.bl b)
  | .int i, _ => .ok (.int i)
  | .str s, _ => .ok (.str s)
  | .fnv g, _ => .ok (.fn g)
  | .bin o a b, f => (evB C a f).bind fun x => (evB C b f).bind fun y => binB o x y
  | .neg a, f => (evB C a f).bind fun x => match x with | .int i => .ok (.int (-i)) | _ => .bad
  | .cmp o a b, f => (evB C a f).bind fun x => (evB C b f).bind fun y => match cmpB o x y with | some c => .ok (.bl c) | none => .bad
  | .chn o o' a b c, f => (evB C a f).bind fun x => (evB C b f).bind fun y => match cmpB o x y with
    | some true => (evB C c f).bind fun z => (match cmpB o' y z with | some c => .ok (.bl c) | none => .bad)
    | some false => .ok (.bl false)
    | none => .bad
  | .and a b, f => (evB C a f).bind fun x => match x with | .bl true => evB C b f | .bl false => .ok (.bl false) | _ => .bad
  | .or a b, f => (evB C a f).bind fun x => match x with | .bl false => evB C b f | .bl true => .ok (.bl true) | _ => .bad
  | .not a, f => (evB C a f).bind fun x => match x with | .bl b => .ok (.bl (!b)) | _ => .bad
  | .ife c a b, f => (evB C c f).bind fun x => match x with | .bl true => evB C a f | .bl false => evB C b f | _ => .bad
  | .tup l, f => (evsB C l f).bind fun ws => if ws.length ≤ line then .ok (.tup ws) else .bad
  | .lst l, f => (evsB C l f).bind fun ws => if ws.length ≤ line then .ok (.lst ws) else .bad
  | .dnew t, _ => .ok (if t then .dT [] else .dK [])
  | .idx a i, f => (evB C a f).bind fun x => (evB C i f).bind fun y => match idxB x y with | some w => .ok w | none => .bad
  | .sli a lo hi, f => (evB C a f).bind fun x => (optB (evsB C lo f)).bind fun l => (optB (evsB C hi f)).bind fun u => sliB x l u
  | .cal g l, f => (evsB C l f).bind fun ws => C.call g ws
  | .mk c l, f => (evsB C l f).bind fun ws => C.make c ws
  | .mth m o l, f => (evB C o f).bind fun x => match x with
    | .ins c fs => (match C.tb.metI c m with
      | some g => (evsB C l f).bind fun ws => C.call g (.ins c fs :: ws)
      | none => .bad)
    | _ => .bad
  | .blt b l, f => (evsB C l f).bind fun ws => bltB b ws
  | .bm m o l, f => (evB C o f).bind fun x => if bmTyB m x then (evsB C l f).bind fun ws => bmB m x ws else .bad
  | .fld o k, f => (evB C o f).bind fun x => match x with
    | .ins _ fs => (match lookD fs k with | some w => .ok w | none => .bad)
    | _ => .bad
  | .isi a c, f => (evB C a f).bind fun x => match isiB C.tb x c with | some b => .ok (.bl b) | none => .bad
  | .isx d, _ => (match C.xc.bind fun c => C.tb.subX c d with | some b => .ok (.bl b) | none => .bad)
  | .lc own t it cond e, f => (evIB C it f).bind fun l => if l.length ≤ line then (lcB (evCB C cond) (evB C e) (bindB t) (wipeB f own) l).bind fun ws => .ok (.lst ws) else .bad
  | .rev a, f => (evB C a f).bind fun x => match lstD x with | some l => .ok (.lst l.reverse) | none => .bad
  | .calv i l, f => (match f[i]? with
    | some (some (.fn g)) => (evsB C l f).bind fun ws => C.call g ws
    | some (some (.cod np ns b)) => (evsB C l f).bind fun ws => C.cods np ns b ws
    | _ => .bad)
  | .thk g b, f => C.thkc g (evB (lowB C) b f)
  | .lam np ns b, _ => .ok (.cod np ns b)
  | .agg b (.lc own t it cond e), f => (evIB C it f).bind fun l => if l.length ≤ line then (lcB (evCB C cond) (evB C e) (bindB t) (wipeB f own) l).bind fun ws => bltLB b ws else .bad
  | _, _ => .bad
def evsB (C : CbB) : E → FD → RB (List D)
  | .nil, _ => .ok []
  | .cons a r, f => (evB C a f).bind fun x => (evsB C r f).bind fun xs => .ok (x :: xs)
  | _, _ => .bad
def evIB (C : CbB) : E → FD → RB (List D)
  | .rng l, f => (evsB C l f).bind fun ws => match rngB ws with | some J => .ok J | none => .bad
  | .zip a b, f => (evB C a f).bind fun x => (evB C b f).bind fun y => match lstD x, lstD y with
    | some l, some m => .ok (zipD l m)
    | _, _ => .bad
  | .enu a, f => (evB C a f).bind fun x => match lstD x with
    | some l => .ok (enuD 0 l)
    | none => .bad
  | .sq e, f => (evB C e f).bind fun x => match seqD x with
    | some l => .ok l
    | none => .bad
  | _, _ => .bad
def evCB (C : CbB) : E → FD → RB D
  | .nil, _ => .ok (.bl true)
  | .cons e _, f => evB C e f
  | _, _ => .bad
end
/-! ### statements -/
def stAllB : List Nat → List D → FD → Option FD
  | [], [], f => some f
  | i :: is, w :: ws, f => (stD i w f).bind fun f => stAllB is ws f
  | _, _, _ => none
def execB (C : CbB) : S → FD → RTB
  | .nil, f => .nx f
  | .seq a r, f => (match execB C a f with
    | .nx f1 => execB C r f1
    | x => x)
  | .pas, f => .nx f
  | .exp (.bm m (.v i) l), f => (match f[i]? with
    | some (some x) => if bmTyB m x then (evsB C l f).asS fun ws => (match chgB m x ws with
      | some y => .nx (f.set i (some y))
      | none => .bad) else .bad
    | _ => .bad)
  | .exp e, f => (evB C e f).asS fun _ => .nx f
  | .ret e, f => (evB C e f).asS fun w => .rt w
  | .asg i e, f => (evB C e f).asS fun w => (match stD i w f with | some f1 => .nx f1 | none => .bad)
  | .unp t e, f => (evB C e f).asS fun w => (match bindB t w f with | some f1 => .nx f1 | none => .bad)
  | .par is es, f => (evsB C es f).asS fun ws => (match stAllB is ws f with | some f1 => .nx f1 | none => .bad)
  | .sub (.v i) k e, f => (evB C e f).asS fun w => (match f[i]? with
    | some (some x) => (evB C k f).asS fun y => (match setB x y w with | some z => .nx (f.set i (some z)) | none => .bad)
    | _ => .bad)
  | .aug i o e, f => (match f[i]? with
    | some (some x) => (evB C e f).asS fun y => (match o, x, y with
      | .Add, .int a, .int b => (match stD i (.int (a + b)) f with | some f1 => .nx f1 | none => .bad)
      | .Sub, .int a, .int b => (match stD i (.int (a - b)) f with | some f1 => .nx f1 | none => .bad)
      | _, _, _ => .bad)
    | _ => .bad)
  | .ife c a b, f => (evB C c f).asS fun w => (match w with
    | .bl true => execB C a f
    | .bl false => execB C b f
    | _ => .bad)
  | .whl c b, f => whlB (evB C c) (execB C b) loops f
  | .forS t it b, f => (evIB C it f).asS fun l => forB (execB C b) (bindB t) l f
  | .brk, f => .bk f
  | .cnt, f => .ct f
  | .rai c, _ => .ex c
  | _, _ => .bad
/-- the body of a making: fields are laid in turn; the new one itself is not read -/
def initB (C : CbB) : S → FD → List (Nat × D) → RB (List (Nat × D))
  | .nil, _, fs => .ok fs
  | .seq (.stf (.v 0) k e) r, f, fs => (evB C e f).bind fun w => if fs.length < 1000 then initB C r f (putDN k w fs) else .bad
  | .seq (.exp e) r, f, fs => (match e with
    | .bm _ _ _ => .bad
    | e => (evB C e f).bind fun _ => initB C r f fs)
  | _, _, _ => .bad
def runB (C : CbB) (no : List Nat) (ext : Nat → List D → RB D) (g : Nat) (ws : List D) : RB D := if no.contains g then ext g ws else match C.tb.fns[g]? with
  | some fi => if ws.length = fi.np then
      (match execB C fi.body (ws.map some ++ List.replicate (fi.ns - ws.length) none) with
      | .rt w => .ok w
      | .nx _ => .ok .non
      | .ex c => .exc c
      | _ => .bad)
    else .bad
  | none => .bad
def mkB (C : CbB) (c : Nat) (us : List D) : RB D := match C.tb.init[c]? with
  | some (some i) => (match C.tb.fns[i]? with
    | some fi => if us.length + 1 = fi.np then (initB C fi.body (none :: us.map some ++ List.replicate (fi.ns - (us.length + 1)) none) []).bind fun fs => .ok (.ins c fs) else .bad
    | none => .bad)
  | some none => (match us with
    | [] => .ok (.ins c [])
    | _ => .bad)
  | _ => .bad
def xcB (C : CbB) (e : Nat) : CbB := { C with xc := some e }
def runTB (C : CbB) (g : Nat) (th : RB D) : RB D := match C.tb.tks[g]? with
  | some (some tk) =>
    (evB C tk.e0 (List.replicate tk.ns none)).bind fun w0 => (match stD tk.x w0 (List.replicate tk.ns none) with
      | some f1 => (match th with
        | .ok _ => (match f1[tk.y]? with | some (some w) => .ok w | _ => .bad)
        | .exc e => (match C.tb.subX e tk.c with
          | some true => (match execB (xcB C e) tk.s (f1.set tk.i none) with
            | .nx f2 => (match (f2.set tk.i none)[tk.y]? with | some (some w) => .ok w | _ => .bad)
            | _ => .bad)
          | _ => .bad)
        | .bad => .bad)
      | none => .bad)
  | _ => .bad
def runLB (C : CbB) (np ns : Nat) (b : E) (ws : List D) : RB D := if ws.length = np then evB C b (ws.map some ++ List.replicate (ns - ws.length) none) else .bad
/-- calls and makings of a level -/
def cbB (T : Tb) (no fs : List Nat) (ext : Nat → Nat → List D → RB D) : Nat → CbB
  | 0 => { tb := T, call := fun _ _ => .bad, make := fun _ _ => .bad, fs := fs }
  | k + 1 => { tb := T, fs := fs, call := runB (cbB T no fs ext k) no (ext (k + 1)), make := (cbB T no fs ext k).nmake, nmake := mkB (cbB T no fs ext k), dcall := (cbB T no fs ext k).call, dmake := (cbB T no fs ext k).make, lcall := (cbB T no fs ext k).dcall, lmake := (cbB T no fs ext k).dmake, thkc := fun g th => if k = 0 then .bad else runTB (cbB T no fs ext k) g th, cods := runLB (cbB T no fs ext k), dcods := (cbB T no fs ext k).cods, lcods := (cbB T no fs ext k).dcods }
end WL

/-! a tree, found in a heap -/
namespace WL
open PySem
mutual
def Rep (h : Hm) : D → W → Prop
  | .non, w => w = .non
  | .bl b, w => w = .bl b
  | .int i, w => w = .int i
  | .str s, w => w = .str s
  | .fn f, w => w = .fn f
  | .cod a b c, w => w = .cod a b c
  | .tup l, w => ∃ ws, w = .tup ws ∧ Reps h l ws
  | .lst l, w => ∃ a ws, w = .ref a ∧ h[a]? = some (.lst ws) ∧ Reps h l ws
  | .dK l, w => ∃ a ws, w = .ref a ∧ h[a]? = some (.dK ws) ∧ RepK h l ws
  | .dT l, w => ∃ a ws, w = .ref a ∧ h[a]? = some (.dT ws) ∧ RepT h l ws
  | .ins c l, w => ∃ a ws, w = .ref a ∧ h[a]? = some (.ins c ws) ∧ RepN h l ws
def Reps (h : Hm) : List D → List W → Prop
  | [], ws => ws = []
  | d :: ds, ws => ∃ w r, ws = w :: r ∧ Rep h d w ∧ Reps h ds r
def RepK (h : Hm) : List (Int × D) → List (Int × W) → Prop
  | [], ws => ws = []
  | (k, d) :: ds, ws => ∃ w r, ws = (k, w) :: r ∧ Rep h d w ∧ RepK h ds r
def RepT (h : Hm) : List (List Int × D) → List (List Int × W) → Prop
  | [], ws => ws = []
  | (k, d) :: ds, ws => ∃ w r, ws = (k, w) :: r ∧ Rep h d w ∧ RepT h ds r
def RepN (h : Hm) : List (Nat × D) → List (Nat × W) → Prop
  | [], ws => ws = []
  | (k, d) :: ds, ws => ∃ w r, ws = (k, w) :: r ∧ Rep h d w ∧ RepN h ds r
end
/-! ### what is not named -/
mutual
def fr (a : Nat) : W → Prop
  | .ref b => b ≠ a
  | .tup l => frs a l
  | _ => True
def frs (a : Nat) : List W → Prop
  | [] => True
  | w :: r => fr a w ∧ frs a r
end
def frO (a : Nat) : O → Prop
  | .lst l => frs a l
  | .dK l => frs a (l.map (·.2))
  | .dT l => frs a (l.map (·.2))
  | .ins _ l => frs a (l.map (·.2))
def frH (a : Nat) (h : Hm) : Prop := ∀ (b : Nat) (o : O), h[b]? = some o → frO a o
/-- the value itself, or one that does not name it -/
def frT (a : Nat) (w : W) : Prop := w = .ref a ∨ fr a w
theorem fr.t {a : Nat} {w : W} (h : fr a w) : frT a w := .inr h
theorem frs_iff {a : Nat} : ∀ {l : List W}, frs a l ↔ ∀ w ∈ l, fr a w
  | [] => ⟨fun _ w h => by (cases h), fun _ => trivial⟩
  | x :: r => by
    rw [List.forall_mem_cons, ← frs_iff (l := r)]
    exact Iff.rfl
theorem frs.mem {a : Nat} {l : List W} {w : W} (h : frs a l) (m : w ∈ l) : fr a w := frs_iff.mp h w m
theorem frs.app {a : Nat} {l m : List W} (h : frs a l) (k : frs a m) : frs a (l ++ m) := frs_iff.mpr fun w hw => (List.mem_append.mp hw).elim h.mem k.mem
theorem frs.sub {a : Nat} {l m : List W} (h : frs a l) (k : ∀ w ∈ m, w ∈ l) : frs a m := frs_iff.mpr fun w hw => h.mem (k w hw)
theorem frs.ints {a : Nat} (ns : List Int) : frs a (ns.map W.int) := frs_iff.mpr fun w hw => by obtain ⟨n, _, rfl⟩ := List.mem_map.mp hw; trivial
theorem frH_app {a : Nat} {h t : Hm} (x : frH a h) (y : frH a t) : frH a (h ++ t) := fun b o e => by
  by_cases c : b < h.length
  · rw [List.getElem?_append_left c] at e; exact x b o e
  · rw [List.getElem?_append_right (Nat.le_of_not_lt c)] at e; exact y _ o e
theorem frH_l {a : Nat} {h t : Hm} (x : frH a (h ++ t)) : frH a h := fun b o e => x b o (by rw [List.getElem?_append_left (List.getElem?_eq_some_iff.mp e).1]; exact e)
theorem frH_nil {a : Nat} : frH a [] := fun b o e => by simp at e
theorem frH_one {a : Nat} {o : O} (x : frO a o) : frH a [o] := fun b p e => by
  cases b with
  | zero => simp at e; subst e; exact x
  | succ b => simp at e
theorem frH_set {a n : Nat} {h : Hm} {o : O} (x : frH a h) (y : frO a o) : frH a (h.set n o) := fun b p e => by
  rw [List.getElem?_set] at e
  split at e
  · split at e
    · cases e; exact y
    · cases e
  · exact x b p e
/-! ### elsewhere, later -/
def Kp (a : Option Nat) (h h' : Hm) : Prop := ∀ (b : Nat) (o : O), some b ≠ a → h[b]? = some o → h'[b]? = some o
def frA (a : Option Nat) (w : W) : Prop := ∀ b, a = some b → fr b w
def frAs (a : Option Nat) (w : List W) : Prop := ∀ b, a = some b → frs b w
def frAH (a : Option Nat) (h : Hm) : Prop := ∀ b, a = some b → frH b h
mutual
theorem Rep.tr {a : Option Nat} {h h' : Hm} (k : Kp a h h') (fh : frAH a h) : ∀ {d : D} {w : W}, frA a w → Rep h d w → Rep h' d w
  | .non, _, _, r => r
  | .bl _, _, _, r => r
  | .int _, _, _, r => r
  | .str _, _, _, r => r
  | .fn _, _, _, r => r
  | .cod _ _ _, _, _, r => r
  | .tup l, _, f, r => by
    obtain ⟨ws, rfl, r⟩ := r
    exact ⟨ws, rfl, Reps.tr k fh (fun b e => f b e) r⟩
  | .lst l, _, f, r => by
    obtain ⟨b, ws, rfl, e, r⟩ := r
    exact ⟨b, ws, rfl, k b _ (fun z => f b z.symm rfl) e, Reps.tr k fh (fun c z => fh c z b _ e) r⟩
  | .dK l, _, f, r => by
    obtain ⟨b, ws, rfl, e, r⟩ := r
    exact ⟨b, ws, rfl, k b _ (fun z => f b z.symm rfl) e, RepK.tr k fh (fun c z => fh c z b _ e) r⟩
  | .dT l, _, f, r => by
    obtain ⟨b, ws, rfl, e, r⟩ := r
    exact ⟨b, ws, rfl, k b _ (fun z => f b z.symm rfl) e, RepT.tr k fh (fun c z => fh c z b _ e) r⟩
  | .ins _ l, _, f, r => by
    obtain ⟨b, ws, rfl, e, r⟩ := r
    exact ⟨b, ws, rfl, k b _ (fun z => f b z.symm rfl) e, RepN.tr k fh (fun c z => fh c z b _ e) r⟩
theorem Reps.tr {a : Option Nat} {h h' : Hm} (k : Kp a h h') (fh : frAH a h) : ∀ {d : List D} {w : List W}, frAs a w → Reps h d w → Reps h' d w
  | [], _, _, r => r
  | d :: ds, _, f, r => by
    obtain ⟨w, rr, rfl, r1, r2⟩ := r
    exact ⟨w, rr, rfl, Rep.tr k fh (fun b e => (f b e).1) r1, Reps.tr k fh (fun b e => (f b e).2) r2⟩
theorem RepK.tr {a : Option Nat} {h h' : Hm} (k : Kp a h h') (fh : frAH a h) : ∀ {d : List (Int × D)} {w : List (Int × W)}, frAs a (w.map (·.2)) → RepK h d w → RepK h' d w
  | [], _, _, r => r
  | (_, d) :: ds, _, f, r => by
    obtain ⟨w, rr, rfl, r1, r2⟩ := r
    exact ⟨w, rr, rfl, Rep.tr k fh (fun b e => (f b e).1) r1, RepK.tr k fh (fun b e => (f b e).2) r2⟩
theorem RepT.tr {a : Option Nat} {h h' : Hm} (k : Kp a h h') (fh : frAH a h) : ∀ {d : List (List Int × D)} {w : List (List Int × W)}, frAs a (w.map (·.2)) → RepT h d w → RepT h' d w
  | [], _, _, r => r
  | (_, d) :: ds, _, f, r => by
    obtain ⟨w, rr, rfl, r1, r2⟩ := r
    exact ⟨w, rr, rfl, Rep.tr k fh (fun b e => (f b e).1) r1, RepT.tr k fh (fun b e => (f b e).2) r2⟩
theorem RepN.tr {a : Option Nat} {h h' : Hm} (k : Kp a h h') (fh : frAH a h) : ∀ {d : List (Nat × D)} {w : List (Nat × W)}, frAs a (w.map (·.2)) → RepN h d w → RepN h' d w
  | [], _, _, r => r
  | (_, d) :: ds, _, f, r => by
    obtain ⟨w, rr, rfl, r1, r2⟩ := r
    exact ⟨w, rr, rfl, Rep.tr k fh (fun b e => (f b e).1) r1, RepN.tr k fh (fun b e => (f b e).2) r2⟩
end
theorem kp_app {h t : Hm} : Kp none h (h ++ t) := fun b o _ e => by rw [List.getElem?_append_left (List.getElem?_eq_some_iff.mp e).1]; exact e
theorem Rep.app {h t : Hm} {d : D} {w : W} (r : Rep h d w) : Rep (h ++ t) d w := Rep.tr kp_app (fun _ z => by cases z) (fun _ z => by cases z) r
theorem Reps.app_h {h t : Hm} {d : List D} {w : List W} (r : Reps h d w) : Reps (h ++ t) d w := Reps.tr kp_app (fun _ z => by cases z) (fun _ z => by cases z) r
theorem Reps.length {h : Hm} : ∀ {d : List D} {w : List W}, Reps h d w → w.length = d.length
  | [], _, r => by rw [show _ = [] from r]; rfl
  | d :: ds, _, r => by obtain ⟨w, rr, rfl, r1, r2⟩ := r; rw [List.length_cons, List.length_cons, Reps.length r2]
theorem Reps.get {h : Hm} : ∀ {d : List D} {w : List W} {i : Nat} {x : D}, Reps h d w → d[i]? = some x → ∃ v, w[i]? = some v ∧ Rep h x v
  | [], _, i, x, r, e => by simp at e
  | d :: ds, _, 0, x, r, e => by
    obtain ⟨w, rr, rfl, r1, r2⟩ := r
    simp at e; subst e
    exact ⟨w, rfl, r1⟩
  | d :: ds, _, i + 1, x, r, e => by
    obtain ⟨w, rr, rfl, r1, r2⟩ := r
    obtain ⟨v, h1, h2⟩ := Reps.get (i := i) (x := x) r2 (by simpa using e)
    exact ⟨v, by simpa using h1, h2⟩
theorem Reps.app {h : Hm} : ∀ {d d' : List D} {w w' : List W}, Reps h d w → Reps h d' w' → Reps h (d ++ d') (w ++ w')
  | [], _, _, _, r, r' => by rw [show _ = [] from r]; exact r'
  | d :: ds, _, _, _, r, r' => by
    obtain ⟨w, rr, rfl, r1, r2⟩ := r
    exact ⟨w, rr ++ _, rfl, r1, Reps.app r2 r'⟩
theorem Reps.one {h : Hm} {d : D} {w : W} (r : Rep h d w) : Reps h [d] [w] := ⟨w, [], rfl, r, rfl⟩
theorem Reps.set {h : Hm} {x : D} {v : W} (hv : Rep h x v) : ∀ {d : List D} {w : List W} (i : Nat), Reps h d w → Reps h (d.set i x) (w.set i v)
  | [], _, _, r => by rw [show _ = [] from r]; rfl
  | d :: ds, _, 0, r => by obtain ⟨w, rr, rfl, r1, r2⟩ := r; exact ⟨v, rr, rfl, hv, r2⟩
  | d :: ds, _, i + 1, r => by obtain ⟨w, rr, rfl, r1, r2⟩ := r; exact ⟨w, rr.set i v, rfl, r1, Reps.set hv i r2⟩
theorem Reps.take {h : Hm} : ∀ {d : List D} {w : List W} (n : Nat), Reps h d w → Reps h (d.take n) (w.take n)
  | [], _, n, r => by rw [show _ = [] from r]; simp; rfl
  | d :: ds, _, 0, r => by simp; rfl
  | d :: ds, _, n + 1, r => by obtain ⟨w, rr, rfl, r1, r2⟩ := r; exact ⟨w, rr.take n, rfl, r1, Reps.take n r2⟩
theorem Reps.drop {h : Hm} : ∀ {d : List D} {w : List W} (n : Nat), Reps h d w → Reps h (d.drop n) (w.drop n)
  | [], _, n, r => by rw [show _ = [] from r]; simp; rfl
  | d :: ds, _, 0, r => r
  | d :: ds, _, n + 1, r => by obtain ⟨w, rr, rfl, r1, r2⟩ := r; exact Reps.drop n r2
theorem Reps.reverse {h : Hm} : ∀ {d : List D} {w : List W}, Reps h d w → Reps h d.reverse w.reverse
  | [], _, r => by rw [show _ = [] from r]; rfl
  | d :: ds, _, r => by
    obtain ⟨w, rr, rfl, r1, r2⟩ := r
    rw [List.reverse_cons, List.reverse_cons]; exact (Reps.reverse r2).app (Reps.one r1)
theorem Reps.rep {h : Hm} {d : List D} {w : List W} (r : Reps h d w) : ∀ n : Nat, Reps h (List.replicate n d).flatten (List.replicate n w).flatten
  | 0 => rfl
  | n + 1 => by rw [List.replicate_succ, List.replicate_succ, List.flatten_cons, List.flatten_cons]; exact r.app (Reps.rep r n)
theorem Reps.ints {h : Hm} : ∀ (ns : List Int), Reps h (ns.map D.int) (ns.map W.int)
  | [] => rfl
  | n :: ns => ⟨_, _, rfl, rfl, Reps.ints ns⟩
theorem Reps.two {h : Hm} {a b : D} {w : List W} (r : Reps h [a, b] w) : ∃ x y, w = [x, y] ∧ Rep h a x ∧ Rep h b y := by
  obtain ⟨x, _, rfl, r1, y, _, rfl, r2, rfl⟩ := r
  exact ⟨x, y, rfl, r1, r2⟩
theorem Reps.single {h : Hm} {a : D} {w : List W} (r : Reps h [a] w) : ∃ x, w = [x] ∧ Rep h a x := by
  obtain ⟨x, _, rfl, r1, rfl⟩ := r
  exact ⟨x, rfl, r1⟩
end WL

namespace WL
open PySem
/-! ### what is told of both runs -/
def OkG {δ ω : Type} (rel : Hm → δ → ω → Prop) (frr : Nat → ω → Prop) (P : Nat → Prop) (h : Hm) (r : RB δ) (x : R ω) : Prop := match r with
  | .ok d => ∃ w t, x = .ok w (h ++ t) ∧ rel (h ++ t) d w ∧ ∀ a, (a < h.length ∨ (h ++ t).length ≤ a) → frH a h → P a → frr a w ∧ frH a t
  | .exc c => ∃ t, x = .exc c (h ++ t) ∧ ∀ a, (a < h.length ∨ (h ++ t).length ≤ a) → frH a h → P a → frH a t
  | .bad => True
abbrev OkW := OkG Rep fr
def Clo (P : Nat → Prop) (h : Hm) : Prop := ∀ a, h.length ≤ a → frH a h ∧ P a
section
variable {δ ω δ' ω' : Type} {rel : Hm → δ → ω → Prop} {rel' : Hm → δ' → ω' → Prop} {frr : Nat → ω → Prop} {frr' : Nat → ω' → Prop} {P P' : Nat → Prop} {h : Hm}
theorem OkG.pure {d : δ} {w : ω} (r : rel h d w) (f : ∀ a, frH a h → P a → frr a w) : OkG rel frr P h (.ok d) (.ok w h) := by
  refine ⟨w, [], by rw [List.append_nil], by rw [List.append_nil]; exact r, fun a _ fh p => ⟨f a fh p, frH_nil⟩⟩
theorem OkG.bind {r : RB δ} {x : R ω} {g : δ → RB δ'} {y : ω → Hm → R ω'} (hcl : Clo P h) (hx : OkG rel frr P h r x)
    (hk : ∀ d w t, rel (h ++ t) d w → Clo (fun a => P a ∧ frr a w) (h ++ t) → OkG rel' frr' (fun a => P a ∧ frr a w) (h ++ t) (g d) (y w (h ++ t))) : OkG rel' frr' P h (r.bind g) (x.bind y) := by
  cases r with
  | bad => trivial
  | exc c => obtain ⟨t, rfl, k⟩ := hx; exact ⟨t, rfl, k⟩
  | ok d =>
    obtain ⟨w, t, rfl, r, k⟩ := hx
    have cl : Clo (fun a => P a ∧ frr a w) (h ++ t) := fun a ha => by
      obtain ⟨c1, c2⟩ := hcl a (by rw [List.length_append] at ha; omega)
      obtain ⟨k1, k2⟩ := k a (.inr ha) c1 c2
      exact ⟨frH_app c1 k2, c2, k1⟩
    have z := hk d w t r cl
    show OkG rel' frr' P h (g d) (y w (h ++ t))
    cases e : g d with
    | bad => trivial
    | exc c =>
      rw [e] at z
      obtain ⟨t', z1, z2⟩ := z
      refine ⟨t ++ t', by rw [z1, List.append_assoc], fun a ha fh p => ?_⟩
      rw [← List.append_assoc] at ha
      obtain ⟨k1, k2⟩ := k a (by rcases ha with q | q; exact .inl q; right; rw [List.length_append] at q; omega) fh p
      exact frH_app k2 (z2 a (by rcases ha with q | q; left; rw [List.length_append]; omega; exact .inr q) (frH_app fh k2) ⟨p, k1⟩)
    | ok d' =>
      rw [e] at z
      obtain ⟨w', t', z1, z3, z2⟩ := z
      refine ⟨w', t ++ t', by rw [z1, List.append_assoc], by rw [← List.append_assoc]; exact z3, fun a ha fh p => ?_⟩
      rw [← List.append_assoc] at ha
      obtain ⟨k1, k2⟩ := k a (by rcases ha with q | q; exact .inl q; right; rw [List.length_append] at q; omega) fh p
      obtain ⟨k3, k4⟩ := z2 a (by rcases ha with q | q; left; rw [List.length_append]; omega; exact .inr q) (frH_app fh k2) ⟨p, k1⟩
      exact ⟨k3, frH_app k2 k4⟩
theorem OkG.monoH {r : RB δ} {x : R ω} (hx : OkG rel frr P h r x) (hp : ∀ a, frH a h → P' a → P a) : OkG rel frr P' h r x := by
  cases r with
  | bad => trivial
  | exc c => obtain ⟨t, rfl, k⟩ := hx; exact ⟨t, rfl, fun a ha fh p => k a ha fh (hp a fh p)⟩
  | ok d => obtain ⟨w, t, rfl, r, k⟩ := hx; exact ⟨w, t, rfl, r, fun a ha fh p => k a ha fh (hp a fh p)⟩
theorem OkG.mono {r : RB δ} {x : R ω} (hx : OkG rel frr P h r x) (hp : ∀ a, P' a → P a) : OkG rel frr P' h r x := hx.monoH fun a _ => hp a
theorem Clo.mono (c : Clo P h) (hp : ∀ a, P a → P' a) : Clo P' h := fun a ha => ⟨(c a ha).1, hp a (c a ha).2⟩
end
theorem ok_alloc {P : Nat → Prop} {h : Hm} {d : D} {o : O} (r : ∀ k : Hm, k[h.length]? = some o → Kp none h k → Rep k d (.ref h.length)) (f : ∀ a, frH a h → P a → frO a o) : OkW P h (.ok d) (alloc o h) := by
  refine ⟨.ref h.length, [o], rfl, r _ (by simp) kp_app, fun a ha fh p => ⟨?_, frH_one (f a fh p)⟩⟩
  show h.length ≠ a
  rw [List.length_append, List.length_singleton] at ha
  omega
theorem ok_lst {P : Nat → Prop} {h : Hm} {l : List D} {ws : List W} (r : Reps h l ws) (f : ∀ a, frH a h → P a → frs a ws) : OkW P h (.ok (.lst l)) (alloc (.lst ws) h) := ok_alloc (fun k e kp => ⟨_, ws, rfl, e, Reps.tr kp (fun _ z => by cases z) (fun _ z => by cases z) r⟩) f
/-! ### values -/
section
variable {h : Hm}
theorem intsD_eq : ∀ {l : List D} {ns : List Int}, intsD l = some ns → l = ns.map D.int
  | [], ns, e => by cases e; rfl
  | .int i :: r, ns, e => by
    have e : (intsD r).map (fun l => i :: l) = some ns := e
    cases z : intsD r with
    | none => rw [z] at e; cases e
    | some m => rw [z] at e; cases e; rw [intsD_eq z]; rfl
  | .non :: _, _, e => by cases e
  | .bl _ :: _, _, e => by cases e
  | .str _ :: _, _, e => by cases e
  | .tup _ :: _, _, e => by cases e
  | .lst _ :: _, _, e => by cases e
  | .dK _ :: _, _, e => by cases e
  | .dT _ :: _, _, e => by cases e
  | .ins _ _ :: _, _, e => by cases e
  | .fn _ :: _, _, e => by cases e
  | .cod _ _ _ :: _, _, e => by cases e
theorem intsD_map : ∀ (ns : List Int), intsD (ns.map D.int) = some ns
  | [] => rfl
  | n :: ns => by show (intsD (ns.map D.int)).map _ = _; rw [intsD_map ns]; rfl
theorem intsOf_map : ∀ (ns : List Int), intsOf (ns.map W.int) = some ns
  | [] => rfl
  | n :: ns => by show (intsOf (ns.map W.int)).map _ = _; rw [intsOf_map ns]; rfl
theorem reps_ints : ∀ {ns : List Int} {ws : List W}, Reps h (ns.map D.int) ws → ws = ns.map W.int
  | [], _, r => r
  | n :: ns, _, r => by obtain ⟨w, rr, rfl, r1, r2⟩ := r; rw [show w = _ from r1, reps_ints r2]; rfl
theorem ints_rep {l : List D} {ws : List W} {ns : List Int} (r : Reps h l ws) (e : intsD l = some ns) : ws = ns.map W.int ∧ intsOf ws = some ns := by
  rw [intsD_eq e] at r
  rw [reps_ints r]
  exact ⟨rfl, intsOf_map ns⟩
theorem bls_rep : ∀ {l : List D} {ws : List W} {bs : List Bool}, Reps h l ws → blsD l = some bs → bls ws = some bs
  | [], _, bs, r, e => by rw [show _ = [] from r]; exact e
  | .bl b :: l, _, bs, r, e => by
    obtain ⟨w, rr, rfl, r1, r2⟩ := r
    have r1 : w = .bl b := r1
    subst r1
    have e : (blsD l).map (fun m => b :: m) = some bs := e
    show (bls rr).map _ = _
    cases z : blsD l with
    | none => rw [z] at e; cases e
    | some m => rw [z] at e; rw [bls_rep r2 z]; exact e
  | .int _ :: _, _, _, _, e => by cases e
  | .non :: _, _, _, _, e => by cases e
  | .str _ :: _, _, _, _, e => by cases e
  | .tup _ :: _, _, _, _, e => by cases e
  | .lst _ :: _, _, _, _, e => by cases e
  | .dK _ :: _, _, _, _, e => by cases e
  | .dT _ :: _, _, _, _, e => by cases e
  | .ins _ _ :: _, _, _, _, e => by cases e
  | .fn _ :: _, _, _, _, e => by cases e
  | .cod _ _ _ :: _, _, _, _, e => by cases e
theorem seq_rep {d : D} {w : W} {l : List D} (r : Rep h d w) (e : seqD d = some l) : ∃ ws, seqOf w h = some ws ∧ Reps h l ws ∧ ∀ a, frT a w → frH a h → frs a ws := by
  cases d with
  | tup m =>
    cases e
    obtain ⟨ws, rfl, r⟩ := r
    exact ⟨ws, rfl, r, fun a f _ => f.elim (fun z => by cases z) id⟩
  | lst m =>
    cases e
    obtain ⟨b, ws, rfl, eb, r⟩ := r
    refine ⟨ws, ?_, r, fun a _ fh => fh b _ eb⟩
    show (match h[b]? with | some (.lst l) => some l | _ => none) = _
    rw [eb]
  | _ => cases e
theorem lst_rep {d : D} {w : W} {l : List D} (r : Rep h d w) (e : lstD d = some l) : ∃ b ws, w = .ref b ∧ h[b]? = some (.lst ws) ∧ lstOf w h = some ws ∧ Reps h l ws ∧ ∀ a, frH a h → frs a ws := by
  cases d with
  | lst m =>
    cases e
    obtain ⟨b, ws, rfl, eb, r⟩ := r
    refine ⟨b, ws, rfl, eb, ?_, r, fun a fh => fh b _ eb⟩
    show (match h[b]? with | some (.lst l) => some l | _ => none) = _
    rw [eb]
  | _ => cases e
theorem allO_rep {n : Nat} (ih : ∀ d w p, Rep h d w → dataOf n d = some p → toD n h w = some p) : ∀ {l : List D} {ws : List W} {ps : List PyData}, Reps h l ws → allO (l.map (dataOf n)) = some ps → toDs n h ws = some ps
  | [], _, ps, r, e => by rw [show _ = [] from r]; exact e
  | d :: l, _, ps, r, e => by
    obtain ⟨w, rr, rfl, r1, r2⟩ := r
    rw [toDs_cons]
    have e : allO (dataOf n d :: l.map (dataOf n)) = some ps := e
    cases z1 : dataOf n d with
    | none => rw [z1] at e; cases e
    | some p =>
      rw [z1] at e
      have e : (allO (l.map (dataOf n))).map (fun m => p :: m) = some ps := e
      cases z2 : allO (l.map (dataOf n)) with
      | none => rw [z2] at e; cases e
      | some m => rw [z2] at e; rw [ih d w p r1 z1, allO_rep ih r2 z2]; exact e
theorem data_rep : ∀ (n : Nat) (d : D) (w : W) (p : PyData), Rep h d w → dataOf n d = some p → toD n h w = some p
  | 0, _, _, _, _, e => by cases e
  | n + 1, d, w, p, r, e => by
    have ih := data_rep n
    cases d with
    | non => rw [show w = _ from r]; exact e
    | bl _ => rw [show w = _ from r]; exact e
    | int _ => rw [show w = _ from r]; exact e
    | str _ => rw [show w = _ from r]; exact e
    | tup l =>
      obtain ⟨ws, rfl, r⟩ := r
      rw [toD_tup]
      have e : (allO (l.map (dataOf n))).map PyData.tuple = some p := e
      cases z : allO (l.map (dataOf n)) with
      | none => rw [z] at e; cases e
      | some m => rw [z] at e; rw [allO_rep ih r z]; exact e
    | lst l =>
      obtain ⟨b, ws, rfl, eb, r⟩ := r
      rw [toD_ref, eb]
      have e : (allO (l.map (dataOf n))).map PyData.list = some p := e
      cases z : allO (l.map (dataOf n)) with
      | none => rw [z] at e; cases e
      | some m => rw [z] at e; show (toDs n h ws).map _ = _; rw [allO_rep ih r z]; exact e
    | _ => cases e
theorem eq_rep {x y : D} {v u : W} {b : Bool} (r : Rep h x v) (s : Rep h y u) (e : eqD x y = some b) : eqW v u h = some b := by
  unfold eqD at e
  unfold eqW
  cases z1 : dataOf deep x with
  | none => rw [z1] at e; cases e
  | some p =>
    cases z2 : dataOf deep y with
    | none => rw [z1, z2] at e; cases e
    | some q => rw [z1, z2] at e; rw [data_rep _ _ _ _ r z1, data_rep _ _ _ _ s z2]; exact e
def toW : D → W
  | .bl b => .bl b
  | .int i => .int i
  | .str s => .str s
  | _ => .non
theorem flat_rep {d : D} {w : W} (r : Rep h d w) (e : flatD d = true) : w = toW d := by
  cases d <;> first | exact r | cases e
theorem flats_rep : ∀ {l : List D} {ws : List W}, Reps h l ws → l.all flatD = true → ws = l.map toW
  | [], _, r, _ => r
  | d :: l, _, r, e => by
    obtain ⟨w, rr, rfl, r1, r2⟩ := r
    rw [List.all_cons, Bool.and_eq_true] at e
    rw [flat_rep r1 e.1, flats_rep r2 e.2]; rfl
theorem flat_toW {d : D} : flat (toW d) = true := by cases d <;> rfl
theorem eqF_toW {x y : D} (ex : flatD x = true) (ey : flatD y = true) : eqF (toW x) (toW y) = eqFD x y := by
  cases x <;> first | (cases ex; done) | (cases y <;> first | rfl | cases ey)
theorem inW_toW {x : D} (ex : flatD x = true) : ∀ {l : List D}, l.all flatD = true → inW (toW x) (l.map toW) = inD x l
  | [], _ => rfl
  | d :: l, e => by
    rw [List.all_cons, Bool.and_eq_true] at e
    show (eqF (toW d) (toW x) || inW (toW x) (l.map toW)) = (eqFD d x || inD x l)
    rw [eqF_toW e.1 ex, inW_toW ex e.2]
theorem all_toW : ∀ (l : List D), (l.map toW).all flat = true
  | [] => rfl
  | d :: l => by rw [List.map_cons, List.all_cons, all_toW l, flat_toW]; rfl
theorem isNon_rep {d : D} {w : W} (r : Rep h d w) : isNon w = isNonD d := by
  cases d with
  | tup l => obtain ⟨_, rfl, _⟩ := r; rfl
  | lst l => obtain ⟨_, _, rfl, _⟩ := r; rfl
  | dK l => obtain ⟨_, _, rfl, _⟩ := r; rfl
  | dT l => obtain ⟨_, _, rfl, _⟩ := r; rfl
  | ins c l => obtain ⟨_, _, rfl, _⟩ := r; rfl
  | _ => rw [show w = _ from r]; rfl
theorem cmp_rep {o : CmpOp} {x y : D} {v u : W} {b : Bool} (r : Rep h x v) (s : Rep h y u) (e : cmpB o x y = some b) : cmpW o v u h = some b := by
  cases o with
  | Eq => exact eq_rep r s e
  | NotEq =>
    have e : (eqD x y).map (fun b => !b) = some b := e
    show (eqW v u h).map _ = _
    cases z : eqD x y with
    | none => rw [z] at e; cases e
    | some c => rw [z] at e; rw [eq_rep r s z]; exact e
  | Lt => cases x <;> first | (cases y <;> first | (rw [show v = _ from r, show u = _ from s]; exact e) | cases e) | cases e
  | LtE => cases x <;> first | (cases y <;> first | (rw [show v = _ from r, show u = _ from s]; exact e) | cases e) | cases e
  | Gt => cases x <;> first | (cases y <;> first | (rw [show v = _ from r, show u = _ from s]; exact e) | cases e) | cases e
  | GtE => cases x <;> first | (cases y <;> first | (rw [show v = _ from r, show u = _ from s]; exact e) | cases e) | cases e
  | Is =>
    cases y with
    | non =>
      have s : u = .non := s
      subst s
      cases x with
      | tup l => obtain ⟨_, rfl, _⟩ := r; exact e
      | lst l => obtain ⟨_, _, rfl, _⟩ := r; exact e
      | dK l => obtain ⟨_, _, rfl, _⟩ := r; exact e
      | dT l => obtain ⟨_, _, rfl, _⟩ := r; exact e
      | ins c l => obtain ⟨_, _, rfl, _⟩ := r; exact e
      | _ => rw [show v = _ from r]; exact e
    | bl c => cases x <;> first | (rw [show v = _ from r, show u = _ from s]; exact e) | cases e
    | _ => cases x <;> cases e
  | IsNot =>
    cases y with
    | non =>
      have s : u = .non := s
      subst s
      cases x with
      | tup l => obtain ⟨_, rfl, _⟩ := r; exact e
      | lst l => obtain ⟨_, _, rfl, _⟩ := r; exact e
      | dK l => obtain ⟨_, _, rfl, _⟩ := r; exact e
      | dT l => obtain ⟨_, _, rfl, _⟩ := r; exact e
      | ins c l => obtain ⟨_, _, rfl, _⟩ := r; exact e
      | _ => rw [show v = _ from r]; exact e
    | bl c => cases x <;> first | (rw [show v = _ from r, show u = _ from s]; exact e) | cases e
    | _ => cases x <;> cases e
  | In =>
    have e : (match seqD y with | some l => if flatD x && l.all flatD then some (inD x l) else none | none => none) = some b := e
    show (match seqOf u h with | some l => if flat v && l.all flat then some (inW v l) else none | none => none) = some b
    cases z : seqD y with
    | none => rw [z] at e; cases e
    | some l =>
      rw [z] at e
      obtain ⟨ws, k1, k2, _⟩ := seq_rep s z
      rw [k1]
      simp only at e ⊢
      split at e
      · next c =>
        rw [Bool.and_eq_true] at c
        rw [flat_rep r c.1, flats_rep k2 c.2, all_toW, flat_toW, inW_toW c.1 c.2]
        exact e
      · cases e
  | NotIn =>
    have e : (match seqD y with | some l => if flatD x && l.all flatD then some (!inD x l) else none | none => none) = some b := e
    show (match seqOf u h with | some l => if flat v && l.all flat then some (!inW v l) else none | none => none) = some b
    cases z : seqD y with
    | none => rw [z] at e; cases e
    | some l =>
      rw [z] at e
      obtain ⟨ws, k1, k2, _⟩ := seq_rep s z
      rw [k1]
      simp only at e ⊢
      split at e
      · next c =>
        rw [Bool.and_eq_true] at c
        rw [flat_rep r c.1, flats_rep k2 c.2, all_toW, flat_toW, inW_toW c.1 c.2]
        exact e
      · cases e
end
end WL

namespace WL
open PySem
section
variable {h : Hm} {P : Nat → Prop}
theorem ok_int {i : Int} {w : W} (e : w = .int i) : OkW P h (.ok (.int i)) (.ok w h) := by subst e; exact OkG.pure rfl fun _ _ _ => trivial
theorem ok_bl {b : Bool} : OkW P h (.ok (.bl b)) (.ok (.bl b) h) := OkG.pure rfl fun _ _ _ => trivial
theorem bin_rep {o : Operator} {x y : D} {v u : W} (r : Rep h x v) (s : Rep h y u) : OkW P h (binB o x y) (binW o v u h) := by
  unfold binB
  split
  · rw [show v = _ from r, show u = _ from s]; exact ok_int rfl
  · rw [show v = _ from r, show u = _ from s]; exact ok_int rfl
  · rw [show v = _ from r, show u = _ from s]
    simp only [binW]
    split
    · exact ok_int rfl
    · trivial
  · rw [show v = _ from r, show u = _ from s]
    simp only [binW]
    split
    · exact ok_int rfl
    · trivial
  · rw [show v = _ from r, show u = _ from s]
    simp only [binW]
    split
    · exact ok_int rfl
    · trivial
  · rw [show v = _ from r, show u = _ from s]
    simp only [binW]
    split
    · exact ok_int rfl
    · trivial
  · rw [show v = _ from r, show u = _ from s]
    simp only [binW]
    split
    · exact ok_int rfl
    · trivial
  · obtain ⟨a, xs, rfl, ea, r⟩ := r
    obtain ⟨b, ys, rfl, eb, s⟩ := s
    simp only [binW, ea, eb]
    rw [← r.length, ← s.length]
    split
    · exact ok_lst (r.app s) fun c fh _ => (fh a _ ea).app (fh b _ eb)
    · trivial
  · obtain ⟨a, xs, rfl, ea, r⟩ := r
    rw [show u = _ from s]
    simp only [binW, ea]
    rw [← r.length]
    split
    · refine ok_lst (r.rep _) fun c fh _ => (fh a _ ea).sub fun w hw => ?_
      obtain ⟨l, hl, hw⟩ := List.mem_flatten.mp hw
      rw [List.eq_of_mem_replicate hl] at hw
      exact hw
    · trivial
  · trivial
theorem at_rep {l : List D} {ws : List W} {i : Int} {d : D} (r : Reps h l ws) (e : atD l i = some d) : ∃ w, atI ws i = some w ∧ Rep h d w ∧ w ∈ ws := by
  unfold atD at e
  unfold atI
  rw [r.length]
  cases z : ixN l.length i with
  | none => rw [z] at e; cases e
  | some j =>
    rw [z] at e
    obtain ⟨w, k1, k2⟩ := r.get (i := j) (x := d) e
    exact ⟨w, k1, k2, List.mem_of_getElem? k1⟩
theorem lookK_rep : ∀ {l : List (Int × D)} {ws : List (Int × W)} {k : Int} {d : D}, RepK h l ws → lookD l k = some d → ∃ w, look ws k = some w ∧ Rep h d w ∧ w ∈ ws.map (·.2)
  | [], _, k, d, r, e => by cases e
  | (j, x) :: l, _, k, d, r, e => by
    obtain ⟨w, rr, rfl, r1, r2⟩ := r
    unfold lookD look at *
    rw [List.find?_cons] at e ⊢
    by_cases c : j = k
    · subst c
      simp only [decide_true] at e ⊢
      cases e
      exact ⟨w, rfl, r1, List.mem_cons_self⟩
    · simp only [c, decide_false] at e ⊢
      obtain ⟨v, k1, k2, k3⟩ := lookK_rep (l := l) (ws := rr) (k := k) (d := d) r2 e
      exact ⟨v, k1, k2, List.mem_cons_of_mem _ k3⟩
theorem lookT_rep : ∀ {l : List (List Int × D)} {ws : List (List Int × W)} {k : List Int} {d : D}, RepT h l ws → lookD l k = some d → ∃ w, look ws k = some w ∧ Rep h d w ∧ w ∈ ws.map (·.2)
  | [], _, k, d, r, e => by cases e
  | (j, x) :: l, _, k, d, r, e => by
    obtain ⟨w, rr, rfl, r1, r2⟩ := r
    unfold lookD look at *
    rw [List.find?_cons] at e ⊢
    by_cases c : j = k
    · subst c
      simp only [decide_true] at e ⊢
      cases e
      exact ⟨w, rfl, r1, List.mem_cons_self⟩
    · simp only [c, decide_false] at e ⊢
      obtain ⟨v, k1, k2, k3⟩ := lookT_rep (l := l) (ws := rr) (k := k) (d := d) r2 e
      exact ⟨v, k1, k2, List.mem_cons_of_mem _ k3⟩
theorem lookN_rep : ∀ {l : List (Nat × D)} {ws : List (Nat × W)} {k : Nat} {d : D}, RepN h l ws → lookD l k = some d → ∃ w, look ws k = some w ∧ Rep h d w ∧ w ∈ ws.map (·.2)
  | [], _, k, d, r, e => by cases e
  | (j, x) :: l, _, k, d, r, e => by
    obtain ⟨w, rr, rfl, r1, r2⟩ := r
    unfold lookD look at *
    rw [List.find?_cons] at e ⊢
    by_cases c : j = k
    · subst c
      simp only [decide_true] at e ⊢
      cases e
      exact ⟨w, rfl, r1, List.mem_cons_self⟩
    · simp only [c, decide_false] at e ⊢
      obtain ⟨v, k1, k2, k3⟩ := lookN_rep (l := l) (ws := rr) (k := k) (d := d) r2 e
      exact ⟨v, k1, k2, List.mem_cons_of_mem _ k3⟩
theorem lookK_none : ∀ {l : List (Int × D)} {ws : List (Int × W)} {k : Int}, RepK h l ws → lookD l k = none → look ws k = none
  | [], _, k, r, e => by rw [show _ = [] from r]; rfl
  | (j, x) :: l, _, k, r, e => by
    obtain ⟨w, rr, rfl, r1, r2⟩ := r
    unfold lookD look at *
    rw [List.find?_cons] at e ⊢
    by_cases c : j = k
    · subst c; simp only [decide_true] at e; cases e
    · simp only [c, decide_false] at e ⊢
      exact lookK_none (l := l) (ws := rr) (k := k) r2 e
theorem lookT_none : ∀ {l : List (List Int × D)} {ws : List (List Int × W)} {k : List Int}, RepT h l ws → lookD l k = none → look ws k = none
  | [], _, k, r, e => by rw [show _ = [] from r]; rfl
  | (j, x) :: l, _, k, r, e => by
    obtain ⟨w, rr, rfl, r1, r2⟩ := r
    unfold lookD look at *
    rw [List.find?_cons] at e ⊢
    by_cases c : j = k
    · subst c; simp only [decide_true] at e; cases e
    · simp only [c, decide_false] at e ⊢
      exact lookT_none (l := l) (ws := rr) (k := k) r2 e
theorem idx_rep {x i d : D} {v u : W} (r : Rep h x v) (s : Rep h i u) (e : idxB x i = some d) : ∃ w, idxW v u h = some w ∧ Rep h d w ∧ ∀ a, frT a v → frH a h → fr a w := by
  unfold idxB at e
  split at e
  · obtain ⟨a, ws, rfl, ea, r⟩ := r
    rw [show u = _ from s]
    obtain ⟨w, k1, k2, k3⟩ := at_rep r e
    exact ⟨w, by simp only [idxW, ea, k1], k2, fun b _ fh => frs.mem (fh a _ ea) k3⟩
  · obtain ⟨a, ws, rfl, ea, r⟩ := r
    rw [show u = _ from s]
    obtain ⟨w, k1, k2, k3⟩ := lookK_rep r e
    exact ⟨w, by simp only [idxW, ea, k1], k2, fun b _ fh => frs.mem (fh a _ ea) k3⟩
  · obtain ⟨a, ws, rfl, ea, r⟩ := r
    obtain ⟨ks, rfl, s⟩ := s
    split at e
    · next ns z =>
      obtain ⟨w, k1, k2, k3⟩ := lookT_rep r e
      exact ⟨w, by simp only [idxW, ea, (ints_rep s z).2, k1], k2, fun b _ fh => frs.mem (fh a _ ea) k3⟩
    · cases e
  · obtain ⟨ws, rfl, r⟩ := r
    rw [show u = _ from s]
    obtain ⟨w, k1, k2, k3⟩ := at_rep r e
    refine ⟨w, by simp only [idxW, k1], k2, fun b f fh => ?_⟩
    rcases f with f | f
    · cases f
    · exact frs.mem f k3
  · cases e
theorem cut_rep {l : List D} {ws : List W} (lo hi : Option Int) (r : Reps h l ws) : Reps h (cutD l lo hi) (cutW ws lo hi) := by
  unfold cutD cutW
  rw [r.length]
  exact (r.drop _).take _
theorem cut_mem {ws : List W} {lo hi : Option Int} : ∀ w ∈ cutW ws lo hi, w ∈ ws := fun w hw => List.mem_of_mem_drop (List.mem_of_mem_take hw)
theorem sli_rep {x : D} {v : W} {lo hi : Option Int} (r : Rep h x v) : OkW (fun a => frT a v) h (sliB x lo hi) (sliW v lo hi h) := by
  unfold sliB
  split
  · obtain ⟨ws, rfl, r⟩ := r
    simp only [sliW]
    rw [r.length]
    split
    · trivial
    · exact OkG.pure ⟨_, rfl, cut_rep lo hi r⟩ fun a _ f => frs.sub (f.elim (fun q => by cases q) fun q => q) cut_mem
  · obtain ⟨a, ws, rfl, ea, r⟩ := r
    simp only [sliW, lstOf, ea]
    exact ok_lst (cut_rep lo hi r) fun c fh _ => frs.sub (fh a _ ea) cut_mem
  · trivial
theorem bltL_rep {b : B} {l : List D} {ws : List W} (r : Reps h l ws) : OkW (fun a => frs a ws) h (bltLB b l) (bltL b ws h) := by
  unfold bltLB
  split
  · simp only [bltL]; rw [r.length]; exact ok_int rfl
  · simp only [bltL]
    split
    · next ns z => rw [(ints_rep r z).2]; exact ok_int rfl
    · trivial
  · simp only [bltL]
    split
    · next ns z => rw [bls_rep r z]; exact ok_bl
    · trivial
  · simp only [bltL]
    split
    · next ns z => rw [bls_rep r z]; exact ok_bl
    · trivial
  · simp only [bltL]
    split
    · next ns z => rw [(ints_rep r z).2]; exact ok_lst (Reps.ints _) fun _ _ _ => frs.ints _
    · trivial
  · simp only [bltL]
    split
    · next n ns z => rw [(ints_rep r z).2]; exact ok_int rfl
    · trivial
  · simp only [bltL]; exact ok_lst r fun _ _ f => f
  · trivial
theorem keys_rep : ∀ {l : List (Int × D)} {ws : List (Int × W)}, RepK h l ws → ws.map (·.1) = l.map (·.1)
  | [], _, r => by rw [show _ = [] from r]; rfl
  | (k, d) :: l, _, r => by
    obtain ⟨w, rr, rfl, r1, r2⟩ := r
    rw [List.map_cons, List.map_cons, keys_rep r2]
theorem frs_one {a : Nat} {w : W} : frs a [w] ↔ fr a w := ⟨fun h => h.1, fun h => ⟨h, trivial⟩⟩
def frTs (a : Nat) (ws : List W) : Prop := ∀ w ∈ ws, frT a w
theorem blt_rep {b : B} {l : List D} {ws : List W} (r : Reps h l ws) : OkW (fun a => frTs a ws) h (bltB b l) (bltW b ws h) := by
  unfold bltB
  split
  · obtain ⟨v, rfl, s⟩ := r.single
    rw [show v = _ from s]; exact ok_int rfl
  · obtain ⟨v, u, rfl, s, s'⟩ := r.two
    rw [show v = _ from s, show u = _ from s']; exact ok_int rfl
  · obtain ⟨v, u, rfl, s, s'⟩ := r.two
    rw [show v = _ from s, show u = _ from s']; exact ok_int rfl
  · obtain ⟨v, rfl, s⟩ := r.single
    simp only [bltW]
    split
    · next m z =>
      obtain ⟨us, k1, k2, k3⟩ := seq_rep s z
      rw [k1]
      simp only
      rw [k2.length]; exact ok_int rfl
    · trivial
  · obtain ⟨v, rfl, s⟩ := r.single
    simp only [bltW]
    split
    · next m z =>
      obtain ⟨us, k1, k2, k3⟩ := seq_rep s z
      rw [k1]
      simp only
      exact ok_lst k2 fun a fh f => k3 a (f v List.mem_cons_self) fh
    · trivial
  · obtain ⟨v, rfl, s⟩ := r.single
    simp only [bltW]
    split
    · next m z =>
      obtain ⟨c, us, _, _, k1, k2, k3⟩ := lst_rep s z
      rw [k1]
      simp only
      exact OkG.pure ⟨us, rfl, k2⟩ fun a fh f => k3 a fh
    · trivial
  · obtain ⟨v, rfl, s⟩ := r.single
    obtain ⟨a, us, rfl, ea, s⟩ := s
    simp only [bltW, ea]
    rw [keys_rep s]
    exact ok_lst (Reps.ints _) fun _ _ _ => frs.ints _
  · next m n1 n2 n3 =>
    obtain ⟨v, rfl, s⟩ := r.single
    obtain ⟨a, us, rfl, ea, s⟩ := s
    have e : bltW b [.ref a] h = bltL b us h := by
      cases b with
      | len => exact (n1 rfl).elim
      | list => exact (n2 rfl).elim
      | tuple => exact (n3 rfl).elim
      | _ => simp only [bltW, ea]
    rw [e]
    exact (bltL_rep s).monoH fun c fh _ => fh a _ ea
  · trivial
theorem bm_get {t : Option D} {d : D} {z : Option W} {w : W} (s : Rep h d w) (hz : match t with | some y => ∃ y', z = some y' ∧ Rep h y y' ∧ ∀ a, frH a h → fr a y' | none => z = none) : OkW (fun a => fr a w) h (.ok (t.getD d)) (.ok (z.getD w) h) := by
  cases t with
  | none => rw [show z = none from hz]; exact OkG.pure s fun _ _ f => f
  | some y =>
    obtain ⟨y', rfl, k1, k2⟩ := hz
    exact OkG.pure k1 fun a fh _ => k2 a fh
theorem bmTy_rep {m : BM} {x : D} {v : W} (r : Rep h x v) (e : bmTyB m x = true) : bmTy m v h = true := by
  cases x with
  | lst l => obtain ⟨a, us, rfl, ea, r⟩ := r; cases m <;> first | (simp only [bmTy, isLstW, ea]; done) | cases e
  | dK l => obtain ⟨a, us, rfl, ea, r⟩ := r; cases m <;> first | (simp only [bmTy, isDicW, ea]; done) | cases e
  | dT l => obtain ⟨a, us, rfl, ea, r⟩ := r; cases m <;> first | (simp only [bmTy, isDicW, ea]; done) | cases e
  | _ => cases m <;> cases e
theorem bm_rep {m : BM} {x : D} {v : W} {l : List D} {ws : List W} (r : Rep h x v) (s : Reps h l ws) : OkW (fun a => frs a ws) h (bmB m x l) (bmW m v ws h) ∧ (bmB m x l ≠ .bad → bmTy m v h = true) := by
  unfold bmB
  split
  · obtain ⟨a, us, rfl, ea, r⟩ := r
    obtain ⟨u, rfl, s1⟩ := s.single
    rw [show u = _ from s1]
    refine ⟨?_, fun _ => by simp only [bmTy, isLstW, ea]⟩
    simp only [bmW, ea]
    split
    · next ns z => rw [(ints_rep r z).2]; exact ok_int rfl
    · trivial
  · obtain ⟨a, us, rfl, ea, r⟩ := r
    obtain ⟨u, w, rfl, s1, s2⟩ := s.two
    rw [show u = _ from s1]
    refine ⟨?_, fun _ => by simp only [bmTy, isDicW, ea]⟩
    simp only [bmW, ea]
    refine (bm_get s2 ?_).mono fun b f => f.2.1
    split
    · next y z =>
      obtain ⟨y', k1, k2, k3⟩ := lookK_rep r z
      exact ⟨y', k1, k2, fun c fh => frs.mem (fh a _ ea) k3⟩
    · next z => exact lookK_none r z
  · obtain ⟨a, us, rfl, ea, r⟩ := r
    obtain ⟨u, w, rfl, s1, s2⟩ := s.two
    obtain ⟨ks, rfl, s1⟩ := s1
    refine ⟨?_, fun _ => by simp only [bmTy, isDicW, ea]⟩
    simp only [bmW, ea]
    split
    · next ns z =>
      rw [(ints_rep s1 z).2]
      simp only
      refine (bm_get s2 ?_).mono fun b f => f.2.1
      split
      · next y z =>
        obtain ⟨y', k1, k2, k3⟩ := lookT_rep r z
        exact ⟨y', k1, k2, fun c fh => frs.mem (fh a _ ea) k3⟩
      · next z => exact lookT_none r z
    · trivial
  · exact ⟨trivial, fun e => absurd rfl e⟩
theorem isi_rep {T : Tb} {c : Cl} {x : D} {v : W} {b : Bool} (r : Rep h x v) (e : isiB T x c = some b) : isiW T v c h = some b := by
  cases c with
  | own d =>
    cases x with
    | ins k l => obtain ⟨a, us, rfl, ea, r⟩ := r; simp only [isiW, ea]; exact e
    | _ => cases e
  | _ =>
    cases x with
    | tup l => obtain ⟨_, rfl, _⟩ := r; exact e
    | lst l => obtain ⟨a, us, rfl, ea, r⟩ := r; simp only [isiW, ea]; exact e
    | dK l => obtain ⟨a, us, rfl, ea, r⟩ := r; simp only [isiW, ea]; exact e
    | dT l => obtain ⟨a, us, rfl, ea, r⟩ := r; simp only [isiW, ea]; exact e
    | ins k l => cases e
    | fn _ => cases e
    | cod _ _ _ => cases e
    | _ => rw [show v = _ from r]; exact e
end
/-! ### frames -/
def RepF (h : Hm) (fd : FD) (f : F) : Prop := fd.length = f.length ∧ ∀ (i : Nat) (d : D), fd[i]? = some (some d) → ∃ w, f[i]? = some (some w) ∧ Rep h d w
def frF (a : Nat) (f : F) (i : Nat) : Prop := ∀ w, f[i]? = some (some w) → fr a w
def frTF (a : Nat) (f : F) (i : Nat) : Prop := ∀ w, f[i]? = some (some w) → frT a w
section
variable {h : Hm} {fd : FD} {f : F}
theorem RepF.app {t : Hm} (r : RepF h fd f) : RepF (h ++ t) fd f := ⟨r.1, fun i d e => by obtain ⟨w, k1, k2⟩ := r.2 i d e; exact ⟨w, k1, k2.app⟩⟩
theorem RepF.set {i : Nat} {d : D} {w : W} (r : RepF h fd f) (hw : Rep h d w) : RepF h (fd.set i (some d)) (f.set i (some w)) := by
  refine ⟨by rw [List.length_set, List.length_set, r.1], fun j x e => ?_⟩
  rw [List.getElem?_set] at e ⊢
  split at e
  · next c =>
    rw [if_pos c, ← r.1]
    split at e
    · next c2 => rw [if_pos c2]; cases e; exact ⟨w, rfl, hw⟩
    · cases e
  · next c => rw [if_neg c]; exact r.2 j x e
theorem RepF.setN {i : Nat} (r : RepF h fd f) : RepF h (fd.set i none) (f.set i none) := by
  refine ⟨by rw [List.length_set, List.length_set, r.1], fun j x e => ?_⟩
  rw [List.getElem?_set] at e ⊢
  split at e
  · split at e <;> cases e
  · next c => rw [if_neg c]; exact r.2 j x e
theorem RepF.wipe (r : RepF h fd f) : ∀ vs : List Nat, RepF h (wipeB fd vs) (WL.wipe f vs)
  | [] => r
  | v :: vs => (RepF.wipe r vs).setN
theorem RepF.start {ds : List D} {ws : List W} (r : Reps h ds ws) (n : Nat) : RepF h (ds.map some ++ List.replicate n none) (ws.map some ++ List.replicate n none) := by
  refine ⟨by simp [r.length], fun i d e => ?_⟩
  by_cases c : i < ds.length
  · rw [List.getElem?_append_left (by rw [List.length_map]; exact c), List.getElem?_map] at e
    rw [List.getElem?_append_left (by rw [List.length_map, r.length]; exact c), List.getElem?_map]
    cases z : ds[i]? with
    | none => rw [z] at e; cases e
    | some x =>
      rw [z] at e; cases e
      obtain ⟨w, k1, k2⟩ := r.get z
      exact ⟨w, by rw [k1]; rfl, k2⟩
  · rw [List.getElem?_append_right (by rw [List.length_map]; omega), List.getElem?_replicate] at e
    split at e <;> cases e
theorem frF_set {a i j : Nat} {w : W} (h1 : frF a f j) (hw : fr a w) : frF a (f.set i (some w)) j := fun v e => by
  rw [List.getElem?_set] at e
  split at e
  · split at e
    · cases e; exact hw
    · cases e
  · exact h1 v e
theorem frTF_set {a i j : Nat} {w : W} (h1 : frTF a f j) (hw : frT a w) : frTF a (f.set i (some w)) j := fun v e => by
  rw [List.getElem?_set] at e
  split at e
  · split at e
    · cases e; exact hw
    · cases e
  · exact h1 v e
theorem frF_setN {a i j : Nat} (h1 : i ≠ j → frF a f j) : frF a (f.set i none) j := fun v e => by
  rw [List.getElem?_set] at e
  split at e
  · split at e <;> cases e
  · next c => exact h1 c v e
theorem frTF_setN {a i j : Nat} (h1 : frTF a f j) : frTF a (f.set i none) j := fun v e => by
  rw [List.getElem?_set] at e
  split at e
  · split at e <;> cases e
  · exact h1 v e
end
end WL

namespace WL
open PySem
/-! ### what is walked -/
def RepI (h : Hm) (l : List D) : It → Prop
  | .seq w => ∃ d, Rep h d w ∧ seqD d = some l
  | .rng lo c n => l = rngL lo c n
  | .zip a b => ∃ la lb, Rep h (.lst la) a ∧ Rep h (.lst lb) b ∧ l = zipD la lb
  | .enu a => ∃ la, Rep h (.lst la) a ∧ l = enuD 0 la
def frI (a : Nat) : It → Prop
  | .seq w => fr a w
  | .rng _ _ _ => True
  | .zip x y => fr a x ∧ fr a y
  | .enu x => fr a x
def frTI (a : Nat) : It → Prop
  | .seq w => frT a w
  | .rng _ _ _ => True
  | .zip x y => frT a x ∧ frT a y
  | .enu x => frT a x
theorem frI.t {a : Nat} {J : It} (h : frI a J) : frTI a J := by
  cases J with
  | seq w => exact .inr h
  | rng _ _ _ => trivial
  | zip x y => exact ⟨.inr h.1, .inr h.2⟩
  | enu x => exact .inr h
def frAI (a : Option Nat) (J : It) : Prop := ∀ b, a = some b → frI b J
theorem RepI.tr {a : Option Nat} {h h' : Hm} {l : List D} {J : It} (k : Kp a h h') (fh : frAH a h) (f : frAI a J) (r : RepI h l J) : RepI h' l J := by
  cases J with
  | seq w => obtain ⟨d, r, e⟩ := r; exact ⟨d, r.tr k fh (fun b z => f b z), e⟩
  | rng _ _ _ => exact r
  | zip x y => obtain ⟨la, lb, r, s, e⟩ := r; exact ⟨la, lb, r.tr k fh (fun b z => (f b z).1), s.tr k fh (fun b z => (f b z).2), e⟩
  | enu x => obtain ⟨la, r, e⟩ := r; exact ⟨la, r.tr k fh (fun b z => f b z), e⟩
theorem RepI.app {h t : Hm} {l : List D} {J : It} (r : RepI h l J) : RepI (h ++ t) l J := r.tr kp_app (fun _ z => by cases z) (fun _ z => by cases z)
theorem enuD_length : ∀ (n : Nat) (l : List D), (enuD n l).length = l.length
  | _, [] => rfl
  | n, x :: r => by show (enuD (n + 1) r).length + 1 = _; rw [enuD_length]; rfl
theorem enuD_get : ∀ (n : Nat) (l : List D) (i : Nat), (enuD n l)[i]? = (l[i]?).map fun x => .tup [.int ((n + i : Nat) : Int), x]
  | _, [], i => by simp [enuD]
  | n, x :: r, 0 => rfl
  | n, x :: r, i + 1 => by
    show (enuD (n + 1) r)[i]? = (r[i]?).map _
    rw [enuD_get (n + 1) r i, show n + 1 + i = n + (i + 1) by omega]
section
variable {h : Hm}
theorem len_rep {l : List D} {J : It} (r : RepI h l J) : J.len h = some l.length := by
  cases J with
  | seq w =>
    obtain ⟨d, r, e⟩ := r
    obtain ⟨ws, k1, k2, _⟩ := seq_rep r e
    show (seqOf w h).map List.length = _
    rw [k1, ← k2.length]; rfl
  | rng lo c n =>
    have r : l = rngL lo c n := r
    subst r
    show some n = some (rngL lo c n).length
    simp [rngL]
  | zip x y =>
    obtain ⟨la, lb, r, s, rfl⟩ := r
    obtain ⟨_, ws, _, _, k1, k2, _⟩ := lst_rep r rfl
    obtain ⟨_, us, _, _, k3, k4, _⟩ := lst_rep s rfl
    show ((lstOf x h).bind fun l => (lstOf y h).map fun m => min l.length m.length) = _
    rw [k1, k3]
    show some (min ws.length us.length) = some (zipD la lb).length
    rw [zipD, List.length_zipWith, k2.length, k4.length]
  | enu x =>
    obtain ⟨la, r, rfl⟩ := r
    obtain ⟨_, ws, _, _, k1, k2, _⟩ := lst_rep r rfl
    show (lstOf x h).map List.length = _
    rw [k1, enuD_length, ← k2.length]; rfl
theorem item_rep {l : List D} {J : It} {i : Nat} {d : D} (r : RepI h l J) (e : l[i]? = some d) : ∃ w, J.item i h = some w ∧ Rep h d w ∧ ∀ a, frTI a J → frH a h → fr a w := by
  cases J with
  | seq w =>
    obtain ⟨x, r, z⟩ := r
    obtain ⟨ws, k1, k2, k3⟩ := seq_rep r z
    obtain ⟨v, k4, k5⟩ := k2.get e
    refine ⟨v, ?_, k5, fun a f fh => frs.mem (k3 a f fh) (List.mem_of_getElem? k4)⟩
    show (seqOf w h).bind _ = _
    rw [k1]; exact k4
  | rng lo c n =>
    have r : l = rngL lo c n := r
    subst r
    have il : i < n := by have := (List.getElem?_eq_some_iff.mp e).1; simpa [rngL] using this
    rw [rngL, List.getElem?_map, List.getElem?_range il] at e
    cases e
    exact ⟨.int _, by show (if i < n then _ else _) = _; rw [if_pos il], rfl, fun _ _ _ => trivial⟩
  | zip x y =>
    obtain ⟨la, lb, r, s, rfl⟩ := r
    obtain ⟨_, ws, _, _, k1, k2, k2f⟩ := lst_rep r rfl
    obtain ⟨_, us, _, _, k3, k4, k4f⟩ := lst_rep s rfl
    rw [zipD, List.getElem?_zipWith] at e
    cases z1 : la[i]? with
    | none => rw [z1] at e; cases e
    | some p =>
      cases z2 : lb[i]? with
      | none => rw [z1, z2] at e; cases e
      | some q =>
        rw [z1, z2] at e
        cases e
        obtain ⟨v, m1, m2⟩ := k2.get z1
        obtain ⟨u, m3, m4⟩ := k4.get z2
        refine ⟨.tup [v, u], ?_, ⟨_, rfl, _, _, rfl, m2, _, _, rfl, m4, rfl⟩, fun a _ fh => ⟨frs.mem (k2f a fh) (List.mem_of_getElem? m1), frs.mem (k4f a fh) (List.mem_of_getElem? m3), trivial⟩⟩
        show ((lstOf x h).bind fun l => (lstOf y h).bind fun m => (l[i]?).bind fun x => (m[i]?).map fun y => W.tup [x, y]) = _
        rw [k1, k3]
        show ((ws[i]?).bind fun x => (us[i]?).map fun y => W.tup [x, y]) = _
        rw [m1, m3]; rfl
  | enu x =>
    obtain ⟨la, r, rfl⟩ := r
    obtain ⟨_, ws, _, _, k1, k2, k2f⟩ := lst_rep r rfl
    rw [enuD_get] at e
    cases z1 : la[i]? with
    | none => rw [z1] at e; cases e
    | some p =>
      rw [z1] at e
      cases e
      obtain ⟨v, m1, m2⟩ := k2.get z1
      refine ⟨.tup [.int i, v], ?_, ⟨_, rfl, _, _, rfl, by rw [Nat.zero_add]; rfl, _, _, rfl, m2, rfl⟩, fun a _ fh => ⟨trivial, frs.mem (k2f a fh) (List.mem_of_getElem? m1), trivial⟩⟩
      show ((lstOf x h).bind fun l => (l[i]?).map fun x => W.tup [.int i, x]) = _
      rw [k1]
      show (ws[i]?).map _ = _
      rw [m1]; rfl
theorem rng_rep {l J : List D} {ws : List W} (r : Reps h l ws) (e : rngB l = some J) : ∃ I, rngOf ws = some I ∧ RepI h J I ∧ ∀ a, frI a I := by
  unfold rngB at e
  split at e
  · obtain ⟨v, rfl, s⟩ := r.single
    rw [show v = _ from s]
    simp only [rngOf]
    split at e
    · next c => cases e; rw [if_pos c]; exact ⟨_, rfl, rfl, fun _ => trivial⟩
    · cases e
  · obtain ⟨v, u, rfl, s, s'⟩ := r.two
    rw [show v = _ from s, show u = _ from s']
    simp only [rngOf]
    split at e
    · next c => cases e; rw [if_pos c]; exact ⟨_, rfl, rfl, fun _ => trivial⟩
    · cases e
  · obtain ⟨v, _, rfl, s, u, _, rfl, s', z, _, rfl, s'', rfl⟩ := r
    rw [show v = _ from s, show u = _ from s', show z = _ from s'']
    simp only [rngOf]
    split at e
    · next c => cases e; rw [if_pos c]; exact ⟨_, rfl, rfl, fun _ => trivial⟩
    · cases e
  · cases e
/-! ### targets -/
theorem st_rep {i : Nat} {d : D} {w : W} {fd fd' : FD} {f : F} (r : RepF h fd f) (hw : Rep h d w) (e : stD i d fd = some fd') : stV i w f = some (f.set i (some w)) ∧ RepF h fd' (f.set i (some w)) := by
  unfold stD at e
  split at e
  · next c =>
    cases e
    unfold stV
    rw [if_pos (r.1 ▸ c)]
    exact ⟨rfl, r.set hw⟩
  · cases e
/-- what a frame's values name, behind a binding -/
def FrB (f g : F) (w : List W) : Prop := ∀ (a j : Nat), (frs a w → frF a f j → frF a g j) ∧ (frs a w → frTF a f j → frTF a g j)
theorem FrB.refl {f : F} {w : List W} : FrB f f w := fun _ _ => ⟨fun _ h => h, fun _ h => h⟩
mutual
theorem bind_rep : ∀ (t : E) {d : D} {w : W} {fd fd' : FD} {f : F}, RepF h fd f → Rep h d w → bindB t d fd = some fd' → ∃ f', bindT t w f = some f' ∧ RepF h fd' f' ∧ FrB f f' [w]
  | .v i, d, w, fd, fd', f, r, hw, e => by
    obtain ⟨k1, k2⟩ := st_rep (i := i) r hw (by simpa [bindB] using e)
    refine ⟨_, by simpa [bindT] using k1, k2, fun a j => ⟨fun fw h1 => frF_set h1 fw.1, fun fw h1 => frTF_set h1 (.inr fw.1)⟩⟩
  | .tup l, d, w, fd, fd', f, r, hw, e => by
    cases d with
    | tup ds =>
      obtain ⟨ws, rfl, hw⟩ := hw
      obtain ⟨f', k1, k2, k3⟩ := binds_rep l (ds := ds) (ws := ws) r hw (by simpa [bindB] using e)
      exact ⟨f', by simpa [bindT] using k1, k2, fun a j => ⟨fun fw => (k3 a j).1 fw.1, fun fw => (k3 a j).2 fw.1⟩⟩
    | _ => simp [bindB] at e
  | .bad, d, w, fd, fd', f, r, hw, e => by simp [bindB] at e
  | .nil, d, w, fd, fd', f, r, hw, e => by simp [bindB] at e
  | .cons _ _, d, w, fd, fd', f, r, hw, e => by simp [bindB] at e
  | .non, d, w, fd, fd', f, r, hw, e => by simp [bindB] at e
  | .bl _, d, w, fd, fd', f, r, hw, e => by simp [bindB] at e
  | .int _, d, w, fd, fd', f, r, hw, e => by simp [bindB] at e
  | .str _, d, w, fd, fd', f, r, hw, e => by simp [bindB] at e
  | .fnv _, d, w, fd, fd', f, r, hw, e => by simp [bindB] at e
  | .bin _ _ _, d, w, fd, fd', f, r, hw, e => by simp [bindB] at e
  | .neg _, d, w, fd, fd', f, r, hw, e => by simp [bindB] at e
  | .cmp _ _ _, d, w, fd, fd', f, r, hw, e => by simp [bindB] at e
  | .chn _ _ _ _ _, d, w, fd, fd', f, r, hw, e => by simp [bindB] at e
  | .and _ _, d, w, fd, fd', f, r, hw, e => by simp [bindB] at e
  | .or _ _, d, w, fd, fd', f, r, hw, e => by simp [bindB] at e
  | .not _, d, w, fd, fd', f, r, hw, e => by simp [bindB] at e
  | .ife _ _ _, d, w, fd, fd', f, r, hw, e => by simp [bindB] at e
  | .lst _, d, w, fd, fd', f, r, hw, e => by simp [bindB] at e
  | .dnew _, d, w, fd, fd', f, r, hw, e => by simp [bindB] at e
  | .idx _ _, d, w, fd, fd', f, r, hw, e => by simp [bindB] at e
  | .sli _ _ _, d, w, fd, fd', f, r, hw, e => by simp [bindB] at e
  | .cal _ _, d, w, fd, fd', f, r, hw, e => by simp [bindB] at e
  | .mk _ _, d, w, fd, fd', f, r, hw, e => by simp [bindB] at e
  | .mth _ _ _, d, w, fd, fd', f, r, hw, e => by simp [bindB] at e
  | .blt _ _, d, w, fd, fd', f, r, hw, e => by simp [bindB] at e
  | .bm _ _ _, d, w, fd, fd', f, r, hw, e => by simp [bindB] at e
  | .fld _ _, d, w, fd, fd', f, r, hw, e => by simp [bindB] at e
  | .isi _ _, d, w, fd, fd', f, r, hw, e => by simp [bindB] at e
  | .isx _, d, w, fd, fd', f, r, hw, e => by simp [bindB] at e
  | .lc _ _ _ _ _, d, w, fd, fd', f, r, hw, e => by simp [bindB] at e
  | .agg _ _, d, w, fd, fd', f, r, hw, e => by simp [bindB] at e
  | .rev _, d, w, fd, fd', f, r, hw, e => by simp [bindB] at e
  | .calv _ _, d, w, fd, fd', f, r, hw, e => by simp [bindB] at e
  | .lam _ _ _, d, w, fd, fd', f, r, hw, e => by simp [bindB] at e
  | .thk _ _, d, w, fd, fd', f, r, hw, e => by simp [bindB] at e
  | .rng _, d, w, fd, fd', f, r, hw, e => by simp [bindB] at e
  | .zip _ _, d, w, fd, fd', f, r, hw, e => by simp [bindB] at e
  | .enu _, d, w, fd, fd', f, r, hw, e => by simp [bindB] at e
  | .sq _, d, w, fd, fd', f, r, hw, e => by simp [bindB] at e
theorem binds_rep : ∀ (t : E) {ds : List D} {ws : List W} {fd fd' : FD} {f : F}, RepF h fd f → Reps h ds ws → bindBs t ds fd = some fd' → ∃ f', bindTs t ws f = some f' ∧ RepF h fd' f' ∧ FrB f f' ws
  | .nil, ds, ws, fd, fd', f, r, hw, e => by
    cases ds with
    | nil =>
      rw [show ws = [] from hw]
      simp [bindBs] at e
      subst e
      exact ⟨f, by simp [bindTs], r, FrB.refl⟩
    | cons _ _ => simp [bindBs] at e
  | .cons a t, ds, ws, fd, fd', f, r, hw, e => by
    cases ds with
    | nil => simp [bindBs] at e
    | cons d ds =>
      obtain ⟨w, rr, rfl, r1, r2⟩ := hw
      have e : (bindB a d fd).bind (fun f => bindBs t ds f) = some fd' := by simpa [bindBs] using e
      cases z : bindB a d fd with
      | none => rw [z] at e; cases e
      | some fd1 =>
        rw [z] at e
        obtain ⟨f1, k1, k2, k3⟩ := bind_rep a r r1 z
        obtain ⟨f2, k4, k5, k6⟩ := binds_rep t k2 r2 e
        refine ⟨f2, ?_, k5, fun b j => ⟨fun fw h1 => (k6 b j).1 fw.2 ((k3 b j).1 ⟨fw.1, trivial⟩ h1), fun fw h1 => (k6 b j).2 fw.2 ((k3 b j).2 ⟨fw.1, trivial⟩ h1)⟩⟩
        simp only [bindTs]
        rw [k1]; exact k4
  | .v _, ds, ws, fd, fd', f, r, hw, e => by simp [bindBs] at e
  | .tup _, ds, ws, fd, fd', f, r, hw, e => by simp [bindBs] at e
  | .bad, ds, ws, fd, fd', f, r, hw, e => by simp [bindBs] at e
  | .non, ds, ws, fd, fd', f, r, hw, e => by simp [bindBs] at e
  | .bl _, ds, ws, fd, fd', f, r, hw, e => by simp [bindBs] at e
  | .int _, ds, ws, fd, fd', f, r, hw, e => by simp [bindBs] at e
  | .str _, ds, ws, fd, fd', f, r, hw, e => by simp [bindBs] at e
  | .fnv _, ds, ws, fd, fd', f, r, hw, e => by simp [bindBs] at e
  | .bin _ _ _, ds, ws, fd, fd', f, r, hw, e => by simp [bindBs] at e
  | .neg _, ds, ws, fd, fd', f, r, hw, e => by simp [bindBs] at e
  | .cmp _ _ _, ds, ws, fd, fd', f, r, hw, e => by simp [bindBs] at e
  | .chn _ _ _ _ _, ds, ws, fd, fd', f, r, hw, e => by simp [bindBs] at e
  | .and _ _, ds, ws, fd, fd', f, r, hw, e => by simp [bindBs] at e
  | .or _ _, ds, ws, fd, fd', f, r, hw, e => by simp [bindBs] at e
  | .not _, ds, ws, fd, fd', f, r, hw, e => by simp [bindBs] at e
  | .ife _ _ _, ds, ws, fd, fd', f, r, hw, e => by simp [bindBs] at e
  | .lst _, ds, ws, fd, fd', f, r, hw, e => by simp [bindBs] at e
  | .dnew _, ds, ws, fd, fd', f, r, hw, e => by simp [bindBs] at e
  | .idx _ _, ds, ws, fd, fd', f, r, hw, e => by simp [bindBs] at e
  | .sli _ _ _, ds, ws, fd, fd', f, r, hw, e => by simp [bindBs] at e
  | .cal _ _, ds, ws, fd, fd', f, r, hw, e => by simp [bindBs] at e
  | .mk _ _, ds, ws, fd, fd', f, r, hw, e => by simp [bindBs] at e
  | .mth _ _ _, ds, ws, fd, fd', f, r, hw, e => by simp [bindBs] at e
  | .blt _ _, ds, ws, fd, fd', f, r, hw, e => by simp [bindBs] at e
  | .bm _ _ _, ds, ws, fd, fd', f, r, hw, e => by simp [bindBs] at e
  | .fld _ _, ds, ws, fd, fd', f, r, hw, e => by simp [bindBs] at e
  | .isi _ _, ds, ws, fd, fd', f, r, hw, e => by simp [bindBs] at e
  | .isx _, ds, ws, fd, fd', f, r, hw, e => by simp [bindBs] at e
  | .lc _ _ _ _ _, ds, ws, fd, fd', f, r, hw, e => by simp [bindBs] at e
  | .agg _ _, ds, ws, fd, fd', f, r, hw, e => by simp [bindBs] at e
  | .rev _, ds, ws, fd, fd', f, r, hw, e => by simp [bindBs] at e
  | .calv _ _, ds, ws, fd, fd', f, r, hw, e => by simp [bindBs] at e
  | .lam _ _ _, ds, ws, fd, fd', f, r, hw, e => by simp [bindBs] at e
  | .thk _ _, ds, ws, fd, fd', f, r, hw, e => by simp [bindBs] at e
  | .rng _, ds, ws, fd, fd', f, r, hw, e => by simp [bindBs] at e
  | .zip _ _, ds, ws, fd, fd', f, r, hw, e => by simp [bindBs] at e
  | .enu _, ds, ws, fd, fd', f, r, hw, e => by simp [bindBs] at e
  | .sq _, ds, ws, fd, fd', f, r, hw, e => by simp [bindBs] at e
end
end
end WL

namespace WL
open PySem
/-! ### which variables' values flow into what is found or laid -/
def isV : E → Bool
  | .v _ => true
  | _ => false
mutual
def esc (i : Nat) : E → Bool
  | .v j => decide (j = i)
  | .cons a r => esc i a || esc i r
  | .bin _ a b => (!isV a && esc i a) || (!isV b && esc i b)
  | .neg a => esc i a
  | .cmp _ a b => (!isV a && esc i a) || (!isV b && esc i b)
  | .chn _ _ a b c => esc i a || (esc i b || esc i c)
  | .and a b => esc i a || esc i b
  | .or a b => esc i a || esc i b
  | .not a => esc i a
  | .ife c a b => esc i c || (esc i a || esc i b)
  | .tup l => esc i l
  | .lst l => esc i l
  | .idx a b => (!isV a && esc i a) || (!isV b && esc i b)
  | .sli a lo hi => (!isV a && esc i a) || (esc i lo || esc i hi)
  | .cal _ l => esc i l
  | .mk _ l => esc i l
  | .mth _ o l => esc i o || esc i l
  | .blt _ l => escL i l
  | .bm _ o l => (!isV o && esc i o) || esc i l
  | .fld o _ => (!isV o && esc i o)
  | .isi a _ => (!isV a && esc i a)
  | .lc own _ it cond e => esc i it || ((esc i cond || esc i e) && !own.contains i)
  | .agg _ a => esc i a
  | .rev a => (!isV a && esc i a)
  | .calv _ l => esc i l
  | .thk _ b => esc i b
  | .rng l => esc i l
  | .zip a b => (!isV a && esc i a) || (!isV b && esc i b)
  | .enu a => (!isV a && esc i a)
  | .sq a => (!isV a && esc i a)
  | _ => false
def escL (i : Nat) : E → Bool
  | .cons a r => (!isV a && esc i a) || escL i r
  | _ => false
end
def escT (i : Nat) (a : E) : Bool := !isV a && esc i a
def Pv (p : Nat → Bool) (f : F) (a : Nat) : Prop := (∀ i, frTF a f i) ∧ ∀ i, p i = true → frF a f i
def Pe (e : E) (f : F) : Nat → Prop := Pv (fun i => esc i e) f
theorem Pv.or_l {p q : Nat → Bool} {f : F} {a : Nat} (h : Pv (fun i => p i || q i) f a) : Pv p f a := ⟨h.1, fun i e => h.2 i (by simp [e])⟩
theorem Pv.or_r {p q : Nat → Bool} {f : F} {a : Nat} (h : Pv (fun i => p i || q i) f a) : Pv q f a := ⟨h.1, fun i e => h.2 i (by simp [e])⟩
def CloF (h : Hm) (f : F) : Prop := ∀ a, h.length ≤ a → frH a h ∧ ∀ i, frF a f i
theorem CloF.p {h : Hm} {f : F} (c : CloF h f) (p : Nat → Bool) : Clo (Pv p f) h := fun a ha => ⟨(c a ha).1, fun i w e => .inr ((c a ha).2 i w e), fun i _ => (c a ha).2 i⟩
theorem CloF.of {h t : Hm} {f : F} {P : Nat → Prop} (c : CloF h f) (k : Clo P (h ++ t)) : CloF (h ++ t) f := fun a ha => ⟨(k a ha).1, (c a (by rw [List.length_append] at ha; omega)).2⟩
/-! ### levels -/
structure Cb0B (call : Nat → List W → Hm → R W) (make : Nat → List W → Hm → R W) (cods : Nat → Nat → E → List W → Hm → R W) (call' make' : Nat → List D → RB D) (cods' : Nat → Nat → E → List D → RB D) : Prop where
  call : ∀ (g : Nat) (ds : List D) (ws : List W) (h : Hm), Reps h ds ws → Clo (fun a => frs a ws) h → OkW (fun a => frs a ws) h (call' g ds) (call g ws h)
  make : ∀ (g : Nat) (ds : List D) (ws : List W) (h : Hm), Reps h ds ws → Clo (fun a => frs a ws) h → OkW (fun a => frs a ws) h (make' g ds) (make g ws h)
  cods : ∀ (np ns : Nat) (b : E) (ds : List D) (ws : List W) (h : Hm), Reps h ds ws → Clo (fun a => frs a ws) h → OkW (fun a => frs a ws) h (cods' np ns b ds) (cods np ns b ws h)
/-- a new object, which nothing names -/
def New (n : Nat) (x : R W) : Prop := ∀ b h', x = .ok (.ref b) h' → n ≤ b ∧ frH b h'
structure CbOk (C : Cb) (C' : CbB) : Prop where
  tb : C'.tb = C.tb
  xc : C'.xc = C.xc
  top : Cb0B C.call C.make C.cods C'.call C'.make C'.cods
  low : Cb0B C.lcall C.lmake C.lcods C'.lcall C'.lmake C'.lcods
  new : ∀ (g : Nat), g ∈ C'.fs → ∀ (ds : List D) (ws : List W) (h : Hm) (d : D), Reps h ds ws → Clo (fun a => frs a ws) h → C'.call g ds = .ok d → New h.length (C.call g ws h)
  thk : ∀ (g : Nat) (r : RB D) (th : Hm → R W) (h : Hm) (P : Nat → Prop), (∀ t, Clo P (h ++ t) → OkW P (h ++ t) r (th (h ++ t))) → Clo P h → OkW P h (C'.thkc g r) (C.thkc g th h)
theorem CbOk.lower {C : Cb} {C' : CbB} (h : CbOk C C') : CbOk (lowC C) (lowB C') := ⟨h.tb, rfl, h.low, ⟨fun _ _ _ _ _ _ => trivial, fun _ _ _ _ _ _ => trivial, fun _ _ _ _ _ _ _ _ => trivial⟩, fun _ m => (List.not_mem_nil m).elim, fun _ _ _ _ _ _ _ => trivial⟩
/-! ### comprehensions -/
theorem lc_rep {c e : F → Hm → R W} {c' e' : FD → RB D} {pc pe : Nat → Bool} {t : E} {J : It} {wd : FD} {wf : F}
    (hc : ∀ fd f h, RepF h fd f → CloF h f → OkW (Pv pc f) h (c' fd) (c f h)) (he : ∀ fd f h, RepF h fd f → CloF h f → OkW (Pv pe f) h (e' fd) (e f h)) (n : Nat) :
    ∀ (l : List D) (i : Nat) (acc : List W) (h : Hm) (all : List D), RepI h all J → all.drop i = l → RepF h wd wf → CloF h wf → (∀ a, h.length ≤ a → frTI a J) → acc.length + l.length ≤ line → match lcB c' e' (bindB t) wd l with
      | .ok ds => ∃ ws k, lcL c e (bindT t) J wf l.length i acc h = .ok (acc ++ ws) (h ++ k) ∧ Reps (h ++ k) ds ws ∧ ∀ a, (a < h.length ∨ (h ++ k).length ≤ a) → frH a h → frTI a J → Pv (fun i => pc i || pe i) wf a → frs a ws ∧ frH a k
      | .exc _ => False
      | .bad => True
  | [], i, acc, h, all, rI, hd, rF, cl, cJ, hl => by
    refine ⟨[], [], ?_, rfl, fun a _ _ _ _ => ⟨trivial, frH_nil⟩⟩
    have hle : all.length ≤ i := by have := congrArg List.length hd; simp at this; omega
    show (if J.stop i h then R.ok acc h else .bad) = _
    unfold It.stop
    rw [len_rep rI]
    simp [hle]
  | d :: l, i, acc, h, all, rI, hd, rF, cl, cJ, hl => by
    have hg : all[i]? = some d := by have := congrArg (fun z => z[0]?) hd; simpa using this
    have hd2 : all.drop (i + 1) = l := by have := congrArg List.tail hd; simpa [List.tail_drop] using this
    obtain ⟨w, k1, k2, k3⟩ := item_rep rI hg
    show match (match bindB t d wd with | none => RB.bad | some f1 => match c' f1 with | .ok (.bl true) => (match e' f1 with | .ok d => (lcB c' e' (bindB t) wd l).bind fun ds => .ok (d :: ds) | _ => .bad) | .ok (.bl false) => lcB c' e' (bindB t) wd l | _ => .bad) with | .ok ds => _ | .exc _ => False | .bad => True
    cases zb : bindB t d wd with
    | none => trivial
    | some fd1 =>
      obtain ⟨f1, k4, k5, k6⟩ := bind_rep t rF k2 zb
      have cl1 : CloF h f1 := fun a ha => ⟨(cl a ha).1, fun j => (k6 a j).1 ⟨k3 a (cJ a ha) (cl a ha).1, trivial⟩ ((cl a ha).2 j)⟩
      have eA : ∀ acc, lcL c e (bindT t) J wf (d :: l).length i acc h = match c f1 h with
          | .ok (.bl true) h1 => (match e f1 h1 with
            | .ok w h2 => if acc.length < line then lcL c e (bindT t) J wf l.length (i + 1) (acc ++ [w]) h2 else .bad
            | _ => .bad)
          | .ok (.bl false) h1 => lcL c e (bindT t) J wf l.length (i + 1) acc h1
          | _ => .bad := fun acc => by
        show (match (J.item i h).bind fun w => bindT t w wf with | none => R.bad | some f1 => _) = _
        rw [k1]
        show (match bindT t w wf with | none => R.bad | some f1 => _) = _
        rw [k4]
        try rfl
      rw [eA acc]
      have hc1 := hc fd1 f1 h k5 cl1
      simp only
      cases zc : c' fd1 with
      | bad => trivial
      | exc _ => trivial
      | ok b =>
        rw [zc] at hc1
        obtain ⟨u, t1, e1, r1, g1⟩ := hc1
        rw [e1]
        cases b with
        | bl bb =>
          have r1 : u = .bl bb := r1
          subst r1
          have clh : CloF (h ++ t1) wf := fun a ha => by
            have ha' : h.length ≤ a := by rw [List.length_append] at ha; omega
            exact ⟨frH_app (cl a ha').1 (g1 a (.inr ha) (cl a ha').1 ((cl1.p _) a ha').2).2, (cl a ha').2⟩
          have clh1 : CloF (h ++ t1) f1 := fun a ha => by
            have ha' : h.length ≤ a := by rw [List.length_append] at ha; omega
            exact ⟨frH_app (cl a ha').1 (g1 a (.inr ha) (cl a ha').1 ((cl1.p _) a ha').2).2, (cl1 a ha').2⟩
          have pv1 : ∀ {a}, frH a h → frTI a J → ∀ {p : Nat → Bool}, Pv p wf a → Pv p f1 a := fun {a} fh fJ {p} pv => ⟨fun j => (k6 a j).2 ⟨k3 a fJ fh, trivial⟩ (pv.1 j), fun j pj => (k6 a j).1 ⟨k3 a fJ fh, trivial⟩ (pv.2 j pj)⟩
          cases bb with
          | false =>
            have ih := lc_rep (t := t) hc he n l (i + 1) acc (h ++ t1) all rI.app hd2 rF.app clh (fun a ha => cJ a (by rw [List.length_append] at ha; omega)) (by rw [List.length_cons] at hl; omega)
            simp only
            cases zl : lcB c' e' (bindB t) wd l with
            | bad => trivial
            | exc _ => rw [zl] at ih; exact ih
            | ok ds =>
              rw [zl] at ih
              obtain ⟨ws, k, e2, r2, g2⟩ := ih
              refine ⟨ws, t1 ++ k, by rw [e2, List.append_assoc], by rw [← List.append_assoc]; exact r2, fun a ha fh fJ pv => ?_⟩
              rw [← List.append_assoc] at ha
              have g3 := (g1 a (by rcases ha with q | q; exact .inl q; right; rw [List.length_append] at q; omega) fh (pv1 fh fJ pv.or_l)).2
              obtain ⟨g4, g5⟩ := g2 a (by rcases ha with q | q; left; rw [List.length_append]; omega; exact .inr q) (frH_app fh g3) fJ pv
              exact ⟨g4, frH_app g3 g5⟩
          | true =>
            have he1 := he fd1 f1 (h ++ t1) k5.app clh1
            simp only
            cases ze : e' fd1 with
            | bad => trivial
            | exc _ => trivial
            | ok y =>
              rw [ze] at he1
              obtain ⟨v, t2, e2, r2, g2⟩ := he1
              rw [e2]
              have clh2 : CloF (h ++ t1 ++ t2) wf := fun a ha => by
                have ha' : (h ++ t1).length ≤ a := by rw [List.length_append] at ha; omega
                exact ⟨frH_app (clh a ha').1 (g2 a (.inr ha) (clh a ha').1 ((clh1.p _) a ha').2).2, (clh a ha').2⟩
              have ih := lc_rep (t := t) hc he n l (i + 1) (acc ++ [v]) (h ++ t1 ++ t2) all rI.app.app hd2 rF.app.app clh2 (fun a ha => cJ a (by rw [List.length_append, List.length_append] at ha; omega)) (by rw [List.length_cons] at hl; rw [List.length_append, List.length_singleton]; omega)
              simp only
              rw [if_pos (by rw [List.length_cons] at hl; omega)]
              cases zl : lcB c' e' (bindB t) wd l with
              | bad => trivial
              | exc _ => rw [zl] at ih; exact ih.elim
              | ok ds =>
                rw [zl] at ih
                obtain ⟨ws, k, e3, r3, g3⟩ := ih
                refine ⟨v :: ws, t1 ++ t2 ++ k, by rw [e3]; simp [List.append_assoc], ?_, fun a ha fh fJ pv => ?_⟩
                · have q : h ++ (t1 ++ t2 ++ k) = h ++ t1 ++ t2 ++ k := by simp [List.append_assoc]
                  rw [q]
                  exact ⟨v, ws, rfl, r2.app, r3⟩
                · have q : h ++ (t1 ++ t2 ++ k) = h ++ t1 ++ t2 ++ k := by simp [List.append_assoc]
                  rw [q] at ha
                  have g4 := (g1 a (by rcases ha with q | q; exact .inl q; right; rw [List.length_append, List.length_append] at q; omega) fh (pv1 fh fJ pv.or_l)).2
                  obtain ⟨g5, g6⟩ := g2 a (by rcases ha with q | q; left; rw [List.length_append]; omega; right; rw [List.length_append] at q; omega) (frH_app fh g4) (pv1 fh fJ pv.or_r)
                  obtain ⟨g7, g8⟩ := g3 a (by rcases ha with q | q; left; rw [List.length_append, List.length_append]; omega; exact .inr q) (frH_app (frH_app fh g4) g6) fJ pv
                  exact ⟨⟨g5, g7⟩, frH_app (frH_app g4 g6) g8⟩
        | _ => trivial
end WL

namespace WL
open PySem
section
variable {δ ω : Type} {rel : Hm → δ → ω → Prop} {frr frr' : Nat → ω → Prop} {P : Nat → Prop} {h : Hm}
theorem OkG.wk {r : RB δ} {x : R ω} (hx : OkG rel frr P h r x) (hp : ∀ a w, frr a w → frr' a w) : OkG rel frr' P h r x := by
  cases r with
  | bad => trivial
  | exc c => exact hx
  | ok d => obtain ⟨w, t, rfl, r, k⟩ := hx; exact ⟨w, t, rfl, r, fun a ha fh p => ⟨hp a w (k a ha fh p).1, (k a ha fh p).2⟩⟩
end
theorem v_rep {fd : FD} {f : F} {h : Hm} {C : Cb} {C' : CbB} {i : Nat} {frr : Nat → W → Prop} {P : Nat → Prop} (rF : RepF h fd f) (hp : ∀ a w, f[i]? = some (some w) → P a → frr a w) : OkG Rep frr P h (evB C' (.v i) fd) (ev C (.v i) f h) := by
  rw [ev_v]
  show OkG Rep frr P h (match fd[i]? with | some (some w) => RB.ok w | _ => .bad) _
  cases z : fd[i]? with
  | none => trivial
  | some o =>
    cases o with
    | none => trivial
    | some d =>
      obtain ⟨w, k1, k2⟩ := rF.2 i d z
      simp only
      rw [k1]
      exact OkG.pure k2 fun a _ p => hp a w k1 p
theorem evT_of {a : E} {fd : FD} {f : F} {h : Hm} {C : Cb} {C' : CbB} (rF : RepF h fd f) (ih : OkW (Pe a f) h (evB C' a fd) (ev C a f h)) : OkG Rep frT (Pv (fun i => escT i a) f) h (evB C' a fd) (ev C a f h) := by
  cases a with
  | v j => exact v_rep rF fun a w e p => p.1 j w e
  | _ => exact OkG.wk ih fun _ _ => fr.t
theorem wipe_pv {p : Nat → Bool} {f : F} {a : Nat} : ∀ {own : List Nat}, Pv (fun i => p i && !own.contains i) f a → Pv p (wipe f own) a := by
  intro own hp
  have key : ∀ (own : List Nat) (j : Nat), (wipe f own)[j]? = (if own.contains j then (if j < f.length then some none else none) else f[j]?) := fun own => by
    induction own with
    | nil => intro j; simp [wipe]
    | cons v vs ih =>
      intro j
      have hl : (wipe f vs).length = f.length := by
        clear ih
        induction vs with
        | nil => rfl
        | cons u us ih => simp [wipe, ih]
      show ((wipe f vs).set v none)[j]? = _
      rw [List.getElem?_set, hl, ih j, List.contains_cons]
      by_cases c : v = j
      · subst c
        simp
      · have c' : (j == v) = false := by simpa using fun e => c e.symm
        rw [if_neg c, c', Bool.false_or]
  refine ⟨fun i w e => ?_, fun i pi w e => ?_⟩
  · rw [key] at e
    split at e
    · split at e <;> cases e
    · exact hp.1 i w e
  · rw [key] at e
    split at e
    · split at e <;> cases e
    · next c => exact hp.2 i (by simp [pi]; simpa using c) w e
theorem opt_rep {r : RB (List D)} {x : R (List W)} {P : Nat → Prop} {h : Hm} (hx : OkG Reps frs P h r x) : OkG (fun _ (a b : Option Int) => a = b) (fun _ _ => True) P h (optB r) (optI x) := by
  cases r with
  | bad => trivial
  | exc c => obtain ⟨t, rfl, k⟩ := hx; exact ⟨t, rfl, k⟩
  | ok ds =>
    obtain ⟨ws, t, rfl, r, k⟩ := hx
    cases ds with
    | nil =>
      have r : ws = [] := r
      subst r
      exact ⟨none, t, rfl, rfl, fun a ha fh p => ⟨trivial, (k a ha fh p).2⟩⟩
    | cons d ds =>
      cases d with
      | int i =>
        cases ds with
        | nil =>
          obtain ⟨w, rfl, s⟩ := r.single
          have s : w = .int i := s
          subst s
          exact ⟨some i, t, rfl, rfl, fun a ha fh p => ⟨trivial, (k a ha fh p).2⟩⟩
        | cons _ _ => trivial
      | _ => trivial
theorem lc_okG {c e : F → Hm → R W} {c' e' : FD → RB D} {pc pe : Nat → Bool} {t : E} {J : It} {fd : FD} {f : F} {own : List Nat} {l : List D} {h : Hm}
    (hc : ∀ fd f h, RepF h fd f → CloF h f → OkW (Pv pc f) h (c' fd) (c f h)) (he : ∀ fd f h, RepF h fd f → CloF h f → OkW (Pv pe f) h (e' fd) (e f h))
    (rI : RepI h l J) (rF : RepF h fd f) (cl : CloF h f) (cJ : ∀ a, h.length ≤ a → frTI a J) (hl : l.length ≤ line) :
    OkG Reps frs (fun a => Pv (fun i => (pc i || pe i) && !own.contains i) f a ∧ frTI a J) h (lcB c' e' (bindB t) (wipeB fd own) l) (lcL c e (bindT t) J (wipe f own) l.length 0 [] h) := by
  have clw : CloF h (wipe f own) := fun a ha => ⟨(cl a ha).1, fun i => (wipe_pv (p := fun _ => true) (own := own) ⟨fun i w e => .inr ((cl a ha).2 i w e), fun i _ => (cl a ha).2 i⟩).2 i rfl⟩
  have z := lc_rep (t := t) hc he 0 l 0 [] h l rI rfl (rF.wipe own) clw cJ (by rw [List.length_nil]; omega)
  cases y : lcB c' e' (bindB t) (wipeB fd own) l with
  | bad => trivial
  | exc _ => rw [y] at z; exact z.elim
  | ok ds =>
    rw [y] at z
    obtain ⟨ws, k, e1, r, g⟩ := z
    exact ⟨ws, k, e1, r, fun a ha fh p => g a ha fh p.2 (wipe_pv p.1)⟩
end WL

namespace WL
open PySem
theorem ok_opt {P : Nat → Prop} {h : Hm} : ∀ {o x : Option Bool}, (∀ b, o = some b → x = some b) → OkW P h (match o with | some c => .ok (.bl c) | none => .bad) (match x with | some c => .ok (.bl c) h | none => .bad)
  | none, _, _ => trivial
  | some b, x, e => by rw [e b rfl]; exact ok_bl
theorem esc_cmp {i : Nat} {o : CmpOp} {a b : E} : esc i (.cmp o a b) = (escT i a || escT i b) := rfl
theorem esc_bin {i : Nat} {o : Operator} {a b : E} : esc i (.bin o a b) = (escT i a || escT i b) := rfl
theorem esc_sli {i : Nat} {a b c : E} : esc i (.sli a b c) = (escT i a || (esc i b || esc i c)) := rfl
theorem esc_rev {i : Nat} {a : E} : esc i (.rev a) = escT i a := rfl
theorem esc_idx {i : Nat} {a b : E} : esc i (.idx a b) = (escT i a || escT i b) := rfl
theorem esc_zip {i : Nat} {a b : E} : esc i (.zip a b) = (escT i a || escT i b) := rfl
theorem esc_bm {i : Nat} {m : BM} {a b : E} : esc i (.bm m a b) = (escT i a || esc i b) := rfl
theorem esc_fld {i k : Nat} {a : E} : esc i (.fld a k) = escT i a := rfl
theorem esc_isi {i : Nat} {a : E} {c : Cl} : esc i (.isi a c) = escT i a := rfl
theorem esc_enu {i : Nat} {a : E} : esc i (.enu a) = escT i a := rfl
theorem esc_sq {i : Nat} {a : E} : esc i (.sq a) = escT i a := rfl
theorem escL_cons {i : Nat} {a r : E} : escL i (.cons a r) = (escT i a || escL i r) := rfl
mutual
theorem ev_ok : ∀ (e : E) (C : Cb) (C' : CbB), CbOk C C' → ∀ (fd : FD) (f : F) (h : Hm), RepF h fd f → CloF h f → OkW (Pe e f) h (evB C' e fd) (ev C e f h)
  | .v i, C, C', hC, fd, f, h, rF, cl => v_rep rF fun a w e p => p.2 i (by simp [esc]) w e
  | .non, C, C', hC, fd, f, h, rF, cl => by rw [ev_non]; exact OkG.pure rfl fun _ _ _ => trivial
  | .bl b, C, C', hC, fd, f, h, rF, cl => by rw [ev_bl]; exact OkG.pure rfl fun _ _ _ => trivial
  | .int i, C, C', hC, fd, f, h, rF, cl => by rw [ev_int]; exact OkG.pure rfl fun _ _ _ => trivial
  | .str s, C, C', hC, fd, f, h, rF, cl => by rw [ev_str]; exact OkG.pure rfl fun _ _ _ => trivial
  | .fnv g, C, C', hC, fd, f, h, rF, cl => by rw [ev_fnv]; exact OkG.pure rfl fun _ _ _ => trivial
  | .lam np ns b, C, C', hC, fd, f, h, rF, cl => by rw [ev_lam]; exact OkG.pure rfl fun _ _ _ => trivial
  | .bin o a b, C, C', hC, fd, f, h, rF, cl => by
    have ep : Pe (.bin o a b) f = Pv (fun i => escT i a || escT i b) f := by unfold Pe; simp only [esc_bin]
    rw [ep]
    rw [ev_bin]
    show OkG Rep fr (Pv (fun i => escT i a || escT i b) f) h ((evB C' a fd).bind fun x => (evB C' b fd).bind fun y => binB o x y) _
    refine OkG.bind (cl.p _) ((evT_of rF (ev_ok a C C' hC fd f h rF cl)).mono fun _ p => p.or_l) fun x v t r c1 => ?_
    refine OkG.bind c1 ((evT_of rF.app (ev_ok b C C' hC fd f (h ++ t) rF.app (cl.of c1))).mono fun _ p => p.1.or_r) fun y u t2 s c2 => ?_
    exact bin_rep r.app s
  | .neg a, C, C', hC, fd, f, h, rF, cl => by
    rw [ev_neg]
    refine OkG.bind (cl.p _) (ev_ok a C C' hC fd f h rF cl) fun x v t r c1 => ?_
    cases x with
    | int i => rw [show v = _ from r]; exact ok_int rfl
    | _ => trivial
  | .cmp o a b, C, C', hC, fd, f, h, rF, cl => by
    have ep : Pe (.cmp o a b) f = Pv (fun i => escT i a || escT i b) f := by unfold Pe; simp only [esc_cmp]
    rw [ep]
    rw [ev_cmp]
    show OkG Rep fr (Pv (fun i => escT i a || escT i b) f) h ((evB C' a fd).bind fun x => (evB C' b fd).bind fun y => match cmpB o x y with | some c => .ok (.bl c) | none => .bad) _
    refine OkG.bind (cl.p _) ((evT_of rF (ev_ok a C C' hC fd f h rF cl)).mono fun _ p => p.or_l) fun x v t r c1 => ?_
    refine OkG.bind c1 ((evT_of rF.app (ev_ok b C C' hC fd f (h ++ t) rF.app (cl.of c1))).mono fun _ p => p.1.or_r) fun y u t2 s c2 => ?_
    exact ok_opt fun b e => cmp_rep r.app s e
  | .chn o o' a b c, C, C', hC, fd, f, h, rF, cl => by
    rw [ev_chn]
    show OkG Rep fr (Pv (fun i => esc i a || (esc i b || esc i c)) f) h ((evB C' a fd).bind fun x => (evB C' b fd).bind fun y => match cmpB o x y with
      | some true => (evB C' c fd).bind fun z => (match cmpB o' y z with | some c => .ok (.bl c) | none => .bad)
      | some false => .ok (.bl false)
      | none => .bad) _
    refine OkG.bind (cl.p _) ((ev_ok a C C' hC fd f h rF cl).mono fun _ p => p.or_l) fun x v t r c1 => ?_
    refine OkG.bind c1 ((ev_ok b C C' hC fd f (h ++ t) rF.app (cl.of c1)).mono fun _ p => p.1.or_r.or_l) fun y u t2 s c2 => ?_
    cases z : cmpB o x y with
    | none => trivial
    | some bb =>
      rw [cmp_rep r.app s z]
      cases bb with
      | false => exact ok_bl
      | true =>
        refine OkG.bind c2 ((ev_ok c C C' hC fd f (h ++ t ++ t2) rF.app.app ((cl.of c1).of c2)).mono fun _ p => p.1.1.or_r.or_r) fun y3 u3 t3 s3 c3 => ?_
        exact ok_opt fun b e => cmp_rep s.app s3 e
  | .and a b, C, C', hC, fd, f, h, rF, cl => by
    rw [ev_and]
    show OkG Rep fr (Pv (fun i => esc i a || esc i b) f) h ((evB C' a fd).bind fun x => match x with | .bl true => evB C' b fd | .bl false => .ok (.bl false) | _ => .bad) _
    refine OkG.bind (cl.p _) ((ev_ok a C C' hC fd f h rF cl).mono fun _ p => p.or_l) fun x v t r c1 => ?_
    cases x with
    | bl bb =>
      rw [show v = _ from r]
      cases bb with
      | true => exact (ev_ok b C C' hC fd f (h ++ t) rF.app (cl.of c1)).mono fun _ p => p.1.or_r
      | false => exact ok_bl
    | _ => trivial
  | .or a b, C, C', hC, fd, f, h, rF, cl => by
    rw [ev_or]
    show OkG Rep fr (Pv (fun i => esc i a || esc i b) f) h ((evB C' a fd).bind fun x => match x with | .bl false => evB C' b fd | .bl true => .ok (.bl true) | _ => .bad) _
    refine OkG.bind (cl.p _) ((ev_ok a C C' hC fd f h rF cl).mono fun _ p => p.or_l) fun x v t r c1 => ?_
    cases x with
    | bl bb =>
      rw [show v = _ from r]
      cases bb with
      | false => exact (ev_ok b C C' hC fd f (h ++ t) rF.app (cl.of c1)).mono fun _ p => p.1.or_r
      | true => exact ok_bl
    | _ => trivial
  | .not a, C, C', hC, fd, f, h, rF, cl => by
    rw [ev_not]
    refine OkG.bind (cl.p _) (ev_ok a C C' hC fd f h rF cl) fun x v t r c1 => ?_
    cases x with
    | bl b => rw [show v = _ from r]; exact ok_bl
    | _ => trivial
  | .ife c a b, C, C', hC, fd, f, h, rF, cl => by
    rw [ev_ife]
    show OkG Rep fr (Pv (fun i => esc i c || (esc i a || esc i b)) f) h ((evB C' c fd).bind fun x => match x with | .bl true => evB C' a fd | .bl false => evB C' b fd | _ => .bad) _
    refine OkG.bind (cl.p _) ((ev_ok c C C' hC fd f h rF cl).mono fun _ p => p.or_l) fun x v t r c1 => ?_
    cases x with
    | bl bb =>
      rw [show v = _ from r]
      cases bb with
      | true => exact (ev_ok a C C' hC fd f (h ++ t) rF.app (cl.of c1)).mono fun _ p => p.1.or_r.or_l
      | false => exact (ev_ok b C C' hC fd f (h ++ t) rF.app (cl.of c1)).mono fun _ p => p.1.or_r.or_r
    | _ => trivial
  | .tup l, C, C', hC, fd, f, h, rF, cl => by
    rw [ev_tup]
    show OkG Rep fr (Pv (fun i => esc i l) f) h ((evsB C' l fd).bind fun ws => if ws.length ≤ line then .ok (.tup ws) else .bad) _
    refine OkG.bind (cl.p _) (evs_ok l C C' hC fd f h rF cl) fun ds ws t r c1 => ?_
    rw [← r.length]
    split
    · exact OkG.pure ⟨ws, rfl, r⟩ fun _ _ p => p.2
    · trivial
  | .lst l, C, C', hC, fd, f, h, rF, cl => by
    rw [ev_lst]
    show OkG Rep fr (Pv (fun i => esc i l) f) h ((evsB C' l fd).bind fun ws => if ws.length ≤ line then .ok (.lst ws) else .bad) _
    refine OkG.bind (cl.p _) (evs_ok l C C' hC fd f h rF cl) fun ds ws t r c1 => ?_
    rw [← r.length]
    split
    · exact ok_lst r fun _ _ p => p.2
    · trivial
  | .dnew t, C, C', hC, fd, f, h, rF, cl => by
    rw [ev_dnew]
    cases t with
    | true => exact ok_alloc (fun k e _ => ⟨_, [], rfl, e, rfl⟩) fun _ _ _ => trivial
    | false => exact ok_alloc (fun k e _ => ⟨_, [], rfl, e, rfl⟩) fun _ _ _ => trivial
  | .idx a b, C, C', hC, fd, f, h, rF, cl => by
    have ep : Pe (.idx a b) f = Pv (fun i => escT i a || escT i b) f := by unfold Pe; simp only [esc_idx]
    rw [ep]
    rw [ev_idx]
    show OkG Rep fr (Pv (fun i => escT i a || escT i b) f) h ((evB C' a fd).bind fun x => (evB C' b fd).bind fun y => match idxB x y with | some w => .ok w | none => .bad) _
    refine OkG.bind (cl.p _) ((evT_of rF (ev_ok a C C' hC fd f h rF cl)).mono fun _ p => p.or_l) fun x v t r c1 => ?_
    refine OkG.bind c1 ((evT_of rF.app (ev_ok b C C' hC fd f (h ++ t) rF.app (cl.of c1))).mono fun _ p => p.1.or_r) fun y u t2 s c2 => ?_
    cases z : idxB x y with
    | none => trivial
    | some d =>
      obtain ⟨w, k1, k2, k3⟩ := idx_rep r.app s z
      rw [k1]
      exact OkG.pure k2 fun a fh p => k3 a p.1.2 fh
  | .sli a lo hi, C, C', hC, fd, f, h, rF, cl => by
    have ep : Pe (.sli a lo hi) f = Pv (fun i => escT i a || (esc i lo || esc i hi)) f := by unfold Pe; simp only [esc_sli]
    rw [ep]
    rw [ev_sli]
    show OkG Rep fr (Pv (fun i => escT i a || (esc i lo || esc i hi)) f) h ((evB C' a fd).bind fun x => (optB (evsB C' lo fd)).bind fun l => (optB (evsB C' hi fd)).bind fun u => sliB x l u) _
    refine OkG.bind (cl.p _) ((evT_of rF (ev_ok a C C' hC fd f h rF cl)).mono fun _ p => p.or_l) fun x v t r c1 => ?_
    refine OkG.bind c1 ((opt_rep (evs_ok lo C C' hC fd f (h ++ t) rF.app (cl.of c1))).mono fun _ p => p.1.or_r.or_l) fun y u t2 s c2 => ?_
    refine OkG.bind c2 ((opt_rep (evs_ok hi C C' hC fd f (h ++ t ++ t2) rF.app.app ((cl.of c1).of c2))).mono fun _ p => p.1.1.or_r.or_r) fun y3 u3 t3 s3 c3 => ?_
    rw [← show y = u from s, ← show y3 = u3 from s3]
    exact (sli_rep r.app.app).mono fun _ p => p.1.1.2
  | .cal g l, C, C', hC, fd, f, h, rF, cl => by
    rw [ev_cal]
    show OkG Rep fr (Pv (fun i => esc i l) f) h ((evsB C' l fd).bind fun ws => C'.call g ws) _
    refine OkG.bind (cl.p _) (evs_ok l C C' hC fd f h rF cl) fun ds ws t r c1 => ?_
    exact (hC.top.call g ds ws (h ++ t) r (c1.mono fun _ p => p.2)).mono fun _ p => p.2
  | .mk g l, C, C', hC, fd, f, h, rF, cl => by
    rw [ev_mk]
    show OkG Rep fr (Pv (fun i => esc i l) f) h ((evsB C' l fd).bind fun ws => C'.make g ws) _
    refine OkG.bind (cl.p _) (evs_ok l C C' hC fd f h rF cl) fun ds ws t r c1 => ?_
    exact (hC.top.make g ds ws (h ++ t) r (c1.mono fun _ p => p.2)).mono fun _ p => p.2
  | .mth m o l, C, C', hC, fd, f, h, rF, cl => by
    rw [ev_mth]
    show OkG Rep fr (Pv (fun i => esc i o || esc i l) f) h ((evB C' o fd).bind fun x => match x with
      | .ins c fs => (match C'.tb.metI c m with
        | some g => (evsB C' l fd).bind fun ws => C'.call g (.ins c fs :: ws)
        | none => .bad)
      | _ => .bad) _
    refine OkG.bind (cl.p _) ((ev_ok o C C' hC fd f h rF cl).mono fun _ p => p.or_l) fun x v t r c1 => ?_
    cases x with
    | ins c fs =>
      obtain ⟨a, us, rfl, ea, r1⟩ := r
      simp only [ea]
      rw [hC.tb]
      cases z : C.tb.metI c m with
      | none => trivial
      | some g =>
        refine OkG.bind c1 ((evs_ok l C C' hC fd f (h ++ t) rF.app (cl.of c1)).mono fun _ p => p.1.or_r) fun ds ws t2 s c2 => ?_
        exact (hC.top.call g (.ins c fs :: ds) (.ref a :: ws) (h ++ t ++ t2) ⟨_, _, rfl, Rep.app (d := .ins c fs) ⟨a, us, rfl, ea, r1⟩, s⟩ (c2.mono fun _ p => ⟨p.1.2, p.2⟩)).mono fun _ p => ⟨p.1.2, p.2⟩
    | _ => trivial
  | .blt b l, C, C', hC, fd, f, h, rF, cl => by
    rw [ev_blt]
    show OkG Rep fr (Pv (fun i => escL i l) f) h ((evsB C' l fd).bind fun ws => bltB b ws) _
    refine OkG.bind (cl.p _) (evT_oks l C C' hC fd f h rF cl) fun ds ws t r c1 => ?_
    exact (blt_rep r).mono fun _ p => p.2
  | .bm m o l, C, C', hC, fd, f, h, rF, cl => by
    have ep : Pe (.bm m o l) f = Pv (fun i => escT i o || esc i l) f := by unfold Pe; simp only [esc_bm]
    rw [ep]
    rw [ev_bm]
    show OkG Rep fr (Pv (fun i => escT i o || esc i l) f) h ((evB C' o fd).bind fun x => if bmTyB m x then (evsB C' l fd).bind fun ws => bmB m x ws else .bad) _
    refine OkG.bind (cl.p _) ((evT_of rF (ev_ok o C C' hC fd f h rF cl)).mono fun _ p => p.or_l) fun x v t r c1 => ?_
    split
    · next ty =>
      rw [if_pos (bmTy_rep r ty)]
      refine OkG.bind c1 ((evs_ok l C C' hC fd f (h ++ t) rF.app (cl.of c1)).mono fun _ p => p.1.or_r) fun ds ws t2 s c2 => ?_
      exact (bm_rep r.app s).1.mono fun _ p => p.2
    · trivial
  | .fld o k, C, C', hC, fd, f, h, rF, cl => by
    have ep : Pe (.fld o k) f = Pv (fun i => escT i o) f := by unfold Pe; simp only [esc_fld]
    rw [ep]
    rw [ev_fld]
    show OkG Rep fr (Pv (fun i => escT i o) f) h ((evB C' o fd).bind fun x => match x with
      | .ins _ fs => (match lookD fs k with | some w => .ok w | none => .bad)
      | _ => .bad) _
    refine OkG.bind (cl.p _) (evT_of rF (ev_ok o C C' hC fd f h rF cl)) fun x v t r c1 => ?_
    cases x with
    | ins c fs =>
      obtain ⟨a, us, rfl, ea, r1⟩ := r
      simp only [ea]
      cases z : lookD fs k with
      | none => trivial
      | some d =>
        obtain ⟨w, k1, k2, k3⟩ := lookN_rep r1 z
        rw [k1]
        exact OkG.pure k2 fun b fh _ => frs.mem (fh a _ ea) k3
    | _ => trivial
  | .isi a c, C, C', hC, fd, f, h, rF, cl => by
    have ep : Pe (.isi a c) f = Pv (fun i => escT i a) f := by unfold Pe; simp only [esc_isi]
    rw [ep]
    rw [ev_isi]
    show OkG Rep fr (Pv (fun i => escT i a) f) h ((evB C' a fd).bind fun x => match isiB C'.tb x c with | some b => .ok (.bl b) | none => .bad) _
    refine OkG.bind (cl.p _) (evT_of rF (ev_ok a C C' hC fd f h rF cl)) fun x v t r c1 => ?_
    rw [hC.tb]
    exact ok_opt fun b e => isi_rep r e
  | .isx d, C, C', hC, fd, f, h, rF, cl => by
    rw [ev_isx]
    show OkW _ h (match C'.xc.bind fun c => C'.tb.subX c d with | some b => .ok (.bl b) | none => .bad) _
    rw [hC.xc, hC.tb]
    exact ok_opt fun b e => e
  | .lc own t it cond e, C, C', hC, fd, f, h, rF, cl => by
    rw [ev_lc]
    show OkG Rep fr (Pv (fun i => esc i it || ((esc i cond || esc i e) && !own.contains i)) f) h ((evIB C' it fd).bind fun l => if l.length ≤ line then (lcB (evCB C' cond) (evB C' e) (bindB t) (wipeB fd own) l).bind fun ws => .ok (.lst ws) else .bad) _
    refine OkG.bind (cl.p _) ((evI_ok it C C' hC fd f h rF cl).mono fun _ p => p.or_l) fun l J t1 rI c1 => ?_
    rw [len_rep rI]
    simp only
    split
    · next hl =>
      refine OkG.bind c1 ((lc_okG (own := own) (t := t) (fun fd f h r c => evC_ok cond C C' hC fd f h r c) (fun fd f h r c => ev_ok e C C' hC fd f h r c) rI rF.app (cl.of c1) (fun a ha => (c1 a ha).2.2) hl).mono fun _ p => ⟨p.1.or_r, p.2⟩) fun ds ws t2 s c2 => ?_
      exact ok_lst s fun _ _ p => p.2
    · trivial
  | .rev a, C, C', hC, fd, f, h, rF, cl => by
    have ep : Pe (.rev a) f = Pv (fun i => escT i a) f := by unfold Pe; simp only [esc_rev]
    rw [ep]
    rw [ev_rev]
    refine OkG.bind (cl.p _) (evT_of rF (ev_ok a C C' hC fd f h rF cl)) fun x v t r c1 => ?_
    cases z : lstD x with
    | none => trivial
    | some l =>
      obtain ⟨b, ws, _, _, k1, k2, k3⟩ := lst_rep r z
      rw [k1]
      exact ok_lst k2.reverse fun a fh _ => (k3 a fh).sub fun w hw => List.mem_reverse.mp hw
  | .calv i l, C, C', hC, fd, f, h, rF, cl => by
    rw [ev_calv]
    show OkG Rep fr (Pv (fun i => esc i l) f) h (match fd[i]? with
      | some (some (.fn g)) => (evsB C' l fd).bind fun ws => C'.call g ws
      | some (some (.cod np ns b)) => (evsB C' l fd).bind fun ws => C'.cods np ns b ws
      | _ => .bad) _
    cases z : fd[i]? with
    | none => trivial
    | some o =>
      cases o with
      | none => trivial
      | some d =>
        obtain ⟨w, k1, k2⟩ := rF.2 i d z
        cases d with
        | fn g =>
          simp only [k1]
          rw [show w = _ from k2]
          refine OkG.bind (cl.p _) (evs_ok l C C' hC fd f h rF cl) fun ds ws t r c1 => ?_
          exact (hC.top.call g ds ws (h ++ t) r (c1.mono fun _ p => p.2)).mono fun _ p => p.2
        | cod np ns b =>
          simp only [k1]
          rw [show w = _ from k2]
          refine OkG.bind (cl.p _) (evs_ok l C C' hC fd f h rF cl) fun ds ws t r c1 => ?_
          exact (hC.top.cods np ns b ds ws (h ++ t) r (c1.mono fun _ p => p.2)).mono fun _ p => p.2
        | _ => trivial
  | .thk g b, C, C', hC, fd, f, h, rF, cl => by
    rw [ev_thk]
    exact hC.thk g (evB (lowB C') b fd) (fun h1 => ev (lowC C) b f h1) h (Pv (fun i => esc i b) f) (fun t c => ev_ok b (lowC C) (lowB C') hC.lower fd f (h ++ t) rF.app (cl.of c)) (cl.p _)
  | .bad, C, C', hC, fd, f, h, rF, cl => trivial
  | .nil, C, C', hC, fd, f, h, rF, cl => trivial
  | .cons _ _, C, C', hC, fd, f, h, rF, cl => trivial
  | .rng _, C, C', hC, fd, f, h, rF, cl => trivial
  | .zip _ _, C, C', hC, fd, f, h, rF, cl => trivial
  | .enu _, C, C', hC, fd, f, h, rF, cl => trivial
  | .sq _, C, C', hC, fd, f, h, rF, cl => trivial
  | .agg b x, C, C', hC, fd, f, h, rF, cl => by
    cases x with
    | lc own t it cond e =>
      rw [ev_agg]
      show OkG Rep fr (Pv (fun i => esc i it || ((esc i cond || esc i e) && !own.contains i)) f) h ((evIB C' it fd).bind fun l => if l.length ≤ line then (lcB (evCB C' cond) (evB C' e) (bindB t) (wipeB fd own) l).bind fun ws => bltLB b ws else .bad) _
      refine OkG.bind (cl.p _) ((evI_ok it C C' hC fd f h rF cl).mono fun _ p => p.or_l) fun l J t1 rI c1 => ?_
      rw [len_rep rI]
      simp only
      split
      · next hl =>
        refine OkG.bind c1 ((lc_okG (own := own) (t := t) (fun fd f h r c => evC_ok cond C C' hC fd f h r c) (fun fd f h r c => ev_ok e C C' hC fd f h r c) rI rF.app (cl.of c1) (fun a ha => (c1 a ha).2.2) hl).mono fun _ p => ⟨p.1.or_r, p.2⟩) fun ds ws t2 s c2 => ?_
        exact (bltL_rep s).mono fun _ p => p.2
      · trivial
    | _ => trivial
theorem evs_ok : ∀ (e : E) (C : Cb) (C' : CbB), CbOk C C' → ∀ (fd : FD) (f : F) (h : Hm), RepF h fd f → CloF h f → OkG Reps frs (Pe e f) h (evsB C' e fd) (evs C e f h) := by
  intro e C C' hC fd f h rF cl
  cases e with
  | nil => rw [evs_nil]; exact OkG.pure rfl fun _ _ _ => trivial
  | cons a r =>
    rw [evs_cons]
    show OkG Reps frs (Pv (fun i => esc i a || esc i r) f) h ((evB C' a fd).bind fun x => (evsB C' r fd).bind fun xs => .ok (x :: xs)) _
    refine OkG.bind (cl.p _) ((ev_ok a C C' hC fd f h rF cl).mono fun _ p => p.or_l) fun x v t r1 c1 => ?_
    refine OkG.bind c1 ((evs_ok r C C' hC fd f (h ++ t) rF.app (cl.of c1)).mono fun _ p => p.1.or_r) fun y u t2 s c2 => ?_
    exact OkG.pure ⟨_, _, rfl, r1.app, s⟩ fun _ _ p => ⟨p.1.2, p.2⟩
  | _ => trivial
theorem evT_oks : ∀ (e : E) (C : Cb) (C' : CbB), CbOk C C' → ∀ (fd : FD) (f : F) (h : Hm), RepF h fd f → CloF h f → OkG Reps frTs (Pv (fun i => escL i e) f) h (evsB C' e fd) (evs C e f h) := by
  intro e C C' hC fd f h rF cl
  cases e with
  | nil => rw [evs_nil]; exact OkG.pure rfl fun _ _ _ w hw => by cases hw
  | cons a r =>
    have ep : Pv (fun i => escL i (.cons a r)) f = Pv (fun i => escT i a || escL i r) f := by simp only [escL_cons]
    rw [ep]
    rw [evs_cons]
    show OkG Reps frTs (Pv (fun i => escT i a || escL i r) f) h ((evB C' a fd).bind fun x => (evsB C' r fd).bind fun xs => .ok (x :: xs)) _
    refine OkG.bind (cl.p _) ((evT_of rF (ev_ok a C C' hC fd f h rF cl)).mono fun _ p => p.or_l) fun x v t r1 c1 => ?_
    refine OkG.bind c1 ((evT_oks r C C' hC fd f (h ++ t) rF.app (cl.of c1)).mono fun _ p => p.1.or_r) fun y u t2 s c2 => ?_
    exact OkG.pure ⟨_, _, rfl, r1.app, s⟩ fun _ _ p w hw => by
      rcases List.mem_cons.mp hw with rfl | hw
      · exact p.1.2
      · exact p.2 w hw
  | _ => trivial
theorem evI_ok : ∀ (e : E) (C : Cb) (C' : CbB), CbOk C C' → ∀ (fd : FD) (f : F) (h : Hm), RepF h fd f → CloF h f → OkG RepI frTI (Pe e f) h (evIB C' e fd) (evI C e f h) := by
  intro e C C' hC fd f h rF cl
  cases e with
  | rng l =>
    rw [evI_rng]
    show OkG RepI frTI (Pv (fun i => esc i l) f) h ((evsB C' l fd).bind fun ws => match rngB ws with | some J => .ok J | none => .bad) _
    refine OkG.bind (cl.p _) (evs_ok l C C' hC fd f h rF cl) fun ds ws t r c1 => ?_
    cases z : rngB ds with
    | none => trivial
    | some J =>
      obtain ⟨I, k1, k2, k3⟩ := rng_rep r z
      rw [k1]
      exact OkG.pure k2 fun a _ _ => (k3 a).t
  | zip a b =>
    have ep : Pe (.zip a b) f = Pv (fun i => escT i a || escT i b) f := by unfold Pe; simp only [esc_zip]
    rw [ep]
    rw [evI_zip]
    show OkG RepI frTI (Pv (fun i => escT i a || escT i b) f) h ((evB C' a fd).bind fun x => (evB C' b fd).bind fun y => match lstD x, lstD y with
      | some l, some m => .ok (zipD l m)
      | _, _ => .bad) _
    refine OkG.bind (cl.p _) ((evT_of rF (ev_ok a C C' hC fd f h rF cl)).mono fun _ p => p.or_l) fun x v t r c1 => ?_
    refine OkG.bind c1 ((evT_of rF.app (ev_ok b C C' hC fd f (h ++ t) rF.app (cl.of c1))).mono fun _ p => p.1.or_r) fun y u t2 s c2 => ?_
    cases z1 : lstD x with
    | none => trivial
    | some l =>
      cases z2 : lstD y with
      | none => trivial
      | some m =>
        obtain ⟨_, ws, _, _, k1, _⟩ := lst_rep (r.app (t := t2)) z1
        obtain ⟨_, us, _, _, k2, _⟩ := lst_rep s z2
        rw [k1, k2]
        have x1 : x = .lst l := by cases x <;> first | (cases z1; rfl) | cases z1
        have y1 : y = .lst m := by cases y <;> first | (cases z2; rfl) | cases z2
        subst x1 y1
        exact OkG.pure ⟨l, m, r.app, s, rfl⟩ fun _ _ p => ⟨p.1.2, p.2⟩
  | enu a =>
    have ep : Pe (.enu a) f = Pv (fun i => escT i a) f := by unfold Pe; simp only [esc_enu]
    rw [ep]
    rw [evI_enu]
    show OkG RepI frTI (Pv (fun i => escT i a) f) h ((evB C' a fd).bind fun x => match lstD x with | some l => .ok (enuD 0 l) | none => .bad) _
    refine OkG.bind (cl.p _) (evT_of rF (ev_ok a C C' hC fd f h rF cl)) fun x v t r c1 => ?_
    cases z1 : lstD x with
    | none => trivial
    | some l =>
      obtain ⟨_, ws, _, _, k1, _⟩ := lst_rep r z1
      rw [k1]
      have x1 : x = .lst l := by cases x <;> first | (cases z1; rfl) | cases z1
      subst x1
      exact OkG.pure ⟨l, r, rfl⟩ fun _ _ p => p.2
  | sq a =>
    have ep : Pe (.sq a) f = Pv (fun i => escT i a) f := by unfold Pe; simp only [esc_sq]
    rw [ep]
    rw [evI_sq]
    show OkG RepI frTI (Pv (fun i => escT i a) f) h ((evB C' a fd).bind fun x => match seqD x with | some l => .ok l | none => .bad) _
    refine OkG.bind (cl.p _) (evT_of rF (ev_ok a C C' hC fd f h rF cl)) fun x v t r c1 => ?_
    cases z1 : seqD x with
    | none => trivial
    | some l =>
      obtain ⟨ws, k1, _⟩ := seq_rep r z1
      rw [k1]
      exact OkG.pure ⟨x, r, z1⟩ fun _ _ p => p.2
  | _ => trivial
theorem evC_ok : ∀ (e : E) (C : Cb) (C' : CbB), CbOk C C' → ∀ (fd : FD) (f : F) (h : Hm), RepF h fd f → CloF h f → OkW (Pe e f) h (evCB C' e fd) (evC C e f h) := by
  intro e C C' hC fd f h rF cl
  cases e with
  | nil => rw [evC_nil]; exact ok_bl
  | cons a r => rw [evC_e]; exact (ev_ok a C C' hC fd f h rF cl).mono fun _ p => Pv.or_l (p := fun i => esc i a) (q := fun i => esc i r) p
  | _ => trivial
end
end WL

namespace WL
open PySem
/-! ### own lists: a test over the text -/
def clr (o : List Nat) (e : E) : List Nat := o.filter fun i => !esc i e
def del (o is : List Nat) : List Nat := o.filter fun i => !is.contains i
def fresh (fs : List Nat) : E → Bool
  | .cal g _ => fs.contains g
  | .lst _ => true
  | .lc _ _ _ _ _ => true
  | .dnew _ => true
  | .sli _ _ _ => true
  | .bin _ _ _ => true
  | .blt _ _ => true
  | .rev _ => true
  | _ => false
def tvs : E → List Nat
  | .v i => [i]
  | .tup l => tvs l
  | .cons a r => tvs a ++ tvs r
  | _ => []
def frIs (fs : List Nat) : List Nat → E → List Nat
  | i :: is, .cons a r => if fresh fs a && !is.contains i then i :: frIs fs is r else frIs fs is r
  | _, _ => []
def escI (i : Nat) : E → Bool
  | .sq a => esc i a
  | .zip a b => esc i a || esc i b
  | .enu a => esc i a
  | .rng l => esc i l
  | _ => true
def loopFix (c : List Nat → Option (List Nat)) : Nat → List Nat → Option (List Nat)
  | 0, _ => none
  | n + 1, o => match c o with
    | none => none
    | some o1 => if o.all o1.contains then some o else loopFix c n (o.filter o1.contains)
def ownV (o : List Nat) : E → Bool
  | .v i => o.contains i
  | _ => false
def chk (fs : List Nat) (fz : Bool) (lo : List Nat) : S → List Nat → Option (List Nat)
  | .seq a r, o => (chk fs fz lo a o).bind fun o1 => chk fs fz lo r o1
  | .exp (.bm m (.v i) l), o => if (clr o l).contains i then some (clr o l) else none
  | .exp e, o => some (clr o e)
  | .asg i e, o => some (if fresh fs e then i :: del (clr o e) [i] else del (clr o e) [i])
  | .ret e, o => if fz && !(fresh fs e || ownV o e) then none else some o
  | .unp t e, o => some (del (clr o e) (tvs t))
  | .par is es, o => some (frIs fs is es ++ del (clr o es) is)
  | .sub (.v i) k e, o => if (clr (clr o e) k).contains i then some (clr (clr o e) k) else none
  | .sub _ _ _, _ => none
  | .stf _ _ _, _ => none
  | .aug i _ e, o => some (clr o e)
  | .ife c a b, o => (chk fs fz lo a (clr o c)).bind fun x => (chk fs fz lo b (clr o c)).map fun y => x.filter y.contains
  | .whl c b, o => loopFix (fun x => chk fs fz x b x) 9 (clr o c)
  | .forS t it b, o => loopFix (fun x => chk fs fz x b x) 9 (del (o.filter fun i => !escI i it) (tvs t))
  | .brk, o => if lo.all o.contains then some o else none
  | .cnt, o => if lo.all o.contains then some o else none
  | _, o => some o
/-! ### states -/
structure StB (base : Nat) (o : List Nat) (fd : FD) (f : F) (h : Hm) : Prop where
  rF : RepF h fd f
  cl : CloF h f
  own : ∀ i ∈ o, ∀ b, f[i]? = some (some (.ref b)) → base ≤ b ∧ frH b h ∧ ∀ j, j ≠ i → frF b f j
  le : base ≤ h.length
structure Mv (base : Nat) (h h' : Hm) : Prop where
  len : h.length ≤ h'.length
  keep : ∀ b, b < base → h'[b]? = h[b]?
def FrS (base : Nat) (f : F) (h : Hm) (f' : F) (h' : Hm) : Prop := ∀ a, a < base → frH a h → (∀ j, frF a f j) → frH a h' ∧ ∀ j, frF a f' j
theorem Mv.refl {base : Nat} {h : Hm} : Mv base h h := ⟨Nat.le_refl _, fun _ _ => rfl⟩
theorem Mv.trans {base : Nat} {h h' h'' : Hm} (a : Mv base h h') (b : Mv base h' h'') : Mv base h h'' := ⟨Nat.le_trans a.len b.len, fun x hx => (b.keep x hx).trans (a.keep x hx)⟩
theorem Mv.app {base : Nat} {h t : Hm} (l : base ≤ h.length) : Mv base h (h ++ t) := ⟨by rw [List.length_append]; omega, fun b hb => by rw [List.getElem?_append_left (by omega)]⟩
theorem FrS.refl {base : Nat} {f : F} {h : Hm} : FrS base f h f h := fun _ _ x y => ⟨x, y⟩
theorem FrS.trans {base : Nat} {f f' f'' : F} {h h' h'' : Hm} (a : FrS base f h f' h') (b : FrS base f' h' f'' h'') : FrS base f h f'' h'' := fun x hx y z => by
  obtain ⟨p, q⟩ := a x hx y z
  exact b x hx p q
theorem StB.sub {base : Nat} {o o' : List Nat} {fd : FD} {f : F} {h : Hm} (s : StB base o fd f h) (k : ∀ i ∈ o', i ∈ o) : StB base o' fd f h := ⟨s.rF, s.cl, fun i hi => s.own i (k i hi), s.le⟩
/-- own addresses are not named by an expression's value in which they do not flow -/
theorem StB.pv {base : Nat} {o : List Nat} {fd : FD} {f : F} {h : Hm} (s : StB base o fd f h) {p : Nat → Bool} {i b : Nat} (hi : i ∈ o) (hb : f[i]? = some (some (.ref b))) (hp : p i = false) : Pv p f b := by
  obtain ⟨_, _, k⟩ := s.own i hi b hb
  refine ⟨fun j w e => ?_, fun j pj w e => ?_⟩
  · by_cases c : j = i
    · subst c; rw [hb] at e; cases e; exact .inl rfl
    · exact .inr (k j c w e)
  · have c : j ≠ i := fun c => by subst c; rw [hp] at pj; cases pj
    exact k j c w e
theorem StB.lt {base : Nat} {o : List Nat} {fd : FD} {f : F} {h : Hm} (s : StB base o fd f h) {i b : Nat} (hb : f[i]? = some (some (.ref b))) : b < h.length := Nat.lt_of_not_le fun c => ((s.cl b c).2 i _ hb) rfl
/-- behind an expression -/
theorem StB.ext {base : Nat} {o : List Nat} {fd : FD} {f : F} {h t : Hm} (s : StB base o fd f h) {p : Nat → Bool} (g : ∀ a, (a < h.length ∨ (h ++ t).length ≤ a) → frH a h → Pv p f a → frH a t) : StB base (o.filter fun i => !p i) fd f (h ++ t) ∧ Mv base h (h ++ t) ∧ FrS base f h f (h ++ t) := by
  refine ⟨⟨s.rF.app, fun a ha => ?_, fun i hi b hb => ?_, by rw [List.length_append]; have := s.le; omega⟩, Mv.app s.le, fun a ha fh ff => ⟨frH_app fh (g a (.inl (Nat.lt_of_lt_of_le ha s.le)) fh ⟨fun i w e => .inr (ff i w e), fun i _ => ff i⟩), ff⟩⟩
  · obtain ⟨c1, c2⟩ := s.cl a (by rw [List.length_append] at ha; omega)
    exact ⟨frH_app c1 (g a (.inr ha) c1 ⟨fun i w e => .inr (c2 i w e), fun i _ => c2 i⟩), c2⟩
  · obtain ⟨hi, hp⟩ := List.mem_filter.mp hi
    have hp : p i = false := by simpa using hp
    obtain ⟨k1, k2, k3⟩ := s.own i hi b hb
    exact ⟨k1, frH_app k2 (g b (.inl (s.lt hb)) k2 (s.pv hi hb hp)), k3⟩
end WL

namespace WL
open PySem
/-- if a new object is found, nothing names it -/
theorem new_alloc {n : Nat} {h : Hm} {o : O} (l : n ≤ h.length) (f : frH h.length h) (g : frO h.length o) : New n (alloc o h) := fun b h' e => by
  cases e
  exact ⟨l, frH_app f (frH_one g)⟩
theorem new_bin {n : Nat} {o : Operator} {x y : D} {v u : W} {h : Hm} (l : n ≤ h.length) (r : Rep h x v) (s : Rep h y u) (c : frH h.length h) (e : binB o x y ≠ .bad) : New n (binW o v u h) := by
  unfold binB at e
  split at e
  · rw [show v = _ from r, show u = _ from s]; intro b h' z; cases z
  · rw [show v = _ from r, show u = _ from s]; intro b h' z; cases z
  · rw [show v = _ from r, show u = _ from s]; intro b h' z; simp only [binW] at z; split at z <;> cases z
  · rw [show v = _ from r, show u = _ from s]; intro b h' z; simp only [binW] at z; split at z <;> cases z
  · rw [show v = _ from r, show u = _ from s]; intro b h' z; simp only [binW] at z; split at z <;> cases z
  · rw [show v = _ from r, show u = _ from s]; intro b h' z; simp only [binW] at z; split at z <;> cases z
  · rw [show v = _ from r, show u = _ from s]; intro b h' z; simp only [binW] at z; split at z <;> cases z
  · obtain ⟨a, xs, rfl, ea, r⟩ := r
    obtain ⟨b, ys, rfl, eb, s⟩ := s
    simp only [binW, ea, eb]
    split
    · exact new_alloc l c ((c a _ ea).app (c b _ eb))
    · intro b h' z; cases z
  · obtain ⟨a, xs, rfl, ea, r⟩ := r
    rw [show u = _ from s]
    simp only [binW, ea]
    split
    · refine new_alloc l c ((c a _ ea).sub fun w hw => ?_)
      obtain ⟨m, hm, hw⟩ := List.mem_flatten.mp hw
      rw [List.eq_of_mem_replicate hm] at hw
      exact hw
    · intro b h' z; cases z
  · exact absurd rfl e
theorem new_sli {n : Nat} {x : D} {v : W} {lo hi : Option Int} {h : Hm} (l : n ≤ h.length) (r : Rep h x v) (c : frH h.length h) (e : sliB x lo hi ≠ .bad) : New n (sliW v lo hi h) := by
  unfold sliB at e
  split at e
  · obtain ⟨ws, rfl, r⟩ := r
    simp only [sliW]
    split
    · intro b h' z; cases z
    · intro b h' z; cases z
  · obtain ⟨a, ws, rfl, ea, r⟩ := r
    simp only [sliW, lstOf, ea]
    exact new_alloc l c (frs.sub (c a _ ea) cut_mem)
  · exact absurd rfl e
theorem new_bltL {n : Nat} {b : B} {ws : List W} {h : Hm} (l : n ≤ h.length) (c : frH h.length h) (f : frs h.length ws) : New n (bltL b ws h) := by
  unfold bltL
  split
  · intro b h' z; cases z
  · intro b h' z; split at z <;> cases z
  · intro b h' z; split at z <;> cases z
  · intro b h' z; split at z <;> cases z
  · split
    · exact new_alloc l c (frs.ints _)
    · intro b h' z; cases z
  · intro b h' z; split at z <;> cases z
  · exact new_alloc l c f
  · intro b h' z; cases z
theorem new_blt {n : Nat} {b : B} {l : List D} {ws : List W} {h : Hm} (ln : n ≤ h.length) (r : Reps h l ws) (c : frH h.length h) (f : frTs h.length ws) (e : bltB b l ≠ .bad) : New n (bltW b ws h) := by
  unfold bltB at e
  split at e
  · obtain ⟨v, rfl, s⟩ := r.single
    rw [show v = _ from s]; intro b h' z; cases z
  · obtain ⟨v, u, rfl, s, s'⟩ := r.two
    rw [show v = _ from s, show u = _ from s']; intro b h' z; cases z
  · obtain ⟨v, u, rfl, s, s'⟩ := r.two
    rw [show v = _ from s, show u = _ from s']; intro b h' z; cases z
  · obtain ⟨v, rfl, s⟩ := r.single
    simp only [bltW]
    intro b h' z
    split at z <;> cases z
  · obtain ⟨v, rfl, s⟩ := r.single
    simp only [bltW]
    split at e
    · next m z =>
      obtain ⟨us, k1, k2, k3⟩ := seq_rep s z
      rw [k1]
      exact new_alloc ln c (k3 _ (f v List.mem_cons_self) c)
    · exact absurd rfl e
  · obtain ⟨v, rfl, s⟩ := r.single
    simp only [bltW]
    intro b h' z
    split at z <;> cases z
  · obtain ⟨v, rfl, s⟩ := r.single
    obtain ⟨a, us, rfl, ea, s⟩ := s
    simp only [bltW, ea]
    exact new_alloc ln c (frs.ints _)
  · next m n1 n2 n3 =>
    obtain ⟨v, rfl, s⟩ := r.single
    obtain ⟨a, us, rfl, ea, s⟩ := s
    have e : bltW b [.ref a] h = bltL b us h := by
      cases b with
      | len => exact (n1 rfl).elim
      | list => exact (n2 rfl).elim
      | tuple => exact (n3 rfl).elim
      | _ => simp only [bltW, ea]
    rw [e]
    exact new_bltL ln c (c a _ ea)
  · exact absurd rfl e
theorem bind_ok {α β : Type} {r : RB α} {g : α → RB β} {d : β} (e : r.bind g = .ok d) : ∃ x, r = .ok x ∧ g x = .ok d := by
  cases r with
  | ok x => exact ⟨x, rfl, e⟩
  | exc c => cases e
  | bad => cases e
/-- what is told of a run, taken apart -/
theorem OkG.parts {δ ω : Type} {rel : Hm → δ → ω → Prop} {frr : Nat → ω → Prop} {P : Nat → Prop} {h : Hm} {r : RB δ} {x : R ω} {d : δ} (hx : OkG rel frr P h r x) (e : r = .ok d) (hcl : Clo P h) : ∃ w t, x = .ok w (h ++ t) ∧ rel (h ++ t) d w ∧ Clo (fun a => P a ∧ frr a w) (h ++ t) := by
  subst e
  obtain ⟨w, t, rfl, r, k⟩ := hx
  refine ⟨w, t, rfl, r, fun a ha => ?_⟩
  obtain ⟨c1, c2⟩ := hcl a (by rw [List.length_append] at ha; omega)
  obtain ⟨k1, k2⟩ := k a (.inr ha) c1 c2
  exact ⟨frH_app c1 k2, c2, k1⟩
theorem fresh_ok {C : Cb} {C' : CbB} (hC : CbOk C C') {e : E} {fd : FD} {f : F} {h : Hm} {d : D} (hf : fresh C'.fs e = true) (rF : RepF h fd f) (cl : CloF h f) (z : evB C' e fd = .ok d) : New h.length (ev C e f h) := by
  have le : ∀ t : Hm, h.length ≤ (h ++ t).length := fun t => by rw [List.length_append]; omega
  cases e with
  | lst l =>
    rw [ev_lst]
    obtain ⟨ds, z1, z2⟩ := bind_ok (show (evsB C' l fd).bind (fun ws => if ws.length ≤ line then .ok (.lst ws) else .bad) = .ok d from z)
    obtain ⟨ws, t, e1, r, c⟩ := (evs_ok l C C' hC fd f h rF cl).parts z1 (cl.p _)
    simp only [e1, R.bind]
    split
    · exact new_alloc (le t) (c _ (Nat.le_refl _)).1 (c _ (Nat.le_refl _)).2.2
    · intro b h' y; cases y
  | dnew t =>
    rw [ev_dnew]
    refine new_alloc (Nat.le_refl _) (cl _ (Nat.le_refl _)).1 ?_
    cases t <;> trivial
  | bin o a b =>
    rw [ev_bin]
    obtain ⟨x, z1, z2⟩ := bind_ok (show (evB C' a fd).bind (fun x => (evB C' b fd).bind fun y => binB o x y) = .ok d from z)
    obtain ⟨y, z3, z4⟩ := bind_ok z2
    obtain ⟨v, t, e1, r, c⟩ := (ev_ok a C C' hC fd f h rF cl).parts z1 (cl.p _)
    obtain ⟨u, t2, e2, s, c2⟩ := (ev_ok b C C' hC fd f (h ++ t) rF.app (cl.of c)).parts z3 ((cl.of c).p _)
    simp only [e1, R.bind, e2]
    exact new_bin (Nat.le_trans (le t) (by rw [List.length_append (as := h ++ t)]; omega)) r.app s (c2 _ (Nat.le_refl _)).1 (by rw [z4]; exact fun q => by cases q)
  | sli a lo hi =>
    rw [ev_sli]
    obtain ⟨x, z1, z2⟩ := bind_ok (show (evB C' a fd).bind (fun x => (optB (evsB C' lo fd)).bind fun l => (optB (evsB C' hi fd)).bind fun u => sliB x l u) = .ok d from z)
    obtain ⟨y, z3, z4⟩ := bind_ok z2
    obtain ⟨y2, z5, z6⟩ := bind_ok z4
    obtain ⟨v, t, e1, r, c⟩ := (ev_ok a C C' hC fd f h rF cl).parts z1 (cl.p _)
    obtain ⟨u, t2, e2, s, c2⟩ := (opt_rep (evs_ok lo C C' hC fd f (h ++ t) rF.app (cl.of c))).parts z3 ((cl.of c).p _)
    obtain ⟨u2, t3, e3, s2, c3⟩ := (opt_rep (evs_ok hi C C' hC fd f (h ++ t ++ t2) rF.app.app ((cl.of c).of c2))).parts z5 (((cl.of c).of c2).p _)
    simp only [e1, R.bind, e2, e3]
    rw [← show y = u from s, ← show y2 = u2 from s2]
    exact new_sli (by simp only [List.length_append]; omega) r.app.app (c3 _ (Nat.le_refl _)).1 (by rw [z6]; exact fun q => by cases q)
  | blt b l =>
    rw [ev_blt]
    obtain ⟨ds, z1, z2⟩ := bind_ok (show (evsB C' l fd).bind (fun ws => bltB b ws) = .ok d from z)
    obtain ⟨ws, t, e1, r, c⟩ := (evT_oks l C C' hC fd f h rF cl).parts z1 (cl.p _)
    simp only [e1, R.bind]
    exact new_blt (le t) r (c _ (Nat.le_refl _)).1 (c _ (Nat.le_refl _)).2.2 (by rw [z2]; exact fun q => by cases q)
  | rev a =>
    rw [ev_rev]
    obtain ⟨x, z1, z2⟩ := bind_ok (show (evB C' a fd).bind (fun x => match lstD x with | some l => .ok (.lst l.reverse) | none => .bad) = .ok d from z)
    obtain ⟨v, t, e1, r, c⟩ := (ev_ok a C C' hC fd f h rF cl).parts z1 (cl.p _)
    simp only [e1, R.bind]
    cases y : lstD x with
    | none => rw [y] at z2; cases z2
    | some l =>
      obtain ⟨b, ws, _, _, k1, k2, k3⟩ := lst_rep r y
      rw [k1]
      exact new_alloc (le t) (c _ (Nat.le_refl _)).1 ((k3 _ (c _ (Nat.le_refl _)).1).sub fun w hw => List.mem_reverse.mp hw)
  | lc own t it cond e =>
    rw [ev_lc]
    obtain ⟨l, z1, z2⟩ := bind_ok (show (evIB C' it fd).bind (fun l => if l.length ≤ line then (lcB (evCB C' cond) (evB C' e) (bindB t) (wipeB fd own) l).bind fun ws => .ok (.lst ws) else .bad) = .ok d from z)
    obtain ⟨J, t1, e1, rI, c⟩ := (evI_ok it C C' hC fd f h rF cl).parts z1 (cl.p _)
    simp only [e1, R.bind]
    rw [len_rep rI]
    split at z2
    · next hl =>
      obtain ⟨ds, z3, z4⟩ := bind_ok z2
      have q := lc_okG (own := own) (t := t) (fun fd f h r c => evC_ok cond C C' hC fd f h r c) (fun fd f h r c => ev_ok e C C' hC fd f h r c) rI rF.app (cl.of c) (fun a ha => (c a ha).2.2) hl
      have pc : Clo (fun a => Pv (fun i => (esc i cond || esc i e) && !own.contains i) f a ∧ frTI a J) (h ++ t1) := fun a ha => ⟨(c a ha).1, (((cl.of c).p _) a ha).2, (c a ha).2.2⟩
      obtain ⟨ws, t2, e2, r, c2⟩ := q.parts z3 pc
      simp only [e2]
      exact new_alloc (by simp only [List.length_append]; omega) (c2 _ (Nat.le_refl _)).1 (c2 _ (Nat.le_refl _)).2.2
    · cases z2
  | cal g l =>
    rw [ev_cal]
    obtain ⟨ds, z1, z2⟩ := bind_ok (show (evsB C' l fd).bind (fun ws => C'.call g ws) = .ok d from z)
    obtain ⟨ws, t, e1, r, c⟩ := (evs_ok l C C' hC fd f h rF cl).parts z1 (cl.p _)
    simp only [e1, R.bind]
    intro b h' y
    obtain ⟨n1, n2⟩ := hC.new g (by simpa [fresh] using hf) ds ws (h ++ t) d r (c.mono fun a p => p.2) z2 b h' y
    exact ⟨Nat.le_trans (le t) n1, n2⟩
  | _ => cases hf
end WL

namespace WL
open PySem
mutual
theorem bind_keep : ∀ (t : E) {w : W} {f f' : F}, bindT t w f = some f' → f'.length = f.length ∧ ∀ k, k ∉ tvs t → f'[k]? = f[k]?
  | .v i, w, f, f', e => by
    have e : stV i w f = some f' := by simpa [bindT] using e
    unfold stV at e
    split at e
    · cases e
      refine ⟨List.length_set, fun k hk => ?_⟩
      rw [List.getElem?_set, if_neg fun c => hk (by rw [c]; simp [tvs])]
    · cases e
  | .tup l, w, f, f', e => by
    cases w with
    | tup ws => exact binds_keep l (ws := ws) (by simpa [bindT] using e)
    | _ => simp [bindT] at e
  | .bad, w, f, f', e => by simp [bindT] at e
  | .nil, w, f, f', e => by simp [bindT] at e
  | .cons _ _, w, f, f', e => by simp [bindT] at e
  | .non, w, f, f', e => by simp [bindT] at e
  | .bl _, w, f, f', e => by simp [bindT] at e
  | .int _, w, f, f', e => by simp [bindT] at e
  | .str _, w, f, f', e => by simp [bindT] at e
  | .fnv _, w, f, f', e => by simp [bindT] at e
  | .bin _ _ _, w, f, f', e => by simp [bindT] at e
  | .neg _, w, f, f', e => by simp [bindT] at e
  | .cmp _ _ _, w, f, f', e => by simp [bindT] at e
  | .chn _ _ _ _ _, w, f, f', e => by simp [bindT] at e
  | .and _ _, w, f, f', e => by simp [bindT] at e
  | .or _ _, w, f, f', e => by simp [bindT] at e
  | .not _, w, f, f', e => by simp [bindT] at e
  | .ife _ _ _, w, f, f', e => by simp [bindT] at e
  | .lst _, w, f, f', e => by simp [bindT] at e
  | .dnew _, w, f, f', e => by simp [bindT] at e
  | .idx _ _, w, f, f', e => by simp [bindT] at e
  | .sli _ _ _, w, f, f', e => by simp [bindT] at e
  | .cal _ _, w, f, f', e => by simp [bindT] at e
  | .mk _ _, w, f, f', e => by simp [bindT] at e
  | .mth _ _ _, w, f, f', e => by simp [bindT] at e
  | .blt _ _, w, f, f', e => by simp [bindT] at e
  | .bm _ _ _, w, f, f', e => by simp [bindT] at e
  | .fld _ _, w, f, f', e => by simp [bindT] at e
  | .isi _ _, w, f, f', e => by simp [bindT] at e
  | .isx _, w, f, f', e => by simp [bindT] at e
  | .lc _ _ _ _ _, w, f, f', e => by simp [bindT] at e
  | .agg _ _, w, f, f', e => by simp [bindT] at e
  | .rev _, w, f, f', e => by simp [bindT] at e
  | .calv _ _, w, f, f', e => by simp [bindT] at e
  | .lam _ _ _, w, f, f', e => by simp [bindT] at e
  | .thk _ _, w, f, f', e => by simp [bindT] at e
  | .rng _, w, f, f', e => by simp [bindT] at e
  | .zip _ _, w, f, f', e => by simp [bindT] at e
  | .enu _, w, f, f', e => by simp [bindT] at e
  | .sq _, w, f, f', e => by simp [bindT] at e
theorem binds_keep : ∀ (t : E) {ws : List W} {f f' : F}, bindTs t ws f = some f' → f'.length = f.length ∧ ∀ k, k ∉ tvs t → f'[k]? = f[k]?
  | .nil, ws, f, f', e => by
    cases ws with
    | nil => simp [bindTs] at e; subst e; exact ⟨rfl, fun _ _ => rfl⟩
    | cons _ _ => simp [bindTs] at e
  | .cons a t, ws, f, f', e => by
    cases ws with
    | nil => simp [bindTs] at e
    | cons w ws =>
      have e : (bindT a w f).bind (fun f => bindTs t ws f) = some f' := by simpa [bindTs] using e
      cases z : bindT a w f with
      | none => rw [z] at e; cases e
      | some f1 =>
        rw [z] at e
        obtain ⟨l1, k1⟩ := bind_keep a z
        obtain ⟨l2, k2⟩ := binds_keep t e
        refine ⟨l2.trans l1, fun k hk => ?_⟩
        have hk : k ∉ tvs a ++ tvs t := hk
        rw [k2 k fun c => hk (List.mem_append_right _ c), k1 k fun c => hk (List.mem_append_left _ c)]
  | .bad, ws, f, f', e => by simp [bindTs] at e
  | .non, ws, f, f', e => by simp [bindTs] at e
  | .bl _, ws, f, f', e => by simp [bindTs] at e
  | .int _, ws, f, f', e => by simp [bindTs] at e
  | .str _, ws, f, f', e => by simp [bindTs] at e
  | .fnv _, ws, f, f', e => by simp [bindTs] at e
  | .bin _ _ _, ws, f, f', e => by simp [bindTs] at e
  | .neg _, ws, f, f', e => by simp [bindTs] at e
  | .cmp _ _ _, ws, f, f', e => by simp [bindTs] at e
  | .chn _ _ _ _ _, ws, f, f', e => by simp [bindTs] at e
  | .and _ _, ws, f, f', e => by simp [bindTs] at e
  | .or _ _, ws, f, f', e => by simp [bindTs] at e
  | .not _, ws, f, f', e => by simp [bindTs] at e
  | .ife _ _ _, ws, f, f', e => by simp [bindTs] at e
  | .lst _, ws, f, f', e => by simp [bindTs] at e
  | .dnew _, ws, f, f', e => by simp [bindTs] at e
  | .idx _ _, ws, f, f', e => by simp [bindTs] at e
  | .sli _ _ _, ws, f, f', e => by simp [bindTs] at e
  | .cal _ _, ws, f, f', e => by simp [bindTs] at e
  | .mk _ _, ws, f, f', e => by simp [bindTs] at e
  | .mth _ _ _, ws, f, f', e => by simp [bindTs] at e
  | .blt _ _, ws, f, f', e => by simp [bindTs] at e
  | .bm _ _ _, ws, f, f', e => by simp [bindTs] at e
  | .fld _ _, ws, f, f', e => by simp [bindTs] at e
  | .isi _ _, ws, f, f', e => by simp [bindTs] at e
  | .isx _, ws, f, f', e => by simp [bindTs] at e
  | .lc _ _ _ _ _, ws, f, f', e => by simp [bindTs] at e
  | .agg _ _, ws, f, f', e => by simp [bindTs] at e
  | .rev _, ws, f, f', e => by simp [bindTs] at e
  | .calv _ _, ws, f, f', e => by simp [bindTs] at e
  | .lam _ _ _, ws, f, f', e => by simp [bindTs] at e
  | .thk _ _, ws, f, f', e => by simp [bindTs] at e
  | .rng _, ws, f, f', e => by simp [bindTs] at e
  | .zip _ _, ws, f, f', e => by simp [bindTs] at e
  | .enu _, ws, f, f', e => by simp [bindTs] at e
  | .sq _, ws, f, f', e => by simp [bindTs] at e
  | .v _, ws, f, f', e => by simp [bindTs] at e
  | .tup _, ws, f, f', e => by simp [bindTs] at e
end
theorem stAll_rep {h : Hm} : ∀ {is : List Nat} {ds : List D} {ws : List W} {fd fd' : FD} {f : F}, RepF h fd f → Reps h ds ws → stAllB is ds fd = some fd' → ∃ f', stAll is ws f = some f' ∧ RepF h fd' f' ∧ FrB f f' ws ∧ (∀ k, k ∉ is → f'[k]? = f[k]?)
  | [], [], ws, fd, fd', f, r, s, e => by
    have s : ws = [] := s
    subst s
    cases e
    exact ⟨f, rfl, r, FrB.refl, fun _ _ => rfl⟩
  | [], _ :: _, ws, fd, fd', f, r, s, e => by cases e
  | _ :: _, [], ws, fd, fd', f, r, s, e => by cases e
  | i :: is, d :: ds, ws, fd, fd', f, r, s, e => by
    obtain ⟨w, rr, rfl, r1, r2⟩ := s
    have e : (stD i d fd).bind (fun f => stAllB is ds f) = some fd' := e
    cases z : stD i d fd with
    | none => rw [z] at e; cases e
    | some fd1 =>
      rw [z] at e
      obtain ⟨k1, k2⟩ := st_rep r r1 z
      obtain ⟨f', k3, k4, k5, k6⟩ := stAll_rep k2 r2 e
      refine ⟨f', ?_, k4, fun a j => ⟨fun fw h1 => (k5 a j).1 fw.2 (frF_set h1 fw.1), fun fw h1 => (k5 a j).2 fw.2 (frTF_set h1 (.inr fw.1))⟩, fun k hk => ?_⟩
      · show (stV i w f).bind _ = _
        rw [k1]; exact k3
      · rw [k6 k fun c => hk (List.mem_cons_of_mem _ c), List.getElem?_set, if_neg fun c => hk (by rw [c]; exact List.mem_cons_self)]
/-- behind a binding -/
theorem StB.bind {base : Nat} {o vs : List Nat} {fd fd' : FD} {f f' : F} {h : Hm} {ws : List W} (s : StB base o fd f h) (r : RepF h fd' f') (fb : FrB f f' ws) (kp : ∀ k, k ∉ vs → f'[k]? = f[k]?) (fo : ∀ k ∈ o, k ∉ vs → ∀ b, f[k]? = some (some (.ref b)) → frs b ws) (fc : ∀ a, h.length ≤ a → frs a ws) : StB base (del o vs) fd' f' h := by
  refine ⟨r, fun a ha => ⟨(s.cl a ha).1, fun j => (fb a j).1 (fc a ha) ((s.cl a ha).2 j)⟩, fun i hi b hb => ?_, s.le⟩
  obtain ⟨hi, hv⟩ := List.mem_filter.mp hi
  have hv : i ∉ vs := by simpa using hv
  rw [kp i hv] at hb
  obtain ⟨k1, k2, k3⟩ := s.own i hi b hb
  exact ⟨k1, k2, fun j hj => (fb b j).1 (fo i hi hv b hb) (k3 j hj)⟩
end WL

namespace WL
open PySem
/-! ### statements -/
/-- a value that names no own list, and nothing beyond the heap -/
structure NN (o : List Nat) (f : F) (h : Hm) (w : W) : Prop where
  own : ∀ k ∈ o, ∀ b, f[k]? = some (some (.ref b)) → fr b w
  cl : ∀ a, h.length ≤ a → fr a w
structure Go (base : Nat) (o : List Nat) (f : F) (h : Hm) (o' : List Nat) (f' : F) (h' : Hm) : Prop where
  mv : Mv base h h'
  out : FrS base f h f' h'
  keep : ∀ d w, Rep h d w → NN o f h w → Rep h' d w ∧ NN o' f' h' w
theorem Go.refl {base : Nat} {o : List Nat} {f : F} {h : Hm} : Go base o f h o f h := ⟨Mv.refl, FrS.refl, fun _ _ r n => ⟨r, n⟩⟩
theorem Go.trans {base : Nat} {o o' o'' : List Nat} {f f' f'' : F} {h h' h'' : Hm} (a : Go base o f h o' f' h') (b : Go base o' f' h' o'' f'' h'') : Go base o f h o'' f'' h'' :=
  ⟨a.mv.trans b.mv, a.out.trans b.out, fun d w r n => by obtain ⟨r1, n1⟩ := a.keep d w r n; exact b.keep d w r1 n1⟩
theorem Go.sub {base : Nat} {o o' o2 : List Nat} {f f' : F} {h h' : Hm} (a : Go base o f h o' f' h') (sub : ∀ i ∈ o2, i ∈ o') : Go base o f h o2 f' h' :=
  ⟨a.mv, a.out, fun d w r n => by obtain ⟨r1, n1⟩ := a.keep d w r n; exact ⟨r1, fun k hk => n1.own k (sub k hk), n1.cl⟩⟩
def RepR (fz : Bool) (base : Nat) (h : Hm) (d : D) (w : W) : Prop := Rep h d w ∧ (fz = true → ∀ b, w = .ref b → base ≤ b ∧ frH b h)
def OkS (fz : Bool) (base : Nat) (lo o o' : List Nat) (f : F) (h : Hm) (r : RTB) (x : RS) : Prop := match r with
  | .nx fd' => ∃ f' h', x = .nx f' h' ∧ StB base o' fd' f' h' ∧ Go base o f h o' f' h'
  | .bk fd' => ∃ f' h', x = .bk f' h' ∧ StB base lo fd' f' h' ∧ Go base o f h lo f' h'
  | .ct fd' => ∃ f' h', x = .ct f' h' ∧ StB base lo fd' f' h' ∧ Go base o f h lo f' h'
  | .rt d => ∃ w h', x = .rt w h' ∧ RepR fz base h' d w ∧ Mv base h h' ∧ (∀ a, h'.length ≤ a → frH a h' ∧ fr a w) ∧ ∀ a, a < base → frH a h → (∀ j, frF a f j) → frH a h' ∧ fr a w
  | .ex c => ∃ f' h', x = .ex c f' h' ∧ Mv base h h' ∧ (∀ a, h'.length ≤ a → frH a h') ∧ ∀ a, a < base → frH a h → (∀ j, frF a f j) → frH a h'
  | .bad => True
theorem OkS.pre {fz : Bool} {base : Nat} {lo o o1 o' : List Nat} {f f1 : F} {h h1 : Hm} {r : RTB} {x : RS} (g : Go base o f h o1 f1 h1) (k : OkS fz base lo o1 o' f1 h1 r x) : OkS fz base lo o o' f h r x := by
  cases r with
  | nx fd' => obtain ⟨f', h', e, s, g'⟩ := k; exact ⟨f', h', e, s, g.trans g'⟩
  | bk fd' => obtain ⟨f', h', e, s, g'⟩ := k; exact ⟨f', h', e, s, g.trans g'⟩
  | ct fd' => obtain ⟨f', h', e, s, g'⟩ := k; exact ⟨f', h', e, s, g.trans g'⟩
  | rt d => obtain ⟨w, h', e, s, m', c, g'⟩ := k; exact ⟨w, h', e, s, g.mv.trans m', c, fun a ha x y => by obtain ⟨p, q⟩ := g.out a ha x y; exact g' a ha p q⟩
  | ex c => obtain ⟨f', h', e, m', c, g'⟩ := k; exact ⟨f', h', e, g.mv.trans m', c, fun a ha x y => by obtain ⟨p, q⟩ := g.out a ha x y; exact g' a ha p q⟩
  | bad => trivial
theorem OkS.own {fz : Bool} {base : Nat} {lo o o' o2 : List Nat} {f : F} {h : Hm} {r : RTB} {x : RS} (k : OkS fz base lo o o' f h r x) (sub : ∀ i ∈ o2, i ∈ o') : OkS fz base lo o o2 f h r x := by
  cases r with
  | nx fd' => obtain ⟨f', h', e, s, g'⟩ := k; exact ⟨f', h', e, s.sub sub, g'.sub sub⟩
  | _ => exact k
/-- what is known behind an expression -/
structure Bh {ω : Type} (base : Nat) (o : List Nat) (fd : FD) (f : F) (h : Hm) (frr : Nat → ω → Prop) (w : ω) : Prop where
  st : StB base o fd f h
  cl : ∀ a, h.length ≤ a → frr a w
  own : ∀ k ∈ o, ∀ b, f[k]? = some (some (.ref b)) → frr b w
  out : ∀ a, a < base → frH a h → (∀ j, frF a f j) → frr a w
theorem StB.go {base : Nat} {o : List Nat} {fd : FD} {f : F} {h t : Hm} (s : StB base o fd f h) {p : Nat → Bool} (g : ∀ a, (a < h.length ∨ (h ++ t).length ≤ a) → frH a h → Pv p f a → frH a t) : StB base (o.filter fun i => !p i) fd f (h ++ t) ∧ Go base o f h (o.filter fun i => !p i) f (h ++ t) := by
  obtain ⟨s1, m1, g1⟩ := s.ext (p := p) (t := t) g
  exact ⟨s1, m1, g1, fun d w r n => ⟨r.app, fun k hk => n.own k (List.mem_filter.mp hk).1, fun a ha => n.cl a (by rw [List.length_append] at ha; omega)⟩⟩
theorem OkG.beh {δ ω : Type} {rel : Hm → δ → ω → Prop} {frr : Nat → ω → Prop} {p : Nat → Bool} {base : Nat} {o : List Nat} {fd : FD} {f : F} {h : Hm} {r : RB δ} {x : R ω} {d : δ} (s : StB base o fd f h) (hx : OkG rel frr (Pv p f) h r x) (e : r = .ok d) : ∃ w t, x = .ok w (h ++ t) ∧ rel (h ++ t) d w ∧ Bh base (o.filter fun i => !p i) fd f (h ++ t) frr w ∧ Go base o f h (o.filter fun i => !p i) f (h ++ t) := by
  subst e
  obtain ⟨w, t, rfl, r, k⟩ := hx
  obtain ⟨s1, g1⟩ := s.go (p := p) (t := t) fun a ha fh pv => (k a ha fh pv).2
  refine ⟨w, t, rfl, r, ⟨s1, fun a ha => ?_, fun i hi b hb => ?_, fun a ha fh ff => ?_⟩, g1⟩
  · obtain ⟨c1, c2⟩ := s.cl a (by rw [List.length_append] at ha; omega)
    exact (k a (.inr ha) c1 ⟨fun i w e => .inr (c2 i w e), fun i _ => c2 i⟩).1
  · obtain ⟨hi, hp⟩ := List.mem_filter.mp hi
    have hp : p i = false := by simpa using hp
    exact (k b (.inl (s.lt hb)) (s.own i hi b hb).2.1 (s.pv hi hb hp)).1
  · exact (k a (.inl (Nat.lt_of_lt_of_le ha s.le)) (frH_l fh) ⟨fun i w e => .inr (ff i w e), fun i _ => ff i⟩).1
theorem OkG.asS {δ ω : Type} {rel : Hm → δ → ω → Prop} {frr : Nat → ω → Prop} {p : Nat → Bool} {fz : Bool} {base : Nat} {o lo o' : List Nat} {fd : FD} {f : F} {h : Hm} {r : RB δ} {x : R ω} {g : δ → RTB} {y : ω → Hm → RS} (s : StB base o fd f h) (hx : OkG rel frr (Pv p f) h r x)
    (hk : ∀ d w t, r = .ok d → x = .ok w (h ++ t) → rel (h ++ t) d w → Bh base (o.filter fun i => !p i) fd f (h ++ t) frr w → OkS fz base lo (o.filter fun i => !p i) o' f (h ++ t) (g d) (y w (h ++ t))) : OkS fz base lo o o' f h (r.asS g) (x.asS f y) := by
  cases r with
  | bad => trivial
  | exc c =>
    obtain ⟨t, rfl, k⟩ := hx
    refine ⟨f, h ++ t, rfl, Mv.app s.le, fun a ha => ?_, fun a ha fh ff => frH_app fh (k a (.inl (Nat.lt_of_lt_of_le ha s.le)) fh ⟨fun i w e => .inr (ff i w e), fun i _ => ff i⟩)⟩
    obtain ⟨c1, c2⟩ := s.cl a (by rw [List.length_append] at ha; omega)
    exact frH_app c1 (k a (.inr ha) c1 ⟨fun i w e => .inr (c2 i w e), fun i _ => c2 i⟩)
  | ok d =>
    obtain ⟨w, t, e, r, b, gg⟩ := hx.beh s rfl
    subst e
    exact OkS.pre gg (hk d w t rfl rfl r b)
theorem nx_same {fz : Bool} {base : Nat} {lo o : List Nat} {fd : FD} {f : F} {h : Hm} (s : StB base o fd f h) : OkS fz base lo o o f h (.nx fd) (.nx f h) := ⟨f, h, rfl, s, Go.refl⟩
theorem go_bind {base : Nat} {o vs : List Nat} {f f' : F} {h : Hm} {ws : List W} (fb : FrB f f' ws) (kp : ∀ k, k ∉ vs → f'[k]? = f[k]?) (q : ∀ a, a < base → frH a h → (∀ j, frF a f j) → frs a ws) : Go base o f h (del o vs) f' h :=
  ⟨Mv.refl, fun a ha fh ff => ⟨fh, fun j => (fb a j).1 (q a ha fh ff) (ff j)⟩, fun d w r n => ⟨r, fun k hk b hb => by
    obtain ⟨hk, hv⟩ := List.mem_filter.mp hk
    rw [kp k (by simpa using hv)] at hb
    exact n.own k hk b hb, n.cl⟩⟩
/-- a binding, behind an expression -/
theorem nx_bind {fz : Bool} {base : Nat} {lo o vs : List Nat} {fd fd' : FD} {f f' : F} {h : Hm} {ω : Type} {frr : Nat → ω → Prop} {w : ω} {ws : List W} (b : Bh base o fd f h frr w) (q : ∀ a, frr a w → frs a ws) (r : RepF h fd' f') (fb : FrB f f' ws) (kp : ∀ k, k ∉ vs → f'[k]? = f[k]?) : OkS fz base lo o (del o vs) f h (.nx fd') (.nx f' h) :=
  ⟨f', h, rfl, b.st.bind r fb kp (fun k hk _ c hc => q c (b.own k hk c hc)) (fun a ha => q a (b.cl a ha)), go_bind fb kp fun a ha fh ff => q a (b.out a ha fh ff)⟩
/-! own lists and tables, changed -/
theorem chg_rep {m : BM} {x y : D} {l : List D} {v : W} {ws : List W} {h : Hm} (r : Rep h x v) (s : Reps h l ws) (e : chgB m x l = some y) : ∃ a o u, v = .ref a ∧ a < h.length ∧ bmW m v ws h = .ok u (h.set a o) ∧ (frH a h → frs a ws → Rep (h.set a o) y v) ∧ ∀ b, frH b h → frs b ws → frO b o := by
  have tr : ∀ {a : Nat} {o : O} {ds : List D} {us : List W}, frH a h → frs a us → Reps h ds us → Reps (h.set a o) ds us := fun {a o ds us} fh fu rr => Reps.tr (a := some a) (fun b p hb hp => by rw [List.getElem?_set, if_neg fun c => hb (by rw [c])]; exact hp) (fun b z => by cases z; exact fh) (fun b z => by cases z; exact fu) rr
  have at_ : ∀ {a : Nat} {o : O}, a < h.length → (h.set a o)[a]? = some o := fun {a o} ha => by rw [List.getElem?_set, if_pos rfl, if_pos ha]
  unfold chgB at e
  split at e
  · obtain ⟨a, xs, rfl, ea, r⟩ := r
    obtain ⟨w, rfl, s1⟩ := s.single
    have al := (List.getElem?_eq_some_iff.mp ea).1
    split at e
    · next c =>
      cases e
      refine ⟨a, .lst (xs ++ [w]), .non, rfl, al, ?_, fun fh fw => ⟨a, _, rfl, at_ al, (tr fh (fh a _ ea) r).app (tr fh fw s)⟩, fun b fh fw => (fh a _ ea).app fw⟩
      simp only [bmW, ea]
      rw [if_pos (by rw [r.length]; exact c)]
    · cases e
  · obtain ⟨a, xs, rfl, ea, r⟩ := r
    obtain ⟨w, rfl, s1⟩ := s.single
    obtain ⟨b, ys, rfl, eb, s1⟩ := s1
    have al := (List.getElem?_eq_some_iff.mp ea).1
    split at e
    · next c =>
      cases e
      refine ⟨a, .lst (xs ++ ys), .non, rfl, al, ?_, fun fh fw => ⟨a, _, rfl, at_ al, (tr fh (fh a _ ea) r).app (tr fh (fh b _ eb) s1)⟩, fun c fh fw => (fh a _ ea).app (fh b _ eb)⟩
      simp only [bmW, ea, eb]
      rw [if_pos (by rw [r.length, s1.length]; exact c)]
    · cases e
  · obtain ⟨a, xs, rfl, ea, r⟩ := r
    obtain ⟨w, rfl, s1⟩ := s.single
    have al := (List.getElem?_eq_some_iff.mp ea).1
    split at e
    · next ns c =>
      cases e
      refine ⟨a, .lst (ns.map W.int), .non, rfl, al, ?_, fun fh fw => ⟨a, _, rfl, at_ al, Reps.ints _⟩, fun c fh fw => frs.ints _⟩
      rw [show w = _ from s1]
      simp only [bmW, ea]
      next ll xs' k _ =>
      cases z : intsD xs' with
      | none => rw [z] at c; cases c
      | some ms => rw [z] at c; rw [(ints_rep r z).2, c]
    · cases e
  · obtain ⟨a, xs, rfl, ea, r⟩ := r
    have s0 : ws = [] := s
    subst s0
    have al := (List.getElem?_eq_some_iff.mp ea).1
    cases e
    refine ⟨a, .lst [], .non, rfl, al, ?_, fun fh fw => ⟨a, _, rfl, at_ al, rfl⟩, fun c fh fw => trivial⟩
    simp only [bmW, ea]
  · obtain ⟨a, xs, rfl, ea, r⟩ := r
    obtain ⟨v1, w, rfl, s1, s2⟩ := s.two
    have s1 : v1 = _ := s1
    subst s1
    have al := (List.getElem?_eq_some_iff.mp ea).1
    split at e
    · next c =>
      cases e
      next i _ =>
      refine ⟨a, .lst (xs.take i.toNat ++ [w] ++ xs.drop i.toNat), .non, rfl, al, ?_, fun fh fw => ⟨a, _, rfl, at_ al, ?_⟩, fun b fh fw => (((fh a _ ea : frs b xs).sub fun _ h => List.mem_of_mem_take h).app (m := [w]) ⟨fw.2.1, trivial⟩).app ((fh a _ ea : frs b xs).sub fun _ h => List.mem_of_mem_drop h)⟩
      · simp only [bmW, ea]
        rw [if_pos (by rw [r.length]; exact c)]
      · have r1 := tr (o := .lst (xs.take i.toNat ++ [w] ++ xs.drop i.toNat)) fh (fh a _ ea) r
        exact ((r1.take _).app (Reps.one (Rep.tr (a := some a) (fun b p hb hp => by rw [List.getElem?_set, if_neg fun c => hb (by rw [c])]; exact hp) (fun b z => by cases z; exact fh) (fun b z => by cases z; exact fw.2.1) s2))).app (r1.drop _)
    · cases e
  · obtain ⟨a, xs, rfl, ea, r⟩ := r
    have s0 : ws = [] := s
    subst s0
    have al := (List.getElem?_eq_some_iff.mp ea).1
    split at e
    · next d zd =>
      cases e
      obtain ⟨u, ku, _⟩ := r.get zd
      rw [← r.length] at ku
      refine ⟨a, .lst xs.dropLast, u, rfl, al, ?_, fun fh fw => ⟨a, _, rfl, at_ al, ?_⟩, fun b fh fw => (fh a _ ea : frs b xs).sub fun _ h => by rw [List.dropLast_eq_take] at h; exact List.mem_of_mem_take h⟩
      · simp only [bmW, ea, ku]
      · have r1 := tr (o := .lst xs.dropLast) fh (fh a _ ea) r
        have e2 := r1.take (xs.length - 1)
        rw [← List.dropLast_eq_take] at e2
        rw [show xs.length - 1 = _ - 1 from by rw [r1.length], ← List.dropLast_eq_take] at e2
        exact e2
    · cases e
  · cases e
end WL

namespace WL
open PySem
section
variable {h : Hm}
theorem anyK_rep {k : Int} : ∀ {l : List (Int × D)} {ws : List (Int × W)}, RepK h l ws → (ws.any fun p => decide (p.1 = k)) = l.any fun p => decide (p.1 = k)
  | [], _, r => by rw [show _ = [] from r]; rfl
  | (j, d) :: l, _, r => by obtain ⟨w, rr, rfl, r1, r2⟩ := r; rw [List.any_cons, List.any_cons, anyK_rep r2]
theorem mapK_rep {k : Int} {x : D} {v : W} (hv : Rep h x v) : ∀ {l : List (Int × D)} {ws : List (Int × W)}, RepK h l ws → RepK h (l.map fun p => if p.1 = k then (p.1, x) else p) (ws.map fun p => if p.1 = k then (p.1, v) else p)
  | [], _, r => by rw [show _ = [] from r]; rfl
  | (j, d) :: l, _, r => by
    obtain ⟨w, rr, rfl, r1, r2⟩ := r
    rw [List.map_cons, List.map_cons]
    by_cases c : j = k
    · simp only [c, if_true]; exact ⟨v, _, rfl, hv, mapK_rep hv r2⟩
    · simp only [c, if_false]; exact ⟨w, _, rfl, r1, mapK_rep hv r2⟩
theorem RepK.snoc {k : Int} {x : D} {v : W} (hv : Rep h x v) : ∀ {l : List (Int × D)} {ws : List (Int × W)}, RepK h l ws → RepK h (l ++ [(k, x)]) (ws ++ [(k, v)])
  | [], _, r => by rw [show _ = [] from r]; exact ⟨v, [], rfl, hv, rfl⟩
  | (j, d) :: l, _, r => by obtain ⟨w, rr, rfl, r1, r2⟩ := r; exact ⟨w, _, rfl, r1, RepK.snoc hv r2⟩
theorem putK_rep {k : Int} {x : D} {v : W} {l : List (Int × D)} {ws : List (Int × W)} (hv : Rep h x v) (r : RepK h l ws) : RepK h (putD l k x) (put ws k v) := by
  unfold putD put
  rw [anyK_rep r]
  split
  · exact mapK_rep hv r
  · exact r.snoc hv
theorem anyT_rep {k : List Int} : ∀ {l : List (List Int × D)} {ws : List (List Int × W)}, RepT h l ws → (ws.any fun p => decide (p.1 = k)) = l.any fun p => decide (p.1 = k)
  | [], _, r => by rw [show _ = [] from r]; rfl
  | (j, d) :: l, _, r => by obtain ⟨w, rr, rfl, r1, r2⟩ := r; rw [List.any_cons, List.any_cons, anyT_rep r2]
theorem mapT_rep {k : List Int} {x : D} {v : W} (hv : Rep h x v) : ∀ {l : List (List Int × D)} {ws : List (List Int × W)}, RepT h l ws → RepT h (l.map fun p => if p.1 = k then (p.1, x) else p) (ws.map fun p => if p.1 = k then (p.1, v) else p)
  | [], _, r => by rw [show _ = [] from r]; rfl
  | (j, d) :: l, _, r => by
    obtain ⟨w, rr, rfl, r1, r2⟩ := r
    rw [List.map_cons, List.map_cons]
    by_cases c : j = k
    · simp only [c, if_true]; exact ⟨v, _, rfl, hv, mapT_rep hv r2⟩
    · simp only [c, if_false]; exact ⟨w, _, rfl, r1, mapT_rep hv r2⟩
theorem RepT.snoc {k : List Int} {x : D} {v : W} (hv : Rep h x v) : ∀ {l : List (List Int × D)} {ws : List (List Int × W)}, RepT h l ws → RepT h (l ++ [(k, x)]) (ws ++ [(k, v)])
  | [], _, r => by rw [show _ = [] from r]; exact ⟨v, [], rfl, hv, rfl⟩
  | (j, d) :: l, _, r => by obtain ⟨w, rr, rfl, r1, r2⟩ := r; exact ⟨w, _, rfl, r1, RepT.snoc hv r2⟩
theorem putT_rep {k : List Int} {x : D} {v : W} {l : List (List Int × D)} {ws : List (List Int × W)} (hv : Rep h x v) (r : RepT h l ws) : RepT h (putD l k x) (put ws k v) := by
  unfold putD put
  rw [anyT_rep r]
  split
  · exact mapT_rep hv r
  · exact r.snoc hv
theorem lenK_rep : ∀ {l : List (Int × D)} {ws : List (Int × W)}, RepK h l ws → ws.length = l.length
  | [], _, r => by rw [show _ = [] from r]; rfl
  | (j, d) :: l, _, r => by obtain ⟨w, rr, rfl, r1, r2⟩ := r; rw [List.length_cons, List.length_cons, lenK_rep r2]
theorem lenT_rep : ∀ {l : List (List Int × D)} {ws : List (List Int × W)}, RepT h l ws → ws.length = l.length
  | [], _, r => by rw [show _ = [] from r]; rfl
  | (j, d) :: l, _, r => by obtain ⟨w, rr, rfl, r1, r2⟩ := r; rw [List.length_cons, List.length_cons, lenT_rep r2]
theorem frs_put {κ : Type} [DecidableEq κ] {b : Nat} {ws : List (κ × W)} {k : κ} {v : W} (fw : frs b (ws.map (·.2))) (fv : fr b v) : frs b ((put ws k v).map (·.2)) := by
  refine frs_iff.mpr fun x hx => ?_
  obtain ⟨p, hp, rfl⟩ := List.mem_map.mp hx
  unfold put at hp
  split at hp
  · obtain ⟨q, hq, rfl⟩ := List.mem_map.mp hp
    split
    · exact fv
    · exact fw.mem (List.mem_map.mpr ⟨q, hq, rfl⟩)
  · rcases List.mem_append.mp hp with hp | hp
    · exact fw.mem (List.mem_map.mpr ⟨p, hp, rfl⟩)
    · rw [List.mem_singleton.mp hp]; exact fv
theorem set_rep {x i d y : D} {v u w : W} (r : Rep h x v) (s : Rep h i u) (t : Rep h d w) (e : setB x i d = some y) : ∃ a o, v = .ref a ∧ a < h.length ∧ setW v u w h = some (h.set a o) ∧ (frH a h → fr a w → Rep (h.set a o) y v) ∧ ∀ b, frH b h → fr b w → frO b o := by
  have kp : ∀ {a : Nat} {o : O}, Kp (some a) h (h.set a o) := fun {a o} b p hb hp => by rw [List.getElem?_set, if_neg fun c => hb (by rw [c])]; exact hp
  have at_ : ∀ {a : Nat} {o : O}, a < h.length → (h.set a o)[a]? = some o := fun {a o} ha => by rw [List.getElem?_set, if_pos rfl, if_pos ha]
  unfold setB at e
  split at e
  · obtain ⟨a, xs, rfl, ea, r⟩ := r
    have al := (List.getElem?_eq_some_iff.mp ea).1
    rw [show u = _ from s]
    next l k =>
    cases z : ixN l.length k with
    | none => rw [z] at e; cases e
    | some j =>
      rw [z] at e
      cases e
      refine ⟨a, .lst (xs.set j w), rfl, al, ?_, fun fh fw => ⟨a, _, rfl, at_ al, Reps.set (t.tr kp (fun b z => by cases z; exact fh) (fun b z => by cases z; exact fw)) j (r.tr kp (fun b z => by cases z; exact fh) (fun b z => by cases z; exact fh a _ ea))⟩, fun b fh fw => ?_⟩
      · simp only [setW, ea, r.length, z]; rfl
      · refine frs_iff.mpr fun x hx => ?_
        rcases List.mem_or_eq_of_mem_set hx with hx | rfl
        · exact frs.mem (fh a _ ea) hx
        · exact fw
  · obtain ⟨a, xs, rfl, ea, r⟩ := r
    have al := (List.getElem?_eq_some_iff.mp ea).1
    rw [show u = _ from s]
    split at e
    · next l k c =>
      cases e
      refine ⟨a, .dK (put xs k w), rfl, al, ?_, fun fh fw => ⟨a, _, rfl, at_ al, putK_rep (t.tr kp (fun b z => by cases z; exact fh) (fun b z => by cases z; exact fw)) (r.tr kp (fun b z => by cases z; exact fh) (fun b z => by cases z; exact fh a _ ea))⟩, fun b fh fw => frs_put (fh a _ ea) fw⟩
      simp only [setW, ea]
      rw [if_pos (by rw [lenK_rep r]; exact c)]
    · cases e
  · obtain ⟨a, xs, rfl, ea, r⟩ := r
    have al := (List.getElem?_eq_some_iff.mp ea).1
    obtain ⟨ks, rfl, s⟩ := s
    split at e
    · next ns z =>
      split at e
      · next c =>
        cases e
        refine ⟨a, .dT (put xs ns w), rfl, al, ?_, fun fh fw => ⟨a, _, rfl, at_ al, putT_rep (t.tr kp (fun b z => by cases z; exact fh) (fun b z => by cases z; exact fw)) (r.tr kp (fun b z => by cases z; exact fh) (fun b z => by cases z; exact fh a _ ea))⟩, fun b fh fw => frs_put (fh a _ ea) fw⟩
        simp only [setW, ea, (ints_rep s z).2]
        rw [if_pos (by rw [lenT_rep r]; exact c)]
      · cases e
    · cases e
  · cases e
end
/-- an own object changed in place -/
theorem StB.mut {base : Nat} {o : List Nat} {fd : FD} {f : F} {h : Hm} {i a : Nat} {y : D} {ob : O} (s : StB base o fd f h) (hi : i ∈ o) (ha : f[i]? = some (some (.ref a))) (al : a < h.length) (ry : Rep (h.set a ob) y (.ref a))
    (cl : ∀ b, h.length ≤ b → frO b ob) (ow : ∀ k ∈ o, ∀ b, f[k]? = some (some (.ref b)) → frO b ob) (ou : ∀ b, b < base → frH b h → (∀ j, frF b f j) → frO b ob) :
    StB base o (fd.set i (some y)) f (h.set a ob) ∧ Go base o f h o f (h.set a ob) := by
  obtain ⟨k1, k2, k3⟩ := s.own i hi a ha
  refine ⟨⟨⟨by rw [List.length_set]; exact s.rF.1, fun j d e => ?_⟩, fun b hb => ?_, fun k hk b hb => ?_, by rw [List.length_set]; exact s.le⟩, ⟨⟨by rw [List.length_set]; exact Nat.le_refl _, fun b hb => by rw [List.getElem?_set, if_neg fun c => by omega]⟩, fun b hb fh ff => ⟨frH_set fh (ou b hb fh ff), ff⟩, fun d w r n => ⟨r.tr (a := some a) (fun b p hb hp => by rw [List.getElem?_set, if_neg fun c => hb (by rw [c])]; exact hp) (fun b z => by cases z; exact k2) (fun b z => by cases z; exact n.own i hi a ha), n.own, fun b hb => n.cl b (by rw [List.length_set] at hb; exact hb)⟩⟩⟩
  · rw [List.getElem?_set] at e
    split at e
    · next c =>
      split at e
      · cases e; subst c; exact ⟨_, ha, ry⟩
      · cases e
    · next c =>
      obtain ⟨w, m1, m2⟩ := s.rF.2 j d e
      exact ⟨w, m1, m2.tr (a := some a) (fun b p hb hp => by rw [List.getElem?_set, if_neg fun c => hb (by rw [c])]; exact hp) (fun b z => by cases z; exact k2) (fun b z => by cases z; exact k3 j (fun q => c q.symm) w m1)⟩
  · rw [List.length_set] at hb
    exact ⟨frH_set (s.cl b hb).1 (cl b hb), (s.cl b hb).2⟩
  · obtain ⟨n1, n2, n3⟩ := s.own k hk b hb
    exact ⟨n1, frH_set n2 (ow k hk b hb), n3⟩
end WL

namespace WL
open PySem
/-- value mode: what is walked does not name own lists -/
theorem evI_val : ∀ (e : E) (C : Cb) (C' : CbB), CbOk C C' → ∀ (fd : FD) (f : F) (h : Hm), RepF h fd f → CloF h f → OkG RepI frI (Pv (fun i => escI i e) f) h (evIB C' e fd) (evI C e f h) := by
  intro e C C' hC fd f h rF cl
  cases e with
  | rng l =>
    rw [evI_rng]
    show OkG RepI frI (Pv (fun i => esc i l) f) h ((evsB C' l fd).bind fun ws => match rngB ws with | some J => .ok J | none => .bad) _
    refine OkG.bind (cl.p _) (evs_ok l C C' hC fd f h rF cl) fun ds ws t r c1 => ?_
    cases z : rngB ds with
    | none => trivial
    | some J =>
      obtain ⟨I, k1, k2, k3⟩ := rng_rep r z
      rw [k1]
      exact OkG.pure k2 fun a _ _ => k3 a
  | zip a b =>
    rw [evI_zip]
    show OkG RepI frI (Pv (fun i => esc i a || esc i b) f) h ((evB C' a fd).bind fun x => (evB C' b fd).bind fun y => match lstD x, lstD y with
      | some l, some m => .ok (zipD l m)
      | _, _ => .bad) _
    refine OkG.bind (cl.p _) ((ev_ok a C C' hC fd f h rF cl).mono fun _ p => p.or_l) fun x v t r c1 => ?_
    refine OkG.bind c1 ((ev_ok b C C' hC fd f (h ++ t) rF.app (cl.of c1)).mono fun _ p => p.1.or_r) fun y u t2 s c2 => ?_
    cases z1 : lstD x with
    | none => trivial
    | some l =>
      cases z2 : lstD y with
      | none => trivial
      | some m =>
        obtain ⟨_, ws, _, _, k1, _⟩ := lst_rep (r.app (t := t2)) z1
        obtain ⟨_, us, _, _, k2, _⟩ := lst_rep s z2
        rw [k1, k2]
        have x1 : x = .lst l := by cases x <;> first | (cases z1; rfl) | cases z1
        have y1 : y = .lst m := by cases y <;> first | (cases z2; rfl) | cases z2
        subst x1 y1
        exact OkG.pure ⟨l, m, r.app, s, rfl⟩ fun _ _ p => ⟨p.1.2, p.2⟩
  | enu a =>
    rw [evI_enu]
    show OkG RepI frI (Pv (fun i => esc i a) f) h ((evB C' a fd).bind fun x => match lstD x with | some l => .ok (enuD 0 l) | none => .bad) _
    refine OkG.bind (cl.p _) (ev_ok a C C' hC fd f h rF cl) fun x v t r c1 => ?_
    cases z1 : lstD x with
    | none => trivial
    | some l =>
      obtain ⟨_, ws, _, _, k1, _⟩ := lst_rep r z1
      rw [k1]
      have x1 : x = .lst l := by cases x <;> first | (cases z1; rfl) | cases z1
      subst x1
      exact OkG.pure ⟨l, r, rfl⟩ fun _ _ p => p.2
  | sq a =>
    rw [evI_sq]
    show OkG RepI frI (Pv (fun i => esc i a) f) h ((evB C' a fd).bind fun x => match seqD x with | some l => .ok l | none => .bad) _
    refine OkG.bind (cl.p _) (ev_ok a C C' hC fd f h rF cl) fun x v t r c1 => ?_
    cases z1 : seqD x with
    | none => trivial
    | some l =>
      obtain ⟨ws, k1, _⟩ := seq_rep r z1
      rw [k1]
      exact OkG.pure ⟨x, r, z1⟩ fun _ _ p => p.2
  | _ => trivial
theorem fix_ok {c : List Nat → Option (List Nat)} : ∀ {n : Nat} {o o' : List Nat}, loopFix c n o = some o' → (∀ i ∈ o', i ∈ o) ∧ ∃ o1, c o' = some o1 ∧ ∀ i ∈ o', i ∈ o1
  | 0, _, _, e => by cases e
  | n + 1, o, o', e => by
    unfold loopFix at e
    split at e
    · cases e
    · next o1 z =>
      split at e
      · next q =>
        cases e
        exact ⟨fun _ h => h, o1, z, fun i hi => by simpa using List.all_eq_true.mp q i hi⟩
      · obtain ⟨k1, k2⟩ := fix_ok e
        exact ⟨fun i hi => (List.mem_filter.mp (k1 i hi)).1, k2⟩
/-- what is walked, in a heap whose own lists were changed -/
structure Wk (base : Nat) (o : List Nat) (f : F) (h : Hm) (l : List D) (J : It) : Prop where
  r : RepI h l J
  cl : ∀ a, h.length ≤ a → frI a J
  own : ∀ k ∈ o, ∀ b, f[k]? = some (some (.ref b)) → frI b J
  out : ∀ a, a < base → frI a J
end WL

namespace WL
open PySem
theorem OkG.asG {δ ω : Type} {rel : Hm → δ → ω → Prop} {frr : Nat → ω → Prop} {p : Nat → Bool} {fz : Bool} {base : Nat} {o lo o' : List Nat} {fd : FD} {f : F} {h : Hm} {r : RB δ} {x : R ω} {g : δ → RTB} {y : ω → Hm → RS} (s : StB base o fd f h) (hx : OkG rel frr (Pv p f) h r x)
    (hk : ∀ d w t, r = .ok d → x = .ok w (h ++ t) → rel (h ++ t) d w → Bh base (o.filter fun i => !p i) fd f (h ++ t) frr w → Go base o f h (o.filter fun i => !p i) f (h ++ t) → OkS fz base lo o o' f h (g d) (y w (h ++ t))) : OkS fz base lo o o' f h (r.asS g) (x.asS f y) := by
  cases r with
  | bad => trivial
  | exc c =>
    obtain ⟨t, rfl, k⟩ := hx
    refine ⟨f, h ++ t, rfl, Mv.app s.le, fun a ha => ?_, fun a ha fh ff => frH_app fh (k a (.inl (Nat.lt_of_lt_of_le ha s.le)) fh ⟨fun i w e => .inr (ff i w e), fun i _ => ff i⟩)⟩
    obtain ⟨c1, c2⟩ := s.cl a (by rw [List.length_append] at ha; omega)
    exact frH_app c1 (k a (.inr ha) c1 ⟨fun i w e => .inr (c2 i w e), fun i _ => c2 i⟩)
  | ok d =>
    obtain ⟨w, t, e, r, b, gg⟩ := hx.beh s rfl
    subst e
    exact hk d w t rfl rfl r b gg
theorem del_mem {o vs : List Nat} {i : Nat} (h : i ∈ del o vs) : i ∈ o ∧ i ∉ vs := by
  obtain ⟨h1, h2⟩ := List.mem_filter.mp h
  exact ⟨h1, by simpa using h2⟩
/-- own objects are added: new ones that nothing else names -/
theorem StB.more {base : Nat} {o n : List Nat} {fd : FD} {f : F} {h : Hm} (s : StB base o fd f h) (k : ∀ i ∈ n, ∀ b, f[i]? = some (some (.ref b)) → base ≤ b ∧ frH b h ∧ ∀ j, j ≠ i → frF b f j) : StB base (n ++ o) fd f h :=
  ⟨s.rF, s.cl, fun i hi b hb => (List.mem_append.mp hi).elim (fun z => k i z b hb) fun z => s.own i z b hb, s.le⟩
theorem Go.more {base : Nat} {o o' n : List Nat} {f f' : F} {h h' : Hm} (g : Go base o f h o' f' h') (k : ∀ i ∈ n, ∀ b, f'[i]? = some (some (.ref b)) → h.length ≤ b) : Go base o f h (n ++ o') f' h' :=
  ⟨g.mv, g.out, fun d w r nn => by
    obtain ⟨r1, n1⟩ := g.keep d w r nn
    exact ⟨r1, fun i hi b hb => (List.mem_append.mp hi).elim (fun z => nn.cl b (k i z b hb)) fun z => n1.own i z b hb, n1.cl⟩⟩
theorem asg_ok {C : Cb} {C' : CbB} (hC : CbOk C C') {fz : Bool} {base : Nat} {lo o : List Nat} {fd : FD} {f : F} {h : Hm} {i : Nat} {e : E} (s : StB base o fd f h) : OkS fz base lo o (if fresh C'.fs e then i :: del (clr o e) [i] else del (clr o e) [i]) f h (execB C' (.asg i e) fd) (exec C (.asg i e) f h) := by
  show OkS _ _ _ _ _ _ _ ((evB C' e fd).asS fun w => (match stD i w fd with | some f1 => .nx f1 | none => .bad)) ((ev C e f h).asS f fun w h1 => (match stV i w f with | some f1 => .nx f1 h1 | none => .bad))
  refine OkG.asG s (ev_ok e C C' hC fd f h s.rF s.cl) fun d w t e1 e2 r b g => ?_
  cases z : stD i d fd with
  | none => trivial
  | some fd1 =>
    obtain ⟨k1, k2⟩ := st_rep b.st.rF r z
    simp only
    rw [k1]
    have fb : FrB f (f.set i (some w)) [w] := fun a j => ⟨fun fw h1 => frF_set h1 fw.1, fun fw h1 => frTF_set h1 (.inr fw.1)⟩
    have kp : ∀ k, k ∉ [i] → (f.set i (some w))[k]? = f[k]? := fun k hk => by rw [List.getElem?_set, if_neg fun c => hk (by rw [c]; exact List.mem_cons_self)]
    have s1 : StB base (del (clr o e) [i]) fd1 (f.set i (some w)) (h ++ t) := b.st.bind (ws := [w]) k2 fb kp (fun k hk _ c hc => ⟨b.own k hk c hc, trivial⟩) (fun a ha => ⟨b.cl a ha, trivial⟩)
    have g1 : Go base o f h (del (clr o e) [i]) (f.set i (some w)) (h ++ t) := g.trans (go_bind (ws := [w]) fb kp fun a ha fh ff => ⟨b.out a ha fh ff, trivial⟩)
    split
    · next hf =>
      have nw := fresh_ok hC hf s.rF s.cl e1
      rw [e2] at nw
      have il : i < f.length := by
        unfold stV at k1
        split at k1
        · assumption
        · cases k1
      have at_ : (f.set i (some w))[i]? = some (some w) := by rw [List.getElem?_set, if_pos rfl, if_pos il]
      refine ⟨_, _, rfl, s1.more (n := [i]) fun j hj c hc => ?_, g1.more (n := [i]) fun j hj c hc => ?_⟩
      · rw [List.mem_singleton.mp hj] at hc ⊢
        rw [at_] at hc
        cases hc
        obtain ⟨n1, n2⟩ := nw c _ rfl
        refine ⟨Nat.le_trans s.le n1, n2, fun j hj v hv => ?_⟩
        rw [List.getElem?_set, if_neg fun c => hj c.symm] at hv
        exact (s.cl c n1).2 j v hv
      · rw [List.mem_singleton.mp hj, at_] at hc
        cases hc
        exact (nw c _ rfl).1
    · exact ⟨_, _, rfl, s1, g1⟩
end WL

namespace WL
open PySem
def frAt (fs : List Nat) : E → Nat → Bool
  | .cons a _, 0 => fresh fs a
  | .cons _ r, k + 1 => frAt fs r k
  | _, _ => false
theorem evs_fresh {C : Cb} {C' : CbB} (hC : CbOk C C') : ∀ (es : E) {fd : FD} {f : F} {h h' : Hm} {ds : List D} {ws : List W}, RepF h fd f → CloF h f → evsB C' es fd = .ok ds → evs C es f h = .ok ws h' → ∀ (k b : Nat), frAt C'.fs es k = true → ws[k]? = some (.ref b) → h.length ≤ b ∧ b < h'.length ∧ frH b h' ∧ ∀ (j : Nat) (w : W), j ≠ k → ws[j]? = some w → fr b w := by
  intro es
  induction es with
  | cons a r _ ih =>
    intro fd f h h' ds ws rF cl e1 e2 k b hk hb
    obtain ⟨x, z1, z2⟩ := bind_ok (show (evB C' a fd).bind (fun x => (evsB C' r fd).bind fun xs => .ok (x :: xs)) = .ok ds from e1)
    obtain ⟨xs, z3, _⟩ := bind_ok z2
    obtain ⟨v, t, y1, r1, c1⟩ := (ev_ok a C C' hC fd f h rF cl).parts z1 (cl.p _)
    have q2 := evs_ok r C C' hC fd f (h ++ t) rF.app (cl.of c1)
    rw [z3] at q2
    obtain ⟨us, t2, y2, r2, g2⟩ := q2
    rw [evs_cons] at e2
    simp only [y1, R.bind, y2] at e2
    cases e2
    cases k with
    | zero =>
      simp at hb
      subst hb
      have nw := fresh_ok hC (show fresh C'.fs a = true from hk) rF cl z1
      rw [y1] at nw
      obtain ⟨n1, n2⟩ := nw b _ rfl
      have bl : b < (h ++ t).length := Nat.lt_of_not_le fun c => (c1 b c).2.2 rfl
      have pv : Pe r f b := ⟨fun i w e => .inr ((cl b n1).2 i w e), fun i _ => (cl b n1).2 i⟩
      obtain ⟨g3, g4⟩ := g2 b (.inl bl) n2 pv
      refine ⟨n1, by rw [List.length_append]; omega, frH_app n2 g4, fun j w hj hw => ?_⟩
      cases j with
      | zero => exact absurd rfl hj
      | succ j => exact g3.mem (List.mem_of_getElem? (by simpa using hw))
    | succ k =>
      obtain ⟨n1, n2, n3, n4⟩ := ih rF.app (cl.of c1) z3 y2 k b hk (by simpa using hb)
      refine ⟨Nat.le_trans (by rw [List.length_append]; omega) n1, n2, n3, fun j w hj hw => ?_⟩
      cases j with
      | zero =>
        simp at hw
        subst hw
        exact (c1 b n1).2.2
      | succ j => exact n4 j w (by omega) (by simpa using hw)
  | _ => intro fd f h h' ds ws rF cl e1 e2 k b hk hb; cases hk
theorem stAllB_at : ∀ {is : List Nat} {ws : List W} {f f' : F} {k i : Nat} {w : W}, stAll is ws f = some f' → is[k]? = some i → i ∉ is.drop (k + 1) → ws[k]? = some w → f'[i]? = some (some w)
  | [], ws, f, f', k, i, w, e, hi, _, _ => by simp at hi
  | j :: is, [], f, f', k, i, w, e, hi, _, _ => by cases e
  | j :: is, v :: ws, f, f', k, i, w, e, hi, hn, hw => by
    have e : (stV j v f).bind (fun f => stAll is ws f) = some f' := e
    cases z : stV j v f with
    | none => rw [z] at e; cases e
    | some f1 =>
      rw [z] at e
      cases k with
      | zero =>
        simp at hi hw hn
        subst hi hw
        have kp : ∀ {is : List Nat} {ws : List W} {f f' : F}, stAll is ws f = some f' → ∀ k, k ∉ is → f'[k]? = f[k]? := by
          intro is
          induction is with
          | nil => intro ws f f' e k _; cases ws <;> cases e; rfl
          | cons j is ih =>
            intro ws f f' e k hk
            cases ws with
            | nil => cases e
            | cons v ws =>
              have e : (stV j v f).bind (fun f => stAll is ws f) = some f' := e
              cases z : stV j v f with
              | none => rw [z] at e; cases e
              | some f1 =>
                rw [z] at e
                rw [ih e k fun c => hk (List.mem_cons_of_mem _ c)]
                unfold stV at z
                split at z
                · cases z; rw [List.getElem?_set, if_neg fun c => hk (by rw [c]; exact List.mem_cons_self)]
                · cases z
        rw [kp e j hn]
        unfold stV at z
        split at z
        · next c => cases z; rw [List.getElem?_set, if_pos rfl, if_pos c]
        · cases z
      | succ k => exact stAllB_at (is := is) (ws := ws) (k := k) e (by simpa using hi) (by simpa using hn) (by simpa using hw)
theorem stAll_from : ∀ {is : List Nat} {ws : List W} {f f' : F} {j : Nat} {w : W}, stAll is ws f = some f' → f'[j]? = some (some w) → f[j]? = some (some w) ∨ ∃ m : Nat, is[m]? = some j ∧ ws[m]? = some w
  | [], ws, f, f', j, w, e, hj => by cases ws <;> cases e; exact .inl hj
  | i :: is, [], f, f', j, w, e, hj => by cases e
  | i :: is, v :: ws, f, f', j, w, e, hj => by
    have e : (stV i v f).bind (fun f => stAll is ws f) = some f' := e
    cases z : stV i v f with
    | none => rw [z] at e; cases e
    | some f1 =>
      rw [z] at e
      rcases stAll_from e hj with q | ⟨m, q1, q2⟩
      · unfold stV at z
        split at z
        · cases z
          rw [List.getElem?_set] at q
          split at q
          · next c =>
            first
              | (cases q; exact .inr ⟨0, by rw [c]; rfl, rfl⟩)
              | (split at q
                 · cases q; exact .inr ⟨0, by rw [c]; rfl, rfl⟩
                 · cases q)
          · exact .inl q
        · cases z
      · exact .inr ⟨m + 1, by simpa using q1, by simpa using q2⟩
theorem frIs_at {fs : List Nat} : ∀ {is : List Nat} {es : E} {i : Nat}, i ∈ frIs fs is es → ∃ k : Nat, is[k]? = some i ∧ frAt fs es k = true ∧ i ∉ is.drop (k + 1)
  | [], es, i, h => by cases es <;> cases h
  | j :: is, es, i, h => by
    cases es with
    | cons a r =>
      have h : i ∈ (if fresh fs a && !is.contains j then j :: frIs fs is r else frIs fs is r) := h
      have more : i ∈ frIs fs is r → ∃ k : Nat, (j :: is)[k]? = some i ∧ frAt fs (.cons a r) k = true ∧ i ∉ (j :: is).drop (k + 1) := fun q => by
        obtain ⟨k, k1, k2, k3⟩ := frIs_at q
        exact ⟨k + 1, by simpa using k1, k2, by simpa using k3⟩
      split at h
      · next c =>
        rw [Bool.and_eq_true] at c
        rcases List.mem_cons.mp h with rfl | h
        · exact ⟨0, rfl, c.1, by simpa using c.2⟩
        · exact more h
      · exact more h
    | _ => cases h
theorem par_ok {C : Cb} {C' : CbB} (hC : CbOk C C') {fz : Bool} {base : Nat} {lo o : List Nat} {fd : FD} {f : F} {h : Hm} {is : List Nat} {es : E} (s : StB base o fd f h) : OkS fz base lo o (frIs C'.fs is es ++ del (clr o es) is) f h (execB C' (.par is es) fd) (exec C (.par is es) f h) := by
  show OkS _ _ _ _ _ _ _ ((evsB C' es fd).asS fun ws => (match stAllB is ws fd with | some f1 => .nx f1 | none => .bad)) ((evs C es f h).asS f fun ws h1 => (match stAll is ws f with | some f1 => .nx f1 h1 | none => .bad))
  refine OkG.asG s (evs_ok es C C' hC fd f h s.rF s.cl) fun ds ws t e1 e2 r b g => ?_
  cases z : stAllB is ds fd with
  | none => trivial
  | some fd1 =>
    obtain ⟨f', k1, k2, fb, kp⟩ := stAll_rep b.st.rF r z
    simp only
    rw [k1]
    have s1 : StB base (del (clr o es) is) fd1 f' (h ++ t) := b.st.bind (ws := ws) k2 fb kp (fun k hk _ c hc => b.own k hk c hc) (fun a ha => b.cl a ha)
    have g1 : Go base o f h (del (clr o es) is) f' (h ++ t) := g.trans (go_bind (ws := ws) fb kp fun a ha fh ff => b.out a ha fh ff)
    have key : ∀ i ∈ frIs C'.fs is es, ∀ c, f'[i]? = some (some (.ref c)) → h.length ≤ c ∧ frH c (h ++ t) ∧ ∀ j, j ≠ i → frF c f' j := fun i hi c hc => by
      obtain ⟨k, m1, m2, m3⟩ := frIs_at hi
      have wl : ∃ w, ws[k]? = some w := by
        cases y : ws[k]? with
        | some w => exact ⟨w, rfl⟩
        | none =>
          exfalso
          have ll : ∀ {is : List Nat} {ws : List W} {f f' : F}, stAll is ws f = some f' → is.length = ws.length := by
            intro is
            induction is with
            | nil => intro ws f f' e; cases ws <;> cases e; rfl
            | cons j is ih =>
              intro ws f f' e
              cases ws with
              | nil => cases e
              | cons v ws =>
                have e : (stV j v f).bind (fun f => stAll is ws f) = some f' := e
                cases z : stV j v f with
                | none => rw [z] at e; cases e
                | some f1 => rw [z] at e; rw [List.length_cons, List.length_cons, ih e]
          have := (List.getElem?_eq_some_iff.mp m1).1
          rw [ll k1] at this
          rw [List.getElem?_eq_getElem this] at y
          cases y
      obtain ⟨w, hw⟩ := wl
      have at_ := stAllB_at k1 m1 m3 hw
      rw [hc] at at_
      cases at_
      obtain ⟨n1, n2, n3, n4⟩ := evs_fresh hC es s.rF s.cl e1 e2 k c m2 hw
      refine ⟨n1, n3, fun j hj v hv => ?_⟩
      rcases stAll_from k1 hv with q | ⟨m, q1, q2⟩
      · exact (s.cl c n1).2 j v q
      · refine n4 m v (fun q => ?_) q2
        subst q
        rw [m1] at q1
        cases q1
        exact hj rfl
    exact ⟨_, _, rfl, s1.more fun i hi c hc => ⟨Nat.le_trans s.le (key i hi c hc).1, (key i hi c hc).2⟩, g1.more fun i hi c hc => (key i hi c hc).1⟩
end WL

namespace WL
open PySem
/-! own lists changed: x.append(..) and the like -/
theorem exp_bm_ok {C : Cb} {C' : CbB} (hC : CbOk C C') {fz : Bool} {base : Nat} {lo o : List Nat} {fd : FD} {f : F} {h : Hm} {m : BM} {i : Nat} {l : E} (hi : i ∈ clr o l) (s : StB base o fd f h) : OkS fz base lo o (clr o l) f h (execB C' (.exp (.bm m (.v i) l)) fd) (exec C (.exp (.bm m (.v i) l)) f h) := by
  show OkS _ _ _ _ _ _ _ (match fd[i]? with
    | some (some x) => if bmTyB m x then (evsB C' l fd).asS fun ws => (match chgB m x ws with
      | some y => .nx (fd.set i (some y))
      | none => .bad) else .bad
    | _ => .bad) ((ev C (.bm m (.v i) l) f h).asS f fun _ h1 => .nx f h1)
  cases zx : fd[i]? with
  | none => trivial
  | some ox =>
    cases ox with
    | none => trivial
    | some x =>
      obtain ⟨v, kv, rv⟩ := s.rF.2 i x zx
      simp only
      split
      · next ty =>
        have ty := bmTy_rep rv ty
        have e : (ev C (.bm m (.v i) l) f h).asS f (fun _ h1 => RS.nx f h1) = (evs C l f h).asS f fun ws h1 => ((bmW m v ws h1).asS f fun _ h2 => .nx f h2) := by
          rw [ev_bm, ev_v]
          simp only [kv, R.bind, ty, if_true]
          cases evs C l f h <;> rfl
        rw [e]
        refine OkG.asS s (evs_ok l C C' hC fd f h s.rF s.cl) fun ds ws t e1 e2 r b => ?_
        cases z : chgB m x ds with
        | none => trivial
        | some y =>
          obtain ⟨a, ob, u, rfl, al, q1, q2, q3⟩ := chg_rep (rv.app (t := t)) r z
          simp only
          rw [q1]
          obtain ⟨k1, k2, k3⟩ := b.st.own i hi a kv
          obtain ⟨s1, g1⟩ := b.st.mut hi kv al (q2 k2 (b.own i hi a kv)) (fun c hc => q3 c (b.st.cl c hc).1 (b.cl c hc)) (fun k hk c hc => q3 c (b.st.own k hk c hc).2.1 (b.own k hk c hc)) fun c hc fh ff => q3 c fh (b.out c hc fh ff)
          exact ⟨f, _, rfl, s1, g1⟩
      · trivial
theorem sub_ok {C : Cb} {C' : CbB} (hC : CbOk C C') {fz : Bool} {base : Nat} {lo o : List Nat} {fd : FD} {f : F} {h : Hm} {i : Nat} {k e : E} (hi : i ∈ clr (clr o e) k) (s : StB base o fd f h) : OkS fz base lo o (clr (clr o e) k) f h (execB C' (.sub (.v i) k e) fd) (exec C (.sub (.v i) k e) f h) := by
  show OkS _ _ _ _ _ _ _ ((evB C' e fd).asS fun w => (match fd[i]? with
    | some (some x) => (evB C' k fd).asS fun y => (match setB x y w with | some z => .nx (fd.set i (some z)) | none => .bad)
    | _ => .bad)) ((ev C e f h).asS f fun w h1 => (ev C (.v i) f h1).asS f fun x h2 => (ev C k f h2).asS f fun y h3 => (match setW x y w h3 with | some h4 => .nx f h4 | none => .bad))
  refine OkG.asS s (ev_ok e C C' hC fd f h s.rF s.cl) fun d w t e1 e2 r b => ?_
  cases zx : fd[i]? with
  | none => trivial
  | some ox =>
    cases ox with
    | none => trivial
    | some x =>
      obtain ⟨v, kv, rv⟩ := b.st.rF.2 i x zx
      have ex : ev C (.v i) f (h ++ t) = .ok v (h ++ t) := by rw [ev_v]; simp only [kv]
      rw [ex]
      simp only [R.asS]
      refine OkG.asS b.st (ev_ok k C C' hC fd f (h ++ t) b.st.rF b.st.cl) fun d2 w2 t2 e3 e4 r2 b2 => ?_
      cases z : setB x d2 d with
      | none => trivial
      | some y =>
        obtain ⟨a, ob, rfl, al, q1, q2, q3⟩ := set_rep (rv.app (t := t2)) r2 (r.app (t := t2)) z
        simp only
        rw [q1]
        obtain ⟨k1, k2, k3⟩ := b2.st.own i hi a kv
        have fw : ∀ j ∈ clr (clr o e) k, ∀ c, f[j]? = some (some (.ref c)) → fr c w := fun j hj c hc => b.own j (List.mem_filter.mp hj).1 c hc
        obtain ⟨s1, g1⟩ := b2.st.mut hi kv al (q2 k2 (fw i hi a kv)) (fun c hc => q3 c (b2.st.cl c hc).1 (b.cl c (by rw [List.length_append] at hc; omega))) (fun j hj c hc => q3 c (b2.st.own j hj c hc).2.1 (fw j hj c hc)) fun c hc fh ff => q3 c fh (b.out c hc (frH_l fh) ff)
        exact ⟨f, _, rfl, s1, g1⟩
theorem ret_ok {C : Cb} {C' : CbB} (hC : CbOk C C') {fz : Bool} {base : Nat} {lo o o' : List Nat} {fd : FD} {f : F} {h : Hm} {e : E} (hz : fz = true → fresh C'.fs e = true ∨ ownV o e = true) (s : StB base o fd f h) : OkS fz base lo o o' f h (execB C' (.ret e) fd) (exec C (.ret e) f h) := by
  show OkS _ _ _ _ _ _ _ ((evB C' e fd).asS fun w => .rt w) ((ev C e f h).asS f fun w h1 => .rt w h1)
  refine OkG.asG s (ev_ok e C C' hC fd f h s.rF s.cl) fun d w t e1 e2 r b g => ?_
  have nz : fz = true → ∀ b, w = .ref b → base ≤ b ∧ frH b (h ++ t) := fun z c ec => by
    subst ec
    rcases hz z with q | q
    · obtain ⟨n1, n2⟩ := fresh_ok hC q s.rF s.cl e1 c _ e2
      exact ⟨Nat.le_trans s.le n1, n2⟩
    · cases e with
      | v i =>
        have q : i ∈ o := by simpa [ownV] using q
        rw [ev_v] at e2
        cases zi : f[i]? with
        | none => simp only [zi] at e2; cases e2
        | some oi =>
          cases oi with
          | none => simp only [zi] at e2; cases e2
          | some v =>
            simp only [zi] at e2
            injection e2 with e3 e4
            subst e3
            obtain ⟨k1, k2, _⟩ := s.own i q c zi
            rw [← e4]
            exact ⟨k1, k2⟩
      | _ => cases q
  refine ⟨w, _, rfl, ⟨r, nz⟩, g.mv, fun a ha => ⟨(b.st.cl a ha).1, b.cl a ha⟩, fun a ha fh ff => ?_⟩
  obtain ⟨p, q⟩ := g.out a ha fh ff
  exact ⟨p, b.out a ha p q⟩
theorem expE_ok {C : Cb} {C' : CbB} (hC : CbOk C C') {fz : Bool} {base : Nat} {lo o : List Nat} {fd : FD} {f : F} {h : Hm} {e : E} (s : StB base o fd f h) : OkS fz base lo o (clr o e) f h ((evB C' e fd).asS fun _ => .nx fd) (exec C (.exp e) f h) := by
  show OkS _ _ _ _ _ _ _ _ ((ev C e f h).asS f fun _ h1 => .nx f h1)
  refine OkG.asS s (ev_ok e C C' hC fd f h s.rF s.cl) fun d w t e1 e2 r b => ?_
  exact nx_same b.st
theorem unp_ok {C : Cb} {C' : CbB} (hC : CbOk C C') {fz : Bool} {base : Nat} {lo o : List Nat} {fd : FD} {f : F} {h : Hm} {t e : E} (s : StB base o fd f h) : OkS fz base lo o (del (clr o e) (tvs t)) f h (execB C' (.unp t e) fd) (exec C (.unp t e) f h) := by
  show OkS _ _ _ _ _ _ _ ((evB C' e fd).asS fun w => (match bindB t w fd with | some f1 => .nx f1 | none => .bad)) ((ev C e f h).asS f fun w h1 => (match bindT t w f with | some f1 => .nx f1 h1 | none => .bad))
  refine OkG.asS s (ev_ok e C C' hC fd f h s.rF s.cl) fun d w t1 e1 e2 r b => ?_
  cases z : bindB t d fd with
  | none => trivial
  | some fd1 =>
    obtain ⟨f', k1, k2, k3⟩ := bind_rep t b.st.rF r z
    simp only
    rw [k1]
    exact nx_bind (ws := [w]) b (fun a fa => ⟨fa, trivial⟩) k2 k3 (bind_keep t k1).2
theorem aug_ok {C : Cb} {C' : CbB} (hC : CbOk C C') {fz : Bool} {base : Nat} {lo o : List Nat} {fd : FD} {f : F} {h : Hm} {i : Nat} {op : Operator} {e : E} (s : StB base o fd f h) : OkS fz base lo o (clr o e) f h (execB C' (.aug i op e) fd) (exec C (.aug i op e) f h) := by
  show OkS _ _ _ _ _ _ _ (match fd[i]? with
    | some (some x) => (evB C' e fd).asS fun y => (match op, x, y with
      | .Add, .int a, .int b => (match stD i (.int (a + b)) fd with | some f1 => .nx f1 | none => .bad)
      | .Sub, .int a, .int b => (match stD i (.int (a - b)) fd with | some f1 => .nx f1 | none => .bad)
      | _, _, _ => .bad)
    | _ => .bad) (match f[i]? with
    | some (some x) => (ev C e f h).asS f fun y h1 => (match op, x, y with
      | .Add, .int a, .int b => (match stV i (.int (a + b)) f with | some f1 => .nx f1 h1 | none => .bad)
      | .Sub, .int a, .int b => (match stV i (.int (a - b)) f with | some f1 => .nx f1 h1 | none => .bad)
      | _, _, _ => .bad)
    | _ => .bad)
  cases zx : fd[i]? with
  | none => trivial
  | some ox =>
    cases ox with
    | none => trivial
    | some x =>
      obtain ⟨v, kv, rv⟩ := s.rF.2 i x zx
      rw [kv]
      simp only
      refine OkG.asS s (ev_ok e C C' hC fd f h s.rF s.cl) fun d w t1 e1 e2 r b => ?_
      have key : ∀ n : Int, OkS fz base lo (clr o e) (clr o e) f (h ++ t1) (match stD i (.int n) fd with | some f1 => .nx f1 | none => .bad) (match stV i (.int n) f with | some f1 => .nx f1 (h ++ t1) | none => .bad) := fun n => by
        cases z : stD i (.int n) fd with
        | none => trivial
        | some fd1 =>
          obtain ⟨k1, k2⟩ := st_rep b.st.rF (show Rep (h ++ t1) (.int n) (.int n) from rfl) z
          simp only
          rw [k1]
          have fb : FrB f (f.set i (some (.int n))) [.int n] := fun a j => ⟨fun fw h1 => frF_set h1 trivial, fun fw h1 => frTF_set h1 (.inr trivial)⟩
          refine ⟨_, _, rfl, ⟨k2, fun a ha => ⟨(b.st.cl a ha).1, fun j => frF_set ((b.st.cl a ha).2 j) trivial⟩, fun k hk c hc => ?_, b.st.le⟩, ⟨Mv.refl, fun a ha fh ff => ⟨fh, fun j => frF_set (ff j) trivial⟩, fun d w r n => ⟨r, fun k hk c hc => ?_, n.cl⟩⟩⟩
          · rw [List.getElem?_set] at hc
            split at hc
            · split at hc <;> cases hc
            · obtain ⟨n1, n2, n3⟩ := b.st.own k hk c hc
              exact ⟨n1, n2, fun j hj => frF_set (n3 j hj) trivial⟩
          · rw [List.getElem?_set] at hc
            split at hc
            · split at hc <;> cases hc
            · exact n.own k hk c hc
      cases op <;> try trivial
      all_goals
        cases x <;> try trivial
        cases d <;> try trivial
        have rv : v = _ := rv
        have r : w = _ := r
        subst rv r
        exact key _
end WL

namespace WL
open PySem
/-! ### loops -/
structure GoP (P : Nat → Prop) (base : Nat) (o : List Nat) (f : F) (h : Hm) (o' : List Nat) (f' : F) (h' : Hm) : Prop where
  mv : Mv base h h'
  out : ∀ a, a < base → P a → frH a h → (∀ j, frF a f j) → frH a h' ∧ ∀ j, frF a f' j
  keep : ∀ d w, Rep h d w → NN o f h w → Rep h' d w ∧ NN o' f' h' w
theorem Go.p {P : Nat → Prop} {base : Nat} {o o' : List Nat} {f f' : F} {h h' : Hm} (a : Go base o f h o' f' h') : GoP P base o f h o' f' h' := ⟨a.mv, fun x hx _ => a.out x hx, a.keep⟩
theorem GoP.trans {P : Nat → Prop} {base : Nat} {o o' o'' : List Nat} {f f' f'' : F} {h h' h'' : Hm} (a : GoP P base o f h o' f' h') (b : GoP P base o' f' h' o'' f'' h'') : GoP P base o f h o'' f'' h'' :=
  ⟨a.mv.trans b.mv, fun x hx px p q => by obtain ⟨y, z⟩ := a.out x hx px p q; exact b.out x hx px y z, fun d w r n => by obtain ⟨r1, n1⟩ := a.keep d w r n; exact b.keep d w r1 n1⟩
def OkSP (fz : Bool) (P : Nat → Prop) (base : Nat) (lo o o' : List Nat) (f : F) (h : Hm) (r : RTB) (x : RS) : Prop := match r with
  | .nx fd' => ∃ f' h', x = .nx f' h' ∧ StB base o' fd' f' h' ∧ GoP P base o f h o' f' h'
  | .bk fd' => ∃ f' h', x = .bk f' h' ∧ StB base lo fd' f' h' ∧ GoP P base o f h lo f' h'
  | .ct fd' => ∃ f' h', x = .ct f' h' ∧ StB base lo fd' f' h' ∧ GoP P base o f h lo f' h'
  | .rt d => ∃ w h', x = .rt w h' ∧ RepR fz base h' d w ∧ Mv base h h' ∧ (∀ a, h'.length ≤ a → frH a h' ∧ fr a w) ∧ ∀ a, a < base → P a → frH a h → (∀ j, frF a f j) → frH a h' ∧ fr a w
  | .ex c => ∃ f' h', x = .ex c f' h' ∧ Mv base h h' ∧ (∀ a, h'.length ≤ a → frH a h') ∧ ∀ a, a < base → P a → frH a h → (∀ j, frF a f j) → frH a h'
  | .bad => True
theorem OkS.p {P : Nat → Prop} {fz : Bool} {base : Nat} {lo o o' : List Nat} {f : F} {h : Hm} {r : RTB} {x : RS} (k : OkS fz base lo o o' f h r x) : OkSP fz P base lo o o' f h r x := by
  cases r with
  | nx fd' => obtain ⟨f', h', e, s, g'⟩ := k; exact ⟨f', h', e, s, g'.p⟩
  | bk fd' => obtain ⟨f', h', e, s, g'⟩ := k; exact ⟨f', h', e, s, g'.p⟩
  | ct fd' => obtain ⟨f', h', e, s, g'⟩ := k; exact ⟨f', h', e, s, g'.p⟩
  | rt d => obtain ⟨w, h', e, s, m', c, g'⟩ := k; exact ⟨w, h', e, s, m', c, fun a ha _ => g' a ha⟩
  | ex c => obtain ⟨f', h', e, m', c, g'⟩ := k; exact ⟨f', h', e, m', c, fun a ha _ => g' a ha⟩
  | bad => trivial
theorem OkSP.all {P : Nat → Prop} {fz : Bool} {base : Nat} {lo o o' : List Nat} {f : F} {h : Hm} {r : RTB} {x : RS} (k : OkSP fz P base lo o o' f h r x) (hp : ∀ a, a < base → frH a h → (∀ j, frF a f j) → P a) : OkS fz base lo o o' f h r x := by
  cases r with
  | nx fd' => obtain ⟨f', h', e, s, g'⟩ := k; exact ⟨f', h', e, s, g'.mv, fun a ha p q => g'.out a ha (hp a ha p q) p q, g'.keep⟩
  | bk fd' => obtain ⟨f', h', e, s, g'⟩ := k; exact ⟨f', h', e, s, g'.mv, fun a ha p q => g'.out a ha (hp a ha p q) p q, g'.keep⟩
  | ct fd' => obtain ⟨f', h', e, s, g'⟩ := k; exact ⟨f', h', e, s, g'.mv, fun a ha p q => g'.out a ha (hp a ha p q) p q, g'.keep⟩
  | rt d => obtain ⟨w, h', e, s, m', c, g'⟩ := k; exact ⟨w, h', e, s, m', c, fun a ha p q => g' a ha (hp a ha p q) p q⟩
  | ex c => obtain ⟨f', h', e, m', c, g'⟩ := k; exact ⟨f', h', e, m', c, fun a ha p q => g' a ha (hp a ha p q) p q⟩
  | bad => trivial
theorem OkSP.pre {P : Nat → Prop} {fz : Bool} {base : Nat} {lo o o1 o' : List Nat} {f f1 : F} {h h1 : Hm} {r : RTB} {x : RS} (g : GoP P base o f h o1 f1 h1) (k : OkSP fz P base lo o1 o' f1 h1 r x) : OkSP fz P base lo o o' f h r x := by
  cases r with
  | nx fd' => obtain ⟨f', h', e, s, g'⟩ := k; exact ⟨f', h', e, s, g.trans g'⟩
  | bk fd' => obtain ⟨f', h', e, s, g'⟩ := k; exact ⟨f', h', e, s, g.trans g'⟩
  | ct fd' => obtain ⟨f', h', e, s, g'⟩ := k; exact ⟨f', h', e, s, g.trans g'⟩
  | rt d => obtain ⟨w, h', e, s, m', c, g'⟩ := k; exact ⟨w, h', e, s, g.mv.trans m', c, fun a ha pa x y => by obtain ⟨p, q⟩ := g.out a ha pa x y; exact g' a ha pa p q⟩
  | ex c => obtain ⟨f', h', e, m', c, g'⟩ := k; exact ⟨f', h', e, g.mv.trans m', c, fun a ha pa x y => by obtain ⟨p, q⟩ := g.out a ha pa x y; exact g' a ha pa p q⟩
  | bad => trivial
def RTB.nxt (r : RTB) (k : FD → RTB) : RTB := match r with | .nx f2 => k f2 | .ct f2 => k f2 | .bk f2 => .nx f2 | x => x
def RS.nxt (r : RS) (k : F → Hm → RS) : RS := match r with | .nx f2 h2 => k f2 h2 | .ct f2 h2 => k f2 h2 | .bk f2 h2 => .nx f2 h2 | x => x
/-- behind a body: the loop goes on, or ends -/
theorem OkSP.loop {P : Nat → Prop} {fz : Bool} {base : Nat} {lo os o1 : List Nat} {f : F} {h : Hm} {r : RTB} {x : RS} {k : FD → RTB} {y : F → Hm → RS} (b : OkSP fz P base os os o1 f h r x) (h1 : ∀ i ∈ os, i ∈ o1)
    (ih : ∀ fd2 f2 h2, StB base os fd2 f2 h2 → GoP P base os f h os f2 h2 → OkSP fz P base lo os os f2 h2 (k fd2) (y f2 h2)) :
    OkSP fz P base lo os os f h (r.nxt k) (x.nxt y) := by
  cases r with
  | nx fd2 =>
    obtain ⟨f2, h2, rfl, s, g⟩ := b
    have g2 : GoP P base os f h os f2 h2 := ⟨g.mv, g.out, fun d w r n => by obtain ⟨r1, n1⟩ := g.keep d w r n; exact ⟨r1, fun k hk => n1.own k (h1 k hk), n1.cl⟩⟩
    exact OkSP.pre g2 (ih fd2 f2 h2 (s.sub h1) g2)
  | ct fd2 =>
    obtain ⟨f2, h2, rfl, s, g⟩ := b
    exact OkSP.pre g (ih fd2 f2 h2 s g)
  | bk fd2 =>
    obtain ⟨f2, h2, rfl, s, g⟩ := b
    exact ⟨f2, h2, rfl, s, g⟩
  | rt d => obtain ⟨w, h', rfl, s⟩ := b; exact ⟨w, h', rfl, s⟩
  | ex c => obtain ⟨f', h', rfl, s⟩ := b; exact ⟨f', h', rfl, s⟩
  | bad => trivial
theorem whlB_succ {c : FD → RB D} {b : FD → RTB} {n : Nat} {f : FD} : whlB c b (n + 1) f = (c f).asS fun w => match w with
    | .bl true => (b f).nxt (whlB c b n)
    | .bl false => .nx f
    | _ => .bad := by
  show (match c f with | .ok (.bl true) => _ | .ok (.bl false) => _ | .ok _ => _ | .exc c => _ | .bad => _) = _
  cases c f with
  | ok w => cases w <;> first | rfl | (next b => cases b <;> rfl)
  | exc c => rfl
  | bad => rfl
theorem whlL_succ {c : F → Hm → R W} {b : F → Hm → RS} {n : Nat} {f : F} {h : Hm} : whlL c b (n + 1) f h = (c f h).asS f fun w h1 => match w with
    | .bl true => (b f h1).nxt (whlL c b n)
    | .bl false => .nx f h1
    | _ => .bad := by
  show (match c f h with | .ok (.bl true) h1 => _ | .ok (.bl false) h1 => _ | .ok _ _ => _ | .exc c h1 => _ | .bad => _) = _
  cases c f h with
  | ok w h1 => cases w <;> first | rfl | (next b => cases b <;> rfl)
  | exc c => rfl
  | bad => rfl
theorem filter_id {o : List Nat} {p : Nat → Bool} (h : ∀ i ∈ o, p i = false) : (o.filter fun i => !p i) = o := List.filter_eq_self.mpr fun i hi => by rw [h i hi]; rfl
theorem whl_ok {C : Cb} {C' : CbB} (hC : CbOk C C') {fz : Bool} {base : Nat} {lo os o1 : List Nat} {c : E} {b : S} (hs : ∀ i ∈ os, esc i c = false) (h1 : ∀ i ∈ os, i ∈ o1)
    (hb : ∀ fd f h, StB base os fd f h → OkS fz base os os o1 f h (execB C' b fd) (exec C b f h)) :
    ∀ (n : Nat) (fd : FD) (f : F) (h : Hm), StB base os fd f h → OkS fz base lo os os f h (whlB (evB C' c) (execB C' b) n fd) (whlL (ev C c) (exec C b) n f h)
  | 0, _, _, _, _ => trivial
  | n + 1, fd, f, h, s => by
    rw [whlB_succ, whlL_succ]
    have eo : (os.filter fun i => !esc i c) = os := filter_id hs
    refine OkG.asS s (ev_ok c C C' hC fd f h s.rF s.cl) fun d w t e1 e2 r bh => ?_
    rw [eo] at bh ⊢
    cases d with
    | bl x =>
      have r : w = .bl x := r
      subst r
      cases x with
      | true => exact OkSP.all (P := fun _ => True) (OkSP.loop (hb fd f _ bh.st).p h1 fun fd2 f2 h2 s2 _ => (whl_ok hC hs h1 hb n fd2 f2 h2 s2).p) fun _ _ _ _ => trivial
      | false => exact nx_same bh.st
    | _ => trivial
structure NI (o : List Nat) (f : F) (h : Hm) (J : It) : Prop where
  own : ∀ k ∈ o, ∀ b, f[k]? = some (some (.ref b)) → frI b J
  cl : ∀ a, h.length ≤ a → frI a J
theorem GoP.keepI {P : Nat → Prop} {base : Nat} {o o' : List Nat} {f f' : F} {h h' : Hm} (g : GoP P base o f h o' f' h') {l : List D} {J : It} (r : RepI h l J) (n : NI o f h J) : RepI h' l J ∧ NI o' f' h' J := by
  cases J with
  | seq w =>
    obtain ⟨d, r, e⟩ := r
    obtain ⟨r1, n1⟩ := g.keep d w r ⟨n.own, n.cl⟩
    exact ⟨⟨d, r1, e⟩, n1.own, n1.cl⟩
  | rng _ _ _ => exact ⟨r, fun _ _ _ _ => trivial, fun _ _ => trivial⟩
  | zip x y =>
    obtain ⟨la, lb, r, s, e⟩ := r
    obtain ⟨r1, n1⟩ := g.keep _ x r ⟨fun k hk b hb => (n.own k hk b hb).1, fun a ha => (n.cl a ha).1⟩
    obtain ⟨r2, n2⟩ := g.keep _ y s ⟨fun k hk b hb => (n.own k hk b hb).2, fun a ha => (n.cl a ha).2⟩
    exact ⟨⟨la, lb, r1, r2, e⟩, fun k hk b hb => ⟨n1.own k hk b hb, n2.own k hk b hb⟩, fun a ha => ⟨n1.cl a ha, n2.cl a ha⟩⟩
  | enu x =>
    obtain ⟨la, r, e⟩ := r
    obtain ⟨r1, n1⟩ := g.keep _ x r ⟨n.own, n.cl⟩
    exact ⟨⟨la, r1, e⟩, n1.own, n1.cl⟩
theorem del_id {o vs : List Nat} (h : ∀ i ∈ o, i ∉ vs) : del o vs = o := List.filter_eq_self.mpr fun i hi => by have := h i hi; simpa using this
theorem for_ok {C : Cb} {C' : CbB} {fz : Bool} {base : Nat} {lo os o1 : List Nat} {t : E} {b : S} {l : List D} {J : It} (ht : ∀ i ∈ os, i ∉ tvs t) (h1 : ∀ i ∈ os, i ∈ o1)
    (hb : ∀ fd f h, StB base os fd f h → OkS fz base os os o1 f h (execB C' b fd) (exec C b f h)) :
    ∀ (m i : Nat) (fd : FD) (f : F) (h : Hm), i + m = l.length → StB base os fd f h → RepI h l J → NI os f h J → OkSP fz (fun a => frI a J) base lo os os f h (forB (execB C' b) (bindB t) (l.drop i) fd) (forL (exec C b) (bindT t) J m i f h)
  | 0, i, fd, f, h, e, s, r, n => by
    have e1 : l.drop i = [] := List.drop_eq_nil_of_le (by omega)
    rw [e1]
    have e2 : forL (exec C b) (bindT t) J 0 i f h = .nx f h := by
      show (if J.stop i h then RS.nx f h else .bad) = _
      have : J.stop i h = true := by
        unfold It.stop
        rw [len_rep r]
        exact decide_eq_true (by omega)
      rw [if_pos this]
    rw [e2]
    exact (nx_same s).p
  | m + 1, i, fd, f, h, e, s, r, n => by
    have il : i < l.length := by omega
    rw [List.drop_eq_getElem_cons il]
    obtain ⟨w, k1, k2, k3⟩ := item_rep r (List.getElem?_eq_getElem il)
    show OkSP _ _ _ _ _ _ _ _ (match bindB t l[i] fd with | none => .bad | some f1 => (execB C' b f1).nxt (forB (execB C' b) (bindB t) (l.drop (i + 1))))
      (match (J.item i h).bind fun w => bindT t w f with | none => .bad | some f1 => (exec C b f1 h).nxt (forL (exec C b) (bindT t) J m (i + 1)))
    cases z : bindB t l[i] fd with
    | none => trivial
    | some fd1 =>
      obtain ⟨f1, q1, q2, q3⟩ := bind_rep t s.rF k2 z
      rw [k1, Option.bind_some, q1]
      simp only
      have kp := (bind_keep t q1).2
      have s1 : StB base os fd1 f1 h := by
        have := s.bind (vs := tvs t) q2 q3 kp (fun k hk _ c hc => ⟨k3 c (frI.t (n.own k hk c hc)) (s.own k hk c hc).2.1, trivial⟩) fun a ha => ⟨k3 a (frI.t (n.cl a ha)) (s.cl a ha).1, trivial⟩
        rwa [del_id ht] at this
      have g1 : GoP (fun a => frI a J) base os f h os f1 h := ⟨Mv.refl, fun a ha pa fh ff => ⟨fh, fun j => (q3 a j).1 ⟨k3 a (frI.t pa) fh, trivial⟩ (ff j)⟩, fun d w r n => ⟨r, fun k hk c hc => by
        rw [kp k (ht k hk)] at hc
        exact n.own k hk c hc, n.cl⟩⟩
      have n1 : NI os f1 h J := ⟨fun k hk c hc => by rw [kp k (ht k hk)] at hc; exact n.own k hk c hc, n.cl⟩
      refine OkSP.pre g1 (OkSP.loop (hb fd1 f1 h s1).p h1 fun fd2 f2 h2 s2 g2 => ?_)
      obtain ⟨r2, n2⟩ := g2.keepI r n1
      exact for_ok ht h1 hb m (i + 1) fd2 f2 h2 (by omega) s2 r2 n2
theorem exec_ok : ∀ (s : S) (C : Cb) (C' : CbB), CbOk C C' → ∀ (fz : Bool) (base : Nat) (lo o o' : List Nat) (fd : FD) (f : F) (h : Hm), chk C'.fs fz lo s o = some o' → StB base o fd f h → OkS fz base lo o o' f h (execB C' s fd) (exec C s f h) := by
  intro s
  induction s with
  | bad => intros; trivial
  | nil => intro C C' hC fz base lo o o' fd f h e s; cases e; exact nx_same s
  | seq a r iha ihr =>
    intro C C' hC fz base lo o o' fd f h e s
    obtain ⟨o1, e1, e2⟩ := Option.bind_eq_some_iff.mp (show (chk C'.fs fz lo a o).bind (fun o1 => chk C'.fs fz lo r o1) = some o' from e)
    have k := iha C C' hC fz base lo o o1 fd f h e1 s
    show OkS _ _ _ _ _ _ _ (match execB C' a fd with | .nx f1 => execB C' r f1 | x => x) (match exec C a f h with | .nx f1 h1 => exec C r f1 h1 | x => x)
    cases z : execB C' a fd with
    | nx fd1 =>
      rw [z] at k
      obtain ⟨f1, h1, z1, s1, g1⟩ := k
      rw [z1]
      exact OkS.pre g1 (ihr C C' hC fz base lo o1 o' fd1 f1 h1 e2 s1)
    | bk fd1 => rw [z] at k; obtain ⟨f1, h1, z1, s1, g1⟩ := k; rw [z1]; exact ⟨f1, h1, rfl, s1, g1⟩
    | ct fd1 => rw [z] at k; obtain ⟨f1, h1, z1, s1, g1⟩ := k; rw [z1]; exact ⟨f1, h1, rfl, s1, g1⟩
    | rt d => rw [z] at k; obtain ⟨f1, h1, z1, k⟩ := k; rw [z1]; exact ⟨f1, h1, rfl, k⟩
    | ex c => rw [z] at k; obtain ⟨f1, h1, z1, k⟩ := k; rw [z1]; exact ⟨f1, h1, rfl, k⟩
    | bad => trivial
  | pas => intro C C' hC fz base lo o o' fd f h e s; cases e; exact nx_same s
  | exp x =>
    intro C C' hC fz base lo o o' fd f h e s
    cases x with
    | bm m a l =>
      cases a with
      | v i =>
        have e : (if (clr o l).contains i then some (clr o l) else none) = some o' := e
        split at e
        · next c => cases e; exact exp_bm_ok hC (by simpa using c) s
        · cases e
      | _ => cases e; exact expE_ok hC s
    | _ => cases e; exact expE_ok hC s
  | ret x =>
              intro C C' hC fz base lo o o' fd f h e s
              have e : (if fz && !(fresh C'.fs x || ownV o x) then none else some o) = some o' := e
              refine ret_ok hC (fun z => ?_) s
              subst z
              simp at e
              by_cases q : fresh C'.fs x = true
              · exact .inl q
              · right; by_cases q2 : ownV o x = true
                · exact q2
                · exfalso; simp [q, q2] at e
  | asg i x => intro C C' hC fz base lo o o' fd f h e s; cases e; exact asg_ok hC s
  | unp t x => intro C C' hC fz base lo o o' fd f h e s; cases e; exact unp_ok hC s
  | par is es => intro C C' hC fz base lo o o' fd f h e s; cases e; exact par_ok hC s
  | sub a k x =>
    intro C C' hC fz base lo o o' fd f h e s
    cases a with
    | v i =>
      have e : (if (clr (clr o x) k).contains i then some (clr (clr o x) k) else none) = some o' := e
      split at e
      · next c => cases e; exact sub_ok hC (by simpa using c) s
      · cases e
    | _ => cases e
  | stf => intro C C' hC fz base lo o o' fd f h e s; cases e
  | aug i op x => intro C C' hC fz base lo o o' fd f h e s; cases e; exact aug_ok hC s
  | ife c a b iha ihb =>
    intro C C' hC fz base lo o o' fd f h e s
    obtain ⟨x, e1, e2⟩ := Option.bind_eq_some_iff.mp (show (chk C'.fs fz lo a (clr o c)).bind (fun x => (chk C'.fs fz lo b (clr o c)).map fun y => x.filter y.contains) = some o' from e)
    obtain ⟨y, e3, e4⟩ := Option.map_eq_some_iff.mp e2
    subst e4
    show OkS _ _ _ _ _ _ _ ((evB C' c fd).asS fun w => (match w with | .bl true => execB C' a fd | .bl false => execB C' b fd | _ => .bad)) ((ev C c f h).asS f fun w h1 => (match w with | .bl true => exec C a f h1 | .bl false => exec C b f h1 | _ => .bad))
    refine OkG.asS s (ev_ok c C C' hC fd f h s.rF s.cl) fun d w t q1 q2 r bh => ?_
    cases d with
    | bl z =>
      have r : w = .bl z := r
      subst r
      cases z with
      | true => exact (iha C C' hC fz base lo _ x fd f _ e1 bh.st).own fun i hi => (List.mem_filter.mp hi).1
      | false => exact (ihb C C' hC fz base lo _ y fd f _ e3 bh.st).own fun i hi => by simpa using (List.mem_filter.mp hi).2
    | _ => trivial
  | whl c b ihb =>
    intro C C' hC fz base lo o o' fd f h e s
    obtain ⟨k1, o1, k2, k3⟩ := fix_ok (show loopFix (fun x => chk C'.fs fz x b x) 9 (clr o c) = some o' from e)
    have hs : ∀ i ∈ o', esc i c = false := fun i hi => by simpa using (List.mem_filter.mp (k1 i hi)).2
    have sub : ∀ i ∈ o', i ∈ o := fun i hi => (List.mem_filter.mp (k1 i hi)).1
    refine OkS.pre ⟨Mv.refl, FrS.refl, fun d w r n => ⟨r, fun k hk => n.own k (sub k hk), n.cl⟩⟩ (whl_ok hC (o1 := o1) hs k3 (fun fd f h s => ihb C C' hC fz base o' o' o1 fd f h k2 s) loops fd f h (s.sub sub))
  | forS t it b ihb =>
    intro C C' hC fz base lo o o' fd f h e s
    obtain ⟨k1, o1, k2, k3⟩ := fix_ok (show loopFix (fun x => chk C'.fs fz x b x) 9 (del (o.filter fun i => !escI i it) (tvs t)) = some o' from e)
    have ht : ∀ i ∈ o', i ∉ tvs t := fun i hi => (del_mem (k1 i hi)).2
    have sub : ∀ i ∈ o', i ∈ o.filter fun i => !escI i it := fun i hi => (del_mem (k1 i hi)).1
    show OkS _ _ _ _ _ _ _ ((evIB C' it fd).asS fun l => forB (execB C' b) (bindB t) l fd) ((evI C it f h).asS f fun J h1 => (match J.len h1 with | some n => forL (exec C b) (bindT t) J n 0 f h1 | none => .bad))
    refine OkG.asS s (evI_val it C C' hC fd f h s.rF s.cl) fun l J tt q1 q2 r bh => ?_
    rw [len_rep r]
    simp only
    have key := for_ok (C := C) (C' := C') (lo := lo) (t := t) (b := b) (J := J) (l := l) (base := base) ht k3 (fun fd f h s => ihb C C' hC fz base o' o' o1 fd f h k2 s) l.length 0 fd f (h ++ tt) (by omega) (bh.st.sub sub) r ⟨fun k hk c hc => bh.own k (sub k hk) c hc, bh.cl⟩
    rw [List.drop_zero] at key
    exact OkS.pre ⟨Mv.refl, FrS.refl, fun d w r n => ⟨r, fun k hk => n.own k (sub k hk), n.cl⟩⟩ (key.all bh.out)
  | brk =>
    intro C C' hC fz base lo o o' fd f h e s
    have e : (if lo.all o.contains then some o else none) = some o' := e
    split at e
    · next c =>
      have sub : ∀ i ∈ lo, i ∈ o := fun i hi => by simpa using List.all_eq_true.mp c i hi
      exact ⟨f, h, rfl, s.sub sub, Mv.refl, FrS.refl, fun d w r n => ⟨r, fun k hk => n.own k (sub k hk), n.cl⟩⟩
    · cases e
  | cnt =>
    intro C C' hC fz base lo o o' fd f h e s
    have e : (if lo.all o.contains then some o else none) = some o' := e
    split at e
    · next c =>
      have sub : ∀ i ∈ lo, i ∈ o := fun i hi => by simpa using List.all_eq_true.mp c i hi
      exact ⟨f, h, rfl, s.sub sub, Mv.refl, FrS.refl, fun d w r n => ⟨r, fun k hk => n.own k (sub k hk), n.cl⟩⟩
    · cases e
  | rai c => intro C C' hC fz base lo o o' fd f h e s; exact ⟨f, h, rfl, Mv.refl, fun a ha => (s.cl a ha).1, fun a ha fh ff => fh⟩
end WL

namespace WL
open PySem
/-! ### levels -/
theorem Mv.tail {h h' : Hm} (m : Mv h.length h h') : ∃ t, h' = h ++ t := by
  refine ⟨h'.drop h.length, ?_⟩
  have e : h'.take h.length = h := by
    apply List.ext_getElem?
    intro i
    rw [List.getElem?_take]
    split
    · next c => exact m.keep i c
    · next c => rw [List.getElem?_eq_none (by omega)]
  conv => lhs; rw [← List.take_append_drop h.length h']
  rw [e]
theorem frH_r {a : Nat} {h t : Hm} (x : frH a (h ++ t)) : frH a t := fun b o e => x (h.length + b) o (by rw [List.getElem?_append_right (by omega)]; simpa using e)
theorem start_cl {h : Hm} {ws : List W} {n : Nat} (c : Clo (fun a => frs a ws) h) : CloF h (ws.map some ++ List.replicate n none) := fun a ha => by
  obtain ⟨c1, c2⟩ := c a ha
  refine ⟨c1, fun i w e => ?_⟩
  have : some w ∈ ws.map some ++ List.replicate n none := List.mem_of_getElem? e
  rcases List.mem_append.mp this with q | q
  · obtain ⟨v, hv, e⟩ := List.mem_map.mp q
    cases e
    exact c2.mem hv
  · have := List.eq_of_mem_replicate q
    cases this
theorem start_fr {a : Nat} {ws : List W} {n : Nat} (c2 : frs a ws) : ∀ i, frF a (ws.map some ++ List.replicate n none) i := fun i w e => by
  have : some w ∈ ws.map some ++ List.replicate n none := List.mem_of_getElem? e
  rcases List.mem_append.mp this with q | q
  · obtain ⟨v, hv, e⟩ := List.mem_map.mp q
    cases e
    exact c2.mem hv
  · have := List.eq_of_mem_replicate q
    cases this
def RTB.end_ (r : RTB) : RB D := match r with | .rt w => .ok w | .nx _ => .ok .non | .ex c => .exc c | _ => .bad
def RS.end_ (r : RS) : R W := match r with | .rt w h1 => .ok w h1 | .nx _ h1 => .ok .non h1 | .ex c _ h1 => .exc c h1 | _ => .bad
/-- the end of a def -/
theorem OkS.toW {fz : Bool} {P : Nat → Prop} {lo o o' : List Nat} {f : F} {h : Hm} {r : RTB} {x : RS} (k : OkS fz h.length lo o o' f h r x) (hp : ∀ a, P a → ∀ j, frF a f j) (hc : Clo P h) :
    OkW P h r.end_ x.end_ := by
  cases r with
  | nx fd' =>
    obtain ⟨f', h', rfl, s, g⟩ := k
    obtain ⟨t, rfl⟩ := g.mv.tail
    refine ⟨.non, t, rfl, rfl, fun a ha fh p => ⟨trivial, ?_⟩⟩
    rcases ha with ha | ha
    · exact frH_r (g.out a ha fh (hp a p)).1
    · exact frH_r (s.cl a ha).1
  | rt d =>
    obtain ⟨w, h', rfl, ⟨r, _⟩, m, c, g⟩ := k
    obtain ⟨t, rfl⟩ := m.tail
    refine ⟨w, t, rfl, r, fun a ha fh p => ?_⟩
    rcases ha with ha | ha
    · obtain ⟨x, y⟩ := g a ha fh (hp a p); exact ⟨y, frH_r x⟩
    · obtain ⟨x, y⟩ := c a ha; exact ⟨y, frH_r x⟩
  | ex e =>
    obtain ⟨f', h', rfl, m, c, g⟩ := k
    obtain ⟨t, rfl⟩ := m.tail
    refine ⟨t, rfl, fun a ha fh p => ?_⟩
    rcases ha with ha | ha
    · exact frH_r (g a ha fh (hp a p))
    · exact frH_r (c a ha)
  | _ => trivial
/-- .. whose value is new -/
theorem OkS.toNew {fz : Bool} {lo o o' : List Nat} {f : F} {h : Hm} {r : RTB} {x : RS} (k : OkS fz h.length lo o o' f h r x) (z : fz = true) {d : D} (e : r.end_ = .ok d) : New h.length x.end_ := by
  cases r with
  | nx fd' =>
    obtain ⟨f', h', rfl, s, g⟩ := k
    intro b h' y; cases y
  | rt d =>
    obtain ⟨w, h', rfl, ⟨r, q⟩, m, c, g⟩ := k
    intro b h2 y
    cases y
    exact q z b rfl
  | _ => cases e
theorem run_ok {C : Cb} {C' : CbB} (hC : CbOk C C') {no : List Nat} {ext : Nat → List D → RB D} (hT : ∀ g fi, C.tb.fns[g]? = some fi → g ∉ no → (chk C'.fs (C'.fs.contains g) [] fi.body []).isSome = true)
    (hE : ∀ g, g ∈ no → ∀ (ds : List D) (ws : List W) (h : Hm), Reps h ds ws → Clo (fun a => frs a ws) h → OkW (fun a => frs a ws) h (ext g ds) (runF C g ws h))
    (g : Nat) (ds : List D) (ws : List W) (h : Hm) (r : Reps h ds ws) (c : Clo (fun a => frs a ws) h) : OkW (fun a => frs a ws) h (runB C' no ext g ds) (runF C g ws h) := by
  unfold runB
  split
  · next q => exact hE g (by simpa using q) ds ws h r c
  · next q =>
    unfold runF
    rw [hC.tb]
    cases z : C.tb.fns[g]? with
    | none => trivial
    | some fi =>
      simp only
      rw [r.length]
      split
      · have ck := hT g fi z (by simpa using q)
        obtain ⟨o', ck⟩ := Option.isSome_iff_exists.mp ck
        have s : StB h.length [] (ds.map some ++ List.replicate (fi.ns - ds.length) none) (ws.map some ++ List.replicate (fi.ns - ds.length) none) h := ⟨RepF.start r _, start_cl c, fun i hi => (List.not_mem_nil hi).elim, Nat.le_refl _⟩
        exact (exec_ok fi.body C C' hC (C'.fs.contains g) h.length [] [] o' _ _ h ck s).toW (fun a fa => start_fr fa) c
      · trivial
theorem run_new {C : Cb} {C' : CbB} (hC : CbOk C C') {no : List Nat} {ext : Nat → List D → RB D} (hT : ∀ (g : Nat) (fi : FnI), C.tb.fns[g]? = some fi → g ∉ no → (chk C'.fs (C'.fs.contains g) [] fi.body []).isSome = true)
    (g : Nat) (hg : g ∉ no) (hz : g ∈ C'.fs) (ds : List D) (ws : List W) (h : Hm) (d : D) (r : Reps h ds ws) (c : Clo (fun a => frs a ws) h) (e : runB C' no ext g ds = .ok d) : New h.length (runF C g ws h) := by
  unfold runB at e
  rw [if_neg (by simpa using hg), hC.tb] at e
  unfold runF
  cases z : C.tb.fns[g]? with
  | none => intro b h' y; cases y
  | some fi =>
    simp only
    rw [z] at e
    simp only at e
    rw [r.length]
    split
    · next q =>
      rw [if_pos q] at e
      obtain ⟨o', ck⟩ := Option.isSome_iff_exists.mp (hT g fi z hg)
      have s : StB h.length [] (ds.map some ++ List.replicate (fi.ns - ds.length) none) (ws.map some ++ List.replicate (fi.ns - ds.length) none) h := ⟨RepF.start r _, start_cl c, fun i hi => (List.not_mem_nil hi).elim, Nat.le_refl _⟩
      exact (exec_ok fi.body C C' hC (C'.fs.contains g) h.length [] [] o' _ _ h ck s).toNew (by simpa using hz) e
    · intro b h' y; cases y
theorem runL_ok {C : Cb} {C' : CbB} (hC : CbOk C C') (np ns : Nat) (b : E) (ds : List D) (ws : List W) (h : Hm) (r : Reps h ds ws) (c : Clo (fun a => frs a ws) h) : OkW (fun a => frs a ws) h (runLB C' np ns b ds) (runL C np ns b ws h) := by
  unfold runLB runL
  rw [r.length]
  split
  · exact (ev_ok b C C' hC _ _ h (RepF.start r _) (start_cl c)).mono fun a fa => ⟨fun i w e => .inr (start_fr fa i w e), fun i _ => start_fr fa i⟩
  · trivial
theorem ba2 {a b : Bool} (h : (a && b) = true) : a = true ∧ b = true := by simpa using h
/-! making -/
def iniOk : S → Bool
  | .nil => true
  | .seq (.stf (.v 0) k e) r => !esc 0 e && iniOk r
  | .seq (.exp e) r => !esc 0 e && iniOk r
  | _ => true
theorem RepN.tr' {a : Nat} {h : Hm} {o : O} {d : List (Nat × D)} {w : List (Nat × W)} (fh : frH a h) (fw : frs a (w.map (·.2))) (r : RepN h d w) : RepN (h.set a o) d w := RepN.tr (a := some a) (fun b p hb hp => by rw [List.getElem?_set, if_neg fun c => hb (by rw [c])]; exact hp) (fun b z => by cases z; exact fh) (fun b z => by cases z; exact fw) r
theorem Rep.tr' {a : Nat} {h : Hm} {o : O} {d : D} {w : W} (fh : frH a h) (fw : fr a w) (r : Rep h d w) : Rep (h.set a o) d w := Rep.tr (a := some a) (fun b p hb hp => by rw [List.getElem?_set, if_neg fun c => hb (by rw [c])]; exact hp) (fun b z => by cases z; exact fh) (fun b z => by cases z; exact fw) r
theorem RepN.app {h t : Hm} {d : List (Nat × D)} {w : List (Nat × W)} (r : RepN h d w) : RepN (h ++ t) d w := RepN.tr kp_app (fun _ z => by cases z) (fun _ z => by cases z) r
theorem lenN_rep {h : Hm} : ∀ {l : List (Nat × D)} {ws : List (Nat × W)}, RepN h l ws → ws.length = l.length
  | [], _, r => by rw [show _ = [] from r]; rfl
  | (k, d) :: ds, _, r => by obtain ⟨w, rr, rfl, r1, r2⟩ := r; rw [List.length_cons, List.length_cons, lenN_rep r2]
theorem putN_rep {h : Hm} {k : Nat} {d : D} {w : W} (hw : Rep h d w) : ∀ {l : List (Nat × D)} {ws : List (Nat × W)}, RepN h l ws → RepN h (putDN k d l) (putN k w ws)
  | [], _, r => by rw [show _ = [] from r]; exact ⟨w, [], rfl, hw, rfl⟩
  | (j, x) :: ds, _, r => by
    obtain ⟨v, rr, rfl, r1, r2⟩ := r
    show RepN h (if j = k then (j, d) :: ds else (j, x) :: putDN k d ds) (if j = k then (j, w) :: rr else (j, v) :: putN k w rr)
    split
    · exact ⟨w, rr, rfl, hw, r2⟩
    · exact ⟨v, _, rfl, r1, putN_rep hw r2⟩
theorem frs_putN {b k : Nat} {w : W} (fw : fr b w) : ∀ {ws : List (Nat × W)}, frs b (ws.map (·.2)) → frs b ((putN k w ws).map (·.2))
  | [], _ => ⟨fw, trivial⟩
  | (j, x) :: r, h => by
    show frs b ((if j = k then (j, w) :: r else (j, x) :: putN k w r).map (·.2))
    split
    · exact ⟨fw, h.2⟩
    · exact ⟨h.1, frs_putN fw h.2⟩
/-- the state within a making: the new one, and what came behind it -/
structure Mk (c : Nat) (h1 : Hm) (fs : List (Nat × D)) (fd : FD) (f : F) (h : Hm) : Prop where
  le : h1.length < h.length
  pre : ∀ b, b < h1.length → h[b]? = h1[b]?
  ins : ∃ ws, h[h1.length]? = some (.ins c ws) ∧ RepN h fs ws
  frA : frH h1.length h
  rF : RepF h fd f
  cl : CloF h f
  fr0 : ∀ j, j ≠ 0 → frF h1.length f j
  at0 : f[0]? = some (some (.ref h1.length))
  z0 : ∀ d, fd[0]? ≠ some (some d)
theorem init_ok {C : Cb} {C' : CbB} (hC : CbOk C C') {c : Nat} {h1 : Hm} {fd : FD} {f : F} {P : Nat → Prop} (hP : ∀ a, P a → a ≠ h1.length → ∀ j, frF a f j) : ∀ (s : S) (fs : List (Nat × D)) (h : Hm), iniOk s = true → Mk c h1 fs fd f h → (∀ a, a < h1.length → frH a h1 → P a → frH a h) →
    match initB C' s fd fs with
    | .ok fs' => ∃ h', exec C s f h = .nx f h' ∧ Mk c h1 fs' fd f h' ∧ ∀ a, a < h1.length → frH a h1 → P a → frH a h'
    | .exc e => ∃ h' f', exec C s f h = .ex e f' h' ∧ h1.length < h'.length ∧ (∀ b, b < h1.length → h'[b]? = h1[b]?) ∧ (∀ a, h'.length ≤ a → frH a h') ∧ ∀ a, a < h1.length → frH a h1 → P a → frH a h'
    | .bad => True := by
  have evk : ∀ (e : E) (fs : List (Nat × D)) (h : Hm), esc 0 e = false → Mk c h1 fs fd f h → (∀ a, a < h1.length → frH a h1 → P a → frH a h) → match evB C' e fd with
      | .ok d => ∃ w t, ev C e f h = .ok w (h ++ t) ∧ Rep (h ++ t) d w ∧ Mk c h1 fs fd f (h ++ t) ∧ (∀ a, a < h1.length → frH a h1 → P a → frH a (h ++ t) ∧ fr a w) ∧ fr h1.length w ∧ ∀ a, (h ++ t).length ≤ a → fr a w
      | .exc x => ∃ t, ev C e f h = .exc x (h ++ t) ∧ (∀ a, a < h1.length → frH a h1 → P a → frH a (h ++ t)) ∧ ∀ a, (h ++ t).length ≤ a → frH a (h ++ t)
      | .bad => True := fun e fs h he M G => by
    have k := ev_ok e C C' hC fd f h M.rF M.cl
    have pvA : Pe e f h1.length := ⟨fun i w z => by
      by_cases q : i = 0
      · subst q; rw [M.at0] at z; cases z; exact .inl rfl
      · exact .inr (M.fr0 i q w z), fun i hi => M.fr0 i fun q => by subst q; rw [show esc 0 e = true from hi] at he; cases he⟩
    have pvP : ∀ a, a < h1.length → P a → Pe e f a := fun a ha pa => ⟨fun i w z => .inr (hP a pa (by omega) i w z), fun i _ => hP a pa (by omega) i⟩
    have pvC : ∀ a, h.length ≤ a → Pe e f a := fun a ha => ⟨fun i w z => .inr ((M.cl a ha).2 i w z), fun i _ => (M.cl a ha).2 i⟩
    cases z : evB C' e fd with
    | bad => trivial
    | exc x =>
      rw [z] at k
      obtain ⟨t, k1, k2⟩ := k
      have ll : h.length ≤ (h ++ t).length := by rw [List.length_append]; omega
      exact ⟨t, k1, fun a ha fa pa => frH_app (G a ha fa pa) (k2 a (.inl (Nat.lt_trans ha M.le)) (G a ha fa pa) (pvP a ha pa)), fun a ha => frH_app (M.cl a (Nat.le_trans ll ha)).1 (k2 a (.inr ha) (M.cl a (Nat.le_trans ll ha)).1 (pvC a (Nat.le_trans ll ha)))⟩
    | ok d =>
      rw [z] at k
      obtain ⟨w, t, k1, k3, k2⟩ := k
      have ll : h.length ≤ (h ++ t).length := by rw [List.length_append]; omega
      have kA := k2 h1.length (.inl M.le) M.frA pvA
      have kC : ∀ a, (h ++ t).length ≤ a → fr a w ∧ frH a t := fun a ha => k2 a (.inr ha) (M.cl a (Nat.le_trans ll ha)).1 (pvC a (Nat.le_trans ll ha))
      have kP : ∀ a, a < h1.length → frH a h1 → P a → fr a w ∧ frH a t := fun a ha fa pa => k2 a (.inl (Nat.lt_trans ha M.le)) (G a ha fa pa) (pvP a ha pa)
      obtain ⟨ws, i1, i2⟩ := M.ins
      refine ⟨w, t, k1, k3, ⟨Nat.lt_of_lt_of_le M.le ll, fun b hb => by rw [List.getElem?_append_left (Nat.lt_trans hb M.le)]; exact M.pre b hb, ⟨ws, by rw [List.getElem?_append_left M.le]; exact i1, i2.app⟩, frH_app M.frA kA.2, M.rF.app, fun a ha => ⟨frH_app (M.cl a (Nat.le_trans ll ha)).1 (kC a ha).2, (M.cl a (Nat.le_trans ll ha)).2⟩, M.fr0, M.at0, M.z0⟩, fun a ha fa pa => ⟨frH_app (G a ha fa pa) (kP a ha fa pa).2, (kP a ha fa pa).1⟩, kA.1, fun a ha => (kC a ha).1⟩
  intro s
  induction s with
  | nil => intro fs h _ M G; exact ⟨h, rfl, M, G⟩
  | seq a r iha ihr =>
    intro fs h ok M G
    cases a with
    | stf o k e =>
      cases o with
      | v i =>
        cases i with
        | zero =>
          obtain ⟨ok1, ok2⟩ := ba2 (show (!esc 0 e && iniOk r) = true from ok)
          have q := evk e fs h (by simpa using ok1) M G
          show (match (evB C' e fd).bind (fun w => if fs.length < 1000 then initB C' r fd (putDN k w fs) else .bad) with | .ok fs' => _ | .exc e => _ | .bad => True)
          have ex : exec C (.seq (.stf (.v 0) k e) r) f h = (match ((ev C e f h).asS f fun w h1 => (ev C (.v 0) f h1).asS f fun x h2 => (match x with
            | .ref a => (match h2[a]? with
              | some (.ins c fs) => if fs.length < 1000 then RS.nx f (h2.set a (.ins c (putN k w fs))) else .bad
              | _ => .bad)
            | _ => .bad)) with | .nx f1 h1 => exec C r f1 h1 | x => x) := rfl
          rw [ex]
          cases z : evB C' e fd with
          | bad => trivial
          | exc x =>
            rw [z] at q
            obtain ⟨t, k1, k2, k3⟩ := q
            rw [k1]
            exact ⟨_, _, rfl, by rw [List.length_append]; have := M.le; omega, fun b hb => by rw [List.getElem?_append_left (Nat.lt_trans hb M.le)]; exact M.pre b hb, k3, k2⟩
          | ok d =>
            rw [z] at q
            obtain ⟨w, t, k1, k2, M1, k3, k4, k5⟩ := q
            rw [k1]
            have e0 : ev C (.v 0) f (h ++ t) = .ok (.ref h1.length) (h ++ t) := by rw [ev_v]; simp only [M.at0]
            obtain ⟨ws, i1, i2⟩ := M1.ins
            simp only [R.asS, e0, i1, RB.bind]
            rw [lenN_rep i2]
            by_cases cc : fs.length < 1000
            · rw [if_pos cc, if_pos cc]
              have fw : frs h1.length (ws.map (·.2)) := M1.frA h1.length _ i1
              have M2 : Mk c h1 (putDN k d fs) fd f ((h ++ t).set h1.length (.ins c (putN k w ws))) := by
                have fo : frO h1.length (.ins c (putN k w ws)) := frs_putN k4 fw
                refine ⟨by rw [List.length_set]; exact M1.le, fun b hb => by rw [List.getElem?_set, if_neg (by omega)]; exact M1.pre b hb, ⟨putN k w ws, by rw [List.getElem?_set, if_pos rfl, if_pos M1.le], putN_rep (k2.tr' M1.frA k4) (i2.tr' M1.frA fw)⟩, frH_set M1.frA fo, ⟨M1.rF.1, fun i x hx => ?_⟩, fun a ha => ?_, M1.fr0, M1.at0, M1.z0⟩
                · obtain ⟨v, kv, rv⟩ := M1.rF.2 i x hx
                  by_cases q : i = 0
                  · subst q
                    exact (M1.z0 x hx).elim
                  · exact ⟨v, kv, rv.tr' M1.frA (M1.fr0 i q v kv)⟩
                · rw [List.length_set] at ha
                  exact ⟨frH_set (M1.cl a ha).1 (frs_putN (k5 a ha) ((M1.cl a ha).1 h1.length _ i1)), (M1.cl a ha).2⟩
              exact ihr (putDN k d fs) _ ok2 M2 fun a ha fa pa => frH_set (k3 a ha fa pa).1 (frs_putN (k3 a ha fa pa).2 ((k3 a ha fa pa).1 h1.length _ i1))
            · rw [if_neg cc]; trivial
        | succ i => trivial
      | _ => trivial
    | exp e =>
      have key : (match (evB C' e fd).bind (fun _ => initB C' r fd fs) with
          | .ok fs' => ∃ h', exec C (.seq (.exp e) r) f h = .nx f h' ∧ Mk c h1 fs' fd f h' ∧ ∀ a, a < h1.length → frH a h1 → P a → frH a h'
          | .exc x => ∃ h' f', exec C (.seq (.exp e) r) f h = .ex x f' h' ∧ h1.length < h'.length ∧ (∀ b, b < h1.length → h'[b]? = h1[b]?) ∧ (∀ a, h'.length ≤ a → frH a h') ∧ ∀ a, a < h1.length → frH a h1 → P a → frH a h'
          | .bad => True) := by
        obtain ⟨ok1, ok2⟩ := ba2 (show (!esc 0 e && iniOk r) = true from ok)
        have q := evk e fs h (by simpa using ok1) M G
        have ex : exec C (.seq (.exp e) r) f h = (match ((ev C e f h).asS f fun _ h1 => RS.nx f h1) with | .nx f1 h1 => exec C r f1 h1 | x => x) := rfl
        rw [ex]
        cases z : evB C' e fd with
        | bad => trivial
        | exc x =>
          rw [z] at q
          obtain ⟨t, k1, k2, k3⟩ := q
          rw [k1]
          exact ⟨_, _, rfl, by rw [List.length_append]; have := M.le; omega, fun b hb => by rw [List.getElem?_append_left (Nat.lt_trans hb M.le)]; exact M.pre b hb, k3, k2⟩
        | ok d =>
          rw [z] at q
          obtain ⟨w, t, k1, k2, M1, k3, k4, k5⟩ := q
          rw [k1]
          exact ihr fs _ ok2 M1 fun a ha fa pa => (k3 a ha fa pa).1
      cases e <;> first | exact key | trivial
    | _ => trivial
  | _ => intros; trivial

theorem mk_ok {C : Cb} {C' : CbB} (hC : CbOk C C') {call : Nat → List W → Hm → R W} (hcall : call = runF C) (hI : ∀ (c i : Nat) (fi : FnI), C.tb.init[c]? = some (some i) → C.tb.fns[i]? = some fi → iniOk fi.body = true)
    (c : Nat) (ds : List D) (ws : List W) (h : Hm) (r : Reps h ds ws) (cl : Clo (fun a => frs a ws) h) : OkW (fun a => frs a ws) h (mkB C' c ds) (mkOf C.tb call c ws h) := by
  unfold mkB mkOf
  rw [hC.tb]
  cases z : C.tb.init[c]? with
  | none => trivial
  | some oi =>
    cases oi with
    | none =>
      cases ds with
      | nil =>
        have r0 : ws = [] := r
        subst r0
        refine ⟨.ref h.length, [.ins c []], rfl, ⟨_, [], rfl, by simp, rfl⟩, fun a ha fh _ => ⟨?_, frH_one trivial⟩⟩
        show h.length ≠ a
        rw [List.length_append, List.length_singleton] at ha
        omega
      | cons d ds => trivial
    | some i =>
      simp only
      cases z2 : C.tb.fns[i]? with
      | none => trivial
      | some fi =>
        simp only
        split
        · next np =>
          have el : (W.ref h.length :: ws).length = fi.np := by rw [List.length_cons, r.length]; exact np
          have ec : call i (.ref h.length :: ws) (h ++ [.ins c []]) = (match exec C fi.body ((W.ref h.length :: ws).map some ++ List.replicate (fi.ns - (W.ref h.length :: ws).length) none) (h ++ [.ins c []]) with
              | .rt w h1 => .ok w h1
              | .nx _ h1 => .ok .non h1
              | .ex c _ h1 => .exc c h1
              | _ => .bad) := by
            rw [hcall]
            unfold runF
            rw [z2]
            simp only
            rw [if_pos el]
            try rfl
          have clA : frs h.length ws := (cl h.length (Nat.le_refl _)).2
          have clH : frH h.length h := (cl h.length (Nat.le_refl _)).1
          have len1 : (h ++ [O.ins c []]).length = h.length + 1 := by rw [List.length_append]; rfl
          have el2 : fi.ns - (W.ref h.length :: ws).length = fi.ns - (ds.length + 1) := by rw [List.length_cons, r.length]
          have M : Mk c h [] (none :: ds.map some ++ List.replicate (fi.ns - (ds.length + 1)) none) ((W.ref h.length :: ws).map some ++ List.replicate (fi.ns - (W.ref h.length :: ws).length) none) (h ++ [.ins c []]) := by
            rw [el2]
            refine ⟨by omega, fun b hb => by rw [List.getElem?_append_left hb], ⟨[], by simp, rfl⟩, frH_app clH (frH_one trivial), ⟨?_, fun j d e => ?_⟩, fun a ha => ?_, fun j hj w e => ?_, rfl, fun d e => by cases e⟩
            · simp [r.length]
            · cases j with
              | zero => cases e
              | succ j =>
                obtain ⟨_, k⟩ := RepF.start (r.app_h (t := [.ins c []])) (fi.ns - (ds.length + 1))
                exact k j d (by simpa using e)
            · obtain ⟨c1, c2⟩ := cl a (by omega)
              refine ⟨frH_app c1 (frH_one trivial), fun j w e => ?_⟩
              cases j with
              | zero =>
                have e : some (some (W.ref h.length)) = some (some w) := e
                cases e
                show h.length ≠ a
                omega
              | succ j => exact start_fr (n := fi.ns - (ds.length + 1)) c2 j w (by simpa using e)
            · cases j with
              | zero => exact absurd rfl hj
              | succ j => exact start_fr (n := fi.ns - (ds.length + 1)) clA j w (by simpa using e)
          have q := init_ok hC (c := c) (h1 := h) (P := fun a => frs a ws) (fd := none :: ds.map some ++ List.replicate (fi.ns - (ds.length + 1)) none) (f := (W.ref h.length :: ws).map some ++ List.replicate (fi.ns - (W.ref h.length :: ws).length) none) (fun a pa na j w e => by
            cases j with
            | zero =>
              have e : some (some (W.ref h.length)) = some (some w) := e
              cases e
              exact fun q => na q.symm
            | succ j => exact start_fr (n := fi.ns - (W.ref h.length :: ws).length) pa j w (by simpa using e)) fi.body [] _ (hI c i fi z z2) M (fun a ha fa pa => frH_app fa (frH_one trivial))
          rw [ec]
          cases y : initB C' fi.body (none :: ds.map some ++ List.replicate (fi.ns - (ds.length + 1)) none) [] with
          | bad => trivial
          | exc x =>
            rw [y] at q
            obtain ⟨h', f', q1, q2, q3, q4, q5⟩ := q
            rw [q1]
            obtain ⟨t, rfl⟩ := Mv.tail (h := h) (h' := h') ⟨Nat.le_of_lt q2, q3⟩
            refine ⟨t, rfl, fun a ha fa pa => ?_⟩
            rcases ha with ha | ha
            · exact frH_r (q5 a ha fa pa)
            · exact frH_r (q4 a ha)
          | ok fs =>
            rw [y] at q
            obtain ⟨h', q1, M', q3⟩ := q
            rw [q1]
            obtain ⟨t, rfl⟩ := Mv.tail (h := h) (h' := h') ⟨Nat.le_of_lt M'.le, M'.pre⟩
            obtain ⟨us, i1, i2⟩ := M'.ins
            refine ⟨.ref h.length, t, rfl, ⟨_, us, rfl, i1, i2⟩, fun a ha fa pa => ⟨?_, ?_⟩⟩
            · show h.length ≠ a
              have := M'.le
              omega
            · rcases ha with ha | ha
              · exact frH_r (q3 a ha fa pa)
              · exact frH_r (M'.cl a ha).1
        · trivial
end WL

namespace WL
open PySem
/-! ### thunks; all levels -/
theorem xc_ok {C : Cb} {C' : CbB} (hC : CbOk C C') (e : Nat) : CbOk (xcC C e) (xcB C' e) := ⟨hC.tb, rfl, hC.top, hC.low, hC.new, hC.thk⟩
theorem none_rep {h : Hm} (n : Nat) : RepF h (List.replicate n none) (List.replicate n none) := ⟨by simp, fun i d e => by
  have := List.mem_of_getElem? e
  have := List.eq_of_mem_replicate this
  cases this⟩
theorem none_fr {a n : Nat} : ∀ i, frF a (List.replicate n none) i := fun i w e => by
  have := List.eq_of_mem_replicate (List.mem_of_getElem? e)
  cases this
theorem runT_ok {C : Cb} {C' : CbB} (hC : CbOk C C') (hK : ∀ (g : Nat) (tk : TkI), C.tb.tks[g]? = some (some tk) → (chk C'.fs false [] tk.s []).isSome = true) (g : Nat) (r : RB D) (th : Hm → R W) (h : Hm) (P : Nat → Prop) (hth : ∀ t, Clo P (h ++ t) → OkW P (h ++ t) r (th (h ++ t))) (cl : Clo P h) : OkW P h (runTB C' g r) (runT C g th h) := by
  unfold runTB runT
  rw [hC.tb]
  cases z : C.tb.tks[g]? with
  | none => trivial
  | some otk =>
    cases otk with
    | none => trivial
    | some tk =>
      simp only
      have clN : ∀ {h : Hm}, (∀ a, h.length ≤ a → frH a h) → CloF h (List.replicate tk.ns none) := fun hh a ha => ⟨hh a ha, none_fr⟩
      refine OkG.bind cl ((ev_ok tk.e0 C C' hC _ _ h (none_rep tk.ns) (clN fun a ha => (cl a ha).1)).mono fun a _ => ⟨fun i w e => .inr (none_fr i w e), fun i _ => none_fr i⟩) fun d w t r0 c1 => ?_
      cases z1 : stD tk.x d (List.replicate tk.ns none) with
      | none => trivial
      | some fd1 =>
        obtain ⟨k1, k2⟩ := st_rep (none_rep tk.ns) r0 z1
        simp only
        rw [k1]
        simp only
        have q := hth t (c1.mono fun a p => p.1)
        have f1 : ∀ a, fr a w → ∀ j, frF a ((List.replicate tk.ns none).set tk.x (some w)) j := fun a fa j => frF_set (none_fr j) fa
        cases r with
        | bad => trivial
        | ok d1 =>
          obtain ⟨w1, t1, q1, q2, q3⟩ := q
          rw [q1]
          simp only
          cases z2 : fd1[tk.y]? with
          | none => trivial
          | some oy =>
            cases oy with
            | none => trivial
            | some dy =>
              obtain ⟨wy, m1, m2⟩ := k2.2 tk.y dy z2
              rw [m1]
              exact ⟨wy, t1, rfl, m2.app, fun a ha fh p => ⟨f1 a p.2 tk.y wy m1, (q3 a ha fh p.1).2⟩⟩
        | exc e =>
          obtain ⟨t1, q1, q3⟩ := q
          rw [q1]
          simp only
          cases z3 : C.tb.subX e tk.c with
          | none => trivial
          | some b =>
            cases b with
            | false => trivial
            | true =>
              simp only
              obtain ⟨o', ck⟩ := Option.isSome_iff_exists.mp (hK g tk z)
              have cl1 : ∀ a, (h ++ t ++ t1).length ≤ a → frH a (h ++ t ++ t1) := fun a ha => by
                have := c1 a (by rw [List.length_append] at ha; omega)
                exact frH_app this.1 (q3 a (.inr ha) this.1 this.2.1)
              have s : StB (h ++ t).length [] (fd1.set tk.i none) (((List.replicate tk.ns none).set tk.x (some w)).set tk.i none) (h ++ t ++ t1) := by
                refine ⟨k2.app.setN, fun a ha => ⟨cl1 a ha, fun j => frF_setN fun _ => f1 a (c1 a (by rw [List.length_append] at ha; omega)).2.2 j⟩, fun i hi => (List.not_mem_nil hi).elim, by rw [List.length_append (as := h ++ t)]; omega⟩
              have ex := exec_ok tk.s (xcC C e) (xcB C' e) (xc_ok hC e) false (h ++ t).length [] [] o' _ _ _ ck s
              cases y : execB (xcB C' e) tk.s (fd1.set tk.i none) with
              | nx fd2 =>
                rw [y] at ex
                obtain ⟨f2, h2, x1, s2, g2⟩ := ex
                rw [x1]
                simp only
                cases z4 : (fd2.set tk.i none)[tk.y]? with
                | none => trivial
                | some oy =>
                  cases oy with
                  | none => trivial
                  | some dy =>
                    obtain ⟨wy, m1, m2⟩ := s2.rF.setN.2 tk.y dy z4
                    rw [m1]
                    obtain ⟨t2, e2⟩ := Mv.tail (h := h ++ t) (h' := h2) ⟨by have := g2.mv.len; rw [List.length_append (as := h ++ t)] at this; omega, fun b hb => by rw [g2.mv.keep b hb, List.getElem?_append_left hb]⟩
                    subst e2
                    refine ⟨wy, t2, rfl, m2, fun a ha fh p => ?_⟩
                    have ff : frH a (h ++ t ++ t2) ∧ ∀ j, frF a f2 j := by
                      rcases ha with ha | ha
                      · exact g2.out a ha (frH_app fh (q3 a (.inl ha) fh p.1)) fun j => frF_setN fun _ => f1 a p.2 j
                      · exact s2.cl a ha
                    exact ⟨frF_setN (fun _ => ff.2 tk.y) wy m1, frH_r ff.1⟩
              | _ => trivial
/-- what is asked of a table -/
structure TOk (T : Tb) (no fs : List Nat) (ext : Nat → Nat → List D → RB D) : Prop where
  fns : ∀ (g : Nat) (fi : FnI), T.fns[g]? = some fi → g ∉ no → (chk fs (fs.contains g) [] fi.body []).isSome = true
  ini : ∀ (c i : Nat) (fi : FnI), T.init[c]? = some (some i) → T.fns[i]? = some fi → iniOk fi.body = true
  tks : ∀ (g : Nat) (tk : TkI), T.tks[g]? = some (some tk) → (chk fs false [] tk.s []).isSome = true
  nw : ∀ g ∈ fs, g ∉ no
  ext : ∀ (k g : Nat), g ∈ no → (∀ j, j ≤ k → CbOk (cbM T j) (cbB T no fs ext j)) → ∀ (ds : List D) (ws : List W) (h : Hm), Reps h ds ws → Clo (fun a => frs a ws) h → OkW (fun a => frs a ws) h (ext (k + 1) g ds) (runF (cbM T k) g ws h)
theorem bad_ok : Cb0B (fun _ _ _ => .bad) (fun _ _ _ => .bad) (fun _ _ _ _ _ => .bad) (fun _ _ => .bad) (fun _ _ => .bad) (fun _ _ _ _ => .bad) := ⟨fun _ _ _ _ _ _ => trivial, fun _ _ _ _ _ _ => trivial, fun _ _ _ _ _ _ _ _ => trivial⟩
theorem cb_ok {T : Tb} {no fs : List Nat} {ext : Nat → Nat → List D → RB D} (H : TOk T no fs ext) : ∀ k, (∀ j, j ≤ k → CbOk (cbM T j) (cbB T no fs ext j)) ∧ Cb0B (cbM T k).dcall (cbM T k).dmake (cbM T k).dcods (cbB T no fs ext k).dcall (cbB T no fs ext k).dmake (cbB T no fs ext k).dcods
  | 0 => ⟨fun j hj => by
      have : j = 0 := by omega
      subst this
      exact ⟨rfl, rfl, bad_ok, bad_ok, fun _ _ _ _ _ _ _ _ e => (by cases e), fun _ _ _ _ _ _ _ => trivial⟩, bad_ok⟩
  | k + 1 => by
    obtain ⟨ih, ihd⟩ := cb_ok H k
    have hk := ih k (Nat.le_refl _)
    have tb : (cbM T k).tb = T := cbM_tb T k
    have fe : (cbB T no fs ext k).fs = fs := by cases k <;> rfl
    have hTf : ∀ (g : Nat) (fi : FnI), (cbM T k).tb.fns[g]? = some fi → g ∉ no → (chk (cbB T no fs ext k).fs ((cbB T no fs ext k).fs.contains g) [] fi.body []).isSome = true := fun g fi e hn => by rw [fe]; exact H.fns g fi (by rw [tb] at e; exact e) hn
    refine ⟨fun j hj => ?_, hk.top⟩
    by_cases e : j ≤ k
    · exact ih j e
    · have : j = k + 1 := by omega
      subst this
      refine ⟨rfl, rfl, ⟨?_, ?_, ?_⟩, ihd, ?_, ?_⟩
      · exact fun g ds ws h r c => run_ok hk hTf (fun g hg => H.ext k g hg ih) g ds ws h r c
      · intro c ds ws h r cl
        cases k with
        | zero => trivial
        | succ j =>
          have hj := ih j (by omega)
          have tj : (cbM T j).tb = T := cbM_tb T j
          have := mk_ok hj (call := (cbM T (j + 1)).call) rfl (fun c i fi e1 e2 => H.ini c i fi (by rw [tj] at e1; exact e1) (by rw [tj] at e2; exact e2)) c ds ws h r cl
          rw [tj] at this
          exact this
      · exact fun np ns b ds ws h r c => runL_ok hk np ns b ds ws h r c
      · exact fun g hg ds ws h d r c e => run_new hk hTf g (H.nw g hg) (by rw [fe]; exact hg) ds ws h d r c e
      · intro g r th h P hth cl
        show OkW P h (if k = 0 then .bad else runTB (cbB T no fs ext k) g r) (if k = 0 then .bad else runT (cbM T k) g th h)
        split
        · trivial
        · exact runT_ok hk (fun g tk e => by rw [fe]; exact H.tks g tk (by rw [tb] at e; exact e)) g r th h P hth cl
theorem cbOk {T : Tb} {no fs : List Nat} {ext : Nat → Nat → List D → RB D} (H : TOk T no fs ext) (k : Nat) : CbOk (cbM T k) (cbB T no fs ext k) := (cb_ok H k).1 k (Nat.le_refl _)
end WL

namespace WL
open PySem
/-! ### from the trees' run to the law's -/
theorem cut63 (ns : List Int) (hl : ns.length ≤ 63) : cutW (ns.map W.int) none (some 63) = ns.map W.int := by
  unfold cutW
  have : sIx (ns.map W.int).length 0 none = 0 := rfl
  rw [this]
  have e : sIx (ns.map W.int).length (ns.map W.int).length (some 63) = ns.length := by
    simp only [sIx, List.length_map]
    rw [if_neg (by decide)]
    show min 63 ns.length = _
    omega
  rw [e, List.drop_zero, Nat.sub_zero]
  exact List.take_of_length_le (by simp)
theorem seq_asg {C : Cb} {i : Nat} {e : E} {r : S} {f f1 : F} {h h1 : Hm} {w : W} (e1 : ev C e f h = .ok w h1) (e2 : stV i w f = some f1) : exec C (.seq (.asg i e) r) f h = exec C r f1 h1 := by
  show (match ((ev C e f h).asS f fun w h1 => (match stV i w f with | some f1 => RS.nx f1 h1 | none => .bad)) with | .nx f1 h1 => exec C r f1 h1 | x => x) = _
  rw [e1]
  simp only [R.asS, e2]
theorem rest_run {T : Tb} {no fs : List Nat} {ext : Nat → Nat → List D → RB D} (H : TOk T no fs ext) {k : Nat} {rest : S} {n a : Nat} {ns : List Int} {h : Hm} (hc : (chk fs false [] rest []).isSome = true) (hh : h[a]? = some (.lst (ns.map W.int))) (hcl : ∀ b, h.length ≤ b → frH b h)
    (hr : execB (cbB T no fs ext k) rest (some (.lst (ns.map D.int)) :: List.replicate n none) = .rt (.bl true)) : ∃ h', exec (cbM T k) rest (some (.ref a) :: List.replicate n none) h = .rt (.bl true) h' := by
  obtain ⟨o', ck⟩ := Option.isSome_iff_exists.mp hc
  have fe : (cbB T no fs ext k).fs = fs := by cases k <;> rfl
  have al := (List.getElem?_eq_some_iff.mp hh).1
  have rp : Rep h (.lst (ns.map D.int)) (.ref a) := ⟨a, _, rfl, hh, Reps.ints ns⟩
  have s : StB h.length [] (some (.lst (ns.map D.int)) :: List.replicate n none) (some (.ref a) :: List.replicate n none) h := by
    refine ⟨RepF.start (ds := [.lst (ns.map D.int)]) (ws := [.ref a]) (Reps.one rp) n, start_cl (ws := [.ref a]) fun b hb => ⟨hcl b hb, ?_, trivial⟩, fun i hi => (List.not_mem_nil hi).elim, Nat.le_refl _⟩
    show a ≠ b
    omega
  have q := exec_ok rest (cbM T k) (cbB T no fs ext k) (cbOk H k) false h.length [] [] o' _ _ h (by rw [fe]; exact ck) s
  rw [hr] at q
  obtain ⟨w, h', e, ⟨r, _⟩, _⟩ := q
  have r : w = .bl true := r
  subst r
  exact ⟨h', e⟩
theorem law_tree {T : Tb} {no fs : List Nat} {ext : Nat → Nat → List D → RB D} (H : TOk T no fs ext) {k g n : Nat} {rest : S} (hg : T.fns[g]? = some ⟨1, n + 1, .seq (.asg 0 (.sli (.v 0) .nil (.cons (.int 63) .nil))) rest⟩) (hc : (chk fs false [] rest []).isSome = true)
    (hr : ∀ ns : List Int, ns.length ≤ 63 → execB (cbB T no fs ext k) rest (some (.lst (ns.map D.int)) :: List.replicate n none) = .rt (.bl true)) (ns : List Int) (hl : ns.length ≤ 63) :
    (∃ h, callM T (k + 1) g [.scr ns] [] = .ok (.bl true) h) ∧ ∃ h, callM T (k + 1) g [.ref 0] [.lst (ns.map W.int)] = .ok (.bl true) h := by
  have tb := cbM_tb T k
  constructor
  · obtain ⟨h', e⟩ := rest_run H (n := n) (a := 0) (h := [.lst (ns.map W.int)]) hc rfl (fun b _ => frH_one (frs.ints ns)) (hr ns hl)
    refine ⟨h', ?_⟩
    rw [callM_succ]
    unfold runF
    rw [tb, hg]
    have ex : exec (cbM T k) (.seq (.asg 0 (.sli (.v 0) .nil (.cons (.int 63) .nil))) rest) (some (.scr ns) :: List.replicate n none) [] = exec (cbM T k) rest (some (.ref 0) :: List.replicate n none) [.lst (ns.map W.int)] := by
      have e1 : ev (cbM T k) (.sli (.v 0) .nil (.cons (.int 63) .nil)) (some (.scr ns) :: List.replicate n none) [] = .ok (.ref 0) [.lst (ns.map W.int)] := by
        rw [ev_sli, ev_v]
        show alloc (.lst (cutW (ns.map W.int) none (some 63))) [] = _
        rw [cut63 ns hl]
        rfl
      exact seq_asg e1 (by simp [stV])
    show (match exec (cbM T k) (.seq (.asg 0 (.sli (.v 0) .nil (.cons (.int 63) .nil))) rest) (some (.scr ns) :: List.replicate n none) [] with | .rt w h1 => R.ok w h1 | .nx _ h1 => .ok .non h1 | .ex c _ h1 => .exc c h1 | _ => .bad) = _
    rw [ex, e]
  · obtain ⟨h', e⟩ := rest_run H (n := n) (a := 1) (h := [.lst (ns.map W.int), .lst (ns.map W.int)]) hc rfl (fun b _ => frH_app (h := [.lst (ns.map W.int)]) (frH_one (frs.ints ns)) (frH_one (frs.ints ns))) (hr ns hl)
    refine ⟨h', ?_⟩
    rw [callM_succ]
    unfold runF
    rw [tb, hg]
    have ex : exec (cbM T k) (.seq (.asg 0 (.sli (.v 0) .nil (.cons (.int 63) .nil))) rest) (some (.ref 0) :: List.replicate n none) [.lst (ns.map W.int)] = exec (cbM T k) rest (some (.ref 1) :: List.replicate n none) [.lst (ns.map W.int), .lst (ns.map W.int)] := by
      have e1 : ev (cbM T k) (.sli (.v 0) .nil (.cons (.int 63) .nil)) (some (.ref 0) :: List.replicate n none) [.lst (ns.map W.int)] = .ok (.ref 1) [.lst (ns.map W.int), .lst (ns.map W.int)] := by
        rw [ev_sli, ev_v]
        show alloc (.lst (cutW (ns.map W.int) none (some 63))) [.lst (ns.map W.int)] = _
        rw [cut63 ns hl]
        rfl
      exact seq_asg e1 (by simp [stV])
    show (match exec (cbM T k) (.seq (.asg 0 (.sli (.v 0) .nil (.cons (.int 63) .nil))) rest) (some (.ref 0) :: List.replicate n none) [.lst (ns.map W.int)] with | .rt w h1 => R.ok w h1 | .nx _ h1 => .ok .non h1 | .ex c _ h1 => .exc c h1 | _ => .bad) = _
    rw [ex, e]
end WL

namespace WL
open PySem
/-! ### the trees' run, in equations -/
section
variable {C : CbB} {f : FD}
theorem eB_v {i : Nat} : evB C (.v i) f = (match f[i]? with | some (some w) => .ok w | _ => .bad) := rfl
theorem eB_non : evB C .non f = .ok .non := rfl
theorem eB_bl {b : Bool} : evB C (.bl b) f = .ok (.bl b) := rfl
theorem eB_int {i : Int} : evB C (.int i) f = .ok (.int i) := rfl
theorem eB_str {s : Str} : evB C (.str s) f = .ok (.str s) := rfl
theorem eB_fnv {g : Nat} : evB C (.fnv g) f = .ok (.fn g) := rfl
theorem eB_bin {o : Operator} {a b : E} : evB C (.bin o a b) f = (evB C a f).bind fun x => (evB C b f).bind fun y => binB o x y := rfl
theorem eB_neg {a : E} : evB C (.neg a) f = (evB C a f).bind fun x => match x with | .int i => .ok (.int (-i)) | _ => .bad := rfl
def RB.ofO (o : Option Bool) : RB D := match o with | some c => .ok (.bl c) | none => .bad
def RB.ofD (o : Option D) : RB D := match o with | some c => .ok c | none => .bad
theorem eB_cmp {o : CmpOp} {a b : E} : evB C (.cmp o a b) f = (evB C a f).bind fun x => (evB C b f).bind fun y => RB.ofO (cmpB o x y) := rfl
def RB.chnB (o : Option Bool) (k : RB D) : RB D := match o with | some true => k | some false => .ok (.bl false) | none => .bad
theorem eB_chn {o o' : CmpOp} {a b c : E} : evB C (.chn o o' a b c) f = (evB C a f).bind fun x => (evB C b f).bind fun y => RB.chnB (cmpB o x y) ((evB C c f).bind fun z => RB.ofO (cmpB o' y z)) := rfl
def RB.andB (x : D) (k : RB D) : RB D := match x with | .bl true => k | .bl false => .ok (.bl false) | _ => .bad
def RB.orB (x : D) (k : RB D) : RB D := match x with | .bl false => k | .bl true => .ok (.bl true) | _ => .bad
def RB.iteB (x : D) (a b : RB D) : RB D := match x with | .bl true => a | .bl false => b | _ => .bad
def RB.notB (x : D) : RB D := match x with | .bl b => .ok (.bl (!b)) | _ => .bad
theorem eB_and {a b : E} : evB C (.and a b) f = (evB C a f).bind fun x => RB.andB x (evB C b f) := rfl
theorem eB_or {a b : E} : evB C (.or a b) f = (evB C a f).bind fun x => RB.orB x (evB C b f) := rfl
theorem eB_not {a : E} : evB C (.not a) f = (evB C a f).bind RB.notB := rfl
theorem eB_ife {c a b : E} : evB C (.ife c a b) f = (evB C c f).bind fun x => RB.iteB x (evB C a f) (evB C b f) := rfl
theorem eB_tup {l : E} : evB C (.tup l) f = (evsB C l f).bind fun ws => if ws.length ≤ line then .ok (.tup ws) else .bad := rfl
theorem eB_lst {l : E} : evB C (.lst l) f = (evsB C l f).bind fun ws => if ws.length ≤ line then .ok (.lst ws) else .bad := rfl
theorem eB_dnew {t : Bool} : evB C (.dnew t) f = .ok (if t then .dT [] else .dK []) := rfl
theorem eB_idx {a i : E} : evB C (.idx a i) f = (evB C a f).bind fun x => (evB C i f).bind fun y => RB.ofD (idxB x y) := rfl
theorem eB_sli {a lo hi : E} : evB C (.sli a lo hi) f = (evB C a f).bind fun x => (optB (evsB C lo f)).bind fun l => (optB (evsB C hi f)).bind fun u => sliB x l u := rfl
theorem eB_cal {g : Nat} {l : E} : evB C (.cal g l) f = (evsB C l f).bind fun ws => C.call g ws := rfl
theorem eB_mk {c : Nat} {l : E} : evB C (.mk c l) f = (evsB C l f).bind fun ws => C.make c ws := rfl
theorem eB_mth {m : Nat} {o l : E} : evB C (.mth m o l) f = (evB C o f).bind fun x => match x with
    | .ins c fs => (match C.tb.metI c m with
      | some g => (evsB C l f).bind fun ws => C.call g (.ins c fs :: ws)
      | none => .bad)
    | _ => .bad := rfl
theorem eB_blt {b : B} {l : E} : evB C (.blt b l) f = (evsB C l f).bind fun ws => bltB b ws := rfl
theorem eB_bm {m : BM} {o l : E} : evB C (.bm m o l) f = (evB C o f).bind fun x => if bmTyB m x then (evsB C l f).bind fun ws => bmB m x ws else .bad := rfl
theorem eB_fld {o : E} {k : Nat} : evB C (.fld o k) f = (evB C o f).bind fun x => match x with
    | .ins _ fs => RB.ofD (lookD fs k)
    | _ => .bad := rfl
theorem eB_isi {a : E} {c : Cl} : evB C (.isi a c) f = (evB C a f).bind fun x => RB.ofO (isiB C.tb x c) := rfl
theorem eB_isx {d : Nat} : evB C (.isx d) f = RB.ofO (C.xc.bind fun c => C.tb.subX c d) := rfl
theorem eB_lc {own : List Nat} {t it cond e : E} : evB C (.lc own t it cond e) f = (evIB C it f).bind fun l => if l.length ≤ line then (lcB (evCB C cond) (evB C e) (bindB t) (wipeB f own) l).bind fun ws => .ok (.lst ws) else .bad := rfl
theorem eB_agg {b : B} {own : List Nat} {t it cond e : E} : evB C (.agg b (.lc own t it cond e)) f = (evIB C it f).bind fun l => if l.length ≤ line then (lcB (evCB C cond) (evB C e) (bindB t) (wipeB f own) l).bind fun ws => bltLB b ws else .bad := rfl
theorem eB_rev {a : E} : evB C (.rev a) f = (evB C a f).bind fun x => match lstD x with | some l => .ok (.lst l.reverse) | none => .bad := rfl
theorem eB_calv {i : Nat} {l : E} : evB C (.calv i l) f = (match f[i]? with
    | some (some (.fn g)) => (evsB C l f).bind fun ws => C.call g ws
    | some (some (.cod np ns b)) => (evsB C l f).bind fun ws => C.cods np ns b ws
    | _ => .bad) := rfl
theorem eB_thk {g : Nat} {b : E} : evB C (.thk g b) f = C.thkc g (evB (lowB C) b f) := rfl
theorem eB_lam {np ns : Nat} {b : E} : evB C (.lam np ns b) f = .ok (.cod np ns b) := rfl
theorem eBs_nil : evsB C .nil f = .ok [] := rfl
theorem eBs_cons {a r : E} : evsB C (.cons a r) f = (evB C a f).bind fun x => (evsB C r f).bind fun xs => .ok (x :: xs) := rfl
theorem eBI_rng {l : E} : evIB C (.rng l) f = (evsB C l f).bind fun ws => match rngB ws with | some J => .ok J | none => .bad := rfl
theorem eBI_zip {a b : E} : evIB C (.zip a b) f = (evB C a f).bind fun x => (evB C b f).bind fun y => match lstD x, lstD y with
    | some l, some m => .ok (zipD l m)
    | _, _ => .bad := rfl
theorem eBI_enu {a : E} : evIB C (.enu a) f = (evB C a f).bind fun x => match lstD x with
    | some l => .ok (enuD 0 l)
    | none => .bad := rfl
theorem eBI_sq {e : E} : evIB C (.sq e) f = (evB C e f).bind fun x => match seqD x with
    | some l => .ok l
    | none => .bad := rfl
theorem eBC_nil : evCB C .nil f = .ok (.bl true) := rfl
theorem eBC_cons {e r : E} : evCB C (.cons e r) f = evB C e f := rfl
/-! statements -/
def RTB.then_ (x : RTB) (k : FD → RTB) : RTB := match x with | .nx f1 => k f1 | x => x
theorem xB_nil : execB C .nil f = .nx f := rfl
theorem xB_seq {a r : S} : execB C (.seq a r) f = (execB C a f).then_ (execB C r) := rfl
theorem xB_ret {e : E} : execB C (.ret e) f = (evB C e f).asS .rt := rfl
def RTB.ofF (o : Option FD) : RTB := match o with | some f1 => .nx f1 | none => .bad
theorem xB_asg {i : Nat} {e : E} : execB C (.asg i e) f = (evB C e f).asS fun w => .ofF (stD i w f) := rfl
theorem xB_unp {t e : E} : execB C (.unp t e) f = (evB C e f).asS fun w => .ofF (bindB t w f) := rfl
theorem xB_par {is : List Nat} {es : E} : execB C (.par is es) f = (evsB C es f).asS fun ws => .ofF (stAllB is ws f) := rfl
def RTB.iteB (x : D) (a b : RTB) : RTB := match x with | .bl true => a | .bl false => b | _ => .bad
theorem xB_ife {c : E} {a b : S} : execB C (.ife c a b) f = (evB C c f).asS fun w => .iteB w (execB C a f) (execB C b f) := rfl
theorem xB_whl {c : E} {b : S} : execB C (.whl c b) f = whlB (evB C c) (execB C b) loops f := rfl
theorem xB_for {t it : E} {b : S} : execB C (.forS t it b) f = (evIB C it f).asS fun l => forB (execB C b) (bindB t) l f := rfl
theorem xB_brk : execB C .brk f = .bk f := rfl
theorem xB_cnt : execB C .cnt f = .ct f := rfl
theorem xB_rai {c : Nat} : execB C (.rai c) f = .ex c := rfl
theorem xB_chg {m : BM} {i : Nat} {l : E} : execB C (.exp (.bm m (.v i) l)) f = (match f[i]? with
    | some (some x) => if bmTyB m x then (evsB C l f).asS fun ws => .ofF ((chgB m x ws).map fun y => f.set i (some y)) else .bad
    | _ => .bad) := by
  show (match f[i]? with
    | some (some x) => if bmTyB m x then (evsB C l f).asS fun ws => (match chgB m x ws with
      | some y => .nx (f.set i (some y))
      | none => .bad) else .bad
    | _ => .bad) = _
  split
  · split
    · congr 1
      funext ws
      cases chgB m _ ws <;> rfl
    · rfl
  · rfl
theorem xB_cal {g : Nat} {l : E} : execB C (.exp (.cal g l)) f = ((evsB C l f).bind fun ws => C.call g ws).asS fun _ => .nx f := rfl
theorem xB_sub {i : Nat} {k e : E} : execB C (.sub (.v i) k e) f = (evB C e f).asS fun w => (match f[i]? with
    | some (some x) => (evB C k f).asS fun y => .ofF ((setB x y w).map fun z => f.set i (some z))
    | _ => .bad) := by
  show ((evB C e f).asS fun w => (match f[i]? with
    | some (some x) => (evB C k f).asS fun y => (match setB x y w with | some z => .nx (f.set i (some z)) | none => .bad)
    | _ => .bad)) = _
  congr 1
  funext w
  split
  · congr 1
    funext y
    cases setB _ y w <;> rfl
  · rfl
def augB (i : Nat) (o : Operator) (f : FD) (x y : D) : RTB := match o, x, y with
  | .Add, .int a, .int b => .ofF (stD i (.int (a + b)) f)
  | .Sub, .int a, .int b => .ofF (stD i (.int (a - b)) f)
  | _, _, _ => .bad
theorem xB_aug {i : Nat} {o : Operator} {e : E} : execB C (.aug i o e) f = (match f[i]? with
    | some (some x) => (evB C e f).asS fun y => augB i o f x y
    | _ => .bad) := rfl
end
/-! what comes of them -/
section
variable {α β : Type}
theorem bindB_ok {a : α} {k : α → RB β} : (RB.ok a).bind k = k a := rfl
theorem bindB_exc {c : Nat} {k : α → RB β} : (RB.exc c : RB α).bind k = .exc c := rfl
theorem bindB_bad {k : α → RB β} : (RB.bad : RB α).bind k = .bad := rfl
theorem asB_ok {a : α} {k : α → RTB} : (RB.ok a).asS k = k a := rfl
theorem asB_exc {c : Nat} {k : α → RTB} : (RB.exc c : RB α).asS k = .ex c := rfl
theorem asB_bad {k : α → RTB} : (RB.bad : RB α).asS k = .bad := rfl
theorem then_nx {f : FD} {k : FD → RTB} : (RTB.nx f).then_ k = k f := rfl
theorem then_rt {d : D} {k : FD → RTB} : (RTB.rt d).then_ k = .rt d := rfl
theorem then_ex {c : Nat} {k : FD → RTB} : (RTB.ex c).then_ k = .ex c := rfl
theorem then_bk {f : FD} {k : FD → RTB} : (RTB.bk f).then_ k = .bk f := rfl
theorem then_ct {f : FD} {k : FD → RTB} : (RTB.ct f).then_ k = .ct f := rfl
theorem end_rt {d : D} : (RTB.rt d).end_ = .ok d := rfl
theorem end_nx {f : FD} : (RTB.nx f).end_ = .ok .non := rfl
theorem end_ex {c : Nat} : (RTB.ex c).end_ = .exc c := rfl
theorem ofO_some {b : Bool} : RB.ofO (some b) = .ok (.bl b) := rfl
theorem ofD_some {d : D} : RB.ofD (some d) = .ok d := rfl
theorem ofF_some {f : FD} : RTB.ofF (some f) = .nx f := rfl
theorem and_t {k : RB D} : RB.andB (.bl true) k = k := rfl
theorem and_f {k : RB D} : RB.andB (.bl false) k = .ok (.bl false) := rfl
theorem or_t {k : RB D} : RB.orB (.bl true) k = .ok (.bl true) := rfl
theorem or_f {k : RB D} : RB.orB (.bl false) k = k := rfl
theorem ite_t {a b : RB D} : RB.iteB (.bl true) a b = a := rfl
theorem ite_f {a b : RB D} : RB.iteB (.bl false) a b = b := rfl
theorem iteS_t {a b : RTB} : RTB.iteB (.bl true) a b = a := rfl
theorem iteS_f {a b : RTB} : RTB.iteB (.bl false) a b = b := rfl
theorem not_b {b : Bool} : RB.notB (.bl b) = .ok (.bl !b) := rfl
theorem andB_and {a b : Bool} : RB.andB (.bl a) (.ok (.bl b)) = .ok (.bl (a && b)) := by cases a <;> rfl
theorem chnB_and {a b : Bool} : RB.chnB (some a) (.ok (.bl b)) = .ok (.bl (a && b)) := by cases a <;> rfl
theorem orB_or {a b : Bool} : RB.orB (.bl a) (.ok (.bl b)) = .ok (.bl (a || b)) := by cases a <;> rfl
theorem cLt {i j : Int} : cmpB .Lt (.int i) (.int j) = some (decide (i < j)) := rfl
theorem cLe {i j : Int} : cmpB .LtE (.int i) (.int j) = some (decide (i ≤ j)) := rfl
theorem cGt {i j : Int} : cmpB .Gt (.int i) (.int j) = some (decide (j < i)) := rfl
theorem cGe {i j : Int} : cmpB .GtE (.int i) (.int j) = some (decide (j ≤ i)) := rfl
theorem bAdd {i j : Int} : binB .Add (.int i) (.int j) = .ok (.int (i + j)) := rfl
theorem bSub {i j : Int} : binB .Sub (.int i) (.int j) = .ok (.int (i - j)) := rfl
theorem len_l {l : List D} : bltB .len [.lst l] = .ok (.int l.length) := rfl
theorem len_t {l : List D} : bltB .len [.tup l] = .ok (.int l.length) := rfl
theorem max2 {i j : Int} : bltB .max [.int i, .int j] = .ok (.int (max i j)) := by
  show RB.ok (D.int (if j > i then j else i)) = _
  congr 2
  split <;> omega
theorem min2 {i j : Int} : bltB .min [.int i, .int j] = .ok (.int (min i j)) := by
  show RB.ok (D.int (if j < i then j else i)) = _
  congr 2
  split <;> omega
theorem idx0 {a b : D} : idxB (.tup [a, b]) (.int 0) = some a := rfl
theorem idx1 {a b : D} : idxB (.tup [a, b]) (.int 1) = some b := rfl
theorem isi_list {T : Tb} {l : List D} : isiB T (.lst l) .list = some true := rfl
theorem isi_tup {T : Tb} {l : List D} : isiB T (.tup l) .tuple = some true := rfl
theorem isi_int {T : Tb} {i : Int} : isiB T (.int i) .int = some true := rfl
theorem isi_nb {T : Tb} {i : Int} : isiB T (.int i) .bool = some false := rfl
theorem seq_l {l : List D} : seqD (.lst l) = some l := rfl
theorem seq_t {l : List D} : seqD (.tup l) = some l := rfl
theorem lst_l {l : List D} : lstD (.lst l) = some l := rfl
theorem opt0 : optB (.ok []) = .ok none := rfl
theorem opt1 {i : Int} : optB (.ok [.int i]) = .ok (some i) := rfl
theorem sli_l {l : List D} {a b : Option Int} : sliB (.lst l) a b = .ok (.lst (cutD l a b)) := rfl
theorem cut1 {l : List D} : cutD l (some 1) none = l.drop 1 := by
  unfold cutD
  cases l with
  | nil => rfl
  | cons x r =>
    have e : sIx (x :: r).length 0 (some 1) = 1 := by
      simp only [sIx, List.length_cons]
      rw [if_neg (by decide)]
      show min 1 (r.length + 1) = 1
      omega
    rw [e]
    show ((x :: r).drop 1).take ((x :: r).length - 1) = _
    exact List.take_of_length_le (by simp)
theorem stD_z {w : D} {a : Option D} {r : FD} : stD 0 w (a :: r) = some (some w :: r) := rfl
theorem stD_s {i : Nat} {w : D} {a : Option D} {r : FD} : stD (i + 1) w (a :: r) = (stD i w r).map (a :: ·) := by
  unfold stD
  simp only [List.length_cons, List.set_cons_succ]
  by_cases h : i < r.length
  · rw [if_pos h, if_pos (by omega)]; rfl
  · rw [if_neg h, if_neg (by omega)]; rfl
theorem stA_nil {f : FD} : stAllB [] [] f = some f := rfl
theorem stA_cons {i : Nat} {is : List Nat} {w : D} {ws : List D} {f : FD} : stAllB (i :: is) (w :: ws) f = (stD i w f).bind fun f => stAllB is ws f := rfl
theorem bd_v {i : Nat} {w : D} {f : FD} : bindB (.v i) w f = stD i w f := rfl
theorem bd_tup {l : E} {ws : List D} {f : FD} : bindB (.tup l) (.tup ws) f = bindBs l ws f := rfl
theorem bds_nil {f : FD} : bindBs .nil [] f = some f := rfl
theorem bds_cons {a r : E} {w : D} {ws : List D} {f : FD} : bindBs (.cons a r) (w :: ws) f = (bindB a w f).bind fun f => bindBs r ws f := rfl
theorem wp_nil {f : FD} : wipeB f [] = f := rfl
theorem wp_cons {v : Nat} {vs : List Nat} {f : FD} : wipeB f (v :: vs) = (wipeB f vs).set v none := rfl
theorem ln0 : (0 ≤ line) = True := eq_true (by decide)
theorem ln1 : (1 ≤ line) = True := eq_true (by decide)
theorem ln2 : (2 ≤ line) = True := eq_true (by decide)
theorem ln3 : (3 ≤ line) = True := eq_true (by decide)
theorem ln4 : (4 ≤ line) = True := eq_true (by decide)
theorem ln5 : (5 ≤ line) = True := eq_true (by decide)
theorem ln6 : (6 ≤ line) = True := eq_true (by decide)
theorem ln7 : (7 ≤ line) = True := eq_true (by decide)
theorem ln8 : (8 ≤ line) = True := eq_true (by decide)
theorem ln9 : (9 ≤ line) = True := eq_true (by decide)
theorem ln10 : (10 ≤ line) = True := eq_true (by decide)
theorem ln11 : (11 ≤ line) = True := eq_true (by decide)
theorem ln12 : (12 ≤ line) = True := eq_true (by decide)
theorem ln13 : (13 ≤ line) = True := eq_true (by decide)
theorem ln14 : (14 ≤ line) = True := eq_true (by decide)
theorem ln15 : (15 ≤ line) = True := eq_true (by decide)
theorem ln16 : (16 ≤ line) = True := eq_true (by decide)
theorem app_ty {l : List D} : bmTyB .append (.lst l) = true := rfl
theorem app_l {l : List D} {d : D} (h : l.length ≤ 100000) : chgB .append (.lst l) [d] = some (.lst (l ++ [d])) := by
  show (if l.length < line then _ else _) = _
  rw [if_pos (Nat.lt_of_le_of_lt h (by decide))]
theorem get_ty {l : List (Int × D)} : bmTyB .get (.dK l) = true := rfl
theorem get_k {l : List (Int × D)} {k : Int} {d : D} : bmB .get (.dK l) [.int k, d] = .ok ((lookD l k).getD d) := rfl
theorem list_l {l : List D} : bltB .list [.lst l] = .ok (.lst l) := rfl
theorem list_t {l : List D} : bltB .list [.tup l] = .ok (.lst l) := rfl
end
end WL

namespace WL
open PySem
/-! ### what is asked of a table, tested -/
def tokB (T : Tb) (no fs : List Nat) : Bool :=
  ((List.range T.fns.length).all fun g => no.contains g || (match T.fns[g]? with | some fi => (chk fs (fs.contains g) [] fi.body []).isSome | none => true)) &&
  ((T.init.all fun o => match o with | some i => (match T.fns[i]? with | some fi => iniOk fi.body | none => true) | none => true) &&
  ((T.tks.all fun o => match o with | some tk => (chk fs false [] tk.s []).isSome | none => true) && fs.all fun g => !no.contains g))
theorem tok_of {T : Tb} {no fs : List Nat} {ext : Nat → Nat → List D → RB D} (h : tokB T no fs = true) (he : ∀ (k g : Nat), g ∈ no → (∀ j, j ≤ k → CbOk (cbM T j) (cbB T no fs ext j)) → ∀ (ds : List D) (ws : List W) (h : Hm), Reps h ds ws → Clo (fun a => frs a ws) h → OkW (fun a => frs a ws) h (ext (k + 1) g ds) (runF (cbM T k) g ws h)) : TOk T no fs ext := by
  unfold tokB at h
  simp only [Bool.and_eq_true] at h
  obtain ⟨h1, h2, h3, h4⟩ := h
  refine ⟨fun g fi e hn => ?_, fun c i fi e1 e2 => ?_, fun g tk e => ?_, fun g hg => ?_, he⟩
  · have := List.all_eq_true.mp h1 g (List.mem_range.mpr (List.getElem?_eq_some_iff.mp e).1)
    rw [e] at this
    have hn : no.contains g = false := by simpa using hn
    rw [hn] at this
    simpa using this
  · have := List.all_eq_true.mp h2 _ (List.mem_of_getElem? e1)
    simpa [e2] using this
  · have := List.all_eq_true.mp h3 _ (List.mem_of_getElem? e)
    simpa using this
  · have := List.all_eq_true.mp h4 g hg
    simpa using this
theorem tok0 {T : Tb} {fs : List Nat} {ext : Nat → Nat → List D → RB D} (h : tokB T [] fs = true) : TOk T [] fs ext := tok_of h fun _ _ hg => (List.not_mem_nil hg).elim
/-- defs whose runs over trees are not looked at -/
theorem tokN {T : Tb} {no fs : List Nat} (h : tokB T no fs = true) : TOk T no fs (fun _ _ _ => .bad) := tok_of h fun _ _ _ _ _ _ _ _ _ => trivial
end WL

namespace WL
open PySem
/-! ### shares, plainly -/
def shD (q : Rat) : D := .tup [.int q.num, .int q.den]
abbrev Qd (t b : Int) : Rat := Rat.divInt t b
theorem Qd_num {t b : Int} (h : 0 < b) : (Qd t b).num = t / (Int.gcd t b : Nat) := by
  rw [Rat.num_divInt, Int.sign_eq_one_of_pos h, Int.one_mul, Int.gcd_comm]
theorem Qd_den {t b : Int} (h : 0 < b) : ((Qd t b).den : Int) = b / (Int.gcd t b : Nat) := by
  rw [Rat.den_divInt, if_neg (by omega)]
  rw [Int.natCast_ediv, Int.gcd_comm]
  congr 1
  omega
theorem lg {n m : Nat} (h : n < 2 ^ m) : n.log2 ≤ m := by
  by_cases e : n = 0
  · subst e; simp [Nat.log2_zero]
  · exact Nat.le_of_lt ((Nat.log2_lt e).mpr h)
theorem mul_ok {i j : Int} {m n : Nat} (hi : i.natAbs < 2 ^ m) (hj : j.natAbs < 2 ^ n) (h : m + n < 1000000) : binB .Mult (.int i) (.int j) = .ok (.int (i * j)) := by
  have h1 := lg hi
  have h2 := lg hj
  simp only [binB]
  rw [if_pos (by omega)]
theorem div_ok {i j : Int} {m : Nat} (h0 : 0 < j) (hj : j.natAbs < 2 ^ m) (h : m < 9000) : binB .FloorDiv (.int i) (.int j) = .ok (.int (i / j)) := by
  have h2 := lg hj
  simp only [binB]
  rw [if_pos ⟨h0, by omega⟩]
theorem mod_ok {i j : Int} (h0 : 0 < j) : binB .Mod (.int i) (.int j) = .ok (.int (i % j)) := by
  simp only [binB]
  rw [if_pos h0]
theorem gcd_loop {c : FD → RB D} {b : FD → RTB} {mkf : Int → Int → FD} (hc : ∀ x y, c (mkf x y) = .ok (.bl (decide (0 < y)))) (hb : ∀ x y, 0 < y → b (mkf x y) = .nx (mkf y (x % y))) :
    ∀ (n : Nat) (x y : Int), 0 ≤ x → 0 ≤ y → y.toNat < n → whlB c b n (mkf x y) = .nx (mkf (Int.gcd x y : Nat) 0)
  | 0, x, y, _, _, h => by omega
  | n + 1, x, y, hx, hy, h => by
    rw [whlB_succ, hc]
    by_cases e : 0 < y
    · have hm : 0 ≤ x % y := Int.emod_nonneg x (by omega)
      have hl : x % y < y := Int.emod_lt_of_pos x e
      simp only [RB.asS, decide_eq_true e]
      rw [hb x y e]
      show whlB c b n (mkf y (x % y)) = _
      rw [gcd_loop hc hb n y (x % y) hy hm (by omega)]
      have e2 := Int.gcd_add_mul_left_right y (x % y) (x / y)
      rw [Int.emod_add_mul_ediv] at e2
      rw [← e2, Int.gcd_comm y x]
    · have : y = 0 := by omega
      subst this
      simp only [RB.asS]
      show RTB.nx _ = _
      rw [Int.gcd_zero_right]
      congr 2
      omega
/-- sizes -/
def SQ (m : Nat) (q : Rat) : Prop := q.num.natAbs < 2 ^ m ∧ q.den < 2 ^ m
theorem pow_mono {m n : Nat} (h : m ≤ n) : 2 ^ m ≤ 2 ^ n := Nat.pow_le_pow_right (by decide) h
theorem SQ.mono {m n : Nat} {q : Rat} (h : SQ m q) (k : m ≤ n) : SQ n q := ⟨Nat.lt_of_lt_of_le h.1 (pow_mono k), Nat.lt_of_lt_of_le h.2 (pow_mono k)⟩
theorem mul_lt {a b m n : Nat} (ha : a < 2 ^ m) (hb : b < 2 ^ n) : a * b < 2 ^ (m + n) := by
  rw [Nat.pow_add]
  exact Nat.mul_lt_mul_of_lt_of_le ha (Nat.le_of_lt hb) (Nat.pow_pos (by decide))
theorem imul_lt {a b : Int} {m n : Nat} (ha : a.natAbs < 2 ^ m) (hb : b.natAbs < 2 ^ n) : (a * b).natAbs < 2 ^ (m + n) := by
  rw [Int.natAbs_mul]; exact mul_lt ha hb
theorem iadd_lt {a b : Int} {m : Nat} (ha : a.natAbs < 2 ^ m) (hb : b.natAbs < 2 ^ m) : (a + b).natAbs < 2 ^ (m + 1) := by
  rw [Nat.pow_succ]; omega
theorem isub_lt {a b : Int} {m : Nat} (ha : a.natAbs < 2 ^ m) (hb : b.natAbs < 2 ^ m) : (a - b).natAbs < 2 ^ (m + 1) := by
  rw [Nat.pow_succ]; omega
theorem den_pos (q : Rat) : (0 : Int) < q.den := by have := q.den_pos; omega
theorem add_Qd (p q : Rat) : Qd (p.num * q.den + q.num * p.den) (p.den * q.den) = p + q := by
  have h1 := den_pos p
  have h2 := den_pos q
  unfold Qd
  rw [← Rat.divInt_add_divInt _ _ (by omega) (by omega), Rat.num_divInt_den, Rat.num_divInt_den]
theorem sub_Qd (p q : Rat) : Qd (p.num * q.den - q.num * p.den) (p.den * q.den) = p - q := by
  have h1 := den_pos p
  have h2 := den_pos q
  unfold Qd
  rw [← Rat.divInt_sub_divInt _ _ (by omega) (by omega), Rat.num_divInt_den, Rat.num_divInt_den]
theorem mul_Qd (p q : Rat) : Qd (p.num * q.num) (p.den * q.den) = p * q := by
  unfold Qd
  rw [← Rat.divInt_mul_divInt, Rat.num_divInt_den, Rat.num_divInt_den]
theorem div_Qd (p q : Rat) : Qd (p.num * q.den) (p.den * q.num) = p / q := by
  unfold Qd
  rw [← Rat.divInt_mul_divInt, Rat.num_divInt_den, Rat.div_def, ← Rat.inv_divInt, Rat.num_divInt_den]
theorem lt_iff (p q : Rat) : p < q ↔ p.num * q.den < q.num * p.den := Rat.lt_iff p q
theorem shD_inj {p q : Rat} (h : shD p = shD q) : p = q := by
  unfold shD at h
  injection h with h
  injection h with h1 h2
  injection h1 with h1
  injection h2 with h2
  injection h2 with h2
  exact Rat.ext h1 (by omega)
end WL

namespace WL
open PySem
/-! ### comprehensions and loops over trees -/
section
variable {α β : Type}
theorem lcB_fil {c e : FD → RB D} {bt : D → FD → Option FD} {wf : FD} (mk g : α → D) (p : α → Bool) : ∀ (xs : List α), (∀ x ∈ xs, ∃ f1, bt (mk x) wf = some f1 ∧ c f1 = .ok (.bl (p x)) ∧ (p x = true → e f1 = .ok (g x))) → lcB c e bt wf (xs.map mk) = .ok ((xs.filter p).map g)
  | [], _ => rfl
  | x :: r, h => by
    obtain ⟨f1, h1, h2, h3⟩ := h x List.mem_cons_self
    have ih := lcB_fil mk g p r fun y hy => h y (List.mem_cons_of_mem _ hy)
    show (match bt (mk x) wf with
      | none => RB.bad
      | some f1 => match c f1 with
        | .ok (.bl true) => (match e f1 with
          | .ok d => (lcB c e bt wf (r.map mk)).bind fun ds => .ok (d :: ds)
          | _ => .bad)
        | .ok (.bl false) => lcB c e bt wf (r.map mk)
        | _ => .bad) = _
    rw [h1]
    simp only
    rw [h2]
    cases q : p x with
    | true => rw [ih, h3 q]; simp [List.filter_cons, q, RB.bind]
    | false => rw [ih]; simp [List.filter_cons, q]
theorem lcB_map {c e : FD → RB D} {bt : D → FD → Option FD} {wf : FD} (mk g : α → D) (xs : List α) (h : ∀ x ∈ xs, ∃ f1, bt (mk x) wf = some f1 ∧ c f1 = .ok (.bl true) ∧ e f1 = .ok (g x)) : lcB c e bt wf (xs.map mk) = .ok (xs.map g) := by
  have := lcB_fil (c := c) (e := e) (bt := bt) (wf := wf) mk g (fun _ => true) xs fun x hx => by obtain ⟨f1, a, b, c⟩ := h x hx; exact ⟨f1, a, b, fun _ => c⟩
  rwa [List.filter_eq_self.mpr fun _ _ => rfl] at this
theorem forB_cons {b : FD → RTB} {bt : D → FD → Option FD} {w : D} {r : List D} {f f1 : FD} (e : bt w f = some f1) : forB b bt (w :: r) f = (b f1).nxt (forB b bt r) := by
  show (match bt w f with
    | none => RTB.bad
    | some f1 => match b f1 with
      | .nx f2 => forB b bt r f2
      | .ct f2 => forB b bt r f2
      | .bk f2 => .nx f2
      | x => x) = _
  rw [e]
  rfl
theorem forB_nil {b : FD → RTB} {bt : D → FD → Option FD} {f : FD} : forB b bt [] f = .nx f := rfl
/-- a loop that always goes on -/
theorem forB_ind {b : FD → RTB} {bt : D → FD → Option FD} (mk : α → D) (M : List α → FD → Prop) : ∀ (xs pre : List α) (f : FD), M pre f →
    (∀ q x f, x ∈ xs → M q f → ∃ f1 f2, bt (mk x) f = some f1 ∧ (b f1 = .nx f2 ∨ b f1 = .ct f2) ∧ M (q ++ [x]) f2) → ∃ f', forB b bt (xs.map mk) f = .nx f' ∧ M (pre ++ xs) f'
  | [], pre, f, m, _ => ⟨f, rfl, by rw [List.append_nil]; exact m⟩
  | x :: r, pre, f, m, h => by
    obtain ⟨f1, f2, h1, h2, h3⟩ := h pre x f List.mem_cons_self m
    obtain ⟨f', k1, k2⟩ := forB_ind mk M r (pre ++ [x]) f2 h3 fun q y f hy => h q y f (List.mem_cons_of_mem _ hy)
    refine ⟨f', ?_, by rw [List.append_assoc] at k2; exact k2⟩
    rw [List.map_cons, forB_cons h1]
    rcases h2 with h2 | h2 <;> rw [h2] <;> exact k1
/-- .. with what was walked known to be a part of the whole -/
theorem forB_pre {b : FD → RTB} {bt : D → FD → Option FD} (mk : α → D) (M : List α → FD → Prop) : ∀ (xs pre : List α) (f : FD), M pre f →
    (∀ q x s f, q ++ x :: s = pre ++ xs → M q f → ∃ f1 f2, bt (mk x) f = some f1 ∧ (b f1 = .nx f2 ∨ b f1 = .ct f2) ∧ M (q ++ [x]) f2) → ∃ f', forB b bt (xs.map mk) f = .nx f' ∧ M (pre ++ xs) f'
  | [], pre, f, m, _ => ⟨f, rfl, by rw [List.append_nil]; exact m⟩
  | x :: r, pre, f, m, h => by
    obtain ⟨f1, f2, h1, h2, h3⟩ := h pre x r f rfl m
    obtain ⟨f', k1, k2⟩ := forB_pre mk M r (pre ++ [x]) f2 h3 fun q y s f e => h q y s f (by rw [e, List.append_assoc]; rfl)
    refine ⟨f', ?_, by rw [List.append_assoc] at k2; exact k2⟩
    rw [List.map_cons, forB_cons h1]
    rcases h2 with h2 | h2 <;> rw [h2] <;> exact k1
theorem forG {b : FD → RTB} {bt : D → FD → Option FD} {mk : α → D} {xs : List α} {f : FD} {r : RTB} (hb : forB b bt (xs.map mk) f = r) (M : List α → FD → Prop) (h0 : M [] f)
    (h : ∀ q x s f, q ++ x :: s = xs → M q f → ∃ f1 f2, bt (mk x) f = some f1 ∧ (b f1 = .nx f2 ∨ b f1 = .ct f2) ∧ M (q ++ [x]) f2) : ∃ f', r = .nx f' ∧ M xs f' := by
  obtain ⟨f', e, m⟩ := forB_pre (b := b) (bt := bt) mk M xs [] f h0 h
  exact ⟨f', by rw [← hb, e], m⟩
def Nxt (r : RTB) (P : FD → Prop) : Prop := ∃ f2, (r = .nx f2 ∨ r = .ct f2) ∧ P f2
theorem Nxt.nx {f : FD} {P : FD → Prop} (h : P f) : Nxt (.nx f) P := ⟨f, .inl rfl, h⟩
theorem forN {b : FD → RTB} {bt : D → FD → Option FD} {mk : α → D} {xs : List α} {f : FD} {r : RTB} (hb : forB b bt (xs.map mk) f = r) (M : List α → FD → Prop) (h0 : M [] f)
    (h : ∀ q x s f, q ++ x :: s = xs → M q f → ∃ f1, bt (mk x) f = some f1 ∧ Nxt (b f1) (M (q ++ [x]))) : ∃ f', r = .nx f' ∧ M xs f' := 
  forG hb M h0 fun q x s f e m => by obtain ⟨f1, h1, f2, h2, h3⟩ := h q x s f e m; exact ⟨f1, f2, h1, h2, h3⟩
/-- a loop that ends with the first that is wanted -/
theorem forB_find {b : FD → RTB} {bt : D → FD → Option FD} (mk r : α → D) (p : α → Bool) (M : FD → Prop) : ∀ (xs : List α) (f : FD), M f →
    (∀ x f, x ∈ xs → M f → ∃ f1, bt (mk x) f = some f1 ∧ ((p x = true ∧ b f1 = .rt (r x)) ∨ (p x = false ∧ ∃ f2, b f1 = .nx f2 ∧ M f2))) → (∃ x, xs.find? p = some x ∧ forB b bt (xs.map mk) f = .rt (r x)) ∨ (xs.find? p = none ∧ ∃ f', forB b bt (xs.map mk) f = .nx f' ∧ M f')
  | [], f, m, _ => .inr ⟨rfl, f, rfl, m⟩
  | x :: xs, f, m, h => by
    obtain ⟨f1, h1, h2⟩ := h x f List.mem_cons_self m
    rw [List.map_cons, forB_cons h1]
    rcases h2 with ⟨q, h2⟩ | ⟨q, f2, h2, h3⟩
    · exact .inl ⟨x, by rw [List.find?_cons, q], by rw [h2]; rfl⟩
    · rw [List.find?_cons, q, h2]
      exact forB_find mk r p M xs f2 h3 fun y f hy => h y f (List.mem_cons_of_mem _ hy)
end
theorem blsD_map (ns : List Bool) : blsD (ns.map D.bl) = some ns := by
  induction ns with
  | nil => rfl
  | cons n r ih => rw [List.map_cons]; show (blsD (r.map D.bl)).map (fun l => n :: l) = _; rw [ih]; rfl
theorem sumB {α : Type} (g : α → Int) (xs : List α) : bltLB .sum (xs.map fun x => D.int (g x)) = .ok (.int (xs.map g).sum) := by
  have : (xs.map fun x => D.int (g x)) = (xs.map g).map D.int := by rw [List.map_map]; rfl
  rw [this]
  simp only [bltLB, intsD_map]
theorem allB {α : Type} (g : α → Bool) (xs : List α) : bltLB .all (xs.map fun x => D.bl (g x)) = .ok (.bl (xs.all g)) := by
  have : (xs.map fun x => D.bl (g x)) = (xs.map g).map D.bl := by rw [List.map_map]; rfl
  rw [this]
  simp only [bltLB, blsD_map]
  congr 2
  induction xs <;> simp_all
theorem anyB {α : Type} (g : α → Bool) (xs : List α) : bltLB .any (xs.map fun x => D.bl (g x)) = .ok (.bl (xs.any g)) := by
  have : (xs.map fun x => D.bl (g x)) = (xs.map g).map D.bl := by rw [List.map_map]; rfl
  rw [this]
  simp only [bltLB, blsD_map]
  congr 2
  induction xs <;> simp_all
theorem zipD_map {α β : Type} (g : α → D) (k : β → D) (xs : List α) (ys : List β) : zipD (xs.map g) (ys.map k) = (xs.zip ys).map fun p => .tup [g p.1, k p.2] := by
  unfold zipD
  induction xs generalizing ys with
  | nil => simp
  | cons x r ih => cases ys with
    | nil => simp
    | cons y s => simp [ih]
theorem enuD_map {α : Type} (g : α → D) : ∀ (n : Nat) (xs : List α), enuD n (xs.map g) = (xs.zipIdx n).map fun p => .tup [.int (p.2 : Nat), g p.1]
  | _, [] => rfl
  | n, x :: r => by
    rw [List.map_cons, List.zipIdx_cons, List.map_cons, ← enuD_map g (n + 1) r]
    rfl
theorem line_ok {n : Nat} (h : n ≤ 100000) : n ≤ line := Nat.le_trans h (by decide)
/-! lots -/
def prD (p : Int × Int) : D := .tup [.int p.1, .int p.2]
def lotD (l : List (Int × Int)) : D := .lst (l.map prD)
def pairOk (p : Int × Int) : Bool := (decide (-1000 ≤ p.1) && decide (p.1 ≤ 1000)) && (decide (1 ≤ p.2) && decide (p.2 ≤ 1000))
def rises (l : List (Int × Int)) : Bool := !((l.zip l.tail).any fun p => decide (p.2.1 ≤ p.1.1))
structure Lot (l : List (Int × Int)) : Prop where
  one : 1 ≤ l.length
  most : l.length ≤ 8
  prs : ∀ p ∈ l, pairOk p = true
  up : rises l = true
theorem Lot.v {l : List (Int × Int)} (h : Lot l) {p : Int × Int} (m : p ∈ l) : -1000 ≤ p.1 ∧ p.1 ≤ 1000 ∧ 1 ≤ p.2 ∧ p.2 ≤ 1000 := by
  have := h.prs p m
  simp [pairOk] at this
  omega
def wsum (l : List (Int × Int)) : Int := (l.map (·.2)).sum
theorem wsum_le {l : List (Int × Int)} {n : Nat} (h : ∀ p ∈ l, 1 ≤ p.2 ∧ p.2 ≤ 1000) (hl : l.length ≤ n) : (l.length : Int) ≤ wsum l ∧ wsum l ≤ 1000 * l.length := by
  induction l generalizing n with
  | nil => simp [wsum]
  | cons p r ih =>
    have h1 := h p List.mem_cons_self
    have h2 := ih (n := r.length) (fun q hq => h q (List.mem_cons_of_mem _ hq)) (Nat.le_refl _)
    simp only [wsum, List.map_cons, List.sum_cons, List.length_cons] at *
    omega
theorem Lot.w {l : List (Int × Int)} (h : Lot l) : 1 ≤ wsum l ∧ wsum l ≤ 8000 := by
  have := wsum_le (l := l) (n := 8) (fun p m => by have := h.v m; omega) h.most
  have h1 := h.one
  have h2 := h.most
  omega
/-! ### equality -/
structure Cod {α : Type} [DecidableEq α] (g : α → D) (n : Nat) : Prop where
  ex : ∃ g' : α → PyData, (∀ m, n ≤ m → ∀ x, dataOf m (g x) = some (g' x)) ∧ ∀ x y, PyData.eqv (g' x) (g' y) = decide (x = y)
section
variable {α β : Type} [DecidableEq α] [DecidableEq β]
theorem Cod.eq {g : α → D} {n : Nat} (h : Cod g n) (hn : n ≤ 20) (x y : α) : eqD (g x) (g y) = some (decide (x = y)) := by
  obtain ⟨g', h1, h2⟩ := h.ex
  unfold eqD deep
  rw [h1 20 hn, h1 20 hn, Option.bind_some, Option.map_some, h2]
theorem Cod.mono {g : α → D} {n m : Nat} (h : Cod g n) (k : n ≤ m) : Cod g m := by
  obtain ⟨g', h1, h2⟩ := h.ex
  exact ⟨g', fun q hq => h1 q (Nat.le_trans k hq), h2⟩
theorem Cod.int : Cod D.int 1 := ⟨PyData.int, fun m hm x => by cases m with | zero => omega | succ m => rfl, fun x y => by
  show (x == y) = _
  by_cases h : x = y <;> simp [h]⟩
theorem Cod.bl : Cod D.bl 1 := ⟨PyData.bool, fun m hm x => by cases m with | zero => omega | succ m => rfl, fun x y => by
  show (x == y) = _
  by_cases h : x = y <;> simp [h]⟩
theorem Cod.pair {g : α → D} {k : β → D} {n : Nat} (hg : Cod g n) (hk : Cod k n) : Cod (fun p : α × β => .tup [g p.1, k p.2]) (n + 1) := by
  obtain ⟨g', g1, g2⟩ := hg.ex
  obtain ⟨k', k1, k2⟩ := hk.ex
  refine ⟨fun p => .tuple [g' p.1, k' p.2], fun m hm p => ?_, fun p q => ?_⟩
  · cases m with
    | zero => omega
    | succ m =>
      show (allO (List.map (dataOf m) [g p.1, k p.2])).map PyData.tuple = _
      simp only [List.map_cons, List.map_nil]
      rw [g1 m (by omega), k1 m (by omega)]
      rfl
  · show (PyData.eqv (g' p.1) (g' q.1) && (PyData.eqv (k' p.2) (k' q.2) && true)) = _
    rw [g2, k2, Bool.and_true]
    by_cases h1 : p.1 = q.1 <;> by_cases h2 : p.2 = q.2 <;> simp [h1, h2, Prod.ext_iff]
theorem Cod.via {g : β → D} {n : Nat} (hg : Cod g n) (u : α → β) (hu : ∀ x y, u x = u y → x = y) : Cod (fun x => g (u x)) n := by
  obtain ⟨g', g1, g2⟩ := hg.ex
  refine ⟨fun p => g' (u p), fun m hm p => g1 m hm _, fun p q => ?_⟩
  show PyData.eqv (g' (u p)) (g' (u q)) = _
  rw [g2]
  by_cases h1 : p = q
  · simp [h1]
  · rw [decide_eq_false h1, decide_eq_false fun h => h1 (hu _ _ h)]
theorem allO_map {γ : Type} {f : D → Option γ} {g : α → D} {g' : α → γ} : ∀ (l : List α), (∀ x, f (g x) = some (g' x)) → allO ((l.map g).map f) = some (l.map g')
  | [], _ => rfl
  | x :: r, h => by
    simp only [List.map_cons]
    rw [h x]
    show (allO ((r.map g).map f)).map _ = _
    rw [allO_map r h]
    rfl
theorem eqvAll_map {g' : α → PyData} (h : ∀ x y, PyData.eqv (g' x) (g' y) = decide (x = y)) : ∀ (l m : List α), PyData.eqvAll (l.map g') (m.map g') = decide (l = m)
  | [], [] => rfl
  | x :: r, [] => by simp [PyData.eqvAll]
  | [], y :: s => by simp [PyData.eqvAll]
  | x :: r, y :: s => by
    simp only [List.map_cons, PyData.eqvAll]
    rw [h, eqvAll_map h r s]
    by_cases h1 : x = y <;> by_cases h2 : r = s <;> simp [h1, h2]
theorem Cod.list {g : α → D} {n : Nat} (hg : Cod g n) : Cod (fun l : List α => .lst (l.map g)) (n + 1) := by
  obtain ⟨g', g1, g2⟩ := hg.ex
  refine ⟨fun l => .list (l.map g'), fun m hm p => ?_, fun p q => ?_⟩
  · cases m with
    | zero => omega
    | succ m =>
      show (allO ((p.map g).map (dataOf m))).map PyData.list = _
      rw [allO_map p fun x => g1 m (by omega) x]
      rfl
  · show PyData.eqvAll (p.map g') (q.map g') = _
    exact eqvAll_map g2 p q
end
theorem Cod.sh : Cod shD 2 := Cod.via (Cod.pair Cod.int Cod.int) (fun q : Rat => (q.num, (q.den : Int))) fun x y h => by
  injection h with h1 h2
  exact Rat.ext h1 (by omega)
theorem Cod.pr : Cod prD 2 := Cod.pair Cod.int Cod.int
theorem Cod.lot : Cod lotD 3 := Cod.list Cod.pr
theorem eq_int (a b : Int) : eqD (.int a) (.int b) = some (decide (a = b)) := Cod.int.eq (by decide) a b
theorem eq_bl (a b : Bool) : eqD (.bl a) (.bl b) = some (decide (a = b)) := Cod.bl.eq (by decide) a b
theorem eq_sh (a b : Rat) : eqD (shD a) (shD b) = some (decide (a = b)) := Cod.sh.eq (by decide) a b
theorem cmp_eq {x y : D} {b : Bool} (h : eqD x y = some b) : cmpB .Eq x y = some b := h
theorem cmp_ne {x y : D} {b : Bool} (h : eqD x y = some b) : cmpB .NotEq x y = some (!b) := by
  show (eqD x y).map (fun b => !b) = _
  rw [h]
  rfl
end WL

namespace WL
open PySem
/-! ### tables by numbers -/
section
variable {β : Type}
def lk (l : List (Int × β)) (k : Int) : Option β := (l.find? fun p => decide (p.1 = k)).map (·.2)
def pt (l : List (Int × β)) (k : Int) (v : β) : List (Int × β) := if (l.any fun p => decide (p.1 = k)) = true then l.map (fun p => if p.1 = k then (p.1, v) else p) else l ++ [(k, v)]
def enc (g : β → D) (p : Int × β) : Int × D := (p.1, g p.2)
theorem look_map (g : β → D) (l : List (Int × β)) (k : Int) : lookD (l.map (enc g)) k = (lk l k).map g := by
  unfold lookD lk
  induction l with
  | nil => rfl
  | cons p r ih =>
    rw [List.map_cons, List.find?_cons, List.find?_cons]
    by_cases h : p.1 = k
    · simp [enc, h]
    · have h' : decide ((enc g p).1 = k) = false := decide_eq_false h
      rw [h', decide_eq_false h]
      exact ih
theorem put_map (g : β → D) (l : List (Int × β)) (k : Int) (v : β) : putD (l.map (enc g)) k (g v) = (pt l k v).map (enc g) := by
  unfold putD pt
  have e : ((l.map (enc g)).any fun p => decide (p.1 = k)) = l.any fun p => decide (p.1 = k) := by
    rw [List.any_map]; rfl
  rw [e]
  split
  · rw [List.map_map, List.map_map]
    apply List.map_congr_left
    intro p _
    show (if p.1 = k then (p.1, g v) else (p.1, g p.2)) = enc g (if p.1 = k then (p.1, v) else p)
    by_cases h : p.1 = k
    · rw [if_pos h, if_pos h]; rfl
    · rw [if_neg h, if_neg h]; rfl
  · rw [List.map_append]; rfl
theorem keys_map (g : β → D) (l : List (Int × β)) : (l.map (enc g)).map (·.1) = l.map (·.1) := by rw [List.map_map]; rfl
theorem any_key {l : List (Int × β)} {k : Int} : (l.any fun p => decide (p.1 = k)) = true ↔ k ∈ l.map (·.1) := by
  simp [List.any_eq_true, List.mem_map]
theorem keys_pt (l : List (Int × β)) (k : Int) (v : β) : (pt l k v).map (·.1) = if k ∈ l.map (·.1) then l.map (·.1) else l.map (·.1) ++ [k] := by
  unfold pt
  by_cases h : k ∈ l.map (·.1)
  · rw [if_pos h, if_pos (any_key.mpr h), List.map_map]
    apply List.map_congr_left
    intro p _
    simp only [Function.comp]
    split <;> rfl
  · rw [if_neg h, if_neg (fun q => h (any_key.mp q)), List.map_append]; rfl
theorem pt_nodup {l : List (Int × β)} {k : Int} {v : β} (h : (l.map (·.1)).Nodup) : ((pt l k v).map (·.1)).Nodup := by
  rw [keys_pt]
  split
  · exact h
  · next q => exact List.nodup_append.mpr ⟨h, by simp, fun a ha b hb => by rw [List.mem_singleton.mp hb]; exact fun e => q (e ▸ ha)⟩
theorem pt_mem {l : List (Int × β)} {k : Int} {v : β} {p : Int × β} (h : p ∈ pt l k v) : p = (k, v) ∨ p ∈ l := by
  unfold pt at h
  split at h
  · obtain ⟨q, hq, e⟩ := List.mem_map.mp h
    split at e
    · next z => left; rw [← e, z]
    · right; rw [← e]; exact hq
  · rcases List.mem_append.mp h with h | h
    · exact .inr h
    · exact .inl (List.mem_singleton.mp h)
theorem pt_len {l : List (Int × β)} {k : Int} {v : β} : (pt l k v).length ≤ l.length + 1 ∧ 1 ≤ (pt l k v).length := by
  unfold pt
  split
  · next h =>
    rw [List.length_map]
    have : l ≠ [] := fun e => by subst e; cases h
    have := List.length_pos_iff.mpr this
    omega
  · rw [List.length_append]; simp
theorem lk_mem {l : List (Int × β)} {k : Int} {v : β} (h : lk l k = some v) : (k, v) ∈ l := by
  unfold lk at h
  obtain ⟨p, hp, e⟩ := Option.map_eq_some_iff.mp h
  have := List.find?_some hp
  have e1 : p.1 = k := by simpa using this
  have := List.mem_of_find?_eq_some hp
  rw [← e1, ← e]
  exact this
theorem lk_of_key {l : List (Int × β)} {k : Int} (h : k ∈ l.map (·.1)) : ∃ v, lk l k = some v := by
  obtain ⟨p, hp, e⟩ := List.mem_map.mp h
  unfold lk
  cases z : l.find? fun p => decide (p.1 = k) with
  | some q => exact ⟨q.2, rfl⟩
  | none =>
    have := List.find?_eq_none.mp z p hp
    exact absurd e (by simpa using this)
theorem lk_pt (l : List (Int × β)) (k j : Int) (v : β) : lk (pt l k v) j = if j = k then some v else lk l j := by
  unfold pt
  split
  · next h =>
    have hk := any_key.mp h
    unfold lk
    clear h
    induction l with
    | nil => cases hk
    | cons p r ih =>
      rw [List.map_cons, List.find?_cons, List.find?_cons]
      by_cases e : p.1 = k
      · by_cases ej : j = k
        · subst ej; simp [e]
        · have : ¬ p.1 = j := fun q => ej (by rw [← q, e])
          rw [if_pos e]
          simp only [decide_eq_false this, if_neg ej]
          by_cases hr : k ∈ r.map (·.1)
          · have := ih hr
            rwa [if_neg ej] at this
          · have e2 : r.map (fun p => if p.1 = k then (p.1, v) else p) = r := by
              have := List.map_congr_left (l := r) (f := fun p => if p.1 = k then (p.1, v) else p) (g := id) fun p hp => by
                rw [if_neg fun (q : p.1 = k) => hr (q ▸ List.mem_map_of_mem (f := (·.1)) hp)]; rfl
              rwa [List.map_id] at this
            rw [e2]
      · have hr : k ∈ r.map (·.1) := by
          rcases List.mem_cons.mp hk with q | q
          · exact absurd q.symm e
          · exact q
        rw [if_neg e]
        by_cases ej : p.1 = j
        · have : j ≠ k := fun q => e (by rw [ej, q])
          simp [ej, this]
        · simp only [decide_eq_false ej]
          exact ih hr
  · next h =>
    have hk : k ∉ l.map (·.1) := fun q => h (any_key.mpr q)
    unfold lk
    rw [List.find?_append]
    by_cases ej : j = k
    · subst ej
      have : l.find? (fun p => decide (p.1 = j)) = none := List.find?_eq_none.mpr fun p hp => by
        have : p.1 ≠ j := fun e => hk (e ▸ List.mem_map_of_mem (f := (·.1)) hp)
        simpa using this
      rw [this]; simp
    · rw [if_neg ej]
      cases l.find? (fun p => decide (p.1 = j)) with
      | some q => rfl
      | none =>
        have : ¬ k = j := fun q => ej q.symm
        simp [this]
end
/-! ### sorting -/
theorem insI_prm (a : Int) : ∀ l : List Int, (insI a l).Perm (a :: l)
  | [] => List.Perm.refl _
  | b :: r => by
    unfold insI
    split
    · exact List.Perm.refl _
    · exact (List.Perm.cons b (insI_prm a r)).trans (List.Perm.swap a b r)
theorem sortI_prm : ∀ l : List Int, (sortI l).Perm l
  | [] => List.Perm.refl _
  | a :: r => (insI_prm a (sortI r)).trans (List.Perm.cons a (sortI_prm r))
theorem insI_srt (a : Int) : ∀ l : List Int, l.Pairwise (· ≤ ·) → (insI a l).Pairwise (· ≤ ·)
  | [], _ => by simp [insI]
  | b :: r, h => by
    obtain ⟨h1, h2⟩ := List.pairwise_cons.mp h
    unfold insI
    split
    · next q => exact List.pairwise_cons.mpr ⟨fun c hc => by rcases List.mem_cons.mp hc with e | e; omega; have := h1 c e; omega, h⟩
    · next q =>
      refine List.pairwise_cons.mpr ⟨fun c hc => ?_, insI_srt a r h2⟩
      rcases List.mem_cons.mp ((insI_prm a r).mem_iff.mp hc) with e | e
      · omega
      · exact h1 c e
theorem sortI_srt : ∀ l : List Int, (sortI l).Pairwise (· ≤ ·)
  | [] => List.Pairwise.nil
  | a :: r => insI_srt a _ (sortI_srt r)
theorem sortI_lt {l : List Int} (h : l.Nodup) : (sortI l).Pairwise (· < ·) := by
  have h1 := sortI_srt l
  have h2 : (sortI l).Nodup := (sortI_prm l).nodup_iff.mpr h
  exact (h1.and h2).imp fun {a b} q => by omega
theorem sortI_mem {l : List Int} {a : Int} : a ∈ sortI l ↔ a ∈ l := (sortI_prm l).mem_iff
theorem sortI_len (l : List Int) : (sortI l).length = l.length := (sortI_prm l).length_eq
theorem rises_of : ∀ {l : List (Int × Int)}, (l.map (·.1)).Pairwise (· < ·) → rises l = true
  | [], _ => rfl
  | [p], _ => rfl
  | p :: q :: r, h => by
    have h' : (p.1 :: (q :: r).map (·.1)).Pairwise (· < ·) := h
    obtain ⟨h1, h2⟩ := List.pairwise_cons.mp h'
    have ih := rises_of (l := q :: r) h2
    have := h1 q.1 (by simp)
    unfold rises at ih ⊢
    simp only [List.tail_cons, List.zip_cons_cons, List.any_cons] at ih ⊢
    rw [decide_eq_false (by omega), Bool.false_or]
    exact ih
theorem rises_iff : ∀ {l : List (Int × Int)}, rises l = true → (l.map (·.1)).Pairwise (· < ·)
  | [], _ => List.Pairwise.nil
  | [p], _ => by simp
  | p :: q :: r, h => by
    unfold rises at h
    simp only [List.tail_cons, List.zip_cons_cons, List.any_cons, Bool.not_or, Bool.and_eq_true] at h
    have ih := rises_iff (l := q :: r) (by unfold rises; exact h.2)
    have h1 : p.1 < q.1 := by simpa using h.1
    rw [List.map_cons]
    refine List.pairwise_cons.mpr ⟨fun a ha => ?_, ih⟩
    rw [List.map_cons] at ha ih
    obtain ⟨i1, _⟩ := List.pairwise_cons.mp ih
    rcases List.mem_cons.mp ha with e | e
    · omega
    · have := i1 a e; omega
/-! ### sizes of sums -/
def Fit (N B : Nat) (q : Rat) : Prop := ∃ x : Int, q = Qd x N ∧ x.natAbs ≤ B
theorem Fit.mono {N B B' : Nat} {q : Rat} (h : Fit N B q) (k : B ≤ B') : Fit N B' q := by obtain ⟨x, e, l⟩ := h; exact ⟨x, e, Nat.le_trans l k⟩
theorem Fit.add {N B B' : Nat} {p q : Rat} (hN : 0 < N) (h : Fit N B p) (k : Fit N B' q) : Fit N (B + B') (p + q) := by
  obtain ⟨x, rfl, l⟩ := h
  obtain ⟨y, rfl, m⟩ := k
  refine ⟨x + y, ?_, by omega⟩
  unfold Qd
  rw [Rat.divInt_add_divInt _ _ (by omega) (by omega), ← Int.add_mul, Rat.divInt_mul_right (by omega)]
theorem Fit.zero {N B : Nat} : Fit N B 0 := ⟨0, by unfold Qd; rw [Rat.zero_divInt], by omega⟩
theorem Fit.size {N B m : Nat} {q : Rat} (hN : 0 < N) (h : Fit N B q) (k : N < 2 ^ m) (l : B < 2 ^ m) : SQ m q := by
  obtain ⟨x, rfl, e⟩ := h
  have hN' : (0 : Int) < N := by omega
  have g0 : 0 < Int.gcd x N := Int.gcd_pos_of_ne_zero_right x (by omega)
  constructor
  · rw [Qd_num hN']
    have : (x / (Int.gcd x N : Nat)).natAbs ≤ x.natAbs := Int.natAbs_ediv_le_natAbs _ _
    omega
  · have := Qd_den (t := x) hN'
    have h2 : (N : Int) / (Int.gcd x N : Nat) ≤ N := Int.ediv_le_self _ (by omega)
    omega
theorem mulQ (p : Rat) (w W : Int) : p * Qd w W = Qd (p.num * w) (p.den * W) := by
  unfold Qd
  rw [← Rat.divInt_mul_divInt, Rat.num_divInt_den]
theorem subQ (p : Rat) : 1 - p = Qd (p.den - p.num) p.den := by
  have h1 := den_pos p
  conv => lhs; rw [← Rat.num_divInt_den p, show (1 : Rat) = Rat.divInt 1 1 from rfl, Rat.divInt_sub_divInt _ _ (by decide) (by omega)]
  simp only [Int.one_mul, Int.mul_one]
theorem Fit.of {N B : Nat} {q : Rat} {x M c : Int} (e : q = Qd x M) (h : (N : Int) = M * c) (hc : c ≠ 0) (l : (x * c).natAbs ≤ B) : Fit N B q := ⟨x * c, by rw [e, h]; unfold Qd; rw [Rat.divInt_mul_right hc], l⟩
theorem Fit.self (p : Rat) : Fit p.den p.num.natAbs p := ⟨p.num, (Rat.num_divInt_den p).symm, Nat.le_refl _⟩
theorem num_le {p : Rat} (h : p ≤ 1) : p.num ≤ p.den := by
  have := (Rat.le_iff p 1).mp h
  simpa using this
theorem Qd_le_one {x W : Int} (h : x ≤ W) (hW : 0 < W) : Qd x W ≤ 1 := by
  have e : 1 - Qd x W = Qd (W - x) W := by
    unfold Qd
    rw [show (1 : Rat) = Rat.divInt 1 1 from rfl, Rat.divInt_sub_divInt _ _ (by decide) (by omega)]
    simp only [Int.one_mul, Int.mul_one]
  have : 0 ≤ Qd (W - x) W := Rat.divInt_nonneg (by omega) (by omega)
  rw [← e] at this
  grind
theorem wsum_nn : ∀ {s : List (Int × Int)}, (∀ y ∈ s, 0 ≤ y.2) → 0 ≤ wsum s
  | [], _ => by simp [wsum]
  | z :: r, h => by
    have := wsum_nn (s := r) fun y hy => h y (List.mem_cons_of_mem _ hy)
    have := h z List.mem_cons_self
    unfold wsum at *
    simp
    omega
theorem wsum_ge {x : Int × Int} : ∀ {s : List (Int × Int)}, (∀ y ∈ s, 0 ≤ y.2) → x ∈ s → x.2 ≤ wsum s
  | [], _, h => by cases h
  | y :: r, h1, h2 => by
    have a1 := wsum_nn (s := r) fun y hy => h1 y (List.mem_cons_of_mem _ hy)
    have a2 := h1 y List.mem_cons_self
    have e : wsum (y :: r) = y.2 + wsum r := by unfold wsum; rw [List.map_cons, List.sum_cons]
    rw [e]
    rcases List.mem_cons.mp h2 with e | e
    · subst e; omega
    · have := wsum_ge (fun y hy => h1 y (List.mem_cons_of_mem _ hy)) e
      omega
/-! ### chances -/
def addQ (d : List (Int × Rat)) (p : Int × Rat) : List (Int × Rat) := pt d p.1 ((lk d p.1).getD 0 + p.2)
def accQ (s : List (Int × Rat)) : List (Int × Rat) := s.foldl addQ []
def valQ (s : List (Int × Rat)) (v : Int) : Rat := (lk (accQ s) v).getD 0
def chQ (s : List (Int × Rat)) : List (Int × Rat) := ((sortI ((accQ s).map (·.1))).filter fun v => decide (0 < (valQ s v).num)).map fun v => (v, valQ s v)
def cpD (p : Int × Rat) : D := .tup [.int p.1, shD p.2]
def chD (l : List (Int × Rat)) : D := .lst (l.map cpD)
theorem Cod.cp : Cod cpD 3 := Cod.pair (Cod.int.mono (by decide)) Cod.sh
theorem Cod.ch : Cod chD 4 := Cod.list Cod.cp
theorem accQ_fit {N B : Nat} (hN : 0 < N) {s : List (Int × Rat)} (h : ∀ p ∈ s, Fit N B p.2) : ∀ p ∈ accQ s, Fit N (s.length * B) p.2 := by
  have key : ∀ (s d : List (Int × Rat)) (n : Nat), (∀ p ∈ s, Fit N B p.2) → (∀ p ∈ d, Fit N (n * B) p.2) → ∀ p ∈ s.foldl addQ d, Fit N ((n + s.length) * B) p.2 := by
    intro s
    induction s with
    | nil => intro d n _ hd p hp; simpa using hd p hp
    | cons q r ih =>
      intro d n hs hd p hp
      have := ih (addQ d q) (n + 1) (fun p hp => hs p (List.mem_cons_of_mem _ hp)) (fun p hp => ?_) p hp
      · rw [List.length_cons, show n + (r.length + 1) = n + 1 + r.length by omega]; exact this
      · unfold addQ at hp
        rw [Nat.succ_mul]
        rcases pt_mem hp with e | e
        · subst e
          refine Fit.add hN ?_ (hs q List.mem_cons_self)
          cases z : lk d q.1 with
          | none => exact Fit.zero
          | some v => exact hd _ (lk_mem z)
        · exact (hd p e).mono (by omega)
  intro p hp
  have := key s [] 0 h (fun p hp => by cases hp) p hp
  simpa using this
end WL

namespace WL
open PySem
abbrev i__wall : Nat := 0
abbrev i_is_whole : Nat := 1
abbrev i_is_within : Nat := 2
abbrev i_common : Nat := 3
abbrev i_share : Nat := 4
abbrev i_is_share : Nat := 5
abbrev i_plus : Nat := 6
abbrev i_minus : Nat := 7
abbrev i_times : Nat := 8
abbrev i_over : Nat := 9
abbrev i_less : Nat := 10
abbrev i_lesser : Nat := 11
abbrev i_greater : Nat := 12
abbrev i_sum_of : Nat := 13
abbrev i_is_pair : Nat := 14
abbrev i_check_lot : Nat := 15
abbrev i_whole_of : Nat := 16
abbrev i_shares_of : Nat := 17
abbrev i_mean_of : Nat := 18
abbrev i_short_of : Nat := 19
abbrev i_worth_of : Nat := 20
abbrev i_mean : Nat := 21
abbrev i_short : Nat := 22
abbrev i_chances_of : Nat := 23
abbrev i_mixed : Nat := 24
abbrev i_together : Nat := 25
abbrev i_Table_init : Nat := 26
abbrev i_Table_shows : Nat := 27
abbrev i_Bar_init : Nat := 28
abbrev i_Bar_shows : Nat := 29
abbrev i_bar_of : Nat := 30
abbrev i_begins_of : Nat := 31
abbrev i_window : Nat := 32
abbrev i_begin_of : Nat := 33
abbrev i_widened : Nat := 34
abbrev i__law_cell_at : Nat := 35
abbrev i__law_draw : Nat := 36
abbrev i__law_value : Nat := 37
abbrev i__law_kinds : Nat := 38
abbrev i__law_due_of : Nat := 39
abbrev i__law_strange : Nat := 40
abbrev i__law_no_lots : Nat := 41
abbrev i__law_lots_right : Nat := 42
abbrev i_law : Nat := 43
abbrev c_Answer : Nat := 0
abbrev c_Table : Nat := 1
abbrev c_Bar : Nat := 2
abbrev x_LotError : Nat := 0
abbrev x_BadLot : Nat := 1
abbrev x_BadValue : Nat := 2
abbrev x_BadPart : Nat := 3
abbrev x_BadTickets : Nat := 4
abbrev x_BadTop : Nat := 5
abbrev x_BadNumber : Nat := 6
abbrev x_BadOthers : Nat := 7
abbrev x_BadSplit : Nat := 8
abbrev x_BadTale : Nat := 9
abbrev x_NotWider : Nat := 10
abbrev x_Few : Nat := 11
abbrev x_ValueError : Nat := 12
abbrev m_init : Nat := 0
abbrev m_shows : Nat := 1
abbrev f_rows : Nat := 0
abbrev f_text : Nat := 1
abbrev f_value : Nat := 2
/-- [k] -/
def fn__wall : FnI := ⟨1, 1, (.seq (.whl (.bl true) (.seq .pas .nil)) .nil)⟩
/-- [thing] -/
def fn_is_whole : FnI := ⟨1, 1, (.seq (.ret (.and (.isi (.v 0) (.int)) (.not (.isi (.v 0) (.bool))))) .nil)⟩
/-- [thing, low, high] -/
def fn_is_within : FnI := ⟨3, 3, (.seq (.ret (.and (.cal i_is_whole (.cons (.v 0) .nil)) (.chn .LtE .LtE (.v 1) (.v 0) (.v 2)))) .nil)⟩
/-- [one, other] -/
def fn_common : FnI := ⟨2, 2, (.seq (.par [0, 1] (.cons (.blt .abs (.cons (.v 0) .nil)) (.cons (.blt .abs (.cons (.v 1) .nil)) .nil))) (.seq (.whl (.cmp .Gt (.v 1) (.int (0))) (.seq (.par [0, 1] (.cons (.v 1) (.cons (.bin .Mod (.v 0) (.v 1)) .nil))) .nil)) (.seq (.ret (.v 0)) .nil)))⟩
/-- [top, bottom, part] -/
def fn_share : FnI := ⟨2, 3, (.seq (.asg 2 (.cal i_common (.cons (.v 0) (.cons (.v 1) .nil)))) (.seq (.ret (.tup (.cons (.bin .FloorDiv (.v 0) (.v 2)) (.cons (.bin .FloorDiv (.v 1) (.v 2)) .nil)))) .nil))⟩
/-- [thing, .0, one] -/
def fn_is_share : FnI := ⟨1, 3, (.seq (.ife (.or (.not (.isi (.v 0) (.tuple))) (.or (.cmp .NotEq (.blt .len (.cons (.v 0) .nil)) (.int (2))) (.not (.agg .all (.lc [1, 2] (.v 2) (.sq (.v 0)) .nil (.cal i_is_whole (.cons (.v 2) .nil))))))) (.seq (.ret (.bl false)) .nil) .nil) (.seq (.ret (.and (.cmp .Gt (.idx (.v 0) (.int (1))) (.int (0))) (.cmp .Eq (.cal i_common (.cons (.idx (.v 0) (.int (0))) (.cons (.idx (.v 0) (.int (1))) .nil))) (.int (1))))) .nil))⟩
/-- [one, other] -/
def fn_plus : FnI := ⟨2, 2, (.seq (.ret (.cal i_share (.cons (.bin .Add (.bin .Mult (.idx (.v 0) (.int (0))) (.idx (.v 1) (.int (1)))) (.bin .Mult (.idx (.v 1) (.int (0))) (.idx (.v 0) (.int (1))))) (.cons (.bin .Mult (.idx (.v 0) (.int (1))) (.idx (.v 1) (.int (1)))) .nil)))) .nil)⟩
/-- [one, other] -/
def fn_minus : FnI := ⟨2, 2, (.seq (.ret (.cal i_share (.cons (.bin .Sub (.bin .Mult (.idx (.v 0) (.int (0))) (.idx (.v 1) (.int (1)))) (.bin .Mult (.idx (.v 1) (.int (0))) (.idx (.v 0) (.int (1))))) (.cons (.bin .Mult (.idx (.v 0) (.int (1))) (.idx (.v 1) (.int (1)))) .nil)))) .nil)⟩
/-- [one, other] -/
def fn_times : FnI := ⟨2, 2, (.seq (.ret (.cal i_share (.cons (.bin .Mult (.idx (.v 0) (.int (0))) (.idx (.v 1) (.int (0)))) (.cons (.bin .Mult (.idx (.v 0) (.int (1))) (.idx (.v 1) (.int (1)))) .nil)))) .nil)⟩
/-- [one, other] -/
def fn_over : FnI := ⟨2, 2, (.seq (.ret (.cal i_share (.cons (.bin .Mult (.idx (.v 0) (.int (0))) (.idx (.v 1) (.int (1)))) (.cons (.bin .Mult (.idx (.v 0) (.int (1))) (.idx (.v 1) (.int (0)))) .nil)))) .nil)⟩
/-- [one, other] -/
def fn_less : FnI := ⟨2, 2, (.seq (.ret (.cmp .Lt (.bin .Mult (.idx (.v 0) (.int (0))) (.idx (.v 1) (.int (1)))) (.bin .Mult (.idx (.v 1) (.int (0))) (.idx (.v 0) (.int (1)))))) .nil)⟩
/-- [one, other] -/
def fn_lesser : FnI := ⟨2, 2, (.seq (.ret (.ife (.cal i_less (.cons (.v 0) (.cons (.v 1) .nil))) (.v 0) (.v 1))) .nil)⟩
/-- [one, other] -/
def fn_greater : FnI := ⟨2, 2, (.seq (.ret (.ife (.cal i_less (.cons (.v 0) (.cons (.v 1) .nil))) (.v 1) (.v 0))) .nil)⟩
/-- [some, found, one] -/
def fn_sum_of : FnI := ⟨1, 3, (.seq (.asg 1 (.tup (.cons (.int (0)) (.cons (.int (1)) .nil)))) (.seq (.forS (.v 2) (.sq (.v 0)) (.seq (.asg 1 (.cal i_plus (.cons (.v 1) (.cons (.v 2) .nil)))) .nil)) (.seq (.ret (.v 1)) .nil)))⟩
/-- [thing] -/
def fn_is_pair : FnI := ⟨1, 1, (.seq (.ife (.or (.not (.isi (.v 0) (.tuple))) (.cmp .NotEq (.blt .len (.cons (.v 0) .nil)) (.int (2)))) (.seq (.ret (.bl false)) .nil) .nil) (.seq (.ret (.and (.cal i_is_within (.cons (.idx (.v 0) (.int (0))) (.cons (.neg (.int (1000))) (.cons (.int (1000)) .nil)))) (.cal i_is_within (.cons (.idx (.v 0) (.int (1))) (.cons (.int (1)) (.cons (.int (1000)) .nil)))))) .nil))⟩
/-- [lot, .0, one, other] -/
def fn_check_lot : FnI := ⟨1, 4, (.seq (.ife (.or (.not (.isi (.v 0) (.list))) (.or (.not (.chn .LtE .LtE (.int (1)) (.blt .len (.cons (.v 0) .nil)) (.int (8)))) (.not (.agg .all (.lc [1, 2] (.v 2) (.sq (.v 0)) .nil (.cal i_is_pair (.cons (.v 2) .nil))))))) (.seq (.rai x_BadLot) .nil) .nil) (.seq (.ife (.agg .any (.lc [1, 2, 3] (.tup (.cons (.v 2) (.cons (.v 3) .nil))) (.zip (.v 0) (.sli (.v 0) (.cons (.int (1)) .nil) .nil)) .nil (.cmp .GtE (.idx (.v 2) (.int (0))) (.idx (.v 3) (.int (0)))))) (.seq (.rai x_BadLot) .nil) .nil) .nil))⟩
/-- [lot, .0, value, weight] -/
def fn_whole_of : FnI := ⟨1, 4, (.seq (.ret (.agg .sum (.lc [1, 2, 3] (.tup (.cons (.v 2) (.cons (.v 3) .nil))) (.sq (.v 0)) .nil (.v 3)))) .nil)⟩
/-- [lot, whole, .0, value, weight] -/
def fn_shares_of : FnI := ⟨1, 5, (.seq (.asg 1 (.cal i_whole_of (.cons (.v 0) .nil))) (.seq (.ret (.lc [2, 3, 4] (.tup (.cons (.v 3) (.cons (.v 4) .nil))) (.sq (.v 0)) .nil (.cal i_share (.cons (.v 4) (.cons (.v 1) .nil))))) .nil))⟩
/-- [lot, .0, value, weight] -/
def fn_mean_of : FnI := ⟨1, 4, (.seq (.ret (.cal i_share (.cons (.agg .sum (.lc [1, 2, 3] (.tup (.cons (.v 2) (.cons (.v 3) .nil))) (.sq (.v 0)) .nil (.bin .Mult (.v 2) (.v 3)))) (.cons (.cal i_whole_of (.cons (.v 0) .nil)) .nil)))) .nil)⟩
/-- [lot, number, .0, value, weight] -/
def fn_short_of : FnI := ⟨2, 5, (.seq (.ret (.cal i_share (.cons (.agg .sum (.lc [2, 3, 4] (.tup (.cons (.v 3) (.cons (.v 4) .nil))) (.sq (.v 0)) .nil (.bin .Mult (.v 4) (.blt .max (.cons (.int (0)) (.cons (.bin .Sub (.v 1) (.v 3)) .nil)))))) (.cons (.cal i_whole_of (.cons (.v 0) .nil)) .nil)))) .nil)⟩
/-- [values, shares, .0, value, one] -/
def fn_worth_of : FnI := ⟨2, 5, (.seq (.ret (.cal i_sum_of (.cons (.lc [2, 3, 4] (.tup (.cons (.v 3) (.cons (.v 4) .nil))) (.zip (.v 0) (.v 1)) .nil (.cal i_times (.cons (.tup (.cons (.v 3) (.cons (.int (1)) .nil))) (.cons (.v 4) .nil)))) .nil))) .nil)⟩
/-- [lot] -/
def fn_mean : FnI := ⟨1, 1, (.seq (.exp (.cal i_check_lot (.cons (.v 0) .nil))) (.seq (.ret (.cal i_mean_of (.cons (.v 0) .nil))) .nil))⟩
/-- [lot, value] -/
def fn_short : FnI := ⟨2, 2, (.seq (.exp (.cal i_check_lot (.cons (.v 0) .nil))) (.seq (.ife (.not (.cal i_is_whole (.cons (.v 1) .nil))) (.seq (.rai x_BadValue) .nil) .nil) (.seq (.ret (.cal i_short_of (.cons (.v 0) (.cons (.v 1) .nil)))) .nil)))⟩
/-- [some, found, value, part, .0] -/
def fn_chances_of : FnI := ⟨1, 5, (.seq (.asg 1 (.dnew false)) (.seq (.forS (.tup (.cons (.v 2) (.cons (.v 3) .nil))) (.sq (.v 0)) (.seq (.sub (.v 1) (.v 2) (.cal i_plus (.cons (.bm .get (.v 1) (.cons (.v 2) (.cons (.tup (.cons (.int (0)) (.cons (.int (1)) .nil))) .nil))) (.cons (.v 3) .nil)))) .nil)) (.seq (.ret (.lc [4, 2] (.v 2) (.sq (.blt .sorted (.cons (.v 1) .nil))) (.cons (.cmp .Gt (.idx (.idx (.v 1) (.v 2)) (.int (0))) (.int (0))) .nil) (.tup (.cons (.v 2) (.cons (.idx (.v 1) (.v 2)) .nil))))) .nil)))⟩
/-- [one, other, part, rest, some, more, .0, pair, much] -/
def fn_mixed : FnI := ⟨3, 9, (.seq (.exp (.cal i_check_lot (.cons (.v 0) .nil))) (.seq (.exp (.cal i_check_lot (.cons (.v 1) .nil))) (.seq (.ife (.or (.not (.cal i_is_share (.cons (.v 2) .nil))) (.not (.chn .LtE .LtE (.int (0)) (.idx (.v 2) (.int (0))) (.idx (.v 2) (.int (1)))))) (.seq (.rai x_BadPart) .nil) .nil) (.seq (.asg 3 (.cal i_minus (.cons (.tup (.cons (.int (1)) (.cons (.int (1)) .nil))) (.cons (.v 2) .nil)))) (.seq (.asg 4 (.lc [6, 7, 8] (.tup (.cons (.v 7) (.cons (.v 8) .nil))) (.zip (.v 0) (.cal i_shares_of (.cons (.v 0) .nil))) .nil (.tup (.cons (.idx (.v 7) (.int (0))) (.cons (.cal i_times (.cons (.v 2) (.cons (.v 8) .nil))) .nil))))) (.seq (.asg 5 (.lc [6, 7, 8] (.tup (.cons (.v 7) (.cons (.v 8) .nil))) (.zip (.v 1) (.cal i_shares_of (.cons (.v 1) .nil))) .nil (.tup (.cons (.idx (.v 7) (.int (0))) (.cons (.cal i_times (.cons (.v 3) (.cons (.v 8) .nil))) .nil))))) (.seq (.ret (.cal i_chances_of (.cons (.bin .Add (.v 4) (.v 5)) .nil))) .nil)))))))⟩
/-- [one, other, some, pair, much, mate, more] -/
def fn_together : FnI := ⟨2, 7, (.seq (.exp (.cal i_check_lot (.cons (.v 0) .nil))) (.seq (.exp (.cal i_check_lot (.cons (.v 1) .nil))) (.seq (.asg 2 (.lst .nil)) (.seq (.forS (.tup (.cons (.v 3) (.cons (.v 4) .nil))) (.zip (.v 0) (.cal i_shares_of (.cons (.v 0) .nil))) (.seq (.forS (.tup (.cons (.v 5) (.cons (.v 6) .nil))) (.zip (.v 1) (.cal i_shares_of (.cons (.v 1) .nil))) (.seq (.exp (.bm .append (.v 2) (.cons (.tup (.cons (.bin .Add (.idx (.v 3) (.int (0))) (.idx (.v 5) (.int (0)))) (.cons (.cal i_times (.cons (.v 4) (.cons (.v 6) .nil))) .nil))) .nil))) .nil)) .nil)) (.seq (.ret (.cal i_chances_of (.cons (.v 2) .nil))) .nil)))))⟩
/-- [self, rows, .0, row] -/
def fn_Table_init : FnI := ⟨2, 4, (.seq (.stf (.v 0) f_rows (.lc [2, 3] (.v 3) (.sq (.v 1)) .nil (.blt .list (.cons (.v 3) .nil)))) .nil)⟩
/-- [self, one, other] -/
def fn_Table_shows : FnI := ⟨3, 3, (.seq (.exp (.cal i__wall (.cons (.int (0)) .nil))) .nil)⟩
/-- [self, text, value] -/
def fn_Bar_init : FnI := ⟨3, 3, (.seq (.stf (.v 0) f_text (.v 1)) (.seq (.stf (.v 0) f_value (.v 2)) .nil))⟩
/-- [self, one, other] -/
def fn_Bar_shows : FnI := ⟨3, 3, (.seq (.exp (.cal i__wall (.cons (.int (1)) .nil))) .nil)⟩
/-- [one, other, value, .0, weight] -/
def fn_bar_of : FnI := ⟨2, 5, (.seq (.ife (.cmp .NotEq (.cal i_mean_of (.cons (.v 0) .nil)) (.cal i_mean_of (.cons (.v 1) .nil))) (.seq (.ret (.lst (.cons (.str "mean") (.cons .non .nil)))) .nil) .nil) (.seq (.forS (.v 2) (.sq (.blt .sorted (.cons (.lc [3, 2, 4] (.tup (.cons (.v 2) (.cons (.v 4) .nil))) (.sq (.bin .Add (.v 0) (.v 1))) .nil (.v 2)) .nil))) (.seq (.ife (.cal i_less (.cons (.cal i_short_of (.cons (.v 1) (.cons (.v 2) .nil))) (.cons (.cal i_short_of (.cons (.v 0) (.cons (.v 2) .nil))) .nil))) (.seq (.ret (.lst (.cons (.str "short") (.cons (.v 2) .nil)))) .nil) .nil) .nil)) (.seq (.ret (.lst .nil)) .nil)))⟩
/-- [left, found, part] -/
def fn_begins_of : FnI := ⟨1, 3, (.seq (.asg 1 (.lst (.cons (.tup (.cons (.int (0)) (.cons (.int (1)) .nil))) .nil))) (.seq (.forS (.v 2) (.sq (.v 0)) (.seq (.exp (.bm .append (.v 1) (.cons (.cal i_plus (.cons (.idx (.v 1) (.neg (.int (1)))) (.cons (.v 2) .nil))) .nil))) .nil)) (.seq (.ret (.v 1)) .nil)))⟩
/-- [left, begin, wide, begins, end, found, low, high] -/
def fn_window : FnI := ⟨3, 8, (.seq (.par [3, 4, 5] (.cons (.cal i_begins_of (.cons (.v 0) .nil)) (.cons (.cal i_plus (.cons (.v 1) (.cons (.v 2) .nil))) (.cons (.lst .nil) .nil)))) (.seq (.forS (.tup (.cons (.v 6) (.cons (.v 7) .nil))) (.zip (.v 3) (.sli (.v 3) (.cons (.int (1)) .nil) .nil)) (.seq (.par [6, 7] (.cons (.cal i_greater (.cons (.v 6) (.cons (.v 1) .nil))) (.cons (.cal i_lesser (.cons (.v 7) (.cons (.v 4) .nil))) .nil))) (.seq (.exp (.bm .append (.v 5) (.cons (.ife (.cal i_less (.cons (.v 6) (.cons (.v 7) .nil))) (.cal i_minus (.cons (.v 7) (.cons (.v 6) .nil))) (.tup (.cons (.int (0)) (.cons (.int (1)) .nil)))) .nil))) .nil))) (.seq (.ret (.v 5)) .nil)))⟩
/-- [values, left, wide, due, begins, stops, one, here, there, stop, much, low, high, .0] -/
def fn_begin_of : FnI := ⟨4, 14, (.seq (.asg 4 (.cal i_begins_of (.cons (.v 1) .nil))) (.seq (.asg 5 (.lst (.cons (.tup (.cons (.int (0)) (.cons (.int (1)) .nil))) .nil))) (.seq (.forS (.v 6) (.sq (.bin .Add (.v 4) (.lc [13, 6] (.v 6) (.sq (.v 4)) .nil (.cal i_minus (.cons (.v 6) (.cons (.v 2) .nil)))))) (.seq (.ife (.and (.cal i_less (.cons (.idx (.v 5) (.int (0))) (.cons (.v 6) .nil))) (.not (.cal i_less (.cons (.cal i_minus (.cons (.idx (.v 4) (.neg (.int (1)))) (.cons (.v 2) .nil))) (.cons (.v 6) .nil))))) (.seq (.exp (.bm .append (.v 5) (.cons (.v 6) .nil))) .nil) .nil) .nil)) (.seq (.par [7, 8] (.cons (.tup (.cons (.int (0)) (.cons (.int (1)) .nil))) (.cons (.cal i_minus (.cons (.idx (.v 4) (.neg (.int (1)))) (.cons (.v 2) .nil))) .nil))) (.seq (.forS (.v 9) (.sq (.v 5)) (.seq (.asg 10 (.cal i_worth_of (.cons (.v 0) (.cons (.cal i_window (.cons (.v 1) (.cons (.v 9) (.cons (.v 2) .nil)))) .nil)))) (.seq (.ife (.not (.cal i_less (.cons (.v 3) (.cons (.v 10) .nil)))) (.seq (.asg 7 (.cal i_greater (.cons (.v 7) (.cons (.v 9) .nil)))) .nil) .nil) (.seq (.ife (.not (.cal i_less (.cons (.v 10) (.cons (.v 3) .nil)))) (.seq (.asg 8 (.cal i_lesser (.cons (.v 8) (.cons (.v 9) .nil)))) .nil) .nil) .nil)))) (.seq (.par [11, 12] (.cons (.cal i_worth_of (.cons (.v 0) (.cons (.cal i_window (.cons (.v 1) (.cons (.v 7) (.cons (.v 2) .nil)))) .nil))) (.cons (.cal i_worth_of (.cons (.v 0) (.cons (.cal i_window (.cons (.v 1) (.cons (.v 8) (.cons (.v 2) .nil)))) .nil))) .nil))) (.seq (.ife (.not (.cal i_less (.cons (.v 11) (.cons (.v 12) .nil)))) (.seq (.ret (.v 7)) .nil) .nil) (.seq (.ret (.cal i_plus (.cons (.v 7) (.cons (.cal i_times (.cons (.cal i_over (.cons (.cal i_minus (.cons (.v 3) (.cons (.v 11) .nil))) (.cons (.cal i_minus (.cons (.v 12) (.cons (.v 11) .nil))) .nil))) (.cons (.cal i_minus (.cons (.v 8) (.cons (.v 7) .nil))) .nil))) .nil)))) .nil))))))))⟩
/-- [one, other, bar, values, left, rows, pair, wide, begin, row, .0, value, weight, part, gone] -/
def fn_widened : FnI := ⟨2, 15, (.seq (.exp (.cal i_check_lot (.cons (.v 0) .nil))) (.seq (.exp (.cal i_check_lot (.cons (.v 1) .nil))) (.seq (.asg 2 (.cal i_bar_of (.cons (.v 0) (.cons (.v 1) .nil)))) (.seq (.ife (.cmp .NotEq (.v 2) (.lst .nil)) (.seq (.ret (.mk c_Bar (.cons (.idx (.v 2) (.int (0))) (.cons (.idx (.v 2) (.int (1))) .nil)))) .nil) .nil) (.seq (.par [3, 4, 5] (.cons (.lc [10, 11, 12] (.tup (.cons (.v 11) (.cons (.v 12) .nil))) (.sq (.v 1)) .nil (.v 11)) (.cons (.cal i_shares_of (.cons (.v 1) .nil)) (.cons (.lst .nil) .nil)))) (.seq (.forS (.tup (.cons (.v 6) (.cons (.v 7) .nil))) (.zip (.v 0) (.cal i_shares_of (.cons (.v 0) .nil))) (.seq (.asg 8 (.cal i_begin_of (.cons (.v 3) (.cons (.v 4) (.cons (.v 7) (.cons (.cal i_times (.cons (.tup (.cons (.idx (.v 6) (.int (0))) (.cons (.int (1)) .nil))) (.cons (.v 7) .nil))) .nil)))))) (.seq (.asg 9 (.cal i_window (.cons (.v 4) (.cons (.v 8) (.cons (.v 7) .nil))))) (.seq (.asg 4 (.lc [10, 13, 14] (.tup (.cons (.v 13) (.cons (.v 14) .nil))) (.zip (.v 4) (.v 9)) .nil (.cal i_minus (.cons (.v 13) (.cons (.v 14) .nil))))) (.seq (.exp (.bm .append (.v 5) (.cons (.v 9) .nil))) .nil))))) (.seq (.ret (.mk c_Table (.cons (.v 5) .nil))) .nil)))))))⟩
/-- [_law_script, _law_k] -/
def fn__law_cell_at : FnI := ⟨2, 2, (.seq (.ife (.cmp .Lt (.v 1) (.blt .len (.cons (.v 0) .nil))) (.seq (.ret (.idx (.v 0) (.v 1))) .nil) .nil) (.seq (.ret (.int (0))) .nil))⟩
/-- [_law_cell, _law_k, _law_many, _law_primes] -/
def fn__law_draw : FnI := ⟨3, 4, (.seq (.asg 3 (.tup (.cons (.int (1000003)) (.cons (.int (1000033)) (.cons (.int (1000037)) (.cons (.int (1000039)) (.cons (.int (1000081)) (.cons (.int (1000099)) (.cons (.int (1000117)) (.cons (.int (1000121)) (.cons (.int (1000133)) (.cons (.int (1000151)) (.cons (.int (1000159)) (.cons (.int (1000171)) (.cons (.int (1000183)) (.cons (.int (1000187)) (.cons (.int (1000193)) (.cons (.int (1000199)) .nil)))))))))))))))))) (.seq (.ret (.bin .Mod (.bin .Mod (.bin .Add (.bin .Mult (.v 0) (.int (48271))) (.bin .Mult (.v 1) (.int (69621)))) (.idx (.v 3) (.bin .Mod (.v 1) (.int (16))))) (.v 2))) .nil))⟩
/-- [_law_cell, _law_turn, _law_rest, _law_blend] -/
def fn__law_value : FnI := ⟨2, 4, (.seq (.ife (.cmp .GtE (.v 0) (.bin .Pow (.int (10)) (.int (18)))) (.seq (.ret (.bin .RShift (.bin .Mod (.bin .Sub (.v 0) (.bin .Pow (.int (10)) (.int (18)))) (.bin .Pow (.int (10)) (.int (40)))) (.bin .Mult (.int (3)) (.v 1)))) .nil) .nil) (.seq (.asg 2 (.bin .Mod (.v 0) (.bin .Pow (.int (10)) (.int (18))))) (.seq (.asg 3 (.cal i__law_draw (.cons (.bin .Mult (.bin .Add (.v 2) (.bin .Mult (.int (977)) (.v 1))) (.bin .Add (.bin .Add (.v 2) (.bin .Mult (.int (31)) (.v 1))) (.int (5)))) (.cons (.bin .Add (.bin .Mod (.v 1) (.int (9))) (.int (1))) (.cons (.int (999983)) .nil))))) (.seq (.ret (.bin .Add (.bin .Mult (.v 3) (.int (1000003))) (.cal i__law_draw (.cons (.bin .Add (.bin .Mult (.bin .Add (.v 2) (.bin .Mult (.int (31)) (.v 1))) (.bin .Add (.v 2) (.int (7)))) (.bin .Mult (.int (977)) (.v 1))) (.cons (.bin .Add (.bin .Mod (.v 1) (.int (7))) (.int (2))) (.cons (.int (1000003)) .nil)))))) .nil))))⟩
/-- [_law_ask, _law_found, error] -/
def fn__law_kinds : FnI := ⟨1, 3, (.seq (.asg 1 (.lst .nil)) (.seq .bad (.seq (.ret (.v 1)) .nil)))⟩
/-- [_law_at, .0, _law_one] -/
def fn__law_due_of : FnI := ⟨1, 3, (.seq (.ret (.bin .Add (.lc [1, 2] (.v 2) (.rng (.cons (.int (11)) .nil)) .nil (.cmp .Eq (.v 0) (.v 2))) (.lst (.cons (.bl true) .nil)))) .nil)⟩
/-- [_law_far] -/
def fn__law_strange : FnI := ⟨1, 1, (.seq (.ret (.lst (.cons .non (.cons (.str "1") (.cons (.bl true) (.cons (.bl false) (.cons (.lst (.cons (.int (1)) .nil)) (.cons (.tup (.cons (.int (1)) .nil)) (.cons (.dnew false) (.cons (.str "") (.cons (.tup (.cons (.v 0) .nil)) .nil))))))))))) .nil)⟩
/-- [_law_far, _law_place, _law_good, _law_bad, _law_strange_here, _law_weight, .0, _law_at] -/
def fn__law_no_lots : FnI := ⟨2, 8, (.seq (.asg 2 (.lc [6, 7] (.v 7) (.rng (.cons (.int (8)) .nil)) .nil (.tup (.cons (.bin .Sub (.v 7) (.int (3))) (.cons (.bin .Add (.v 7) (.int (1))) .nil))))) (.seq (.asg 3 (.lst (.cons .non (.cons (.int (5)) (.cons (.str "lot") (.cons (.tup .nil) (.cons (.tup (.cons (.tup (.cons (.int (1)) (.cons (.int (1)) .nil))) .nil)) (.cons (.dnew false) (.cons (.bl true) (.cons (.lst .nil) (.cons (.bin .Add (.v 2) (.lst (.cons (.tup (.cons (.int (9)) (.cons (.int (1)) .nil))) .nil))) (.cons (.lst (.cons .non .nil)) (.cons (.lst (.cons (.lst (.cons (.int (1)) (.cons (.int (1)) .nil))) .nil)) (.cons (.lst (.cons (.tup (.cons (.int (1)) .nil)) .nil)) (.cons (.lst (.cons (.tup (.cons (.int (1)) (.cons (.int (1)) (.cons (.int (1)) .nil)))) .nil)) (.cons (.lst (.cons (.tup .nil) .nil)) .nil)))))))))))))))) (.seq (.forS (.v 4) (.sq (.bin .Add (.cal i__law_strange (.cons (.v 0) .nil)) (.lst (.cons (.int (1001)) (.cons (.bin .Add (.int (1000)) (.v 0)) (.cons (.neg (.int (1001))) (.cons (.bin .Sub (.neg (.int (1000))) (.v 0)) .nil))))))) (.seq (.exp (.bm .append (.v 3) (.cons (.bin .Add (.bin .Add (.sli (.v 2) .nil (.cons (.v 1) .nil)) (.lst (.cons (.tup (.cons (.v 4) (.cons (.int (1)) .nil))) .nil))) (.sli (.v 2) (.cons (.bin .Add (.v 1) (.int (1))) .nil) .nil)) .nil))) (.seq (.exp (.bm .append (.v 3) (.cons (.bin .Add (.bin .Add (.sli (.v 2) .nil (.cons (.v 1) .nil)) (.lst (.cons (.tup (.cons (.bin .Sub (.v 1) (.int (3))) (.cons (.v 4) .nil))) .nil))) (.sli (.v 2) (.cons (.bin .Add (.v 1) (.int (1))) .nil) .nil)) .nil))) .nil))) (.seq (.forS (.v 5) (.sq (.tup (.cons (.int (0)) (.cons (.neg (.int (1))) (.cons (.neg (.v 0)) .nil))))) (.seq (.exp (.bm .append (.v 3) (.cons (.bin .Add (.bin .Add (.sli (.v 2) .nil (.cons (.v 1) .nil)) (.lst (.cons (.tup (.cons (.bin .Sub (.v 1) (.int (3))) (.cons (.v 5) .nil))) .nil))) (.sli (.v 2) (.cons (.bin .Add (.v 1) (.int (1))) .nil) .nil)) .nil))) .nil)) (.seq (.asg 3 (.bin .Add (.v 3) (.lst (.cons (.rev (.v 2)) (.cons (.lst (.cons (.tup (.cons (.int (0)) (.cons (.int (1)) .nil))) (.cons (.tup (.cons (.int (0)) (.cons (.int (1)) .nil))) .nil))) (.cons (.lst (.cons (.tup (.cons (.int (0)) (.cons (.int (1)) .nil))) (.cons (.tup (.cons (.int (0)) (.cons (.int (2)) .nil))) .nil))) (.cons (.bin .Add (.sli (.v 2) .nil (.cons (.int (7)) .nil)) (.lst (.cons (.tup (.cons (.int (3)) (.cons (.int (1)) .nil))) .nil))) (.cons (.lst (.cons (.tup (.cons (.int (1)) (.cons (.int (1)) .nil))) (.cons (.tup (.cons (.int (0)) (.cons (.int (1)) .nil))) .nil))) .nil)))))))) (.seq (.ret (.v 3)) .nil))))))⟩
/-- [_law_far, _law_place, _law_parts, _law_strange_here, _law_ask, _law_bad, _law_good, _law_lot, _law_one] -/
def fn__law_lots_right : FnI := ⟨2, 9, (.seq (.asg 6 (.lst (.cons (.tup (.cons (.int (0)) (.cons (.int (1)) .nil))) (.cons (.tup (.cons (.int (1)) (.cons (.int (1)) .nil))) .nil)))) (.seq (.forS (.v 5) (.sq (.cal i__law_no_lots (.cons (.v 0) (.cons (.v 1) .nil)))) (.seq (.forS (.v 4) (.sq (.tup (.cons (.lam 1 1 (.cal i_mean (.cons (.v 0) .nil))) (.cons (.lam 1 1 (.cal i_short (.cons (.v 0) (.cons .non .nil)))) .nil)))) (.seq (.ife (.cmp .NotEq (.thk i__law_kinds (.calv 4 (.cons (.v 5) .nil))) (.cal i__law_due_of (.cons (.int (0)) .nil))) (.seq (.ret (.bl false)) .nil) .nil) .nil)) (.seq (.forS (.v 4) (.sq (.tup (.cons (.fnv i_together) (.cons (.fnv i_widened) .nil)))) (.seq (.ife (.cmp .NotEq (.thk i__law_kinds (.calv 4 (.cons (.v 5) (.cons (.v 6) .nil)))) (.cal i__law_due_of (.cons (.int (0)) .nil))) (.seq (.ret (.bl false)) .nil) .nil) (.seq (.ife (.cmp .NotEq (.thk i__law_kinds (.calv 4 (.cons (.v 6) (.cons (.v 5) .nil)))) (.cal i__law_due_of (.cons (.int (0)) .nil))) (.seq (.ret (.bl false)) .nil) .nil) .nil))) (.seq (.ife (.cmp .NotEq (.thk i__law_kinds (.cal i_mixed (.cons (.v 5) (.cons (.v 6) (.cons .non .nil))))) (.cal i__law_due_of (.cons (.int (0)) .nil))) (.seq (.ret (.bl false)) .nil) .nil) (.seq (.ife (.cmp .NotEq (.thk i__law_kinds (.cal i_mixed (.cons (.v 6) (.cons (.v 5) (.cons .non .nil))))) (.cal i__law_due_of (.cons (.int (0)) .nil))) (.seq (.ret (.bl false)) .nil) .nil) .nil))))) (.seq (.forS (.v 5) (.sq (.cal i__law_strange (.cons (.v 0) .nil))) (.seq (.ife (.cmp .NotEq (.thk i__law_kinds (.cal i_short (.cons (.v 6) (.cons (.v 5) .nil)))) (.cal i__law_due_of (.cons (.int (1)) .nil))) (.seq (.ret (.bl false)) .nil) .nil) .nil)) (.seq (.asg 2 (.lst (.cons (.tup (.cons (.int (0)) (.cons (.int (2)) .nil))) (.cons (.tup (.cons (.int (2)) (.cons (.int (4)) .nil))) (.cons (.tup (.cons (.int (3)) (.cons (.int (2)) .nil))) (.cons (.tup (.cons (.neg (.int (1))) (.cons (.int (2)) .nil))) (.cons (.tup (.cons (.int (1)) (.cons (.int (0)) .nil))) (.cons (.tup (.cons (.int (0)) (.cons (.int (0)) .nil))) (.cons (.tup (.cons (.int (0)) (.cons (.neg (.int (1))) .nil))) (.cons (.tup (.cons (.int (1)) (.cons (.neg (.int (1))) .nil))) (.cons (.tup (.cons (.int (1)) .nil)) (.cons (.tup (.cons (.int (1)) (.cons (.int (2)) (.cons (.int (3)) .nil)))) (.cons (.lst (.cons (.int (1)) (.cons (.int (2)) .nil))) .nil))))))))))))) (.seq (.asg 2 (.bin .Add (.v 2) (.lst (.cons (.tup (.cons (.bin .Add (.v 0) (.int (1))) (.cons (.v 0) .nil))) (.cons (.tup (.cons (.v 0) (.cons (.bin .Sub (.int (1)) (.v 0)) .nil))) .nil))))) (.seq (.forS (.v 3) (.sq (.cal i__law_strange (.cons (.v 0) .nil))) (.seq (.asg 2 (.bin .Add (.v 2) (.lst (.cons (.v 3) (.cons (.tup (.cons (.v 3) (.cons (.int (1)) .nil))) (.cons (.tup (.cons (.int (0)) (.cons (.v 3) .nil))) .nil)))))) .nil)) (.seq (.forS (.v 5) (.sq (.v 2)) (.seq (.ife (.cmp .NotEq (.thk i__law_kinds (.cal i_mixed (.cons (.v 6) (.cons (.v 6) (.cons (.v 5) .nil))))) (.cal i__law_due_of (.cons (.int (2)) .nil))) (.seq (.ret (.bl false)) .nil) .nil) .nil)) (.seq (.ret (.bl true)) .nil))))))))⟩
/-- [_law_script, _law_value_here, _law_far, _law_place, _law_ends] -/
def fn_law : FnI := ⟨1, 5, (.seq (.asg 0 (.sli (.v 0) .nil (.cons (.int (63)) .nil))) (.seq (.asg 1 (.cal i__law_value (.cons (.cal i__law_cell_at (.cons (.v 0) (.cons (.int (0)) .nil))) (.cons (.int (7)) .nil)))) (.seq (.asg 2 (.bin .Add (.int (2)) (.bin .Mod (.v 1) (.bin .Pow (.int (10)) (.int (20)))))) (.seq (.forS (.v 3) (.sq (.tup (.cons (.bin .Mod (.bin .FloorDiv (.v 1) (.int (7))) (.int (8))) (.cons (.int (7)) .nil)))) (.seq (.ife (.not (.cal i__law_lots_right (.cons (.v 2) (.cons (.v 3) .nil)))) (.seq (.ret (.bl false)) .nil) .nil) .nil)) (.seq (.asg 4 (.lst (.cons (.tup (.cons (.neg (.int (1000))) (.cons (.int (1000)) .nil))) (.cons (.tup (.cons (.int (1000)) (.cons (.int (1000)) .nil))) .nil)))) (.seq (.ife (.or (.cmp .NotEq (.cal i_mean (.cons (.v 4) .nil)) (.tup (.cons (.int (0)) (.cons (.int (1)) .nil)))) (.or (.cmp .NotEq (.cal i_short (.cons (.v 4) (.cons (.bin .Pow (.int (10)) (.int (40))) .nil))) (.tup (.cons (.bin .Pow (.int (10)) (.int (40))) (.cons (.int (1)) .nil)))) (.cmp .NotEq (.cal i_short (.cons (.v 4) (.cons (.neg (.bin .Pow (.int (10)) (.int (40)))) .nil))) (.tup (.cons (.int (0)) (.cons (.int (1)) .nil)))))) (.seq (.ret (.bl false)) .nil) .nil) (.seq (.ife (.cmp .NotEq (.cal i_mixed (.cons (.v 4) (.cons (.v 4) (.cons (.tup (.cons (.int (0)) (.cons (.int (1)) .nil))) .nil)))) (.lst (.cons (.tup (.cons (.neg (.int (1000))) (.cons (.tup (.cons (.int (1)) (.cons (.int (2)) .nil))) .nil))) (.cons (.tup (.cons (.int (1000)) (.cons (.tup (.cons (.int (1)) (.cons (.int (2)) .nil))) .nil))) .nil)))) (.seq (.ret (.bl false)) .nil) .nil) (.seq (.ret (.isi (.cal i_widened (.cons (.lst (.cons (.tup (.cons (.int (0)) (.cons (.int (1)) .nil))) .nil)) (.cons (.v 4) .nil))) (.own c_Table))) .nil))))))))⟩
def tk__law_kinds : TkI := ⟨3, 1, (.lst .nil), x_LotError, 2, (.seq (.asg 1 (.lst (.cons (.isx x_BadLot) (.cons (.isx x_BadValue) (.cons (.isx x_BadPart) .nil))))) (.seq (.asg 1 (.bin .Add (.v 1) (.lst (.cons (.isx x_BadTickets) (.cons (.isx x_BadTop) (.cons (.isx x_BadNumber) .nil)))))) (.seq (.asg 1 (.bin .Add (.v 1) (.lst (.cons (.isx x_BadOthers) (.cons (.isx x_BadSplit) (.cons (.isx x_BadTale) .nil)))))) (.seq (.asg 1 (.bin .Add (.v 1) (.lst (.cons (.isx x_NotWider) (.cons (.isx x_Few) (.cons (.isx x_ValueError) .nil)))))) .nil)))), 1⟩
def Tl : Tb where
  fns := [fn__wall, fn_is_whole, fn_is_within, fn_common, fn_share, fn_is_share, fn_plus, fn_minus, fn_times, fn_over, fn_less, fn_lesser, fn_greater, fn_sum_of, fn_is_pair, fn_check_lot, fn_whole_of, fn_shares_of, fn_mean_of, fn_short_of, fn_worth_of, fn_mean, fn_short, fn_chances_of, fn_mixed, fn_together, fn_Table_init, fn_Table_shows, fn_Bar_init, fn_Bar_shows, fn_bar_of, fn_begins_of, fn_window, fn_begin_of, fn_widened, fn__law_cell_at, fn__law_draw, fn__law_value, fn__law_kinds, fn__law_due_of, fn__law_strange, fn__law_no_lots, fn__law_lots_right, fn_law]
  init := [none, (some 26), (some 28)]
  met := [[none, none], [(some 26), (some 27)], [(some 28), (some 29)]]
  sub := [[true, false, false], [true, true, false], [true, false, true]]
  xsub := [[true, false, false, false, false, false, false, false, false, false, false, false, true], [true, true, false, false, false, false, false, false, false, false, false, false, true], [true, false, true, false, false, false, false, false, false, false, false, false, true], [true, false, false, true, false, false, false, false, false, false, false, false, true], [true, false, false, false, true, false, false, false, false, false, false, false, true], [true, false, false, false, false, true, false, false, false, false, false, false, true], [true, false, false, false, false, false, true, false, false, false, false, false, true], [true, false, false, false, false, false, false, true, false, false, false, false, true], [true, false, false, false, false, false, false, false, true, false, false, false, true], [true, false, false, false, false, false, false, false, false, true, false, false, true], [true, false, false, false, false, false, false, false, false, false, true, false, true], [true, false, false, false, false, false, false, false, false, false, false, true, true]]
  tks := [none, none, none, none, none, none, none, none, none, none, none, none, none, none, none, none, none, none, none, none, none, none, none, none, none, none, none, none, none, none, none, none, none, none, none, none, none, none, (some tk__law_kinds), none, none, none, none, none]
def noL : List Nat := [i_Table_init, i_Bar_init]
def fsL : List Nat := [i_chances_of, i_mixed, i_together]
end WL

namespace WL
open PySem
section
variable {ext : Nat → Nat → List D → RB D}
abbrev K (ext : Nat → Nat → List D → RB D) (k : Nat) : CbB := cbB Tl noL fsL ext k
theorem K_tb {k : Nat} : (K ext k).tb = Tl := by cases k <;> rfl
theorem callK {k g : Nat} {fi : FnI} {ds : List D} (hn : noL.contains g = false) (hg : Tl.fns[g]? = some fi) (hl : ds.length = fi.np) : (K ext (k + 1)).call g ds = (execB (K ext k) fi.body (ds.map some ++ List.replicate (fi.ns - ds.length) none)).end_ := by
  show runB (K ext k) noL (ext (k + 1)) g ds = _
  unfold runB
  rw [if_neg (by rw [hn]; decide), K_tb, hg]
  simp only
  rw [if_pos hl]
  rfl
local macro_rules | `(tactic| sizeOf_list_dec) => `(tactic| try simp only [eB_v, eB_non, eB_bl, eB_int, eB_str, eB_fnv, eB_bin, eB_neg, eB_cmp, eB_chn, eB_and, eB_or, eB_not, eB_ife, eB_tup, eB_lst, eB_dnew, eB_idx, eB_sli, eB_cal, eB_mk, eB_blt, eB_bm, eB_isi, eB_lc, eB_agg, eB_rev, eB_lam, eBs_nil, eBs_cons, eBI_rng, eBI_zip, eBI_enu, eBI_sq, eBC_nil, eBC_cons, xB_nil, xB_seq, xB_ret, xB_asg, xB_unp, xB_par, xB_ife, xB_whl, xB_for, xB_brk, xB_cnt, xB_rai, xB_chg, xB_cal, xB_sub, xB_aug, bindB_ok, bindB_exc, bindB_bad, asB_ok, asB_exc, asB_bad, then_nx, then_rt, then_ex, then_bk, then_ct, end_rt, end_nx, end_ex, ofO_some, ofD_some, ofF_some, and_t, and_f, or_t, or_f, ite_t, ite_f, iteS_t, iteS_f, not_b, cLt, cLe, cGt, cGe, bAdd, bSub, len_l, len_t, max2, min2, idx0, idx1, isi_list, isi_tup, isi_int, isi_nb, seq_l, seq_t, lst_l, opt0, opt1, sli_l, cut1, andB_and, orB_or, chnB_and, stD_z, stD_s, stA_nil, stA_cons, bd_v, bd_tup, bds_nil, bds_cons, wp_nil, wp_cons, ln0, ln1, ln2, ln3, ln4, ln5, ln6, ln7, ln8, ln9, ln10, ln11, ln12, ln13, ln14, ln15, ln16, app_ty, get_ty, get_k, list_l, list_t, if_true, if_false, Option.map_some, Option.bind_some, List.set_cons_zero, List.set_cons_succ, Bool.false_eq_true, List.getElem?_cons_zero, List.getElem?_cons_succ, List.map_cons, List.map_nil, List.length_cons, List.length_nil, List.cons_append, List.nil_append, List.append_nil, List.replicate_zero, List.replicate_succ, Bool.not_true, Bool.not_false, Bool.true_and, Bool.and_true, Bool.false_and, Bool.and_false, Bool.true_or, Bool.or_true, Bool.false_or, Bool.or_false, Nat.reduceAdd, Nat.reduceSub, Nat.sub_self])
theorem c_is_whole {k : Nat} {i : Int} : (K ext (k + 1)).call i_is_whole [.int i] = .ok (.bl true) := by
  rw [callK (fi := fn_is_whole) rfl rfl rfl]
  rfl
theorem c_is_within {k : Nat} {i lo hi : Int} : (K ext (k + 2)).call i_is_within [.int i, .int lo, .int hi] = .ok (.bl (decide (lo ≤ i) && decide (i ≤ hi))) := by
  rw [callK (fi := fn_is_within) rfl rfl rfl]
  unfold fn_is_within
  sizeOf_list_dec
  rw [c_is_whole]
  sizeOf_list_dec
theorem c_common {k : Nat} {x y : Int} (h : y.natAbs < loops) : (K ext (k + 1)).call i_common [.int x, .int y] = .ok (.int (Int.gcd x y : Nat)) := by
  rw [callK (fi := fn_common) rfl rfl rfl]
  unfold fn_common
  sizeOf_list_dec
  simp only [bltB]
  sizeOf_list_dec
  sizeOf_list_dec
  rw [gcd_loop (mkf := fun x y => [some (.int x), some (.int y)])]
  · sizeOf_list_dec
    have : Int.gcd (if x < 0 then -x else x) (if y < 0 then -y else y) = Int.gcd x y := by
      split <;> split <;> simp
    rw [this]
  · intro x y
    sizeOf_list_dec
  · intro x y hy
    sizeOf_list_dec
    rw [mod_ok hy]
    sizeOf_list_dec
  · split <;> omega
  · split <;> omega
  · split <;> omega
theorem loops_lt {n m : Nat} (h : n < 2 ^ m) (hm : m ≤ 20000) : n < loops := Nat.lt_of_lt_of_le h (pow_mono hm)
theorem c_share {k : Nat} {t b : Int} (hb : 0 < b) (h : b.natAbs < 2 ^ 8999) : (K ext (k + 2)).call i_share [.int t, .int b] = .ok (shD (Qd t b)) := by
  rw [callK (fi := fn_share) rfl rfl rfl]
  unfold fn_share
  sizeOf_list_dec
  rw [c_common (loops_lt h (by decide))]
  sizeOf_list_dec
  sizeOf_list_dec
  have g0 : 0 < ((t.gcd b : Nat) : Int) := by
    have := Int.gcd_pos_of_ne_zero_right t (b := b) (by omega)
    omega
  have g1 : ((t.gcd b : Nat) : Int).natAbs < 2 ^ 8999 := by
    have := Int.gcd_le_right t hb
    omega
  rw [div_ok g0 g1 (by decide), div_ok g0 g1 (by decide)]
  sizeOf_list_dec
  sizeOf_list_dec
  unfold shD
  rw [Qd_num hb, Qd_den hb]
theorem all_whole {k : Nat} : ∀ (ns : List Int) {wf : FD}, wf.length = 3 → lcB (evCB (K ext (k + 1)) .nil) (evB (K ext (k + 1)) (.cal i_is_whole (.cons (.v 2) .nil))) (bindB (.v 2)) wf (ns.map D.int) = .ok (ns.map fun _ => .bl true) := fun ns wf hw => by
  refine lcB_map D.int (fun _ => .bl true) ns fun x _ => ⟨wf.set 2 (some (.int x)), ?_, rfl, ?_⟩
  · show stD 2 _ _ = _
    unfold stD
    rw [if_pos (by omega)]
  · sizeOf_list_dec
    rw [List.getElem?_set_self (by omega)]
    sizeOf_list_dec
    rw [c_is_whole]
theorem c_is_share {k : Nat} {t b : Int} (h : b.natAbs < loops) : (K ext (k + 2)).call i_is_share [.tup [.int t, .int b]] = .ok (.bl (decide (0 < b) && decide (Int.gcd t b = 1))) := by
  rw [callK (fi := fn_is_share) rfl rfl rfl]
  unfold fn_is_share
  sizeOf_list_dec
  rw [show cmpB .NotEq (.int ((2 : Nat) : Int)) (.int 2) = some false from rfl]
  sizeOf_list_dec
  rw [show ([.int t, .int b] : List D) = [t, b].map D.int from rfl, all_whole _ (by rfl)]
  sizeOf_list_dec
  rw [show bltLB .all [.bl true, .bl true] = .ok (.bl true) from rfl]
  sizeOf_list_dec
  rw [c_common h]
  sizeOf_list_dec
  rw [cmp_eq (eq_int _ _)]
  sizeOf_list_dec
  rw [decide_eq_decide.mpr (show ((t.gcd b : Nat) : Int) = 1 ↔ t.gcd b = 1 by omega)]
theorem c_plus {k : Nat} {p q : Rat} (hp : SQ 4000 p) (hq : SQ 4000 q) : (K ext (k + 3)).call i_plus [shD p, shD q] = .ok (shD (p + q)) := by
  rw [callK (fi := fn_plus) rfl rfl rfl]
  unfold fn_plus
  simp only [shD]
  sizeOf_list_dec
  have a1 : (p.den : Int).natAbs < 2 ^ 4000 := hp.2
  have a2 : (q.den : Int).natAbs < 2 ^ 4000 := hq.2
  rw [mul_ok hp.1 a2 (by decide), mul_ok hq.1 a1 (by decide), mul_ok a1 a2 (by decide)]
  sizeOf_list_dec
  have h1 := den_pos p
  have h2 := den_pos q
  rw [c_share (Int.mul_pos h1 h2) (Nat.lt_of_lt_of_le (imul_lt a1 a2) (pow_mono (by decide)))]
  sizeOf_list_dec
  rw [add_Qd]
  rfl
theorem c_minus {k : Nat} {p q : Rat} (hp : SQ 4000 p) (hq : SQ 4000 q) : (K ext (k + 3)).call i_minus [shD p, shD q] = .ok (shD (p - q)) := by
  rw [callK (fi := fn_minus) rfl rfl rfl]
  unfold fn_minus
  simp only [shD]
  sizeOf_list_dec
  have a1 : (p.den : Int).natAbs < 2 ^ 4000 := hp.2
  have a2 : (q.den : Int).natAbs < 2 ^ 4000 := hq.2
  rw [mul_ok hp.1 a2 (by decide), mul_ok hq.1 a1 (by decide), mul_ok a1 a2 (by decide)]
  sizeOf_list_dec
  have h1 := den_pos p
  have h2 := den_pos q
  rw [c_share (Int.mul_pos h1 h2) (Nat.lt_of_lt_of_le (imul_lt a1 a2) (pow_mono (by decide)))]
  sizeOf_list_dec
  rw [sub_Qd]
  rfl
theorem c_times {k : Nat} {p q : Rat} (hp : SQ 4000 p) (hq : SQ 4000 q) : (K ext (k + 3)).call i_times [shD p, shD q] = .ok (shD (p * q)) := by
  rw [callK (fi := fn_times) rfl rfl rfl]
  unfold fn_times
  simp only [shD]
  sizeOf_list_dec
  have a1 : (p.den : Int).natAbs < 2 ^ 4000 := hp.2
  have a2 : (q.den : Int).natAbs < 2 ^ 4000 := hq.2
  rw [mul_ok hp.1 hq.1 (by decide), mul_ok a1 a2 (by decide)]
  sizeOf_list_dec
  have h1 := den_pos p
  have h2 := den_pos q
  rw [c_share (Int.mul_pos h1 h2) (Nat.lt_of_lt_of_le (imul_lt a1 a2) (pow_mono (by decide)))]
  sizeOf_list_dec
  rw [mul_Qd]
  rfl
theorem rat_num_pos {q : Rat} (h : 0 < q) : 0 < q.num := by
  have := (lt_iff 0 q).mp h
  simpa using this
theorem c_over {k : Nat} {p q : Rat} (hp : SQ 4000 p) (hq : SQ 4000 q) (h0 : 0 < q) : (K ext (k + 3)).call i_over [shD p, shD q] = .ok (shD (p / q)) := by
  rw [callK (fi := fn_over) rfl rfl rfl]
  unfold fn_over
  simp only [shD]
  sizeOf_list_dec
  have a1 : (p.den : Int).natAbs < 2 ^ 4000 := hp.2
  have a2 : (q.den : Int).natAbs < 2 ^ 4000 := hq.2
  rw [mul_ok hp.1 a2 (by decide), mul_ok a1 hq.1 (by decide)]
  sizeOf_list_dec
  have h1 := den_pos p
  have h2 : 0 < q.num := rat_num_pos h0
  rw [c_share (Int.mul_pos h1 h2) (Nat.lt_of_lt_of_le (imul_lt a1 hq.1) (pow_mono (by decide)))]
  sizeOf_list_dec
  rw [div_Qd]
  rfl
theorem c_less {k : Nat} {p q : Rat} (hp : SQ 4000 p) (hq : SQ 4000 q) : (K ext (k + 1)).call i_less [shD p, shD q] = .ok (.bl (decide (p < q))) := by
  rw [callK (fi := fn_less) rfl rfl rfl]
  unfold fn_less
  simp only [shD]
  sizeOf_list_dec
  have a1 : (p.den : Int).natAbs < 2 ^ 4000 := hp.2
  have a2 : (q.den : Int).natAbs < 2 ^ 4000 := hq.2
  rw [mul_ok hp.1 a2 (by decide), mul_ok hq.1 a1 (by decide)]
  sizeOf_list_dec
  rw [decide_eq_decide.mpr (lt_iff p q)]
theorem c_lesser {k : Nat} {p q : Rat} (hp : SQ 4000 p) (hq : SQ 4000 q) : (K ext (k + 2)).call i_lesser [shD p, shD q] = .ok (shD (if p < q then p else q)) := by
  rw [callK (fi := fn_lesser) rfl rfl rfl]
  unfold fn_lesser
  sizeOf_list_dec
  rw [c_less hp hq]
  sizeOf_list_dec
  by_cases h : p < q
  · rw [decide_eq_true h, if_pos h]; rfl
  · rw [decide_eq_false h, if_neg h]; rfl
theorem c_greater {k : Nat} {p q : Rat} (hp : SQ 4000 p) (hq : SQ 4000 q) : (K ext (k + 2)).call i_greater [shD p, shD q] = .ok (shD (if p < q then q else p)) := by
  rw [callK (fi := fn_greater) rfl rfl rfl]
  unfold fn_greater
  sizeOf_list_dec
  rw [c_less hp hq]
  sizeOf_list_dec
  by_cases h : p < q
  · rw [decide_eq_true h, if_pos h]; rfl
  · rw [decide_eq_false h, if_neg h]; rfl
end
end WL

namespace WL
open PySem
local macro_rules | `(tactic| sizeOf_list_dec) => `(tactic| try simp only [eB_v, eB_non, eB_bl, eB_int, eB_str, eB_fnv, eB_bin, eB_neg, eB_cmp, eB_chn, eB_and, eB_or, eB_not, eB_ife, eB_tup, eB_lst, eB_dnew, eB_idx, eB_sli, eB_cal, eB_mk, eB_blt, eB_bm, eB_isi, eB_lc, eB_agg, eB_rev, eB_lam, eBs_nil, eBs_cons, eBI_rng, eBI_zip, eBI_enu, eBI_sq, eBC_nil, eBC_cons, xB_nil, xB_seq, xB_ret, xB_asg, xB_unp, xB_par, xB_ife, xB_whl, xB_for, xB_brk, xB_cnt, xB_rai, xB_chg, xB_cal, xB_sub, xB_aug, bindB_ok, bindB_exc, bindB_bad, asB_ok, asB_exc, asB_bad, then_nx, then_rt, then_ex, then_bk, then_ct, end_rt, end_nx, end_ex, ofO_some, ofD_some, ofF_some, and_t, and_f, or_t, or_f, ite_t, ite_f, iteS_t, iteS_f, not_b, cLt, cLe, cGt, cGe, bAdd, bSub, len_l, len_t, max2, min2, idx0, idx1, isi_list, isi_tup, isi_int, isi_nb, seq_l, seq_t, lst_l, opt0, opt1, sli_l, cut1, andB_and, orB_or, chnB_and, stD_z, stD_s, stA_nil, stA_cons, bd_v, bd_tup, bds_nil, bds_cons, wp_nil, wp_cons, ln0, ln1, ln2, ln3, ln4, ln5, ln6, ln7, ln8, ln9, ln10, ln11, ln12, ln13, ln14, ln15, ln16, app_ty, get_ty, get_k, list_l, list_t, if_true, if_false, Option.map_some, Option.bind_some, List.set_cons_zero, List.set_cons_succ, Bool.false_eq_true, List.getElem?_cons_zero, List.getElem?_cons_succ, List.map_cons, List.map_nil, List.length_cons, List.length_nil, List.cons_append, List.nil_append, List.append_nil, List.replicate_zero, List.replicate_succ, Bool.not_true, Bool.not_false, Bool.true_and, Bool.and_true, Bool.false_and, Bool.and_false, Bool.true_or, Bool.or_true, Bool.false_or, Bool.or_false, Nat.reduceAdd, Nat.reduceSub, Nat.sub_self])
section
variable {ext : Nat → Nat → List D → RB D}
theorem c_is_pair {k : Nat} {p : Int × Int} : (K ext (k + 3)).call i_is_pair [prD p] = .ok (.bl (pairOk p)) := by
  rw [callK (fi := fn_is_pair) rfl rfl rfl]
  unfold fn_is_pair prD
  sizeOf_list_dec
  rw [show cmpB .NotEq (.int ((2 : Nat) : Int)) (.int 2) = some false from rfl]
  sizeOf_list_dec
  rw [c_is_within, c_is_within]
  sizeOf_list_dec
  rfl
theorem c_check_lot {k : Nat} {l : List (Int × Int)} (h : Lot l) : (K ext (k + 4)).call i_check_lot [lotD l] = .ok .non := by
  rw [callK (fi := fn_check_lot) rfl rfl rfl]
  unfold fn_check_lot lotD
  sizeOf_list_dec
  rw [List.length_map, if_pos (line_ok (by have := h.most; omega)), lcB_map prD (fun p => .bl (pairOk p)) l fun p hp => ⟨[some (lotD l), none, some (prD p), none], rfl, rfl, by sizeOf_list_dec; rw [c_is_pair]⟩]
  sizeOf_list_dec
  rw [allB, List.all_eq_true.mpr h.prs]
  sizeOf_list_dec
  rw [decide_eq_true (show (1 : Int) ≤ l.length by have := h.one; omega), decide_eq_true (show (l.length : Int) ≤ 8 by have := h.most; omega)]
  sizeOf_list_dec
  rw [← List.map_drop, zipD_map, List.length_map, if_pos (line_ok (by rw [List.length_zip]; have := h.most; omega)),
    lcB_map (fun p => .tup [prD p.1, prD p.2]) (fun p : (Int × Int) × (Int × Int) => .bl (decide (p.2.1 ≤ p.1.1))) _ fun p hp => ⟨[some (lotD l), none, some (prD p.1), some (prD p.2)], rfl, rfl, by unfold prD; sizeOf_list_dec⟩]
  sizeOf_list_dec
  have := h.up
  unfold rises at this
  rw [anyB, List.drop_one, show (l.zip l.tail).any _ = false by simpa using this]
  sizeOf_list_dec
theorem c_whole_of {k : Nat} {l : List (Int × Int)} (h : l.length ≤ 1000) : (K ext (k + 1)).call i_whole_of [lotD l] = .ok (.int (wsum l)) := by
  rw [callK (fi := fn_whole_of) rfl rfl rfl]
  unfold fn_whole_of lotD
  sizeOf_list_dec
  rw [List.length_map, if_pos (line_ok (by omega)), lcB_map prD (fun p => .int p.2) l fun p hp => ⟨[some (lotD l), none, some (.int p.1), some (.int p.2)], rfl, rfl, rfl⟩]
  sizeOf_list_dec
  rw [sumB]
  sizeOf_list_dec
  rfl
/-- lots of any numbers that are not too great -/
structure Fin (l : List (Int × Int)) : Prop where
  len : l.length ≤ 1000
  v : ∀ p ∈ l, p.1.natAbs < 2 ^ 2000
  w : ∀ p ∈ l, p.2.natAbs < 2 ^ 2000
  pos : 0 < wsum l
  big : (wsum l).natAbs < 2 ^ 2000
theorem p2000 : 2 ^ 20 ≤ 2 ^ 2000 := pow_mono (by decide)
theorem Lot.fin {l : List (Int × Int)} (h : Lot l) : Fin l := by
  have q : (2 : Nat) ^ 20 = 1048576 := by decide
  have := p2000
  refine ⟨by have := h.most; omega, fun p m => ?_, fun p m => ?_, by have := h.w; omega, by have := h.w; omega⟩
  · have := h.v m; omega
  · have := h.v m; omega
def shs (l : List (Int × Int)) : List Rat := l.map fun p => Qd p.2 (wsum l)
theorem c_shares_of {k : Nat} {l : List (Int × Int)} (h : Fin l) : (K ext (k + 3)).call i_shares_of [lotD l] = .ok (.lst ((shs l).map shD)) := by
  rw [callK (fi := fn_shares_of) rfl rfl rfl]
  unfold fn_shares_of
  sizeOf_list_dec
  rw [c_whole_of h.len]
  sizeOf_list_dec
  sizeOf_list_dec
  rw [show lotD l = .lst (l.map prD) from rfl]
  sizeOf_list_dec
  rw [List.length_map, if_pos (line_ok (by have := h.len; omega)), lcB_map prD (fun p => shD (Qd p.2 (wsum l))) l fun p hp => ⟨[some (lotD l), some (.int (wsum l)), none, some (.int p.1), some (.int p.2)], rfl, rfl, by sizeOf_list_dec; rw [c_share h.pos (Nat.lt_of_lt_of_le h.big (pow_mono (by decide)))]⟩]
  sizeOf_list_dec
  unfold shs
  rw [List.map_map]
  rfl
def msum (l : List (Int × Int)) : Int := (l.map fun p => p.1 * p.2).sum
def meanQ (l : List (Int × Int)) : Rat := Qd (msum l) (wsum l)
theorem c_mean_of {k : Nat} {l : List (Int × Int)} (h : Fin l) : (K ext (k + 3)).call i_mean_of [lotD l] = .ok (shD (meanQ l)) := by
  rw [callK (fi := fn_mean_of) rfl rfl rfl]
  unfold fn_mean_of
  sizeOf_list_dec
  rw [show lotD l = .lst (l.map prD) from rfl]
  sizeOf_list_dec
  rw [List.length_map, if_pos (line_ok (by have := h.len; omega)), lcB_map prD (fun p => .int (p.1 * p.2)) l fun p hp => ⟨[some (lotD l), none, some (.int p.1), some (.int p.2)], rfl, rfl, by sizeOf_list_dec; rw [mul_ok (h.v p hp) (h.w p hp) (by decide)]⟩]
  sizeOf_list_dec
  rw [sumB]
  sizeOf_list_dec
  rw [show D.lst (l.map prD) = lotD l from rfl, c_whole_of h.len]
  sizeOf_list_dec
  rw [c_share h.pos (Nat.lt_of_lt_of_le h.big (pow_mono (by decide)))]
  sizeOf_list_dec
  rfl
def ssum (l : List (Int × Int)) (n : Int) : Int := (l.map fun p => p.2 * max 0 (n - p.1)).sum
def shortQ (l : List (Int × Int)) (n : Int) : Rat := Qd (ssum l n) (wsum l)
theorem c_short_of {k : Nat} {l : List (Int × Int)} {n : Int} (h : Fin l) (hn : n.natAbs < 2 ^ 2000) : (K ext (k + 3)).call i_short_of [lotD l, .int n] = .ok (shD (shortQ l n)) := by
  rw [callK (fi := fn_short_of) rfl rfl rfl]
  unfold fn_short_of
  sizeOf_list_dec
  rw [show lotD l = .lst (l.map prD) from rfl]
  sizeOf_list_dec
  rw [List.length_map, if_pos (line_ok (by have := h.len; omega)), lcB_map prD (fun p => .int (p.2 * max 0 (n - p.1))) l fun p hp => ⟨[some (lotD l), some (.int n), none, some (.int p.1), some (.int p.2)], rfl, rfl, by
    sizeOf_list_dec
    have h1 := h.v p hp
    have h2 : (n - p.1).natAbs < 2 ^ 2001 := isub_lt hn h1
    rw [mul_ok (m := 2000) (n := 2001) (h.w p hp) (by omega) (by decide)]⟩]
  sizeOf_list_dec
  rw [sumB]
  sizeOf_list_dec
  rw [show D.lst (l.map prD) = lotD l from rfl, c_whole_of h.len]
  sizeOf_list_dec
  rw [c_share h.pos (Nat.lt_of_lt_of_le h.big (pow_mono (by decide)))]
  sizeOf_list_dec
  rfl
end
end WL

namespace WL
open PySem
local macro_rules | `(tactic| sizeOf_list_dec) => `(tactic| try simp only [eB_v, eB_non, eB_bl, eB_int, eB_str, eB_fnv, eB_bin, eB_neg, eB_cmp, eB_chn, eB_and, eB_or, eB_not, eB_ife, eB_tup, eB_lst, eB_dnew, eB_idx, eB_sli, eB_cal, eB_mk, eB_blt, eB_bm, eB_isi, eB_lc, eB_agg, eB_rev, eB_lam, eBs_nil, eBs_cons, eBI_rng, eBI_zip, eBI_enu, eBI_sq, eBC_nil, eBC_cons, xB_nil, xB_seq, xB_ret, xB_asg, xB_unp, xB_par, xB_ife, xB_whl, xB_for, xB_brk, xB_cnt, xB_rai, xB_chg, xB_cal, xB_sub, xB_aug, bindB_ok, bindB_exc, bindB_bad, asB_ok, asB_exc, asB_bad, then_nx, then_rt, then_ex, then_bk, then_ct, end_rt, end_nx, end_ex, ofO_some, ofD_some, ofF_some, and_t, and_f, or_t, or_f, ite_t, ite_f, iteS_t, iteS_f, not_b, cLt, cLe, cGt, cGe, bAdd, bSub, len_l, len_t, max2, min2, idx0, idx1, isi_list, isi_tup, isi_int, isi_nb, seq_l, seq_t, lst_l, opt0, opt1, sli_l, cut1, andB_and, orB_or, chnB_and, stD_z, stD_s, stA_nil, stA_cons, bd_v, bd_tup, bds_nil, bds_cons, wp_nil, wp_cons, ln0, ln1, ln2, ln3, ln4, ln5, ln6, ln7, ln8, ln9, ln10, ln11, ln12, ln13, ln14, ln15, ln16, app_ty, get_ty, get_k, list_l, list_t, if_true, if_false, Option.map_some, Option.bind_some, List.set_cons_zero, List.set_cons_succ, Bool.false_eq_true, List.getElem?_cons_zero, List.getElem?_cons_succ, List.map_cons, List.map_nil, List.length_cons, List.length_nil, List.cons_append, List.nil_append, List.append_nil, List.replicate_zero, List.replicate_succ, Bool.not_true, Bool.not_false, Bool.true_and, Bool.and_true, Bool.false_and, Bool.and_false, Bool.true_or, Bool.or_true, Bool.false_or, Bool.or_false, Nat.reduceAdd, Nat.reduceSub, Nat.sub_self])
section
variable {ext : Nat → Nat → List D → RB D}
theorem c_mean {k : Nat} {l : List (Int × Int)} (h : Lot l) : (K ext (k + 5)).call i_mean [lotD l] = .ok (shD (meanQ l)) := by
  rw [callK (fi := fn_mean) rfl rfl rfl]
  unfold fn_mean
  sizeOf_list_dec
  rw [c_check_lot h]
  sizeOf_list_dec
  rw [c_mean_of h.fin]
  sizeOf_list_dec
theorem c_short {k : Nat} {l : List (Int × Int)} {n : Int} (h : Lot l) (hn : n.natAbs < 2 ^ 2000) : (K ext (k + 5)).call i_short [lotD l, .int n] = .ok (shD (shortQ l n)) := by
  rw [callK (fi := fn_short) rfl rfl rfl]
  unfold fn_short
  sizeOf_list_dec
  rw [c_check_lot h]
  sizeOf_list_dec
  rw [c_is_whole]
  sizeOf_list_dec
  rw [c_short_of h.fin hn]
  sizeOf_list_dec
theorem getD_map {α : Type} {g : α → D} {o : Option α} {a : α} : (o.map g).getD (g a) = g (o.getD a) := by cases o <;> rfl
theorem set_k {l : List (Int × D)} {k : Int} {d : D} (h : l.length ≤ 100000) : setB (.dK l) (.int k) d = some (.dK (putD l k d)) := by
  show (if l.length < line then _ else _) = _
  rw [if_pos (Nat.lt_of_le_of_lt h (by decide))]
theorem idx_k {l : List (Int × D)} {k : Int} : idxB (.dK l) (.int k) = lookD l k := rfl
theorem shD0 : D.tup [.int 0, .int 1] = shD 0 := rfl
theorem shD1 : D.tup [.int 1, .int 1] = shD 1 := rfl
theorem accQ_snoc (q : List (Int × Rat)) (x : Int × Rat) : accQ (q ++ [x]) = pt (accQ q) x.1 ((lk (accQ q) x.1).getD 0 + x.2) := by
  unfold accQ
  rw [List.foldl_append]
  rfl
theorem accQ_len (s : List (Int × Rat)) : (accQ s).length ≤ s.length := by
  have key : ∀ (s d : List (Int × Rat)), (s.foldl addQ d).length ≤ d.length + s.length := by
    intro s
    induction s with
    | nil => intro d; simp
    | cons q r ih =>
      intro d
      have := ih (addQ d q)
      have := (pt_len (l := d) (k := q.1) (v := (lk d q.1).getD 0 + q.2)).1
      simp only [List.foldl_cons, List.length_cons, addQ] at *
      omega
  simpa [accQ] using key s []
theorem accQ_nodup (s : List (Int × Rat)) : ((accQ s).map (·.1)).Nodup := by
  have key : ∀ (s d : List (Int × Rat)), (d.map (·.1)).Nodup → ((s.foldl addQ d).map (·.1)).Nodup := by
    intro s
    induction s with
    | nil => intro d h; exact h
    | cons q r ih => intro d h; exact ih _ (pt_nodup h)
  exact key s [] List.nodup_nil
/-- chances that are not too great -/
structure FitS (s : List (Int × Rat)) : Prop where
  len : s.length ≤ 1000
  ex : ∃ N B : Nat, 0 < N ∧ N < 2 ^ 4000 ∧ 1000 * B < 2 ^ 4000 ∧ ∀ p ∈ s, Fit N B p.2
theorem FitS.acc {s : List (Int × Rat)} (h : FitS s) {q r : List (Int × Rat)} (e : q ++ r = s) : ∀ p ∈ accQ q, SQ 4000 p.2 := by
  obtain ⟨N, B, n0, n1, b1, f⟩ := h.ex
  intro p hp
  have := accQ_fit n0 (s := q) (fun p hp => f p (by rw [← e]; exact List.mem_append_left _ hp)) p hp
  refine this.size n0 n1 ?_
  have hl := h.len
  rw [← e, List.length_append] at hl
  have : q.length * B ≤ 1000 * B := Nat.mul_le_mul_right _ (by omega)
  omega
theorem FitS.one {s : List (Int × Rat)} (h : FitS s) : ∀ p ∈ s, SQ 4000 p.2 := by
  obtain ⟨N, B, n0, n1, b1, f⟩ := h.ex
  intro p hp
  exact (f p hp).size n0 n1 (by omega)
theorem SQ0 : SQ 4000 0 := ⟨Nat.pow_pos (by decide), Nat.lt_of_lt_of_le (by decide : 1 < 2 ^ 1) (pow_mono (by decide))⟩
theorem SQ1 : SQ 4000 1 := ⟨Nat.lt_of_lt_of_le (by decide : 1 < 2 ^ 1) (pow_mono (by decide)), Nat.lt_of_lt_of_le (by decide : 1 < 2 ^ 1) (pow_mono (by decide))⟩
theorem FitS.lk {s : List (Int × Rat)} (h : FitS s) {q r : List (Int × Rat)} (e : q ++ r = s) (v : Int) : SQ 4000 ((WL.lk (accQ q) v).getD 0) := by
  cases z : WL.lk (accQ q) v with
  | none => exact SQ0
  | some w => exact h.acc e _ (lk_mem z)
theorem c_chances_of {k : Nat} {s : List (Int × Rat)} (h : FitS s) : (K ext (k + 4)).call i_chances_of [chD s] = .ok (chD (chQ s)) := by
  rw [callK (fi := fn_chances_of) rfl rfl rfl]
  unfold fn_chances_of
  sizeOf_list_dec
  sizeOf_list_dec
  rw [show chD s = .lst (s.map cpD) from rfl]
  sizeOf_list_dec
  generalize hb : forB _ _ _ _ = rr
  obtain ⟨f', rfl, u, v, rfl⟩ := forG hb (fun q f => ∃ u v, f = [some (chD s), some (.dK ((accQ q).map (enc shD))), u, v, none]) ⟨none, none, rfl⟩ fun q x r f e m => by
    obtain ⟨u, v, rfl⟩ := m
    refine ⟨[some (chD s), some (.dK ((accQ q).map (enc shD))), some (.int x.1), some (shD x.2), none], [some (chD s), some (.dK ((accQ (q ++ [x])).map (enc shD))), some (.int x.1), some (shD x.2), none], rfl, .inl ?_, _, _, rfl⟩
    sizeOf_list_dec
    sizeOf_list_dec
    sizeOf_list_dec
    rw [look_map, shD0, getD_map]
    sizeOf_list_dec
    rw [c_plus (h.lk e x.1) (h.one x (by rw [← show q ++ x :: r = s from e]; simp))]
    sizeOf_list_dec
    rw [set_k (by rw [List.length_map]; have := accQ_len q; have := h.len; rw [← show q ++ x :: r = s from e, List.length_append] at this; omega), put_map, ← accQ_snoc]
    rfl
  sizeOf_list_dec
  rw [show bltB .sorted [.dK ((accQ s).map (enc shD))] = .ok (.lst ((sortI (((accQ s).map (enc shD)).map (·.1))).map D.int)) from rfl, keys_map]
  sizeOf_list_dec
  rw [List.length_map, sortI_len, List.length_map, if_pos (line_ok (by have := accQ_len s; have := h.len; omega))]
  rw [lcB_fil D.int (fun v => cpD (v, valQ s v)) (fun v => decide (0 < (valQ s v).num)) _ fun x hx => by
    obtain ⟨w, hw⟩ := lk_of_key (sortI_mem.mp hx)
    have hv : valQ s x = w := by unfold valQ; rw [hw]; rfl
    refine ⟨[some (chD s), some (.dK ((accQ s).map (enc shD))), some (.int x), v, none], rfl, ?_, fun _ => ?_⟩
    · sizeOf_list_dec
      rw [idx_k, look_map, hw, Option.map_some]
      unfold shD
      sizeOf_list_dec
      rw [hv]
    · sizeOf_list_dec
      rw [idx_k, look_map, hw, Option.map_some]
      sizeOf_list_dec
      rw [hv]
      rfl]
  sizeOf_list_dec
  unfold chQ chD
  rw [List.map_map]
  rfl
theorem shs_zip (l : List (Int × Int)) : l.zip (shs l) = l.map fun x => (x, Qd x.2 (wsum l)) := by
  unfold shs
  rw [List.zip_map_right]
  have : l.zip l = l.map fun x => (x, x) := by
    induction l with
    | nil => rfl
    | cons x r ih => simp [ih]
  rw [this, List.map_map]
  rfl
theorem shs_size {l : List (Int × Int)} (h : Lot l) {x : Int × Int} (m : x ∈ l) : SQ 4000 (Qd x.2 (wsum l)) := by
  have h1 := h.w
  have h2 := h.v m
  have e : ((wsum l).toNat : Int) = wsum l := by omega
  have q : (2 : Nat) ^ 20 = 1048576 := by decide
  have : 2 ^ 20 ≤ 2 ^ 4000 := pow_mono (by decide)
  refine Fit.size (N := (wsum l).toNat) (B := 1000) (by omega) ⟨x.2, by rw [e], by omega⟩ (by omega) (by omega)
def mixQ (l : List (Int × Int)) (p : Rat) : List (Int × Rat) := l.map fun x => (x.1, p * Qd x.2 (wsum l))
theorem mix_lc {k : Nat} {l : List (Int × Int)} {p : Rat} (h : Lot l) (hp : SQ 4000 p) {wf : FD} {i : Nat} (hw : wf.length = 9) (h7 : wf[7]? = some none) (hi : i ≠ 7 ∧ i ≠ 8) (hv : wf[i]? = some (some (shD p))) :
    lcB (evCB (K ext (k + 3)) .nil) (evB (K ext (k + 3)) (.tup (.cons (.idx (.v 7) (.int (0))) (.cons (.cal i_times (.cons (.v i) (.cons (.v 8) .nil))) .nil)))) (bindB (.tup (.cons (.v 7) (.cons (.v 8) .nil)))) wf (zipD (l.map prD) ((shs l).map shD)) = .ok ((mixQ l p).map cpD) := by
  rw [zipD_map, shs_zip, List.map_map]
  rw [lcB_map _ (fun x : Int × Int => cpD (x.1, p * Qd x.2 (wsum l))) l fun x hx => ?_]
  · unfold mixQ
    rw [List.map_map]
    rfl
  · refine ⟨(wf.set 7 (some (prD x))).set 8 (some (shD (Qd x.2 (wsum l)))), ?_, rfl, ?_⟩
    · show ((stD 7 (prD x) wf).bind fun f => (stD 8 (shD (Qd x.2 (wsum l))) f).bind fun f => some f) = _
      simp only [stD, hw, List.length_set, if_pos (show (7 : Nat) < 9 by decide), if_pos (show (8 : Nat) < 9 by decide), Option.bind_some]
    · sizeOf_list_dec
      rw [List.getElem?_set_ne (by decide), List.getElem?_set_self (by omega), List.getElem?_set_self (by rw [List.length_set]; omega), List.getElem?_set_ne (by omega), List.getElem?_set_ne (by omega), hv]
      sizeOf_list_dec
      unfold prD
      sizeOf_list_dec
      rw [c_times hp (shs_size h hx)]
      sizeOf_list_dec
      rfl
theorem part_size {p : Rat} (h0 : 0 ≤ p) (h1 : p ≤ 1) (hd : p.den < 2 ^ 1000) : SQ 4000 p ∧ SQ 4000 (1 - p) := by
  have a := Rat.num_nonneg.mpr h0
  have b := num_le h1
  have c := den_pos p
  have : 2 ^ 1000 ≤ 2 ^ 4000 := pow_mono (by decide)
  refine ⟨⟨by omega, by omega⟩, ?_⟩
  exact Fit.size (N := p.den) (B := p.den) (by omega) ⟨p.den - p.num, subQ p, by omega⟩ (by omega) (by omega)
theorem mix_fit {l m : List (Int × Int)} {p : Rat} (hl : Lot l) (hm : Lot m) (h0 : 0 ≤ p) (h1 : p ≤ 1) (hd : p.den < 2 ^ 1000) : FitS (mixQ l p ++ mixQ m (1 - p)) := by
  have a := Rat.num_nonneg.mpr h0
  have b := num_le h1
  have c := den_pos p
  have w1 := hl.w
  have w2 := hm.w
  have l1 := hl.most
  have l2 := hm.most
  have e1 : ((wsum l).toNat : Int) = wsum l := by omega
  have e2 : ((wsum m).toNat : Int) = wsum m := by omega
  have z13 : (2 : Nat) ^ 13 = 8192 := by decide
  have z : p.den * (wsum l).toNat * (wsum m).toNat < 2 ^ (1000 + 13 + 13) := mul_lt (mul_lt hd (by omega)) (by omega)
  have zN : ((p.den * (wsum l).toNat * (wsum m).toNat : Nat) : Int) = p.den * wsum l * wsum m := by rw [Int.natCast_mul, Int.natCast_mul, e1, e2]
  have big : ∀ (y w W V : Int), 0 ≤ y → y ≤ p.den → 0 ≤ w → w ≤ 1000 → 1 ≤ V → V ≤ 8000 → (y * w * V).natAbs ≤ p.den * 8000000 := fun y w W V y0 y1 w0 w1 v0 v1 => by
    rw [Int.natAbs_mul, Int.natAbs_mul]
    have : y.natAbs * w.natAbs ≤ p.den * 1000 := Nat.mul_le_mul (by omega) (by omega)
    have := Nat.mul_le_mul this (show V.natAbs ≤ 8000 by omega)
    omega
  refine ⟨by unfold mixQ; simp only [List.length_append, List.length_map]; omega, p.den * (wsum l).toNat * (wsum m).toNat, p.den * 8000000, ?_, Nat.lt_of_lt_of_le z (pow_mono (by decide)), ?_, fun x hx => ?_⟩
  · exact Nat.mul_pos (Nat.mul_pos (by omega) (by omega)) (by omega)
  · have q : p.den * 8000000000 < 2 ^ (1000 + 40) := mul_lt hd (by decide)
    have : 2 ^ (1000 + 40) ≤ 2 ^ 4000 := pow_mono (by decide)
    omega
  · unfold mixQ at hx
    rcases List.mem_append.mp hx with hx | hx
    · obtain ⟨y, hy, rfl⟩ := List.mem_map.mp hx
      have v := hl.v hy
      refine Fit.of (x := p.num * y.2) (M := p.den * wsum l) (c := wsum m) (mulQ _ _ _) (by rw [zN]) (by omega) (big p.num y.2 0 _ (by omega) (by omega) (by omega) (by omega) (by omega) (by omega))
    · obtain ⟨y, hy, rfl⟩ := List.mem_map.mp hx
      have v := hm.v hy
      refine Fit.of (x := (p.den - p.num) * y.2) (M := p.den * wsum m) (c := wsum l) ?_ (by rw [zN, Int.mul_assoc, Int.mul_assoc, Int.mul_comm (wsum l)]) (by omega) (big (p.den - p.num) y.2 0 _ (by omega) (by omega) (by omega) (by omega) (by omega) (by omega))
      rw [subQ]
      unfold Qd
      rw [Rat.divInt_mul_divInt]
theorem c_mixed {k : Nat} {l m : List (Int × Int)} {p : Rat} (hl : Lot l) (hm : Lot m) (h0 : 0 ≤ p) (h1 : p ≤ 1) (hd : p.den < 2 ^ 1000) : (K ext (k + 5)).call i_mixed [lotD l, lotD m, shD p] = .ok (chD (chQ (mixQ l p ++ mixQ m (1 - p)))) := by
  have a := Rat.num_nonneg.mpr h0
  have b := num_le h1
  have c := den_pos p
  obtain ⟨s1, s2⟩ := part_size h0 h1 hd
  rw [callK (fi := fn_mixed) rfl rfl rfl]
  unfold fn_mixed
  sizeOf_list_dec
  rw [c_check_lot hl]
  sizeOf_list_dec
  rw [c_check_lot hm]
  sizeOf_list_dec
  rw [show shD p = .tup [.int p.num, .int p.den] from rfl, c_is_share (loops_lt s1.2 (by decide))]
  sizeOf_list_dec
  rw [decide_eq_true c, decide_eq_true a, decide_eq_true b, decide_eq_true (show Int.gcd p.num p.den = 1 from p.reduced)]
  sizeOf_list_dec
  rw [show D.tup [.int p.num, .int p.den] = shD p from rfl, shD1]
  sizeOf_list_dec
  rw [c_minus (p := 1) SQ1 s1]
  sizeOf_list_dec
  sizeOf_list_dec
  rw [c_shares_of hl.fin]
  sizeOf_list_dec
  rw [show lstD (lotD l) = some (l.map prD) from rfl]
  sizeOf_list_dec
  rw [if_pos (line_ok (by rw [zipD_map, List.length_map, List.length_zip]; have := hl.most; omega)), mix_lc hl s1 rfl rfl (by decide) rfl]
  sizeOf_list_dec
  sizeOf_list_dec
  rw [c_shares_of hm.fin]
  sizeOf_list_dec
  rw [show lstD (lotD m) = some (m.map prD) from rfl]
  sizeOf_list_dec
  rw [if_pos (line_ok (by rw [zipD_map, List.length_map, List.length_zip]; have := hm.most; omega)), mix_lc hm s2 rfl rfl (by decide) rfl]
  sizeOf_list_dec
  sizeOf_list_dec
  rw [show binB .Add (.lst ((mixQ l p).map cpD)) (.lst ((mixQ m (1 - p)).map cpD)) = .ok (chD (mixQ l p ++ mixQ m (1 - p))) from ?_]
  · sizeOf_list_dec
    rw [c_chances_of (mix_fit hl hm h0 h1 hd)]
    sizeOf_list_dec
  · simp only [binB]
    rw [if_pos (line_ok (by unfold mixQ; simp only [List.length_map]; have := hl.most; have := hm.most; omega)), ← List.map_append]
    rfl
def rowQ (x : Int × Rat) (m : List (Int × Int)) : List (Int × Rat) := m.map fun y => (x.1 + y.1, x.2 * Qd y.2 (wsum m))
def togQ (l m : List (Int × Int)) : List (Int × Rat) := (l.map fun x => rowQ (x.1, Qd x.2 (wsum l)) m).flatten
theorem tog_fit {l m : List (Int × Int)} (hl : Lot l) (hm : Lot m) : FitS (togQ l m) := by
  have w1 := hl.w
  have w2 := hm.w
  have l1 := hl.most
  have l2 := hm.most
  have e1 : ((wsum l).toNat : Int) = wsum l := by omega
  have e2 : ((wsum m).toNat : Int) = wsum m := by omega
  have z13 : (2 : Nat) ^ 13 = 8192 := by decide
  have z : (wsum l).toNat * (wsum m).toNat < 2 ^ (13 + 13) := mul_lt (by omega) (by omega)
  have zN : (((wsum l).toNat * (wsum m).toNat : Nat) : Int) = wsum l * wsum m := by rw [Int.natCast_mul, e1, e2]
  refine ⟨?_, (wsum l).toNat * (wsum m).toNat, 1000000, Nat.mul_pos (by omega) (by omega), Nat.lt_of_lt_of_le z (pow_mono (by decide)), Nat.lt_of_lt_of_le (by decide : 1000 * 1000000 < 2 ^ 40) (pow_mono (by decide)), fun x hx => ?_⟩
  · unfold togQ
    have : ∀ (q : List (Int × Int)), ((q.map fun x => rowQ (x.1, Qd x.2 (wsum l)) m).flatten).length = q.length * m.length := by
      intro q
      induction q with
      | nil => simp
      | cons y r ih => rw [List.map_cons, List.flatten_cons, List.length_append, ih, List.length_cons, Nat.succ_mul]; simp [rowQ]; omega
    rw [this]
    have := Nat.mul_le_mul l1 l2
    omega
  · unfold togQ at hx
    obtain ⟨r, hr, hx⟩ := List.mem_flatten.mp hx
    obtain ⟨y, hy, rfl⟩ := List.mem_map.mp hr
    unfold rowQ at hx
    obtain ⟨u, hu, rfl⟩ := List.mem_map.mp hx
    have v1 := hl.v hy
    have v2 := hm.v hu
    refine ⟨y.2 * u.2, ?_, ?_⟩
    · rw [zN]
      unfold Qd
      rw [← Rat.divInt_mul_divInt]
    · rw [Int.natAbs_mul]
      exact Nat.mul_le_mul (show y.2.natAbs ≤ 1000 by omega) (show u.2.natAbs ≤ 1000 by omega)
theorem flat_snoc {α β : Type} (g : α → List β) (q : List α) (x : α) : ((q ++ [x]).map g).flatten = (q.map g).flatten ++ g x := by simp
def togR (l m q : List (Int × Int)) : List (Int × Rat) := (q.map fun x => rowQ (x.1, Qd x.2 (wsum l)) m).flatten
theorem togR_len (l m q : List (Int × Int)) : (togR l m q).length = q.length * m.length := by
  unfold togR
  induction q with
  | nil => simp
  | cons y r ih => rw [List.map_cons, List.flatten_cons, List.length_append, ih, List.length_cons, Nat.succ_mul]; simp [rowQ]; omega
theorem togR_snoc (l m q : List (Int × Int)) (x : Int × Int) : togR l m (q ++ [x]) = togR l m q ++ m.map fun y => (x.1 + y.1, Qd x.2 (wsum l) * Qd y.2 (wsum m)) := by
  unfold togR
  rw [flat_snoc]
  rfl
theorem c_together {k : Nat} {l m : List (Int × Int)} (hl : Lot l) (hm : Lot m) : (K ext (k + 5)).call i_together [lotD l, lotD m] = .ok (chD (chQ (togQ l m))) := by
  have fit := tog_fit hl hm
  rw [callK (fi := fn_together) rfl rfl rfl]
  unfold fn_together
  sizeOf_list_dec
  rw [c_check_lot hl]
  sizeOf_list_dec
  rw [c_check_lot hm]
  sizeOf_list_dec
  sizeOf_list_dec
  rw [c_shares_of hl.fin]
  sizeOf_list_dec
  rw [show lstD (lotD l) = some (l.map prD) from rfl]
  sizeOf_list_dec
  rw [zipD_map, shs_zip, List.map_map]
  generalize hb : forB _ _ _ _ = rr
  obtain ⟨f', rfl, a, b, c, d, rfl⟩ := forN hb (fun q f => ∃ a b c d, f = [some (lotD l), some (lotD m), some (chD (togR l m q)), a, b, c, d]) ⟨none, none, none, none, rfl⟩ fun q x r f e mm => by
    obtain ⟨a, b, c, d, rfl⟩ := mm
    have mx : x ∈ l := by rw [← e]; simp
    have ql := togR_len l m (q ++ [x])
    have ll : (q ++ [x]).length ≤ 8 := by have := hl.most; rw [← e] at this; simp at this ⊢; omega
    have ml := hm.most
    refine ⟨[some (lotD l), some (lotD m), some (chD (togR l m q)), some (prD x), some (shD (Qd x.2 (wsum l))), c, d], rfl, ?_⟩
    sizeOf_list_dec
    rw [c_shares_of hm.fin]
    sizeOf_list_dec
    rw [show lstD (lotD m) = some (m.map prD) from rfl]
    sizeOf_list_dec
    rw [zipD_map, shs_zip, List.map_map]
    generalize hb : forB _ _ _ _ = rr
    obtain ⟨f', rfl, c, d, rfl⟩ := forN hb (fun p f => ∃ c d, f = [some (lotD l), some (lotD m), some (chD (togR l m q ++ p.map fun y => (x.1 + y.1, Qd x.2 (wsum l) * Qd y.2 (wsum m)))), some (prD x), some (shD (Qd x.2 (wsum l))), c, d]) ⟨c, d, by simp⟩ fun p y s f ep mm => by
      obtain ⟨c, d, rfl⟩ := mm
      have my : y ∈ m := by rw [← ep]; simp
      refine ⟨[some (lotD l), some (lotD m), some (chD (togR l m q ++ p.map fun y => (x.1 + y.1, Qd x.2 (wsum l) * Qd y.2 (wsum m)))), some (prD x), some (shD (Qd x.2 (wsum l))), some (prD y), some (shD (Qd y.2 (wsum m)))], rfl, ?_⟩
      rw [show ∀ z, chD z = .lst (z.map cpD) from fun _ => rfl, show prD x = .tup [.int x.1, .int x.2] from rfl, show prD y = .tup [.int y.1, .int y.2] from rfl]
      sizeOf_list_dec
      rw [c_times (shs_size hl mx) (shs_size hm my)]
      sizeOf_list_dec
      have pl : p.length ≤ 8 := by rw [← ep] at ml; simp at ml; omega
      have q1 := togR_len l m q
      have q2 := Nat.mul_le_mul (show q.length ≤ 8 by simp at ll; omega) ml
      rw [app_l (by simp; omega)]
      sizeOf_list_dec
      refine .nx ⟨some (prD y), some (shD (Qd y.2 (wsum m))), ?_⟩
      simp only [chD, List.map_append, List.map_cons, List.map_nil, List.append_assoc]
      rfl
    sizeOf_list_dec
    refine .nx ⟨some (prD x), some (shD (Qd x.2 (wsum l))), c, d, ?_⟩
    rw [togR_snoc]
  sizeOf_list_dec
  rw [show togR l m l = togQ l m from rfl, c_chances_of fit]
  sizeOf_list_dec
end
end WL

namespace WL
open PySem
local macro_rules | `(tactic| sizeOf_list_dec) => `(tactic| try simp only [eB_v, eB_non, eB_bl, eB_int, eB_str, eB_fnv, eB_bin, eB_neg, eB_cmp, eB_chn, eB_and, eB_or, eB_not, eB_ife, eB_tup, eB_lst, eB_dnew, eB_idx, eB_sli, eB_cal, eB_mk, eB_blt, eB_bm, eB_isi, eB_lc, eB_agg, eB_rev, eB_lam, eBs_nil, eBs_cons, eBI_rng, eBI_zip, eBI_enu, eBI_sq, eBC_nil, eBC_cons, xB_nil, xB_seq, xB_ret, xB_asg, xB_unp, xB_par, xB_ife, xB_whl, xB_for, xB_brk, xB_cnt, xB_rai, xB_chg, xB_cal, xB_sub, xB_aug, bindB_ok, bindB_exc, bindB_bad, asB_ok, asB_exc, asB_bad, then_nx, then_rt, then_ex, then_bk, then_ct, end_rt, end_nx, end_ex, ofO_some, ofD_some, ofF_some, and_t, and_f, or_t, or_f, ite_t, ite_f, iteS_t, iteS_f, not_b, cLt, cLe, cGt, cGe, bAdd, bSub, len_l, len_t, max2, min2, idx0, idx1, isi_list, isi_tup, isi_int, isi_nb, seq_l, seq_t, lst_l, opt0, opt1, sli_l, cut1, andB_and, orB_or, chnB_and, stD_z, stD_s, stA_nil, stA_cons, bd_v, bd_tup, bds_nil, bds_cons, wp_nil, wp_cons, ln0, ln1, ln2, ln3, ln4, ln5, ln6, ln7, ln8, ln9, ln10, ln11, ln12, ln13, ln14, ln15, ln16, app_ty, get_ty, get_k, list_l, list_t, if_true, if_false, Option.map_some, Option.bind_some, List.set_cons_zero, List.set_cons_succ, Bool.false_eq_true, List.getElem?_cons_zero, List.getElem?_cons_succ, List.map_cons, List.map_nil, List.length_cons, List.length_nil, List.cons_append, List.nil_append, List.append_nil, List.replicate_zero, List.replicate_succ, Bool.not_true, Bool.not_false, Bool.true_and, Bool.and_true, Bool.false_and, Bool.and_false, Bool.true_or, Bool.or_true, Bool.false_or, Bool.or_false, Nat.reduceAdd, Nat.reduceSub, Nat.sub_self])
section
variable {ext : Nat → Nat → List D → RB D}
def nsD (ns : List Int) : D := .lst (ns.map D.int)
theorem at_map {α : Type} (g : α → D) (l : List α) {j : Int} (h0 : 0 ≤ j) (h1 : j.toNat < l.length) : atD (l.map g) j = some (g l[j.toNat]) := by
  unfold atD ixN
  rw [List.length_map, if_pos h0, if_pos (by omega), Option.bind_some, List.getElem?_map, List.getElem?_eq_getElem h1]
  rfl
theorem pow_ok {i j : Int} (h0 : 0 ≤ j) (h1 : j ≤ 1000000) (hi : i.natAbs < 2 ^ 64) : binB .Pow (.int i) (.int j) = .ok (.int (i ^ j.toNat)) := by
  simp only [binB]
  rw [if_pos ⟨h0, h1, hi⟩]
theorem p10_18 : binB .Pow (.int 10) (.int 18) = .ok (.int 1000000000000000000) := by rw [pow_ok (by decide) (by decide) (by decide)]; rfl
theorem p10_20 : binB .Pow (.int 10) (.int 20) = .ok (.int 100000000000000000000) := by rw [pow_ok (by decide) (by decide) (by decide)]; rfl
theorem p10_40 : binB .Pow (.int 10) (.int 40) = .ok (.int 10000000000000000000000000000000000000000) := by rw [pow_ok (by decide) (by decide) (by decide)]; rfl
theorem shr_ok {i j : Int} (h0 : 0 ≤ j) : binB .RShift (.int i) (.int j) = .ok (.int (i / 2 ^ j.toNat)) := by
  simp only [binB]
  rw [if_pos h0]
def cellAt (ns : List Int) (k : Int) : Int := if h : k.toNat < ns.length then ns[k.toNat] else 0
theorem c_cell_at {k : Nat} {ns : List Int} {i : Int} (h0 : 0 ≤ i) : (K ext (k + 1)).call i__law_cell_at [nsD ns, .int i] = .ok (.int (cellAt ns i)) := by
  rw [callK (fi := fn__law_cell_at) rfl rfl rfl]
  unfold fn__law_cell_at nsD
  sizeOf_list_dec
  unfold cellAt
  by_cases h : i.toNat < ns.length
  · rw [decide_eq_true (show i < ((ns.map D.int).length : Nat) by rw [List.length_map]; omega), dif_pos h]
    sizeOf_list_dec
    rw [show idxB (.lst (ns.map D.int)) (.int i) = atD (ns.map D.int) i from rfl, at_map _ _ h0 h]
    sizeOf_list_dec
  · rw [decide_eq_false (show ¬ i < ((ns.map D.int).length : Nat) by rw [List.length_map]; omega), dif_neg h]
    sizeOf_list_dec
def primesL : List Int := [1000003, 1000033, 1000037, 1000039, 1000081, 1000099, 1000117, 1000121, 1000133, 1000151, 1000159, 1000171, 1000183, 1000187, 1000193, 1000199]
theorem c_draw {k : Nat} {c i m : Int} (hc : c.natAbs < 2 ^ 1000) (hi : i.natAbs < 2 ^ 1000) (hm : 0 < m) : ∃ v, 0 ≤ v ∧ v < m ∧ (K ext (k + 1)).call i__law_draw [.int c, .int i, .int m] = .ok (.int v) := by
  rw [callK (fi := fn__law_draw) rfl rfl rfl]
  unfold fn__law_draw
  sizeOf_list_dec
  rw [mul_ok (n := 20) hc (by decide) (by decide), mul_ok (n := 20) hi (by decide) (by decide), mod_ok (i := i) (j := 16) (by decide)]
  sizeOf_list_dec
  have j0 : 0 ≤ i % 16 := Int.emod_nonneg i (by decide)
  have j1 : i % 16 < 16 := Int.emod_lt_of_pos i (by decide)
  have jl : (i % 16).toNat < primesL.length := by show _ < 16; omega
  have e : idxB (.tup [.int 1000003, .int 1000033, .int 1000037, .int 1000039, .int 1000081, .int 1000099, .int 1000117, .int 1000121, .int 1000133, .int 1000151, .int 1000159, .int 1000171, .int 1000183, .int 1000187, .int 1000193, .int 1000199]) (.int (i % 16)) = some (.int primesL[(i % 16).toNat]) := at_map D.int primesL j0 jl
  have pos : 0 < primesL[(i % 16).toNat] := (by decide : ∀ x ∈ primesL, 0 < x) _ (List.getElem_mem jl)
  rw [e]
  sizeOf_list_dec
  rw [mod_ok pos]
  sizeOf_list_dec
  rw [mod_ok hm]
  sizeOf_list_dec
  exact ⟨_, Int.emod_nonneg _ (by omega), Int.emod_lt_of_pos _ hm, rfl⟩
theorem c_value {k : Nat} (c : Int) {i : Int} (h0 : 0 ≤ i) (h1 : i ≤ 1000) : ∃ v, 0 ≤ v ∧ v < 10000000000000000000000000000000000000000 ∧ (K ext (k + 2)).call i__law_value [.int c, .int i] = .ok (.int v) := by
  rw [callK (fi := fn__law_value) rfl rfl rfl]
  unfold fn__law_value
  sizeOf_list_dec
  rw [p10_18, p10_40]
  sizeOf_list_dec
  by_cases h : 1000000000000000000 ≤ c
  · rw [decide_eq_true h]
    sizeOf_list_dec
    rw [mod_ok (by decide)]
    sizeOf_list_dec
    rw [mul_ok (m := 2) (n := 10) (by decide) (by rw [show (2 : Nat) ^ 10 = 1024 by decide]; omega) (by decide)]
    sizeOf_list_dec
    rw [shr_ok (by omega)]
    sizeOf_list_dec
    have a0 : 0 ≤ (c - 1000000000000000000) % 10000000000000000000000000000000000000000 := Int.emod_nonneg _ (by decide)
    have a1 : (c - 1000000000000000000) % 10000000000000000000000000000000000000000 < 10000000000000000000000000000000000000000 := Int.emod_lt_of_pos _ (by decide)
    have p : (0 : Int) < 2 ^ (3 * i).toNat := Int.pow_pos (by decide)
    refine ⟨_, Int.ediv_nonneg a0 (by omega), ?_, rfl⟩
    have := Int.ediv_le_self (2 ^ (3 * i).toNat) a0
    omega
  · rw [decide_eq_false h]
    sizeOf_list_dec
    rw [p10_18]
    sizeOf_list_dec
    rw [mod_ok (by decide)]
    sizeOf_list_dec
    have a0 : 0 ≤ c % 1000000000000000000 := Int.emod_nonneg _ (by decide)
    have a1 : c % 1000000000000000000 < 1000000000000000000 := Int.emod_lt_of_pos _ (by decide)
    generalize c % 1000000000000000000 = r at *
    have q10 : (2 : Nat) ^ 10 = 1024 := by decide
    have q70 : (2 : Nat) ^ 70 = 1180591620717411303424 := by decide
    rw [mul_ok (m := 10) (n := 10) (i := 977) (by decide) (by omega) (by decide), mul_ok (m := 10) (n := 10) (i := 31) (by decide) (by omega) (by decide)]
    sizeOf_list_dec
    rw [mul_ok (m := 70) (n := 70) (by omega) (by omega) (by decide), mod_ok (i := i) (j := 9) (by decide)]
    sizeOf_list_dec
    have n1 : 0 ≤ i % 9 := Int.emod_nonneg i (by decide)
    have n2 : i % 9 < 9 := Int.emod_lt_of_pos i (by decide)
    have n3 : 0 ≤ i % 7 := Int.emod_nonneg i (by decide)
    have n4 : i % 7 < 7 := Int.emod_lt_of_pos i (by decide)
    have g10 : 2 ^ 10 ≤ 2 ^ 1000 := pow_mono (by decide)
    obtain ⟨v, v0, v1, e⟩ := c_draw (ext := ext) (k := k) (c := (r + 977 * i) * (r + 31 * i + 5)) (i := i % 9 + 1) (m := 999983) (Nat.lt_of_lt_of_le (imul_lt (m := 70) (n := 70) (by omega) (by omega)) (pow_mono (by decide))) (by omega) (by decide)
    rw [e]
    sizeOf_list_dec
    rw [mul_ok (m := 20) (n := 20) (by have : (2 : Nat) ^ 20 = 1048576 := by decide
                                       omega) (by decide) (by decide)]
    sizeOf_list_dec
    rw [mul_ok (m := 10) (n := 10) (i := 31) (by decide) (by omega) (by decide)]
    sizeOf_list_dec
    rw [mul_ok (m := 70) (n := 70) (by omega) (by omega) (by decide), mul_ok (m := 10) (n := 10) (i := 977) (by decide) (by omega) (by decide), mod_ok (i := i) (j := 7) (by decide)]
    sizeOf_list_dec
    have b1 : ((r + 31 * i) * (r + 7)).natAbs < 2 ^ 140 := imul_lt (m := 70) (n := 70) (by omega) (by omega)
    have b2 : (977 * i).natAbs < 2 ^ 140 := Nat.lt_of_lt_of_le (imul_lt (m := 10) (n := 10) (by decide) (by omega)) (pow_mono (by decide))
    obtain ⟨w, w0, w1, e⟩ := c_draw (ext := ext) (k := k) (c := (r + 31 * i) * (r + 7) + 977 * i) (i := i % 7 + 2) (m := 1000003) (Nat.lt_of_lt_of_le (iadd_lt b1 b2) (pow_mono (by decide))) (by omega) (by decide)
    rw [e]
    sizeOf_list_dec
    exact ⟨_, by omega, by omega, rfl⟩
theorem rng1 {n : Int} (h : 0 ≤ n) (h1 : n ≤ 1000000) : rngB [.int n] = some ((List.range n.toNat).map fun (i : Nat) => .int (0 + (i : Int) * 1)) := by
  simp only [rngB]
  rw [if_pos ⟨by omega, by omega⟩]
  rfl
theorem rng2 {a b : Int} (h : 0 ≤ a) (h1 : a ≤ 1000000) (h2 : 0 ≤ b) (h3 : b ≤ 1000000) : rngB [.int a, .int b] = some ((List.range (b - a).toNat).map fun (i : Nat) => .int (a + (i : Int) * 1)) := by
  simp only [rngB]
  rw [if_pos ⟨⟨by omega, by omega⟩, by omega, by omega⟩]
  rfl
/-- a table of values and weights -/
structure Inv (d : List (Int × Int)) : Prop where
  nd : (d.map (·.1)).Nodup
  ok : ∀ p ∈ d, pairOk p = true
def sortL (d : List (Int × Int)) : List (Int × Int) := (sortI (d.map (·.1))).map fun n => (n, (lk d n).getD 0)
theorem Inv.lot {d : List (Int × Int)} (h : Inv d) (h1 : 1 ≤ d.length) (h2 : d.length ≤ 8) : Lot (sortL d) := by
  unfold sortL
  refine ⟨by rw [List.length_map, sortI_len, List.length_map]; exact h1, by rw [List.length_map, sortI_len, List.length_map]; exact h2, fun p hp => ?_, ?_⟩
  · obtain ⟨n, hn, rfl⟩ := List.mem_map.mp hp
    obtain ⟨v, hv⟩ := lk_of_key (sortI_mem.mp hn)
    rw [hv]
    exact h.ok _ (lk_mem hv)
  · refine rises_of ?_
    rw [List.map_map]
    have : ((fun x : Int × Int => x.1) ∘ fun n => (n, (lk d n).getD 0)) = id := rfl
    rw [this, List.map_id]
    exact sortI_lt h.nd
/-- .. told as a list, rising -/
theorem sort_lc {C : CbB} {d : List (Int × Int)} {wf : FD} {i j : Nat} (hi : wf[i]? = some (some (.dK (d.map (enc D.int))))) (hj : j < wf.length) (hij : j ≠ i) :
    lcB (evCB C .nil) (evB C (.tup (.cons (.v j) (.cons (.idx (.v i) (.v j)) .nil)))) (bindB (.v j)) wf ((sortI (d.map (·.1))).map D.int) = .ok ((sortL d).map prD) := by
  rw [lcB_map D.int (fun n => prD (n, (lk d n).getD 0)) _ fun n hn => ?_]
  · unfold sortL
    rw [List.map_map]
    rfl
  · obtain ⟨v, hv⟩ := lk_of_key (sortI_mem.mp hn)
    refine ⟨wf.set j (some (.int n)), ?_, rfl, ?_⟩
    · show stD j _ _ = _
      unfold stD
      rw [if_pos hj]
    · sizeOf_list_dec
      rw [List.getElem?_set_self hj, List.getElem?_set_ne hij, hi]
      sizeOf_list_dec
      rw [idx_k, look_map, hv]
      sizeOf_list_dec
      rfl
end
end WL

namespace WL
open PySem
local macro_rules | `(tactic| sizeOf_list_dec) => `(tactic| try simp only [eB_v, eB_non, eB_bl, eB_int, eB_str, eB_fnv, eB_bin, eB_neg, eB_cmp, eB_chn, eB_and, eB_or, eB_not, eB_ife, eB_tup, eB_lst, eB_dnew, eB_idx, eB_sli, eB_cal, eB_mk, eB_blt, eB_bm, eB_isi, eB_lc, eB_agg, eB_rev, eB_lam, eBs_nil, eBs_cons, eBI_rng, eBI_zip, eBI_enu, eBI_sq, eBC_nil, eBC_cons, xB_nil, xB_seq, xB_ret, xB_asg, xB_unp, xB_par, xB_ife, xB_whl, xB_for, xB_brk, xB_cnt, xB_rai, xB_chg, xB_cal, xB_sub, xB_aug, bindB_ok, bindB_exc, bindB_bad, asB_ok, asB_exc, asB_bad, then_nx, then_rt, then_ex, then_bk, then_ct, end_rt, end_nx, end_ex, ofO_some, ofD_some, ofF_some, and_t, and_f, or_t, or_f, ite_t, ite_f, iteS_t, iteS_f, not_b, cLt, cLe, cGt, cGe, bAdd, bSub, len_l, len_t, max2, min2, idx0, idx1, isi_list, isi_tup, isi_int, isi_nb, seq_l, seq_t, lst_l, opt0, opt1, sli_l, cut1, andB_and, orB_or, chnB_and, stD_z, stD_s, stA_nil, stA_cons, bd_v, bd_tup, bds_nil, bds_cons, wp_nil, wp_cons, ln0, ln1, ln2, ln3, ln4, ln5, ln6, ln7, ln8, ln9, ln10, ln11, ln12, ln13, ln14, ln15, ln16, app_ty, get_ty, get_k, list_l, list_t, if_true, if_false, Option.map_some, Option.bind_some, List.set_cons_zero, List.set_cons_succ, Bool.false_eq_true, List.getElem?_cons_zero, List.getElem?_cons_succ, List.map_cons, List.map_nil, List.length_cons, List.length_nil, List.cons_append, List.nil_append, List.append_nil, List.replicate_zero, List.replicate_succ, Bool.not_true, Bool.not_false, Bool.true_and, Bool.and_true, Bool.false_and, Bool.and_false, Bool.true_or, Bool.or_true, Bool.false_or, Bool.or_false, Nat.reduceAdd, Nat.reduceSub, Nat.sub_self])
/-! ### what is refused -/
def plain : D → Bool
  | .non => true | .bl _ => true | .int _ => true | .str _ => true | .tup _ => true | .lst _ => true | .dK _ => true | .dT _ => true
  | _ => false
def isInt : D → Bool
  | .int _ => true
  | _ => false
def inRange (d : D) (lo hi : Int) : Bool := match d with
  | .int i => decide (lo ≤ i) && decide (i ≤ hi)
  | _ => false
def plain2 : D → Bool
  | .tup l => l.all plain
  | d => plain d
def pairB : D → Bool
  | .tup [a, b] => inRange a (-1000) 1000 && inRange b 1 1000
  | _ => false
def plain3 : D → Bool
  | .lst l => l.all plain2
  | d => plain d
def lotB : D → Bool
  | .lst l => decide (1 ≤ l.length) && decide (l.length ≤ 8) && l.all pairB && !((l.zip l.tail).any fun p => match p with | (.tup [.int a, _], .tup [.int b, _]) => decide (b ≤ a) | _ => false)
  | _ => false
section
variable {ext : Nat → Nat → List D → RB D}
theorem g_is_whole {k : Nat} {d : D} (h : plain d = true) : (K ext (k + 1)).call i_is_whole [d] = .ok (.bl (isInt d)) := by
  rw [callK (fi := fn_is_whole) rfl rfl rfl]
  cases d <;> first | rfl | cases h
theorem g_is_within {k : Nat} {d : D} {lo hi : Int} (h : plain d = true) : (K ext (k + 2)).call i_is_within [d, .int lo, .int hi] = .ok (.bl (inRange d lo hi)) := by
  cases d with
  | int i => exact c_is_within
  | _ =>
    first
    | (cases h; done)
    | (rw [callK (fi := fn_is_within) rfl rfl rfl]
       unfold fn_is_within
       sizeOf_list_dec
       rw [g_is_whole h]
       rfl)
theorem g_is_pair {k : Nat} {d : D} (h : plain2 d = true) : (K ext (k + 3)).call i_is_pair [d] = .ok (.bl (pairB d)) := by
  rw [callK (fi := fn_is_pair) rfl rfl rfl]
  unfold fn_is_pair
  cases d with
  | tup l =>
    have h : l.all plain = true := h
    sizeOf_list_dec
    match l, h with
    | [], _ => rfl
    | [a], _ => rfl
    | [a, b], h =>
      simp only [List.all_cons, List.all_nil, Bool.and_true, Bool.and_eq_true] at h
      rw [show cmpB .NotEq (.int (([a, b] : List D).length : Nat)) (.int 2) = some false from rfl]
      sizeOf_list_dec
      rw [g_is_within h.1, g_is_within h.2]
      sizeOf_list_dec
      rfl
    | a :: b :: c :: r, _ =>
      rw [cmp_ne (eq_int _ _), decide_eq_false (by simp only [List.length_cons]; omega)]
      rfl
  | _ => first | rfl | cases h
theorem pairB_pr : ∀ {l : List D}, l.all pairB = true → ∃ m : List (Int × Int), l = m.map prD ∧ ∀ p ∈ m, pairOk p = true
  | [], _ => ⟨[], rfl, fun p h => by cases h⟩
  | d :: r, h => by
    simp only [List.all_cons, Bool.and_eq_true] at h
    obtain ⟨m, rfl, hm⟩ := pairB_pr h.2
    have h1 := h.1
    unfold pairB at h1
    split at h1
    · next a b =>
      rw [Bool.and_eq_true] at h1
      cases a <;> first | (cases h1.1; done) | skip
      cases b <;> first | (cases h1.2; done) | skip
      next i j =>
      refine ⟨(i, j) :: m, rfl, fun p hp => ?_⟩
      rcases List.mem_cons.mp hp with e | e
      · subst e
        show ((decide (-1000 ≤ i) && decide (i ≤ 1000)) && (decide (1 ≤ j) && decide (j ≤ 1000))) = true
        have h2 := h1.1
        have h3 := h1.2
        unfold inRange at h2 h3
        rw [Bool.and_eq_true]
        exact ⟨h2, h3⟩
      · exact hm p e
    · cases h1
theorem g_check_lot {k : Nat} {d : D} (h : plain3 d = true) (hn : lotB d = false) : (K ext (k + 4)).call i_check_lot [d] = .exc x_BadLot := by
  rw [callK (fi := fn_check_lot) rfl rfl rfl]
  unfold fn_check_lot
  cases d with
  | lst l =>
    have h : l.all plain2 = true := h
    sizeOf_list_dec
    by_cases q : (1 ≤ l.length ∧ l.length ≤ 8)
    · rw [decide_eq_true (show (1 : Int) ≤ l.length by omega), decide_eq_true (show (l.length : Int) ≤ 8 by omega)]
      sizeOf_list_dec
      rw [if_pos (line_ok (by omega))]
      have e1 : lcB (evCB (K ext (k + 3)) .nil) (evB (K ext (k + 3)) (.cal i_is_pair (.cons (.v 2) .nil))) (bindB (.v 2)) [some (.lst l), none, none, none] l = .ok (l.map fun d => .bl (pairB d)) := by
        have := lcB_map (c := evCB (K ext (k + 3)) .nil) (e := evB (K ext (k + 3)) (.cal i_is_pair (.cons (.v 2) .nil))) (bt := bindB (.v 2)) (wf := [some (.lst l), none, none, none]) (fun d : D => d) (fun d => .bl (pairB d)) l fun x hx => ⟨[some (.lst l), none, some x, none], rfl, rfl, by
          sizeOf_list_dec
          rw [g_is_pair (List.all_eq_true.mp h x hx)]⟩
        rwa [List.map_id'] at this
      rw [e1]
      sizeOf_list_dec
      rw [allB]
      sizeOf_list_dec
      cases z : l.all pairB with
      | false =>
        sizeOf_list_dec
      | true =>
        sizeOf_list_dec
        obtain ⟨m, rfl, hm⟩ := pairB_pr z
        rw [List.length_map] at q
        rw [← List.map_drop, zipD_map, List.length_map, if_pos (line_ok (by rw [List.length_zip]; omega)),
          lcB_map (fun p => .tup [prD p.1, prD p.2]) (fun p : (Int × Int) × (Int × Int) => .bl (decide (p.2.1 ≤ p.1.1))) _ fun p hp => ⟨[some (.lst (m.map prD)), none, some (prD p.1), some (prD p.2)], rfl, rfl, by unfold prD; sizeOf_list_dec⟩]
        sizeOf_list_dec
        have ra : (m.zip (m.drop 1)).any (fun p => decide (p.2.1 ≤ p.1.1)) = true := by
          unfold lotB at hn
          simp only [List.length_map] at hn
          rw [decide_eq_true q.1, decide_eq_true q.2, z] at hn
          rw [← List.map_tail, List.zip_map, List.any_map] at hn
          rw [List.drop_one]
          have : ((m.zip m.tail).any ((fun p : D × D => match p with | (.tup [.int a, _], .tup [.int b, _]) => decide (b ≤ a) | _ => false) ∘ Prod.map prD prD)) = true := by
            simpa using hn
          exact this
        rw [anyB, ra]
        sizeOf_list_dec
    · have : (decide ((1 : Int) ≤ l.length) && decide ((l.length : Int) ≤ 8)) = false := by
        rw [Bool.and_eq_false_iff]
        by_cases q1 : 1 ≤ l.length
        · exact .inr (decide_eq_false (by omega))
        · exact .inl (decide_eq_false (by omega))
      rw [this]
      sizeOf_list_dec
  | _ => first | rfl | cases h
end
end WL

namespace WL
open PySem
local macro_rules | `(tactic| sizeOf_list_dec) => `(tactic| try simp only [eB_v, eB_non, eB_bl, eB_int, eB_str, eB_fnv, eB_bin, eB_neg, eB_cmp, eB_chn, eB_and, eB_or, eB_not, eB_ife, eB_tup, eB_lst, eB_dnew, eB_idx, eB_sli, eB_cal, eB_mk, eB_blt, eB_bm, eB_isi, eB_lc, eB_agg, eB_rev, eB_lam, eBs_nil, eBs_cons, eBI_rng, eBI_zip, eBI_enu, eBI_sq, eBC_nil, eBC_cons, xB_nil, xB_seq, xB_ret, xB_asg, xB_unp, xB_par, xB_ife, xB_whl, xB_for, xB_brk, xB_cnt, xB_rai, xB_chg, xB_cal, xB_sub, xB_aug, bindB_ok, bindB_exc, bindB_bad, asB_ok, asB_exc, asB_bad, then_nx, then_rt, then_ex, then_bk, then_ct, end_rt, end_nx, end_ex, ofO_some, ofD_some, ofF_some, and_t, and_f, or_t, or_f, ite_t, ite_f, iteS_t, iteS_f, not_b, cLt, cLe, cGt, cGe, bAdd, bSub, len_l, len_t, max2, min2, idx0, idx1, isi_list, isi_tup, isi_int, isi_nb, seq_l, seq_t, lst_l, opt0, opt1, sli_l, cut1, andB_and, orB_or, chnB_and, stD_z, stD_s, stA_nil, stA_cons, bd_v, bd_tup, bds_nil, bds_cons, wp_nil, wp_cons, ln0, ln1, ln2, ln3, ln4, ln5, ln6, ln7, ln8, ln9, ln10, ln11, ln12, ln13, ln14, ln15, ln16, app_ty, get_ty, get_k, list_l, list_t, if_true, if_false, Option.map_some, Option.bind_some, List.set_cons_zero, List.set_cons_succ, Bool.false_eq_true, List.getElem?_cons_zero, List.getElem?_cons_succ, List.map_cons, List.map_nil, List.length_cons, List.length_nil, List.cons_append, List.nil_append, List.append_nil, List.replicate_zero, List.replicate_succ, Bool.not_true, Bool.not_false, Bool.true_and, Bool.and_true, Bool.false_and, Bool.and_false, Bool.true_or, Bool.or_true, Bool.false_or, Bool.or_false, Nat.reduceAdd, Nat.reduceSub, Nat.sub_self])
section
variable {ext : Nat → Nat → List D → RB D}
structure NoLot (d : D) : Prop where
  pl : plain3 d = true
  no : lotB d = false
theorem g_mean {k : Nat} {d : D} (h : NoLot d) : (K ext (k + 5)).call i_mean [d] = .exc x_BadLot := by
  rw [callK (fi := fn_mean) rfl rfl rfl]
  unfold fn_mean
  sizeOf_list_dec
  rw [g_check_lot h.pl h.no]
  sizeOf_list_dec
theorem g_short {k : Nat} {d x : D} (h : NoLot d) : (K ext (k + 5)).call i_short [d, x] = .exc x_BadLot := by
  rw [callK (fi := fn_short) rfl rfl rfl]
  unfold fn_short
  sizeOf_list_dec
  rw [g_check_lot h.pl h.no]
  sizeOf_list_dec
theorem g_shortV {k : Nat} {l : List (Int × Int)} {x : D} (h : Lot l) (hx : plain x = true) (hi : isInt x = false) : (K ext (k + 5)).call i_short [lotD l, x] = .exc x_BadValue := by
  rw [callK (fi := fn_short) rfl rfl rfl]
  unfold fn_short
  sizeOf_list_dec
  rw [c_check_lot h]
  sizeOf_list_dec
  rw [g_is_whole hx, hi]
  sizeOf_list_dec
theorem g_together1 {k : Nat} {d x : D} (h : NoLot d) : (K ext (k + 5)).call i_together [d, x] = .exc x_BadLot := by
  rw [callK (fi := fn_together) rfl rfl rfl]
  unfold fn_together
  sizeOf_list_dec
  rw [g_check_lot h.pl h.no]
  sizeOf_list_dec
theorem g_together2 {k : Nat} {d : D} {l : List (Int × Int)} (hl : Lot l) (h : NoLot d) : (K ext (k + 5)).call i_together [lotD l, d] = .exc x_BadLot := by
  rw [callK (fi := fn_together) rfl rfl rfl]
  unfold fn_together
  sizeOf_list_dec
  rw [c_check_lot hl]
  sizeOf_list_dec
  rw [g_check_lot h.pl h.no]
  sizeOf_list_dec
theorem g_widened1 {k : Nat} {d x : D} (h : NoLot d) : (K ext (k + 5)).call i_widened [d, x] = .exc x_BadLot := by
  rw [callK (fi := fn_widened) rfl rfl rfl]
  unfold fn_widened
  sizeOf_list_dec
  rw [g_check_lot h.pl h.no]
  sizeOf_list_dec
theorem g_widened2 {k : Nat} {d : D} {l : List (Int × Int)} (hl : Lot l) (h : NoLot d) : (K ext (k + 5)).call i_widened [lotD l, d] = .exc x_BadLot := by
  rw [callK (fi := fn_widened) rfl rfl rfl]
  unfold fn_widened
  sizeOf_list_dec
  rw [c_check_lot hl]
  sizeOf_list_dec
  rw [g_check_lot h.pl h.no]
  sizeOf_list_dec
theorem g_mixed1 {k : Nat} {d x y : D} (h : NoLot d) : (K ext (k + 5)).call i_mixed [d, x, y] = .exc x_BadLot := by
  rw [callK (fi := fn_mixed) rfl rfl rfl]
  unfold fn_mixed
  sizeOf_list_dec
  rw [g_check_lot h.pl h.no]
  sizeOf_list_dec
theorem g_mixed2 {k : Nat} {d y : D} {l : List (Int × Int)} (hl : Lot l) (h : NoLot d) : (K ext (k + 5)).call i_mixed [lotD l, d, y] = .exc x_BadLot := by
  rw [callK (fi := fn_mixed) rfl rfl rfl]
  unfold fn_mixed
  sizeOf_list_dec
  rw [c_check_lot hl]
  sizeOf_list_dec
  rw [g_check_lot h.pl h.no]
  sizeOf_list_dec
/-- what is no part -/
def partB : D → Bool
  | .tup [.int a, .int b] => decide (0 < b) && decide (Int.gcd a b = 1) && decide (0 ≤ a) && decide (a ≤ b)
  | _ => false
def smallB : D → Prop
  | .tup [_, .int b] => b.natAbs < 2 ^ 2000
  | _ => True
theorem g_is_share {k : Nat} {d : D} (h : plain2 d = true) (hs : smallB d) : ∃ b, (K ext (k + 2)).call i_is_share [d] = .ok (.bl b) ∧ (b = true → ∃ x y, d = .tup [.int x, .int y] ∧ 0 < y ∧ Int.gcd x y = 1) := by
  by_cases q : ∃ x y, d = .tup [.int x, .int y]
  · obtain ⟨x, y, rfl⟩ := q
    refine ⟨_, c_is_share (loops_lt (show y.natAbs < 2 ^ 2000 from hs) (by decide)), fun e => ⟨x, y, rfl, ?_⟩⟩
    simpa using e
  · refine ⟨false, ?_, fun e => by cases e⟩
    rw [callK (fi := fn_is_share) rfl rfl rfl]
    unfold fn_is_share
    cases d with
    | tup l =>
      have h : l.all plain = true := h
      sizeOf_list_dec
      match l, h with
      | [], _ => rfl
      | [a], _ => rfl
      | [a, b], h =>
        simp only [List.all_cons, List.all_nil, Bool.and_true, Bool.and_eq_true] at h
        rw [show cmpB .NotEq (.int (([a, b] : List D).length : Nat)) (.int 2) = some false from rfl]
        sizeOf_list_dec
        have e1 := lcB_map (c := evCB (K ext (k + 1)) .nil) (e := evB (K ext (k + 1)) (.cal i_is_whole (.cons (.v 2) .nil))) (bt := bindB (.v 2)) (wf := [some (.tup [a, b]), none, none]) (fun d : D => d) (fun d => .bl (isInt d)) [a, b] fun x hx => ⟨[some (.tup [a, b]), none, some x], rfl, rfl, by
          sizeOf_list_dec
          rw [g_is_whole]
          rcases List.mem_cons.mp hx with e | e
          · rw [e]; exact h.1
          · rw [List.mem_singleton.mp e]; exact h.2⟩
        rw [List.map_id'] at e1
        rw [e1]
        sizeOf_list_dec
        rw [show bltLB .all [.bl (isInt a), .bl (isInt b)] = .ok (.bl (isInt a && isInt b)) from ?_]
        · have : (isInt a && isInt b) = false := by
            rw [Bool.and_eq_false_iff]
            cases a <;> first | exact .inl rfl | skip
            cases b <;> first | exact .inr rfl | skip
            exact absurd ⟨_, _, rfl⟩ q
          rw [this]
          sizeOf_list_dec
        · simp [bltLB, blsD]
      | a :: b :: c :: r, _ =>
        rw [cmp_ne (eq_int _ _), decide_eq_false (by simp only [List.length_cons]; omega)]
        rfl
    | _ => first | rfl | cases h
theorem g_mixedP {k : Nat} {d : D} {l m : List (Int × Int)} (hl : Lot l) (hm : Lot m) (h : plain2 d = true) (hs : smallB d) (hn : partB d = false) : (K ext (k + 5)).call i_mixed [lotD l, lotD m, d] = .exc x_BadPart := by
  rw [callK (fi := fn_mixed) rfl rfl rfl]
  unfold fn_mixed
  sizeOf_list_dec
  rw [c_check_lot hl]
  sizeOf_list_dec
  rw [c_check_lot hm]
  sizeOf_list_dec
  obtain ⟨b, e, hb⟩ := g_is_share (ext := ext) (k := k + 2) h hs
  rw [e]
  cases b with
  | false =>
    sizeOf_list_dec
  | true =>
    obtain ⟨x, y, rfl, h1, h2⟩ := hb rfl
    sizeOf_list_dec
    have : (decide (0 ≤ x) && decide (x ≤ y)) = false := by
      have hn : (decide (0 < y) && decide (Int.gcd x y = 1) && decide (0 ≤ x) && decide (x ≤ y)) = false := hn
      rw [decide_eq_true h1, decide_eq_true h2] at hn
      simpa using hn
    rw [this]
    sizeOf_list_dec
/-! asks -/
def dueD (j : Nat) : D := .lst ((List.range 11).map (fun i => D.bl (decide (j = i))) ++ [.bl true])
theorem due0 {k : Nat} : (K ext (k + 1)).call i__law_due_of [.int 0] = .ok (dueD 0) := by
  rw [callK (fi := fn__law_due_of) rfl rfl rfl]
  rfl
theorem due1 {k : Nat} : (K ext (k + 1)).call i__law_due_of [.int 1] = .ok (dueD 1) := by
  rw [callK (fi := fn__law_due_of) rfl rfl rfl]
  rfl
theorem due2 {k : Nat} : (K ext (k + 1)).call i__law_due_of [.int 2] = .ok (dueD 2) := by
  rw [callK (fi := fn__law_due_of) rfl rfl rfl]
  rfl
theorem kind0 {k : Nat} : (K ext (k + 2)).thkc i__law_kinds (.exc x_BadLot) = .ok (dueD 0) := rfl
theorem kind1 {k : Nat} : (K ext (k + 2)).thkc i__law_kinds (.exc x_BadValue) = .ok (dueD 1) := rfl
theorem kind2 {k : Nat} : (K ext (k + 2)).thkc i__law_kinds (.exc x_BadPart) = .ok (dueD 2) := rfl
theorem dueNe (j : Nat) : cmpB .NotEq (dueD j) (dueD j) = some false := by
  have : dueD j = .lst (((List.range 11).map (fun i => decide (j = i)) ++ [true]).map D.bl) := by
    unfold dueD
    rw [List.map_append, List.map_map]
    rfl
  rw [this, cmp_ne ((Cod.list Cod.bl).eq (by decide) _ _), decide_eq_true rfl]
  rfl
theorem thk0 {k : Nat} {b : E} {f : FD} (h : evB (lowB (K ext (k + 2))) b f = .exc x_BadLot) : evB (K ext (k + 2)) (.thk i__law_kinds b) f = .ok (dueD 0) := by
  rw [eB_thk, h, kind0]
theorem thk1 {k : Nat} {b : E} {f : FD} (h : evB (lowB (K ext (k + 2))) b f = .exc x_BadValue) : evB (K ext (k + 2)) (.thk i__law_kinds b) f = .ok (dueD 1) := by
  rw [eB_thk, h, kind1]
theorem thk2 {k : Nat} {b : E} {f : FD} (h : evB (lowB (K ext (k + 2))) b f = .exc x_BadPart) : evB (K ext (k + 2)) (.thk i__law_kinds b) f = .ok (dueD 2) := by
  rw [eB_thk, h, kind2]
/-! what the law hands in -/
def strangeL (far : Int) : List D := [.non, .str "1", .bl true, .bl false, .lst [.int 1], .tup [.int 1], .dK [], .str "", .tup [.int far]]
theorem c_strange {k : Nat} {far : Int} : (K ext (k + 1)).call i__law_strange [.int far] = .ok (.lst (strangeL far)) := by
  rw [callK (fi := fn__law_strange) rfl rfl rfl]
  rfl
theorem strange_ok {far : Int} {x : D} (h : x ∈ strangeL far) : plain x = true ∧ isInt x = false := by
  simp only [strangeL, List.mem_cons, List.not_mem_nil, or_false] at h
  rcases h with rfl | rfl | rfl | rfl | rfl | rfl | rfl | rfl | rfl <;> exact ⟨rfl, rfl⟩
theorem range_no {x : D} (h : isInt x = false) (lo hi : Int) : inRange x lo hi = false := by
  cases x <;> first | rfl | cases h
def goodL : List (Int × Int) := [(-3, 1), (-2, 2), (-1, 3), (0, 4), (1, 5), (2, 6), (3, 7), (4, 8)]
theorem good_pl : (goodL.map prD).all plain2 = true := rfl
theorem noLot_mid {A B : List D} {x : D} (hA : A.all plain2 = true) (hB : B.all plain2 = true) (hx : plain2 x = true) (hn : pairB x = false) : NoLot (.lst (A ++ [x] ++ B)) := by
  refine ⟨?_, ?_⟩
  · show (A ++ [x] ++ B).all plain2 = true
    simp only [List.all_append, hA, hB, List.all_cons, hx, List.all_nil, Bool.and_self]
  · have : (A ++ [x] ++ B).all pairB = false := by simp [List.all_append, hn]
    unfold lotB
    simp only [this, Bool.and_false, Bool.false_and]
theorem all_take {p : D → Bool} {l : List D} (h : l.all p = true) (n : Nat) : (l.take n).all p = true := List.all_eq_true.mpr fun x hx => List.all_eq_true.mp h x (List.mem_of_mem_take hx)
theorem all_drop {p : D → Bool} {l : List D} (h : l.all p = true) (n : Nat) : (l.drop n).all p = true := List.all_eq_true.mpr fun x hx => List.all_eq_true.mp h x (List.mem_of_mem_drop hx)
theorem cut_take {l : List D} {p : Int} (h : 0 ≤ p) : cutD l none (some p) = l.take p.toNat := by
  unfold cutD
  have e1 : sIx l.length 0 none = 0 := rfl
  have e2 : sIx l.length l.length (some p) = min p.toNat l.length := by
    simp only [sIx]
    rw [if_neg (by omega)]
  rw [e1, e2, List.drop_zero, Nat.sub_zero]
  by_cases q : p.toNat ≤ l.length
  · rw [Nat.min_eq_left q]
  · rw [Nat.min_eq_right (by omega), List.take_of_length_le (by omega), List.take_of_length_le (by omega)]
theorem cut_drop {l : List D} {p : Int} (h : 0 ≤ p) : cutD l (some p) none = l.drop p.toNat := by
  unfold cutD
  have e1 : sIx l.length l.length none = l.length := rfl
  have e2 : sIx l.length 0 (some p) = min p.toNat l.length := by
    simp only [sIx]
    rw [if_neg (by omega)]
  rw [e1, e2]
  by_cases q : p.toNat ≤ l.length
  · rw [Nat.min_eq_left q, List.take_of_length_le (by rw [List.length_drop]; omega)]
  · rw [Nat.min_eq_right (by omega), List.drop_eq_nil_of_le (Nat.le_refl _), List.drop_eq_nil_of_le (by omega)]
    simp
theorem add_l {a b : List D} (h : a.length + b.length ≤ 100000) : binB .Add (.lst a) (.lst b) = .ok (.lst (a ++ b)) := by
  simp only [binB]
  rw [if_pos (line_ok h)]
def bad0 : List D := [.non, .int 5, .str "lot", .tup [], .tup [prD (1, 1)], .dK [], .bl true, .lst [], .lst ((goodL ++ [(9, 1)]).map prD), .lst [.non], .lst [.lst [.int 1, .int 1]], .lst [.tup [.int 1]], .lst [.tup [.int 1, .int 1, .int 1]], .lst [.tup []]]
def noLotB (d : D) : Bool := plain3 d && !lotB d
theorem noLot_of {l : List D} (h : l.all noLotB = true) : ∀ d ∈ l, NoLot d := fun d hd => by
  have := List.all_eq_true.mp h d hd
  unfold noLotB at this
  rw [Bool.and_eq_true] at this
  exact ⟨this.1, by simpa using this.2⟩
theorem bad0_ok : ∀ d ∈ bad0, NoLot d := noLot_of (by decide +kernel)
def bad1 : List D := [.lst (goodL.map prD).reverse, lotD [(0, 1), (0, 1)], lotD [(0, 1), (0, 2)], .lst ((goodL.map prD).take 7 ++ [prD (3, 1)]), lotD [(1, 1), (0, 1)]]
theorem bad1_ok : ∀ d ∈ bad1, NoLot d := noLot_of (by decide +kernel)
theorem bad1_len {l : List D} (h : l.length ≤ 50 + ([.int 0, .int (-1), .int 0] : List D).length) : l.length + bad1.length ≤ 100000 := by
  have : bad1.length = 5 := rfl
  simp at h
  omega
theorem pl2r {x : D} {i : Int} (h : plain x = true) : plain2 (.tup [.int i, x]) = true := by
  show (plain (.int i) && (plain x && true)) = true
  rw [h]
  rfl
theorem pl2l {x : D} {i : Int} (h : plain x = true) : plain2 (.tup [x, .int i]) = true := by
  show (plain x && (plain (.int i) && true)) = true
  rw [h]
  rfl
theorem c_no_lots {k : Nat} {far p : Int} (hf : 2 ≤ far) (h0 : 0 ≤ p) (h1 : p ≤ 7) : ∃ l : List D, (∀ d ∈ l, NoLot d) ∧ (K ext (k + 2)).call i__law_no_lots [.int far, .int p] = .ok (.lst l) := by
  rw [callK (fi := fn__law_no_lots) rfl rfl rfl]
  unfold fn__law_no_lots
  sizeOf_list_dec
  rw [rng1 (by decide) (by decide)]
  sizeOf_list_dec
  rw [show lcB (evCB (K ext (k + 1)) .nil) (evB (K ext (k + 1)) (.tup (.cons (.bin .Sub (.v 7) (.int 3)) (.cons (.bin .Add (.v 7) (.int 1)) .nil)))) (bindB (.v 7)) [some (.int far), some (.int p), none, none, none, none, none, none] ((List.range (8 : Int).toNat).map fun (i : Nat) => .int (0 + (i : Int) * 1)) = .ok (goodL.map prD) from rfl]
  rw [if_pos (by decide)]
  sizeOf_list_dec
  rw [show ∀ b, binB .Add (.lst (goodL.map prD)) (.lst [b]) = .ok (.lst (goodL.map prD ++ [b])) from fun b => rfl]
  sizeOf_list_dec
  rw [show ([.non, .int 5, .str "lot", .tup [], .tup [.tup [.int 1, .int 1]], .dK [], .bl true, .lst [], .lst (goodL.map prD ++ [.tup [.int 9, .int 1]]), .lst [.non], .lst [.lst [.int 1, .int 1]], .lst [.tup [.int 1]], .lst [.tup [.int 1, .int 1, .int 1]], .lst [.tup []]] : List D) = bad0 from rfl, c_strange]
  sizeOf_list_dec
  rw [add_l (by show 9 + 4 ≤ 100000; decide)]
  sizeOf_list_dec
  have gt : ((goodL.map prD).take p.toNat).length ≤ 8 := by rw [List.length_take]; exact Nat.min_le_right _ _
  have gd : ((goodL.map prD).drop (p + 1).toNat).length ≤ 8 := by rw [List.length_drop]; exact Nat.sub_le _ _
  generalize hb : forB _ _ _ _ = rr
  obtain ⟨f', rfl, l, u, rfl, hl, ll⟩ := forN (mk := fun d : D => d) (xs := strangeL far ++ [.int 1001, .int (1000 + far), .int (-1001), .int (-1000 - far)]) ((congrArg (fun z => forB _ _ z _) (List.map_id' _)).trans hb) (fun q f => ∃ l u, f = [some (.int far), some (.int p), some (.lst (goodL.map prD)), some (.lst l), u, none, none, none] ∧ (∀ d ∈ l, NoLot d) ∧ l.length ≤ 14 + 2 * q.length) ⟨bad0, none, rfl, bad0_ok, by decide⟩ fun q x r f e mm => by
    obtain ⟨l, u, rfl, hl, ll⟩ := mm
    have ql : q.length ≤ 13 := by
      have := congrArg List.length e
      simp [strangeL] at this
      omega
    have hx : plain x = true ∧ inRange x (-1000) 1000 = false ∧ inRange x 1 1000 = false := by
      have : x ∈ strangeL far ++ [.int 1001, .int (1000 + far), .int (-1001), .int (-1000 - far)] := by rw [← e]; simp
      rcases List.mem_append.mp this with m | m
      · obtain ⟨a, b⟩ := strange_ok m
        exact ⟨a, range_no b _ _, range_no b _ _⟩
      · simp only [List.mem_cons, List.not_mem_nil, or_false] at m
        rcases m with rfl | rfl | rfl | rfl
        · exact ⟨rfl, rfl, rfl⟩
        · refine ⟨rfl, ?_, ?_⟩ <;> (simp [inRange]; omega)
        · exact ⟨rfl, rfl, rfl⟩
        · refine ⟨rfl, ?_, ?_⟩ <;> (simp [inRange]; omega)
    refine ⟨_, rfl, ?_⟩
    sizeOf_list_dec
    rw [cut_take h0, cut_drop (by omega), add_l (by simp only [List.length_cons, List.length_nil]; omega)]
    sizeOf_list_dec
    rw [add_l (by simp only [List.length_append, List.length_cons, List.length_nil]; omega)]
    sizeOf_list_dec
    rw [app_l (by omega)]
    sizeOf_list_dec
    rw [cut_take h0, cut_drop (by omega), add_l (by simp only [List.length_cons, List.length_nil]; omega)]
    sizeOf_list_dec
    rw [add_l (by simp only [List.length_append, List.length_cons, List.length_nil]; omega)]
    sizeOf_list_dec
    rw [app_l (by simp only [List.length_append, List.length_cons, List.length_nil]; omega)]
    sizeOf_list_dec
    refine .nx ⟨_, _, rfl, fun d hd => ?_, by simp only [List.length_append, List.length_cons, List.length_nil]; omega⟩
    rcases List.mem_append.mp hd with hd | hd
    · rcases List.mem_append.mp hd with hd | hd
      · exact hl d hd
      · rw [List.mem_singleton.mp hd]
        exact noLot_mid (all_take good_pl _) (all_drop good_pl _) (pl2l hx.1) (by show (inRange x (-1000) 1000 && _) = false; rw [hx.2.1]; rfl)
    · rw [List.mem_singleton.mp hd]
      exact noLot_mid (all_take good_pl _) (all_drop good_pl _) (pl2r hx.1) (by show (_ && inRange x 1 1000) = false; rw [hx.2.2, Bool.and_false])
  sizeOf_list_dec
  generalize hb : forB _ _ _ _ = rr
  obtain ⟨f', rfl, l, v, rfl, hl, ll⟩ := forN (mk := fun d : D => d) (xs := [.int 0, .int (-1), .int (-far)]) hb (fun q f => ∃ l v, f = [some (.int far), some (.int p), some (.lst (goodL.map prD)), some (.lst l), u, v, none, none] ∧ (∀ d ∈ l, NoLot d) ∧ l.length ≤ 50 + q.length) ⟨l, none, rfl, hl, by simp [strangeL] at ll; omega⟩ fun q x r f e mm => by
    obtain ⟨l, v, rfl, hl, ll⟩ := mm
    have ql : q.length ≤ 3 := by
      have := congrArg List.length e
      simp at this
      omega
    have hx : plain x = true ∧ inRange x 1 1000 = false := by
      have m : x ∈ ([.int 0, .int (-1), .int (-far)] : List D) := by rw [← e]; simp
      simp only [List.mem_cons, List.not_mem_nil, or_false] at m
      rcases m with rfl | rfl | rfl
      · exact ⟨rfl, rfl⟩
      · exact ⟨rfl, rfl⟩
      · refine ⟨rfl, ?_⟩
        simp [inRange]; omega
    refine ⟨_, rfl, ?_⟩
    sizeOf_list_dec
    rw [cut_take h0, cut_drop (by omega), add_l (by simp only [List.length_cons, List.length_nil]; omega)]
    sizeOf_list_dec
    rw [add_l (by simp only [List.length_append, List.length_cons, List.length_nil]; omega)]
    sizeOf_list_dec
    rw [app_l (by omega)]
    sizeOf_list_dec
    refine .nx ⟨_, _, rfl, fun d hd => ?_, by simp only [List.length_append, List.length_cons, List.length_nil]; omega⟩
    rcases List.mem_append.mp hd with hd | hd
    · exact hl d hd
    · rw [List.mem_singleton.mp hd]
      exact noLot_mid (all_take good_pl _) (all_drop good_pl _) (pl2r hx.1) (by show (_ && inRange x 1 1000) = false; rw [hx.2, Bool.and_false])
  sizeOf_list_dec
  rw [cut_take (by decide), add_l (by decide)]
  sizeOf_list_dec
  rw [show ([.lst (goodL.map prD).reverse, .lst [.tup [.int 0, .int 1], .tup [.int 0, .int 1]], .lst [.tup [.int 0, .int 1], .tup [.int 0, .int 2]], .lst ((goodL.map prD).take (7 : Int).toNat ++ [.tup [.int 3, .int 1]]), .lst [.tup [.int 1, .int 1], .tup [.int 0, .int 1]]] : List D) = bad1 from rfl, add_l (bad1_len ll)]
  sizeOf_list_dec
  exact ⟨_, fun d hd => (List.mem_append.mp hd).elim (hl d) (bad1_ok d), rfl⟩
theorem low_call {k : Nat} : (lowB (K ext (k + 2))).call = (K ext k).call := rfl
theorem low_cods {k np ns : Nat} {b : E} {ws : List D} : (lowB (K ext (k + 3))).cods np ns b ws = runLB (K ext k) np ns b ws := rfl
theorem runL1 {k : Nat} {b : E} {d : D} : runLB (K ext k) 1 1 b [d] = evB (K ext k) b [some d] := rfl
abbrev two : List (Int × Int) := [(0, 1), (1, 1)]
theorem two_ok : Lot two := ⟨by decide, by decide, fun p hp => (by decide : ∀ p ∈ two, pairOk p = true) p hp, by decide⟩
def partsL0 : List D := [prD (0, 2), prD (2, 4), prD (3, 2), prD (-1, 2), prD (1, 0), prD (0, 0), prD (0, -1), prD (1, -1), .tup [.int 1], .tup [.int 1, .int 2, .int 3], .lst [.int 1, .int 2]]
structure NoPart (d : D) : Prop where
  pl : plain2 d = true
  sm : smallB d
  no : partB d = false
theorem sm16 {b : Int} (h : b.natAbs < 2 ^ 4) : b.natAbs < 2 ^ 2000 := Nat.lt_of_lt_of_le h (pow_mono (by decide))
theorem parts0_ok : ∀ d ∈ partsL0, NoPart d := fun d h => by
  simp only [partsL0, List.mem_cons, List.not_mem_nil, or_false] at h
  rcases h with rfl | rfl | rfl | rfl | rfl | rfl | rfl | rfl | rfl | rfl | rfl <;> refine ⟨rfl, ?_, by decide⟩ <;> first | trivial | exact sm16 (by decide)
theorem part_l {x : D} (h : plain x = true) (hi : isInt x = false) : NoPart (.tup [x, .int 1]) := ⟨pl2l h, sm16 (by decide), by cases x <;> first | rfl | cases hi⟩
theorem part_r {x : D} (h : plain x = true) (hi : isInt x = false) : NoPart (.tup [.int 0, x]) := ⟨pl2r h, (by cases x <;> first | trivial | cases hi), (by cases x <;> first | rfl | cases hi)⟩
theorem part_s {far : Int} : ∀ x ∈ strangeL far, NoPart x := fun x h => by
  simp only [strangeL, List.mem_cons, List.not_mem_nil, or_false] at h
  rcases h with rfl | rfl | rfl | rfl | rfl | rfl | rfl | rfl | rfl <;> exact ⟨rfl, trivial, rfl⟩
theorem c_lots_right {k : Nat} {far p : Int} (hf : 2 ≤ far) (hF : far.natAbs < 2 ^ 1000) (h0 : 0 ≤ p) (h1 : p ≤ 7) : (K ext (k + 9)).call i__law_lots_right [.int far, .int p] = .ok (.bl true) := by
  rw [callK (fi := fn__law_lots_right) rfl rfl rfl]
  unfold fn__law_lots_right
  sizeOf_list_dec
  obtain ⟨l, hl, el⟩ := c_no_lots (ext := ext) (k := k + 6) hf h0 h1
  rw [el]
  sizeOf_list_dec
  rw [show D.lst [.tup [.int 0, .int 1], .tup [.int 1, .int 1]] = lotD two from rfl]
  generalize hb : forB _ _ _ _ = rr
  obtain ⟨f', rfl, u, v, rfl⟩ := forN (mk := fun d : D => d) (xs := l) ((congrArg (fun z => forB _ _ z _) (List.map_id' _)).trans hb) (fun q f => ∃ u v, f = [some (.int far), some (.int p), none, none, u, v, some (lotD two), none, none]) ⟨none, none, rfl⟩ fun q x r f e mm => by
    obtain ⟨u, v, rfl⟩ := mm
    have hx : NoLot x := hl x (by rw [← e]; simp)
    refine ⟨_, rfl, ?_⟩
    sizeOf_list_dec
    generalize hb : forB _ _ _ _ = rr
    obtain ⟨f', rfl, u, rfl⟩ := forN (mk := fun b : E => D.cod 1 1 b) (xs := [.cal i_mean (.cons (.v 0) .nil), .cal i_short (.cons (.v 0) (.cons .non .nil))]) hb (fun q f => ∃ u, f = [some (.int far), some (.int p), none, none, u, some x, some (lotD two), none, none]) ⟨u, rfl⟩ fun q b r f e mm => by
      obtain ⟨u, rfl⟩ := mm
      refine ⟨_, rfl, ?_⟩
      sizeOf_list_dec
      rw [thk0 ?_]
      · sizeOf_list_dec
        rw [due0]
        sizeOf_list_dec
        rw [dueNe]
        sizeOf_list_dec
        exact .nx ⟨_, rfl⟩
      · rw [eB_calv]
        sizeOf_list_dec
        have hb : b ∈ ([.cal i_mean (.cons (.v 0) .nil), .cal i_short (.cons (.v 0) (.cons .non .nil))] : List E) := by rw [← e]; simp
        rw [low_cods, runL1]
        rcases List.mem_cons.mp hb with e | e
        · subst e
          sizeOf_list_dec
          rw [g_mean hx]
        · rw [List.mem_singleton.mp e]
          sizeOf_list_dec
          rw [g_short hx]
    sizeOf_list_dec
    generalize hb : forB _ _ _ _ = rr
    obtain ⟨f', rfl, u, rfl⟩ := forN (mk := D.fn) (xs := [i_together, i_widened]) hb (fun q f => ∃ u, f = [some (.int far), some (.int p), none, none, u, some x, some (lotD two), none, none]) ⟨u, rfl⟩ fun q b r f e mm => by
      obtain ⟨u, rfl⟩ := mm
      refine ⟨_, rfl, ?_⟩
      have hb : b ∈ [i_together, i_widened] := by rw [← e]; simp
      sizeOf_list_dec
      rw [thk0 ?_]
      · sizeOf_list_dec
        rw [due0]
        sizeOf_list_dec
        rw [dueNe]
        sizeOf_list_dec
        rw [thk0 ?_]
        · sizeOf_list_dec
          rw [due0]
          sizeOf_list_dec
          rw [dueNe]
          sizeOf_list_dec
          exact .nx ⟨_, rfl⟩
        · rw [eB_calv]
          sizeOf_list_dec
          rw [low_call]
          rcases List.mem_cons.mp hb with e | e
          · subst e
            rw [g_together2 two_ok hx]
          · rw [List.mem_singleton.mp e, g_widened2 two_ok hx]
      · rw [eB_calv]
        sizeOf_list_dec
        rw [low_call]
        rcases List.mem_cons.mp hb with e | e
        · subst e
          rw [g_together1 hx]
        · rw [List.mem_singleton.mp e, g_widened1 hx]
    sizeOf_list_dec
    rw [thk0 (by sizeOf_list_dec; rw [low_call, g_mixed1 hx])]
    sizeOf_list_dec
    rw [due0]
    sizeOf_list_dec
    rw [dueNe]
    sizeOf_list_dec
    rw [thk0 (by sizeOf_list_dec; rw [low_call, g_mixed2 two_ok hx])]
    sizeOf_list_dec
    rw [due0]
    sizeOf_list_dec
    rw [dueNe]
    sizeOf_list_dec
    exact .nx ⟨_, _, rfl⟩
  sizeOf_list_dec
  rw [c_strange]
  sizeOf_list_dec
  generalize hb : forB _ _ _ _ = rr
  obtain ⟨f', rfl, v, rfl⟩ := forN (mk := fun d : D => d) (xs := strangeL far) ((congrArg (fun z => forB _ _ z _) (List.map_id' _)).trans hb) (fun q f => ∃ v, f = [some (.int far), some (.int p), none, none, u, v, some (lotD two), none, none]) ⟨v, rfl⟩ fun q x r f e mm => by
    obtain ⟨v, rfl⟩ := mm
    have hx := strange_ok (show x ∈ strangeL far by rw [← e]; simp)
    refine ⟨_, rfl, ?_⟩
    sizeOf_list_dec
    rw [thk1 (by sizeOf_list_dec; rw [low_call, g_shortV two_ok hx.1 hx.2])]
    sizeOf_list_dec
    rw [due1]
    sizeOf_list_dec
    rw [dueNe]
    sizeOf_list_dec
    exact .nx ⟨_, rfl⟩
  sizeOf_list_dec
  rw [show ([.tup [.int 0, .int 2], .tup [.int 2, .int 4], .tup [.int 3, .int 2], .tup [.int (-1), .int 2], .tup [.int 1, .int 0], .tup [.int 0, .int 0], .tup [.int 0, .int (-1)], .tup [.int 1, .int (-1)], .tup [.int 1], .tup [.int 1, .int 2, .int 3], .lst [.int 1, .int 2]] : List D) = partsL0 from rfl, add_l (by show 11 + 2 ≤ 100000; decide)]
  sizeOf_list_dec
  rw [c_strange]
  sizeOf_list_dec
  have fa : 2 ^ 1000 ≤ 2 ^ 2000 := pow_mono (by decide)
  generalize hb : forB _ _ _ _ = rr
  obtain ⟨f', rfl, m, w, rfl, hm, ml⟩ := forN (mk := fun d : D => d) (xs := strangeL far) ((congrArg (fun z => forB _ _ z _) (List.map_id' _)).trans hb) (fun q f => ∃ m w, f = [some (.int far), some (.int p), some (.lst m), w, u, v, some (lotD two), none, none] ∧ (∀ d ∈ m, NoPart d) ∧ m.length ≤ 13 + 3 * q.length) ⟨_, none, rfl, fun d hd => by
      rcases List.mem_append.mp hd with hd | hd
      · exact parts0_ok d hd
      · rcases List.mem_cons.mp hd with e | e
        · subst e
          refine ⟨rfl, show far.natAbs < 2 ^ 2000 by omega, ?_⟩
          show (_ && decide (far + 1 ≤ far)) = false
          rw [decide_eq_false (show ¬ far + 1 ≤ far by omega), Bool.and_false]
        · rw [List.mem_singleton.mp e]
          refine ⟨rfl, show (1 - far).natAbs < 2 ^ 2000 by omega, ?_⟩
          show (decide (0 < 1 - far) && _ && _ && _) = false
          rw [decide_eq_false (show ¬ 0 < 1 - far by omega)]
          rfl, by show 11 + 2 ≤ 13; decide⟩ fun q x r f e mm => by
    obtain ⟨m, w, rfl, hm, ml⟩ := mm
    have mx : x ∈ strangeL far := by rw [← e]; simp
    have hx := strange_ok mx
    have ql : q.length ≤ 9 := by
      have := congrArg List.length e
      simp [strangeL] at this
      omega
    refine ⟨_, rfl, ?_⟩
    sizeOf_list_dec
    rw [add_l (by simp only [List.length_cons, List.length_nil]; omega)]
    sizeOf_list_dec
    refine .nx ⟨_, _, rfl, fun d hd => ?_, by simp only [List.length_append, List.length_cons, List.length_nil]; omega⟩
    rcases List.mem_append.mp hd with hd | hd
    · exact hm d hd
    · simp only [List.mem_cons, List.not_mem_nil, or_false] at hd
      rcases hd with rfl | rfl | rfl
      · exact part_s d mx
      · exact part_l hx.1 hx.2
      · exact part_r hx.1 hx.2
  sizeOf_list_dec
  generalize hb : forB _ _ _ _ = rr
  obtain ⟨f', rfl, v, rfl⟩ := forN (mk := fun d : D => d) (xs := m) ((congrArg (fun z => forB _ _ z _) (List.map_id' _)).trans hb) (fun q f => ∃ v, f = [some (.int far), some (.int p), some (.lst m), w, u, v, some (lotD two), none, none]) ⟨v, rfl⟩ fun q x r f e mm => by
    obtain ⟨v, rfl⟩ := mm
    have hx := hm x (by rw [← e]; simp)
    refine ⟨_, rfl, ?_⟩
    sizeOf_list_dec
    rw [thk2 (by sizeOf_list_dec; rw [low_call, g_mixedP two_ok two_ok hx.pl hx.sm hx.no])]
    sizeOf_list_dec
    rw [due2]
    sizeOf_list_dec
    rw [dueNe]
    sizeOf_list_dec
    exact .nx ⟨_, rfl⟩
  sizeOf_list_dec
def lawRest : S := match fn_law.body with | .seq _ r => r | _ => .nil
abbrev endsL : List (Int × Int) := [(-1000, 1000), (1000, 1000)]
theorem ends_ok : Lot endsL := ⟨by decide, by decide, fun p hp => (by decide : ∀ p ∈ endsL, pairOk p = true) p hp, by decide⟩
abbrev KB (k : Nat) : CbB := K (fun _ _ _ => .bad) k
def isTab (r : RB D) : Bool := match r with | .ok (.ins c _) => c == c_Table | _ => false
theorem last_run : isTab ((KB 39).call i_widened [lotD [(0, 1)], lotD endsL]) = true := by decide +kernel
theorem law_run {ns : List Int} (hl : ns.length ≤ 63) : execB (KB 39) lawRest [some (nsD ns), none, none, none, none] = .rt (.bl true) := by
  unfold lawRest fn_law
  simp only
  sizeOf_list_dec
  rw [c_cell_at (by decide)]
  sizeOf_list_dec
  obtain ⟨v, v0, v1, ev⟩ := c_value (ext := fun _ _ _ => .bad) (k := 37) (cellAt ns 0) (i := 7) (by decide) (by decide)
  rw [ev]
  sizeOf_list_dec
  rw [p10_20]
  sizeOf_list_dec
  rw [mod_ok (by decide)]
  sizeOf_list_dec
  have n0 : 0 ≤ v % 100000000000000000000 := Int.emod_nonneg _ (by decide)
  have n1 : v % 100000000000000000000 < 100000000000000000000 := Int.emod_lt_of_pos _ (by decide)
  rw [div_ok (m := 10) (by decide) (by decide) (by decide)]
  sizeOf_list_dec
  rw [mod_ok (by decide)]
  sizeOf_list_dec
  have m0 : 0 ≤ v / 7 % 8 := Int.emod_nonneg _ (by decide)
  have m1 : v / 7 % 8 < 8 := Int.emod_lt_of_pos _ (by decide)
  have q70 : (2 : Nat) ^ 70 = 1180591620717411303424 := by decide
  have g70 : (2 : Nat) ^ 70 ≤ 2 ^ 1000 := pow_mono (by decide)
  generalize hb : forB _ _ _ _ = rr
  obtain ⟨f', rfl, u, rfl⟩ := forN (mk := D.int) (xs := [v / 7 % 8, 7]) hb (fun q f => ∃ u, f = [some (nsD ns), some (.int v), some (.int (2 + v % 100000000000000000000)), u, none]) ⟨none, rfl⟩ fun q x r f e mm => by
    obtain ⟨u, rfl⟩ := mm
    have hx : x ∈ [v / 7 % 8, 7] := by rw [← e]; simp
    simp at hx
    refine ⟨_, rfl, ?_⟩
    sizeOf_list_dec
    rw [c_lots_right (k := 30) (by omega) (by omega) (by omega) (by omega)]
    sizeOf_list_dec
    exact .nx ⟨_, rfl⟩
  sizeOf_list_dec
  rw [show D.lst [.tup [.int (-1000), .int 1000], .tup [.int 1000, .int 1000]] = lotD endsL from rfl]
  rw [p10_40]
  sizeOf_list_dec
  have b40 : (10000000000000000000000000000000000000000 : Int).natAbs < 2 ^ 2000 := Nat.lt_of_lt_of_le (by decide : _ < 2 ^ 150) (pow_mono (by decide))
  have b41 : (-10000000000000000000000000000000000000000 : Int).natAbs < 2 ^ 2000 := Nat.lt_of_lt_of_le (by decide : _ < 2 ^ 150) (pow_mono (by decide))
  rw [c_mean (k := 34) ends_ok, c_short (k := 34) ends_ok b40, c_short (k := 34) ends_ok b41]
  sizeOf_list_dec
  rw [show D.tup [.int 0, .int 1] = shD (meanQ endsL) from by rw [show meanQ endsL = 0 by decide +kernel]; rfl, show D.tup [.int 10000000000000000000000000000000000000000, .int 1] = shD (shortQ endsL 10000000000000000000000000000000000000000) from by rw [show shortQ endsL 10000000000000000000000000000000000000000 = Rat.divInt 10000000000000000000000000000000000000000 1 by decide +kernel]; rfl]
  rw [cmp_ne (eq_sh _ _), cmp_ne (eq_sh _ _), show shD (meanQ endsL) = shD (shortQ endsL (-10000000000000000000000000000000000000000)) from by rw [show meanQ endsL = shortQ endsL (-10000000000000000000000000000000000000000) by decide +kernel], cmp_ne (eq_sh _ _)]
  simp only [decide_true]
  sizeOf_list_dec
  have mx : chQ (mixQ endsL 0 ++ mixQ endsL (1 - 0)) = [(-1000, Rat.divInt 1 2), (1000, Rat.divInt 1 2)] := by decide +kernel
  rw [show D.tup [.int 0, .int 1] = shD 0 from rfl, c_mixed (k := 34) ends_ok ends_ok (by decide) (by decide) (Nat.lt_of_lt_of_le (by decide : (0 : Rat).den < 2 ^ 1) (pow_mono (by decide)))]
  sizeOf_list_dec
  rw [mx, show D.lst [.tup [.int (-1000), .tup [.int 1, .int 2]], .tup [.int 1000, .tup [.int 1, .int 2]]] = chD [(-1000, Rat.divInt 1 2), (1000, Rat.divInt 1 2)] from rfl, cmp_ne (Cod.ch.eq (by decide) _ _)]
  simp only [decide_true]
  sizeOf_list_dec
  have lr := last_run
  rw [show D.lst [.tup [.int 0, .int 1]] = lotD [(0, 1)] from rfl]
  generalize (KB 39).call i_widened [lotD [(0, 1)], lotD endsL] = r at *
  unfold isTab at lr
  split at lr
  · next c fs =>
    have e : c = c_Table := by simpa using lr
    subst e
    sizeOf_list_dec
    rw [show isiB (KB 39).tb (.ins c_Table fs) (.own c_Table) = some true from rfl]
    sizeOf_list_dec
  · cases lr
end
theorem mrunC0 : ∀ ns : List Int, ns.length ≤ 63 → (∃ h, callM Tl 40 i_law [.scr ns] [] = .ok (.bl true) h) ∧ ∃ h, callM Tl 40 i_law [.ref 0] [.lst (ns.map W.int)] = .ok (.bl true) h :=
  law_tree (ext := fun _ _ _ => .bad) (tokN (by decide +kernel)) (k := 39) (n := 4) (rest := lawRest) rfl (by decide +kernel) fun ns hl => law_run hl
end WL

namespace WL
open PySem PySem.Spec PyProof.Rows L2
abbrev Rw : PySem.W.OpenRow := PySem.W.OpenLaw.row PySem.Challenge.rw_widerlots_k07_refused_lots
def ds : List He.DefD := Rw.prog.main.body.flatMap defD
def Gm : Nm := nmOf Rw.prog.main.body ["table_of", "_law_of_sum"]
def Tc : Tb := tbOf Rw.prog.main.body Gm ds
def fa : List He.Fa := faOf Gm Tc
def tf : List He.Defn := Gm.mkrs.map (·.1)
abbrev hk : PySem.W.Hook := He.hookX 6 fa ds [] tf (exB Gm Tc)
def ob (s : PySem.W.SharedT) : He.AlX := He.obsX 6 fa ds [] tf (exB Gm Tc) (HandSHeadRun.getT s)
theorem ob_eq (s : PySem.W.SharedT) : ob s = hk.obs s.abs := He.obsX_eq (HandSHeadRun.getT_eq s)
def li : Nat := Rw.prog.main.body.length - 1
theorem run (w : World) : HandSHeadRun.RunEq Rw (PySem.W.view Rw.prog [li]) hk ob 20000 (looseN Rw.prog.main.body) w := by
  intro os
  kernel_rfl
theorem ds_ok : ordB Gm Tc ds = true := by decide +kernel
def lawI : Nat := ds.length - 1
end WL

namespace WL
open PySem
theorem Tc_eq : Tc = Tl := by kernel_rfl
theorem lawI_eq : lawI = i_law := by kernel_rfl
theorem mrunC : ∀ ns : List Int, ns.length ≤ 63 → (∃ h, callM Tc 40 lawI [.scr ns] [] = .ok (.bl true) h) ∧ ∃ h, callM Tc 40 lawI [.ref 0] [.lst (ns.map W.int)] = .ok (.bl true) h := by
  rw [Tc_eq, lawI_eq]
  exact mrunC0
end WL

namespace WL
open PySem PySem.Spec PyProof.Rows L2
theorem facts {P : Program} {w : World} {K : PySem.W.Frag} {h : Heap} {mg : Str → Option Value} {f : Addr} (X : K.In h) (G : h.Ns mainGlobals mg) (hfa : mg ("law" : Str) = some (.ref f)) (c : He.SaysX fa ds [] tf (exB Gm Tc) w h K) :
    ∃ fd : FuncData, (∀ (s : Shared) (v : Value), BindsTo s fd ⟨[v], []⟩ [("_law_script", v)]) ∧ ∀ base : Heap, TabsB Gm K mg base → FnOk P w K mg base L2.CX0 40 f fd ["_law_script"] (fun vs H Q (_ : XK) => spM Gm K Tc 40 lawI vs H Q fun _ _ _ => False) := by
  have S : Stat Gm Tc ds K mg := stat_of (b := Rw.prog.main.body) X G rfl rfl ds_ok c
  have hg : ds[lawI]? = some (ds.getD lawI ⟨("", none), "", "", default, [], default, [], []⟩) := by kernel_rfl
  have hF : Gm.fns[lawI]? = some (("law" : Str), (none : Option Str)) := by kernel_rfl
  have e := hfa.symm.trans (S.sta.glo lawI "law" hF)
  cases e
  obtain ⟨fd, F⟩ := S.defs _ (List.mem_of_getElem? hg)
  have hps : parN (ds.getD lawI ⟨("", none), "", "", default, [], default, [], []⟩).params = ([("_law_script" : Str)] : List Str) := by kernel_rfl
  have hpl : plainA (ds.getD lawI ⟨("", none), "", "", default, [], default, [], []⟩).params = true := by kernel_rfl
  have b := FunD.bindsA (ps := ["_law_script"]) F fun kV doc pm an cdv ct us hl => bind_plain hpl rfl hps (by decide) hl
  refine ⟨fd, fun s v => b s [v] rfl, fun base B => ?_⟩
  have Fo := fn_noexc (lev_fn (P := P) (w := w) S base B 40 hg F)
  rw [hps] at Fo
  have eA : fA Gm K lawI = He.fAd K (ds.getD lawI ⟨("", none), "", "", default, [], default, [], []⟩).at_ := fA_eq S hg
  rw [eA]
  exact Fo
end WL
open PySem PySem.W PySem.Calls PyProof.Rows
theorem PySem.Challenge.cw_widerlots_k07_refused_lots_holds : PySem.Challenge.rw_widerlots_k07_refused_lots.Holds := by
  w_on; o_law
  refine HandSHeadRun.head_any (r := WL.Rw) (q := view WL.Rw.prog [WL.li]) (H := WL.hk) (ob := WL.ob) (M := 20000) (loose := WL.looseN WL.Rw.prog.main.body) (d := HandSHeadRun.topDef WL.Rw.prog WL.li) (kwd := []) WL.ob_eq
    (by kernel_rfl) (fun s => by kernel_rfl) WL.run (by kernel_rfl) (by kernel_rfl) (by kernel_rfl) (by rfl) (by first | assumption | decide +kernel) (by decide +kernel) ⟨rfl, rfl, rfl, rfl, rfl, by decide +kernel⟩ ?hw ?hc
  case hw => w_witness2
  case hc =>
    refine WL.walk_T (l := PySem.Challenge.rw_widerlots_k07_refused_lots) (n := 63) (k := 40) (x := "_law_script") rfl (by decide) (by kernel_rfl) ⟨rfl, by decide, by decide⟩ ?F
    case F =>
      intro w mg fa h Y G hmg0
      obtain ⟨K, KX, c⟩ := Y
      have hmg : mg ("law" : PySem.Str) = some (.ref fa) := by
        have e : (HandSHeadRun.topDef WL.Rw.prog WL.li).name = ("law" : PySem.Str) := by kernel_rfl
        rw [← e]
        exact hmg0
      obtain ⟨fd, hb, hF⟩ := WL.facts (P := WL.Rw.prog) (w := w) KX G hmg c
      have at_ : ∀ p ∈ WL.Gm.mkrs.map (fun p => He.cT K p.1), ∃ d ∈ WL.tf, p = He.cT K d := fun p hp => by
        obtain ⟨d, hd, e⟩ := List.mem_map.mp hp
        exact ⟨d.1, List.mem_map.mpr ⟨d, hd, rfl⟩, e.symm⟩
      refine ⟨K, fd, WL.Gm.mkrs.map (fun p => He.cT K p.1), (fun vs H Q (_ : L2.XK) => WL.spM WL.Gm K WL.Tc 40 WL.lawI vs H Q fun _ _ _ => False), KX, ?_, ?_, ?_, hb, WL.law_spT WL.mrunC, fun base _ _ hT => hF base (fun p hp => hT _ (List.mem_map.mpr ⟨p, hp, rfl⟩))⟩
      · intro p hp
        obtain ⟨d, hd, e⟩ := at_ p hp
        rw [e]; exact c.empty d hd
      · intro p hp
        obtain ⟨d, hd, e⟩ := at_ p hp
        rw [e]; exact c.out d hd
      · intro p hp
        obtain ⟨d, hd, e⟩ := at_ p hp
        rw [e]; exact codeHd_of_K KX (c.hd d hd)

