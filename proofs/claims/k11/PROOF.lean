import PyProof.Rows.All
import Wide.All
import OpenK.AllK
import Wide.FinOn
import HandS.ForMost
import HandS.Lambda
import HandS.HeadHook4
import HandS.ForExc
import HandS.IsInst
import HandS.Wide
import HandS.SortInts
import HandS.More
import HandS.SetFor
import HandS.CallSlots
import HandS.Defaults
import HandS.HeadHook1
import HandS.HeadHook2
import HandS.SortOrd
import HandS.Style
import HandS.ExcIs
import HandS.CallLocal
import HandS.Nested
import HandS.Head2
import HandS.HeadEnd
import HandS.EndTab
import PySem.Challenge.RW_widerlots_k11_whole_handed
set_option Elab.async false
set_option linter.all false
set_option maxRecDepth 100000
set_option maxHeartbeats 0
/-! the machine: values, objects, IR, its run -/
namespace WL
open PySem
/-- built-in functions and types that are called; built-in methods; what isinstance asks -/
inductive B where
  | len | abs | max | min | sum | all | any | sorted | list | tuple | set
  deriving DecidableEq
inductive BM where
  | append | extend | remove | count | insert | pop | clear | get
  deriving DecidableEq
inductive Cl where
  | int | bool | tuple | list | str | own (c : Nat)
  deriving DecidableEq
/-- expressions, targets, what is walked, lists of these -/
inductive E where
  | bad | nil | cons (a r : E)
  | v (i : Nat) | non | bl (b : Bool) | int (i : Int) | str (s : Str) | fnv (f : Nat)
  | bin (o : Operator) (a b : E) | neg (a : E) | cmp (o : CmpOp) (a b : E) | chn (o o' : CmpOp) (a b c : E)
  | and (a b : E) | or (a b : E) | not (a : E) | ife (c a b : E)
  | tup (l : E) | lst (l : E) | dnew (t : Bool) | idx (a i : E) | sli (a lo hi : E)
  | cal (f : Nat) (l : E) | mk (c : Nat) (l : E) | mth (m : Nat) (o l : E) | blt (b : B) (l : E) | bm (m : BM) (o l : E) | fld (o : E) (f : Nat) | isi (a : E) (c : Cl) | isx (c : Nat)
  | lc (own : List Nat) (t it cond e : E) | agg (b : B) (a : E)
  | rev (a : E) | calv (i : Nat) (l : E) | lam (np ns : Nat) (b : E) | thk (g : Nat) (b : E)
  | rng (l : E) | zip (a b : E) | enu (a : E) | sq (a : E)
  deriving DecidableEq
inductive S where
  | bad | nil | seq (a r : S)
  | pas | exp (e : E) | ret (e : E) | asg (i : Nat) (e : E) | unp (t e : E) | par (is : List Nat) (es : E) | sub (o i e : E) | stf (o : E) (f : Nat) (e : E) | aug (i : Nat) (o : Operator) (e : E)
  | ife (c : E) (a b : S) | whl (c : E) (b : S) | forS (t it : E) (b : S) | brk | cnt | rai (c : Nat)
  deriving DecidableEq
inductive W where
  | non | bl (b : Bool) | int (i : Int) | str (s : Str) | tup (l : List W) | ref (n : Nat) | scr (l : List Int) | fn (f : Nat) | cod (np ns : Nat) (b : E)
inductive O where
  | lst (l : List W) | dK (l : List (Int × W)) | dT (l : List (List Int × W)) | ins (c : Nat) (fs : List (Nat × W))
abbrev Hm := List O
abbrev F := List (Option W)
inductive R (α : Type) where
  | ok (a : α) (h : Hm) | exc (c : Nat) (h : Hm) | bad
def R.bind {α β : Type} (r : R α) (f : α → Hm → R β) : R β := match r with
  | .ok a h => f a h
  | .exc c h => .exc c h
  | .bad => .bad
inductive RS where
  | nx (f : F) (h : Hm) | rt (w : W) (h : Hm) | bk (f : F) (h : Hm) | ct (f : F) (h : Hm) | ex (c : Nat) (f : F) (h : Hm) | bad
structure FnI where
  np : Nat
  ns : Nat
  body : S
/-- a def that is handed a lambda: x = e0; try: lambda() except c as i: s; return y -/
structure TkI where
  ns : Nat
  x : Nat
  e0 : E
  c : Nat
  i : Nat
  s : S
  y : Nat
structure Tb where
  fns : List FnI
  init : List (Option Nat)
  met : List (List (Option Nat))
  sub : List (List Bool)
  xsub : List (List Bool) := []
  tks : List (Option TkI) := []
/-- what a level calls: defs and makings of its own level, of one below, of two below; a def that is handed a lambda; a lambda as a value; the caught class -/
structure Cb where
  tb : Tb
  call : Nat → List W → Hm → R W
  make : Nat → List W → Hm → R W
  dcall : Nat → List W → Hm → R W := fun _ _ _ => .bad
  dmake : Nat → List W → Hm → R W := fun _ _ _ => .bad
  lcall : Nat → List W → Hm → R W := fun _ _ _ => .bad
  lmake : Nat → List W → Hm → R W := fun _ _ _ => .bad
  thkc : Nat → (Hm → R W) → Hm → R W := fun _ _ _ => .bad
  cods : Nat → Nat → E → List W → Hm → R W := fun _ _ _ _ _ => .bad
  dcods : Nat → Nat → E → List W → Hm → R W := fun _ _ _ _ _ => .bad
  lcods : Nat → Nat → E → List W → Hm → R W := fun _ _ _ _ _ => .bad
  xc : Option Nat := none
def lowC (C : Cb) : Cb := { tb := C.tb, call := C.lcall, make := C.lmake, cods := C.lcods }
/-! ### values -/
def Tb.subB (T : Tb) (c d : Nat) : Bool := ((T.sub[c]?).bind fun l => l[d]?).getD false
def Tb.subX (T : Tb) (c d : Nat) : Option Bool := (T.xsub[c]?).bind fun l => l[d]?
def Tb.metI (T : Tb) (c m : Nat) : Option Nat := (T.met[c]?).bind fun l => (l[m]?).bind id
def line : Nat := 16777216
def alloc (o : O) (h : Hm) : R W := .ok (.ref h.length) (h ++ [o])
def lstOf (w : W) (h : Hm) : Option (List W) := match w with
  | .ref n => (match h[n]? with | some (.lst l) => some l | _ => none)
  | .scr l => some (l.map W.int)
  | _ => none
def seqOf (w : W) (h : Hm) : Option (List W) := match w with
  | .tup l => some l
  | w => lstOf w h
def allO {α : Type} : List (Option α) → Option (List α)
  | [] => some []
  | none :: _ => none
  | some a :: r => (allO r).map fun l => a :: l
def toD : Nat → Hm → W → Option PyData
  | 0, _, _ => none
  | n + 1, h, w => match w with
    | .non => some .none
    | .bl b => some (.bool b)
    | .int i => some (.int i)
    | .str s => if PyData.strOk s then some (.str s) else none
    | .tup l => (allO (l.map (toD n h))).map PyData.tuple
    | .scr l => some (.list (l.map PyData.int))
    | .ref a => (match h[a]? with | some (.lst l) => (allO (l.map (toD n h))).map PyData.list | _ => none)
    | _ => none
def toDs (n : Nat) (h : Hm) (ws : List W) : Option (List PyData) := allO (ws.map (toD n h))
theorem toDs_nil (n : Nat) (h : Hm) : toDs n h [] = some [] := rfl
theorem toDs_cons (n : Nat) (h : Hm) (w : W) (r : List W) : toDs n h (w :: r) = (toD n h w).bind fun d => (toDs n h r).map fun ds => d :: ds := by
  show allO (toD n h w :: r.map (toD n h)) = _
  cases toD n h w <;> rfl
theorem toD_tup (n : Nat) (h : Hm) (l : List W) : toD (n + 1) h (.tup l) = (toDs n h l).map PyData.tuple := rfl
theorem toD_ref (n : Nat) (h : Hm) (a : Nat) : toD (n + 1) h (.ref a) = (match h[a]? with | some (.lst l) => (toDs n h l).map PyData.list | _ => none) := rfl
def deep : Nat := 20
def eqW (a b : W) (h : Hm) : Option Bool := (toD deep h a).bind fun d => (toD deep h b).map fun e => PyData.eqv d e
def flat : W → Bool
  | .non => true | .bl _ => true | .int _ => true | .str _ => true | _ => false
def eqF : W → W → Bool
  | .non, .non => true
  | .bl a, .bl b => a == b
  | .bl a, .int b => (if a then 1 else 0) == b
  | .int a, .bl b => a == (if b then 1 else 0)
  | .int a, .int b => a == b
  | .str a, .str b => a == b
  | _, _ => false
def inW (x : W) (l : List W) : Bool := l.any fun y => eqF y x
def intsOf : List W → Option (List Int)
  | [] => some []
  | .int i :: r => (intsOf r).map fun l => i :: l
  | _ :: _ => none
def prsOf : List W → Option (List (Int × Int))
  | [] => some []
  | .tup [.int i, .int j] :: r => (prsOf r).map fun l => (i, j) :: l
  | _ :: _ => none
def leP (a b : Int × Int) : Bool := decide (a.1 < b.1) || (decide (a.1 = b.1) && decide (a.2 ≤ b.2))
def insP (a : Int × Int) : List (Int × Int) → List (Int × Int)
  | [] => [a]
  | b :: r => if leP a b then a :: b :: r else b :: insP a r
def sortP : List (Int × Int) → List (Int × Int)
  | [] => []
  | a :: r => insP a (sortP r)
def prW (p : Int × Int) : W := .tup [.int p.1, .int p.2]
def remI (k : Int) : List Int → Option (List Int)
  | [] => none
  | a :: r => if a = k then some r else (remI k r).map fun l => a :: l
def bls : List W → Option (List Bool)
  | [] => some []
  | .bl i :: r => (bls r).map fun l => i :: l
  | _ :: _ => none
def ixN (n : Nat) (i : Int) : Option Nat := if 0 ≤ i then (if i < n then some i.toNat else none) else if -(n : Int) ≤ i then some (i + n).toNat else none
def atI (xs : List W) (i : Int) : Option W := (ixN xs.length i).bind fun j => xs[j]?
def sIx (n d : Nat) : Option Int → Nat
  | none => d
  | some v => if v < 0 then (v + (n : Int)).toNat else min v.toNat n
def cutW (xs : List W) (lo hi : Option Int) : List W := (xs.drop (sIx xs.length 0 lo)).take (sIx xs.length xs.length hi - sIx xs.length 0 lo)
/-! ### tables -/
def look {κ : Type} [DecidableEq κ] (l : List (κ × W)) (k : κ) : Option W := (l.find? fun p => decide (p.1 = k)).map (·.2)
def put {κ : Type} [DecidableEq κ] (l : List (κ × W)) (k : κ) (w : W) : List (κ × W) :=
  if (l.any fun p => decide (p.1 = k)) = true then l.map (fun p => if p.1 = k then (p.1, w) else p) else l ++ [(k, w)]
def putN (k : Nat) (w : W) : List (Nat × W) → List (Nat × W)
  | [] => [(k, w)]
  | (j, x) :: r => if j = k then (j, w) :: r else (j, x) :: putN k w r
/-! ### sorting -/
def insI (a : Int) : List Int → List Int
  | [] => [a]
  | b :: r => if a ≤ b then a :: b :: r else b :: insI a r
def sortI : List Int → List Int
  | [] => []
  | a :: r => insI a (sortI r)
/-! ### operators -/
def binW (o : Operator) (x y : W) (h : Hm) : R W := match o, x, y with
  | .Add, .int i, .int j => .ok (.int (i + j)) h
  | .Sub, .int i, .int j => .ok (.int (i - j)) h
  | .Mult, .int i, .int j => if i.natAbs.log2 + j.natAbs.log2 < 1000000 then .ok (.int (i * j)) h else .bad
  | .FloorDiv, .int i, .int j => if 0 < j ∧ j.natAbs.log2 < 9000 then .ok (.int (i / j)) h else .bad
  | .Mod, .int i, .int j => if 0 < j then .ok (.int (i % j)) h else .bad
  | .Pow, .int i, .int j => if 0 ≤ j ∧ j ≤ 1000000 ∧ i.natAbs < 2 ^ 64 then .ok (.int (i ^ j.toNat)) h else .bad
  | .RShift, .int i, .int j => if 0 ≤ j then .ok (.int (i / 2 ^ j.toNat)) h else .bad
  | .Add, .ref a, .ref b => (match h[a]?, h[b]? with
    | some (.lst xs), some (.lst ys) => if xs.length + ys.length ≤ line then alloc (.lst (xs ++ ys)) h else .bad
    | _, _ => .bad)
  | .Mult, .ref a, .int k => (match h[a]? with
    | some (.lst xs) => if -(2 ^ 63) ≤ k ∧ k < 2 ^ 63 ∧ xs.length * k.toNat ≤ line then alloc (.lst (List.replicate k.toNat xs).flatten) h else .bad
    | _ => .bad)
  | _, _, _ => .bad
def isNon : W → Bool
  | .non => true
  | _ => false
def cmpW (o : CmpOp) (x y : W) (h : Hm) : Option Bool := match o with
  | .Eq => eqW x y h
  | .NotEq => (eqW x y h).map fun b => !b
  | .Lt => (match x, y with | .int i, .int j => some (decide (i < j)) | _, _ => none)
  | .LtE => (match x, y with | .int i, .int j => some (decide (i ≤ j)) | _, _ => none)
  | .Gt => (match x, y with | .int i, .int j => some (decide (j < i)) | _, _ => none)
  | .GtE => (match x, y with | .int i, .int j => some (decide (j ≤ i)) | _, _ => none)
  | .Is => (match x, y with | .bl a, .bl b => some (decide (a = b)) | x, .non => some (isNon x) | _, _ => none)
  | .IsNot => (match x, y with | .bl a, .bl b => some (!decide (a = b)) | x, .non => some (!isNon x) | _, _ => none)
  | .In => (match seqOf y h with | some l => if flat x && l.all flat then some (inW x l) else none | none => none)
  | .NotIn => (match seqOf y h with | some l => if flat x && l.all flat then some (!inW x l) else none | none => none)
def idxW (x i : W) (h : Hm) : Option W := match x, i with
  | .ref a, .int k => (match h[a]? with
    | some (.lst l) => atI l k
    | some (.dK l) => look l k
    | _ => none)
  | .ref a, .tup ks => (match h[a]?, intsOf ks with
    | some (.dT l), some ks => look l ks
    | _, _ => none)
  | .tup l, .int k => atI l k
  | .scr l, .int k => atI (l.map W.int) k
  | _, _ => none
def sliW (x : W) (lo hi : Option Int) (h : Hm) : R W := match x with
  | .tup l => if sIx l.length 0 lo = 0 ∧ sIx l.length l.length hi = l.length then .bad else .ok (.tup (cutW l lo hi)) h
  | x => (match lstOf x h with | some l => alloc (.lst (cutW l lo hi)) h | none => .bad)
def sizeOk (h : Hm) (o : O) (k : R W) : R W := k
def bltL (b : B) (l : List W) (h : Hm) : R W := match b with
  | .len => .ok (.int l.length) h
  | .sum => (match intsOf l with | some ns => .ok (.int ns.sum) h | none => .bad)
  | .all => (match bls l with | some bs => .ok (.bl (bs.all id)) h | none => .bad)
  | .any => (match bls l with | some bs => .ok (.bl (bs.any id)) h | none => .bad)
  | .sorted => (match intsOf l with
    | some ns => alloc (.lst ((sortI ns).map W.int)) h
    | none => .bad)
  | .max => (match intsOf l with | some (n :: ns) => .ok (.int (ns.foldl max n)) h | _ => .bad)
  | .list => alloc (.lst l) h
  | _ => .bad
def bltW (b : B) (l : List W) (h : Hm) : R W := match b, l with
  | .abs, [.int i] => .ok (.int (if i < 0 then -i else i)) h
  | .max, [.int i, .int j] => .ok (.int (if j > i then j else i)) h
  | .min, [.int i, .int j] => .ok (.int (if j < i then j else i)) h
  | .len, [w] => (match seqOf w h with | some l => .ok (.int l.length) h | none => .bad)
  | .list, [w] => (match seqOf w h with | some l => alloc (.lst l) h | none => .bad)
  | .tuple, [w] => (match lstOf w h with | some l => .ok (.tup l) h | none => .bad)
  | .sorted, [.ref a] => (match h[a]? with
    | some (.lst l) => bltL .sorted l h
    | some (.dK l) => alloc (.lst ((sortI (l.map (·.1))).map W.int)) h
    | _ => .bad)
  | b, [.ref a] => (match h[a]? with | some (.lst l) => bltL b l h | _ => .bad)
  | _, _ => .bad
def bmW (m : BM) (x : W) (l : List W) (h : Hm) : R W := match m, x, l with
  | .append, .ref a, [w] => (match h[a]? with | some (.lst xs) => if xs.length < line then .ok .non (h.set a (.lst (xs ++ [w]))) else .bad | _ => .bad)
  | .extend, .ref a, [.ref b] => (match h[a]?, h[b]? with | some (.lst xs), some (.lst ys) => if xs.length + ys.length ≤ line then .ok .non (h.set a (.lst (xs ++ ys))) else .bad | _, _ => .bad)
  | .clear, .ref a, [] => (match h[a]? with | some (.lst _) => .ok .non (h.set a (.lst [])) | _ => .bad)
  | .count, .ref a, [.int k] => (match h[a]? with
    | some (.lst xs) => (match intsOf xs with | some ns => .ok (.int (ns.count k : Nat)) h | none => .bad)
    | _ => .bad)
  | .remove, .ref a, [.int k] => (match h[a]? with
    | some (.lst xs) => (match (intsOf xs).bind (remI k) with | some ns => .ok .non (h.set a (.lst (ns.map W.int))) | none => .bad)
    | _ => .bad)
  | .insert, .ref a, [.int i, w] => (match h[a]? with
    | some (.lst xs) => if xs.length < line ∧ 0 ≤ i ∧ i < 2 ^ 63 then .ok .non (h.set a (.lst (xs.take i.toNat ++ [w] ++ xs.drop i.toNat))) else .bad
    | _ => .bad)
  | .pop, .ref a, [] => (match h[a]? with
    | some (.lst xs) => (match xs[xs.length - 1]? with | some w => .ok w (h.set a (.lst xs.dropLast)) | none => .bad)
    | _ => .bad)
  | .get, .ref a, [.int k, d] => (match h[a]? with | some (.dK t) => .ok ((look t k).getD d) h | _ => .bad)
  | .get, .ref a, [.tup ks, d] => (match h[a]?, intsOf ks with | some (.dT t), some ks => .ok ((look t ks).getD d) h | _, _ => .bad)
  | _, _, _ => .bad
def isLstW (x : W) (h : Hm) : Bool := match x with
  | .ref a => (match h[a]? with | some (.lst _) => true | _ => false)
  | _ => false
def isDicW (x : W) (h : Hm) : Bool := match x with
  | .ref a => (match h[a]? with | some (.dK _) => true | some (.dT _) => true | _ => false)
  | _ => false
def bmTy (m : BM) (x : W) (h : Hm) : Bool := match m with
  | .get => isDicW x h
  | _ => isLstW x h
def setW (x i w : W) (h : Hm) : Option Hm := match x, i with
  | .ref a, .int k => (match h[a]? with
    | some (.lst l) => (ixN l.length k).map fun j => h.set a (.lst (l.set j w))
    | some (.dK l) => if l.length < line then some (h.set a (.dK (put l k w))) else none
    | _ => none)
  | .ref a, .tup ks => (match h[a]?, intsOf ks with
    | some (.dT l), some ks => if l.length < line then some (h.set a (.dT (put l ks w))) else none
    | _, _ => none)
  | _, _ => none
def isiW (T : Tb) (w : W) (c : Cl) (h : Hm) : Option Bool := match c with
  | .own d => (match w with
    | .ref a => (match h[a]? with | some (.ins k _) => some (T.subB k d) | _ => none)
    | _ => none)
  | c => (match w with
    | .non => some false
    | .bl _ => some (decide (c = .int) || decide (c = .bool))
    | .int _ => some (decide (c = .int))
    | .str _ => some (decide (c = .str))
    | .tup _ => some (decide (c = .tuple))
    | .scr _ => some (decide (c = .list))
    | .ref a => (match h[a]? with
      | some (.lst _) => some (decide (c = .list))
      | some (.dK _) => some false
      | some (.dT _) => some false
      | _ => none)
    | .fn _ => none
    | .cod _ _ _ => none)
/-! ### targets -/
def stV (i : Nat) (w : W) (f : F) : Option F := if i < f.length then some (f.set i (some w)) else none
mutual
def bindT : E → W → F → Option F
  | .v i, w, f => stV i w f
  | .tup l, .tup ws, f => bindTs l ws f
  | _, _, _ => none
def bindTs : E → List W → F → Option F
  | .nil, [], f => some f
  | .cons a r, w :: ws, f => (bindT a w f).bind fun f => bindTs r ws f
  | _, _, _ => none
end
/-! ### what is walked -/
inductive It where
  | seq (w : W) | rng (lo c : Int) (n : Nat) | zip (a b : W) | enu (a : W)
def It.len (t : It) (h : Hm) : Option Nat := match t with
  | .seq w => (seqOf w h).map List.length
  | .rng _ _ n => some n
  | .zip a b => (lstOf a h).bind fun l => (lstOf b h).map fun m => min l.length m.length
  | .enu a => (lstOf a h).map List.length
def It.item (t : It) (i : Nat) (h : Hm) : Option W := match t with
  | .seq w => (seqOf w h).bind fun l => l[i]?
  | .rng lo c n => if i < n then some (.int (lo + (i : Nat) * c)) else none
  | .zip a b => (lstOf a h).bind fun l => (lstOf b h).bind fun m => (l[i]?).bind fun x => (m[i]?).map fun y => .tup [x, y]
  | .enu a => (lstOf a h).bind fun l => (l[i]?).map fun x => .tup [.int i, x]
def It.stop (t : It) (i : Nat) (h : Hm) : Bool := match t.len h with
  | some n => decide (n ≤ i)
  | none => false
def forL (b : F → Hm → RS) (bt : W → F → Option F) (t : It) : Nat → Nat → F → Hm → RS
  | 0, i, f, h => if t.stop i h then .nx f h else .bad
  | m + 1, i, f, h => match (t.item i h).bind fun w => bt w f with
    | none => .bad
    | some f1 => match b f1 h with
      | .nx f2 h2 => forL b bt t m (i + 1) f2 h2
      | .ct f2 h2 => forL b bt t m (i + 1) f2 h2
      | .bk f2 h2 => .nx f2 h2
      | r => r
def whlL (c : F → Hm → R W) (b : F → Hm → RS) : Nat → F → Hm → RS
  | 0, _, _ => .bad
  | m + 1, f, h => match c f h with
    | .ok (.bl true) h1 => (match b f h1 with
      | .nx f2 h2 => whlL c b m f2 h2
      | .ct f2 h2 => whlL c b m f2 h2
      | .bk f2 h2 => .nx f2 h2
      | r => r)
    | .ok (.bl false) h1 => .nx f h1
    | .ok _ _ => .bad
    | .exc c h1 => .ex c f h1
    | .bad => .bad
def lcL (c e : F → Hm → R W) (bt : W → F → Option F) (t : It) (wf : F) : Nat → Nat → List W → Hm → R (List W)
  | 0, i, acc, h => if t.stop i h then .ok acc h else .bad
  | m + 1, i, acc, h => match (t.item i h).bind fun w => bt w wf with
    | none => .bad
    | some f1 => match c f1 h with
      | .ok (.bl true) h1 => (match e f1 h1 with
        | .ok w h2 => if acc.length < line then lcL c e bt t wf m (i + 1) (acc ++ [w]) h2 else .bad
        | _ => .bad)
      | .ok (.bl false) h1 => lcL c e bt t wf m (i + 1) acc h1
      | _ => .bad
def wipe (f : F) : List Nat → F
  | [] => f
  | v :: vs => (wipe f vs).set v none
def loops : Nat := 2 ^ 20000
def rngOf : List W → Option It
  | [.int j] => if -(2 ^ 62) ≤ j ∧ j < 2 ^ 62 then some (.rng 0 1 j.toNat) else none
  | [.int i, .int j] => if (-(2 ^ 62) ≤ i ∧ i < 2 ^ 62) ∧ -(2 ^ 62) ≤ j ∧ j < 2 ^ 62 then some (.rng i 1 (j - i).toNat) else none
  | [.int i, .int j, .int c] => if ((-(2 ^ 62) ≤ i ∧ i < 2 ^ 62) ∧ -(2 ^ 62) ≤ j ∧ j < 2 ^ 62) ∧ c = -1 then some (.rng i (-1) (i - j).toNat) else none
  | _ => none
def optI : R (List W) → R (Option Int)
  | .ok [] h => .ok none h
  | .ok [.int i] h => .ok (some i) h
  | .ok _ _ => .bad
  | .exc c h => .exc c h
  | .bad => .bad
/-! ### expressions -/
mutual
def ev (C : Cb) : E → F → Hm → R W
  | .v i, f, h => (match f[i]? with | some (some w) => .ok w h | _ => .bad)
  | .non, _, h => .ok .non h
  | .bl b, _, h => .ok (.bl b) h
  | .int i, _, h => .ok (.int i) h
  | .str s, _, h => .ok (.str s) h
  | .fnv g, _, h => .ok (.fn g) h
  | .bin o a b, f, h => (ev C a f h).bind fun x h1 => (ev C b f h1).bind fun y h2 => binW o x y h2
  | .neg a, f, h => (ev C a f h).bind fun x h1 => match x with | .int i => .ok (.int (-i)) h1 | _ => .bad
  | .cmp o a b, f, h => (ev C a f h).bind fun x h1 => (ev C b f h1).bind fun y h2 => match cmpW o x y h2 with | some c => .ok (.bl c) h2 | none => .bad
  | .chn o o' a b c, f, h => (ev C a f h).bind fun x h1 => (ev C b f h1).bind fun y h2 => match cmpW o x y h2 with
    | some true => (ev C c f h2).bind fun z h3 => (match cmpW o' y z h3 with | some c => .ok (.bl c) h3 | none => .bad)
    | some false => .ok (.bl false) h2
    | none => .bad
  | .and a b, f, h => (ev C a f h).bind fun x h1 => match x with | .bl true => ev C b f h1 | .bl false => .ok (.bl false) h1 | _ => .bad
  | .or a b, f, h => (ev C a f h).bind fun x h1 => match x with | .bl false => ev C b f h1 | .bl true => .ok (.bl true) h1 | _ => .bad
  | .not a, f, h => (ev C a f h).bind fun x h1 => match x with | .bl b => .ok (.bl (!b)) h1 | _ => .bad
  | .ife c a b, f, h => (ev C c f h).bind fun x h1 => match x with | .bl true => ev C a f h1 | .bl false => ev C b f h1 | _ => .bad
  | .tup l, f, h => (evs C l f h).bind fun ws h1 => if ws.length ≤ line then .ok (.tup ws) h1 else .bad
  | .lst l, f, h => (evs C l f h).bind fun ws h1 => if ws.length ≤ line then alloc (.lst ws) h1 else .bad
  | .dnew t, _, h => alloc (if t then .dT [] else .dK []) h
  | .idx a i, f, h => (ev C a f h).bind fun x h1 => (ev C i f h1).bind fun y h2 => match idxW x y h2 with | some w => .ok w h2 | none => .bad
  | .sli a lo hi, f, h => (ev C a f h).bind fun x h1 => (optI (evs C lo f h1)).bind fun l h2 => (optI (evs C hi f h2)).bind fun u h3 => sliW x l u h3
  | .cal g l, f, h => (evs C l f h).bind fun ws h1 => C.call g ws h1
  | .mk c l, f, h => (evs C l f h).bind fun ws h1 => C.make c ws h1
  | .mth m o l, f, h => (ev C o f h).bind fun x h1 => match x with
    | .ref a => (match h1[a]? with
      | some (.ins c fs) => (match C.tb.metI c m with
        | some g => (evs C l f h1).bind fun ws h2 => C.call g (.ref a :: ws) h2
        | none => .bad)
      | _ => .bad)
    | _ => .bad
  | .blt b l, f, h => (evs C l f h).bind fun ws h1 => bltW b ws h1
  | .bm m o l, f, h => (ev C o f h).bind fun x h1 => if bmTy m x h1 then (evs C l f h1).bind fun ws h2 => bmW m x ws h2 else .bad
  | .fld o k, f, h => (ev C o f h).bind fun x h1 => match x with
    | .ref a => (match h1[a]? with
      | some (.ins _ fs) => (match look fs k with | some w => .ok w h1 | none => .bad)
      | _ => .bad)
    | _ => .bad
  | .isi a c, f, h => (ev C a f h).bind fun x h1 => match isiW C.tb x c h1 with | some b => .ok (.bl b) h1 | none => .bad
  | .isx d, _, h => (match C.xc.bind fun c => C.tb.subX c d with | some b => .ok (.bl b) h | none => .bad)
  | .lc own t it cond e, f, h => (evI C it f h).bind fun J h1 => match J.len h1 with
    | some n => (lcL (evC C cond) (ev C e) (bindT t) J (wipe f own) n 0 [] h1).bind fun ws h2 => alloc (.lst ws) h2
    | none => .bad
  | .rev a, f, h => (ev C a f h).bind fun x h1 => match lstOf x h1 with | some l => alloc (.lst l.reverse) h1 | none => .bad
  | .calv i l, f, h => (match f[i]? with
    | some (some (.fn g)) => (evs C l f h).bind fun ws h1 => C.call g ws h1
    | some (some (.cod np ns b)) => (evs C l f h).bind fun ws h1 => C.cods np ns b ws h1
    | _ => .bad)
  | .thk g b, f, h => C.thkc g (fun h1 => ev (lowC C) b f h1) h
  | .lam np ns b, _, h => .ok (.cod np ns b) h
  | .agg b (.lc own t it cond e), f, h => (evI C it f h).bind fun J h1 => match J.len h1 with
    | some n => (lcL (evC C cond) (ev C e) (bindT t) J (wipe f own) n 0 [] h1).bind fun ws h2 => bltL b ws h2
    | none => .bad
  | _, _, _ => .bad
def evs (C : Cb) : E → F → Hm → R (List W)
  | .nil, _, h => .ok [] h
  | .cons a r, f, h => (ev C a f h).bind fun x h1 => (evs C r f h1).bind fun xs h2 => .ok (x :: xs) h2
  | _, _, _ => .bad
def evI (C : Cb) : E → F → Hm → R It
  | .rng l, f, h => (evs C l f h).bind fun ws h1 => match rngOf ws with | some J => .ok J h1 | none => .bad
  | .zip a b, f, h => (ev C a f h).bind fun x h1 => (ev C b f h1).bind fun y h2 => match lstOf x h2, lstOf y h2 with
    | some _, some _ => .ok (.zip x y) h2
    | _, _ => .bad
  | .enu a, f, h => (ev C a f h).bind fun x h1 => match lstOf x h1 with
    | some _ => .ok (.enu x) h1
    | none => .bad
  | .sq e, f, h => (ev C e f h).bind fun x h1 => match seqOf x h1 with
    | some _ => .ok (.seq x) h1
    | none => .bad
  | _, _, _ => .bad
def evC (C : Cb) : E → F → Hm → R W
  | .nil, _, h => .ok (.bl true) h
  | .cons e _, f, h => ev C e f h
  | _, _, _ => .bad
end
/-! ### statements -/
def R.asS {α : Type} (r : R α) (f : F) (k : α → Hm → RS) : RS := match r with
  | .ok a h => k a h
  | .exc c h => .ex c f h
  | .bad => .bad
def stAll : List Nat → List W → F → Option F
  | [], [], f => some f
  | i :: is, w :: ws, f => (stV i w f).bind fun f => stAll is ws f
  | _, _, _ => none
def exec (C : Cb) : S → F → Hm → RS
  | .nil, f, h => .nx f h
  | .seq a r, f, h => (match exec C a f h with
    | .nx f1 h1 => exec C r f1 h1
    | x => x)
  | .pas, f, h => .nx f h
  | .exp e, f, h => (ev C e f h).asS f fun _ h1 => .nx f h1
  | .ret e, f, h => (ev C e f h).asS f fun w h1 => .rt w h1
  | .asg i e, f, h => (ev C e f h).asS f fun w h1 => (match stV i w f with | some f1 => .nx f1 h1 | none => .bad)
  | .unp t e, f, h => (ev C e f h).asS f fun w h1 => (match bindT t w f with | some f1 => .nx f1 h1 | none => .bad)
  | .par is es, f, h => (evs C es f h).asS f fun ws h1 => (match stAll is ws f with | some f1 => .nx f1 h1 | none => .bad)
  | .sub o i e, f, h => (ev C e f h).asS f fun w h1 => (ev C o f h1).asS f fun x h2 => (ev C i f h2).asS f fun y h3 => (match setW x y w h3 with | some h4 => .nx f h4 | none => .bad)
  | .stf o k e, f, h => (ev C e f h).asS f fun w h1 => (ev C o f h1).asS f fun x h2 => (match x with
    | .ref a => (match h2[a]? with
      | some (.ins c fs) => if fs.length < 1000 then .nx f (h2.set a (.ins c (putN k w fs))) else .bad
      | _ => .bad)
    | _ => .bad)
  | .aug i o e, f, h => (match f[i]? with
    | some (some x) => (ev C e f h).asS f fun y h1 => (match o, x, y with
      | .Add, .int a, .int b => (match stV i (.int (a + b)) f with | some f1 => .nx f1 h1 | none => .bad)
      | .Sub, .int a, .int b => (match stV i (.int (a - b)) f with | some f1 => .nx f1 h1 | none => .bad)
      | _, _, _ => .bad)
    | _ => .bad)
  | .ife c a b, f, h => (ev C c f h).asS f fun w h1 => (match w with
    | .bl true => exec C a f h1
    | .bl false => exec C b f h1
    | _ => .bad)
  | .whl c b, f, h => whlL (ev C c) (exec C b) loops f h
  | .forS t it b, f, h => (evI C it f h).asS f fun J h1 => (match J.len h1 with
    | some n => forL (exec C b) (bindT t) J n 0 f h1
    | none => .bad)
  | .brk, f, h => .bk f h
  | .cnt, f, h => .ct f h
  | .rai c, f, h => .ex c f h
  | _, _, _ => .bad
def runF (C : Cb) (g : Nat) (ws : List W) (h : Hm) : R W := match C.tb.fns[g]? with
  | some fi => if ws.length = fi.np then
      (match exec C fi.body (ws.map some ++ List.replicate (fi.ns - ws.length) none) h with
      | .rt w h1 => .ok w h1
      | .nx _ h1 => .ok .non h1
      | .ex c _ h1 => .exc c h1
      | _ => .bad)
    else .bad
  | none => .bad
def mkOf (T : Tb) (call : Nat → List W → Hm → R W) (c : Nat) (us : List W) (h1 : Hm) : R W := match T.init[c]? with
  | some (some i) => (call i (.ref h1.length :: us) (h1 ++ [.ins c []])).bind fun v h2 => (match v with
    | .non => .ok (.ref h1.length) h2
    | _ => .bad)
  | some none => (match us with
    | [] => .ok (.ref h1.length) (h1 ++ [.ins c []])
    | _ => .bad)
  | _ => .bad
def xcC (C : Cb) (e : Nat) : Cb := { C with xc := some e }
def runT (C : Cb) (g : Nat) (th : Hm → R W) (h : Hm) : R W := match C.tb.tks[g]? with
  | some (some tk) =>
    (ev C tk.e0 (List.replicate tk.ns none) h).bind fun w0 h0 => (match stV tk.x w0 (List.replicate tk.ns none) with
      | some f1 => (match th h0 with
        | .ok _ h1 => (match f1[tk.y]? with | some (some w) => .ok w h1 | _ => .bad)
        | .exc e h1 => (match C.tb.subX e tk.c with
          | some true => (match exec (xcC C e) tk.s (f1.set tk.i none) h1 with
            | .nx f2 h2 => (match (f2.set tk.i none)[tk.y]? with | some (some w) => .ok w h2 | _ => .bad)
            | _ => .bad)
          | _ => .bad)
        | .bad => .bad)
      | none => .bad)
  | _ => .bad
def runL (C : Cb) (np ns : Nat) (b : E) (ws : List W) (h : Hm) : R W := if ws.length = np then ev C b (ws.map some ++ List.replicate (ns - ws.length) none) h else .bad
/-- calls and makings of a level -/
def cbM (T : Tb) : Nat → Cb
  | 0 => { tb := T, call := fun _ _ _ => .bad, make := fun _ _ _ => .bad }
  | k + 1 => { tb := T, call := runF (cbM T k), make := mkOf T (cbM T k).call, dcall := (cbM T k).call, dmake := (cbM T k).make, lcall := (cbM T k).dcall, lmake := (cbM T k).dmake, thkc := fun g th h => if k = 0 then .bad else runT (cbM T k) g th h, cods := runL (cbM T k), dcods := (cbM T k).cods, lcods := (cbM T k).dcods }
def callM (T : Tb) (k : Nat) : Nat → List W → Hm → R W := (cbM T k).call
def mkM (T : Tb) (k : Nat) : Nat → List W → Hm → R W := (cbM T k).make
theorem callM_succ (T : Tb) (k : Nat) : callM T (k + 1) = runF (cbM T k) := rfl
theorem mkM_succ (T : Tb) (k : Nat) : mkM T (k + 1) = mkOf T (callM T k) := rfl
theorem cbM_tb (T : Tb) (k : Nat) : (cbM T k).tb = T := by cases k <;> rfl
theorem lcall_eq (T : Tb) (k : Nat) : (cbM T (k + 2)).lcall = callM T k := rfl
theorem lmake_eq (T : Tb) (k : Nat) : (cbM T (k + 2)).lmake = mkM T k := rfl
theorem thkc_eq (T : Tb) (k : Nat) : (cbM T (k + 2)).thkc = runT (cbM T (k + 1)) := by
  funext g th h
  show (if k + 1 = 0 then R.bad else runT (cbM T (k + 1)) g th h) = _
  rw [if_neg (Nat.succ_ne_zero k)]
def codM (T : Tb) (k : Nat) : Nat → Nat → E → List W → Hm → R W := (cbM T k).cods
theorem codM_succ (T : Tb) (k : Nat) : codM T (k + 1) = runL (cbM T k) := rfl
theorem lcods_eq (T : Tb) (k : Nat) : (cbM T (k + 2)).lcods = codM T k := rfl
/-! ### its equations -/
theorem ev_v (C : Cb) {i} : ev C (.v i) = fun f h => (match f[i]? with | some (some w) => .ok w h | _ => .bad) := by
  funext f h; first | rfl | simp only [ev]
theorem ev_non (C : Cb)  : ev C (.non) = fun _ h => .ok .non h := by
  funext f h; first | rfl | simp only [ev]
theorem ev_bl (C : Cb) {b} : ev C (.bl b) = fun _ h => .ok (.bl b) h := by
  funext f h; first | rfl | simp only [ev]
theorem ev_int (C : Cb) {i} : ev C (.int i) = fun _ h => .ok (.int i) h := by
  funext f h; first | rfl | simp only [ev]
theorem ev_str (C : Cb) {s} : ev C (.str s) = fun _ h => .ok (.str s) h := by
  funext f h; first | rfl | simp only [ev]
theorem ev_fnv (C : Cb) {g} : ev C (.fnv g) = fun _ h => .ok (.fn g) h := by
  funext f h; first | rfl | simp only [ev]
theorem ev_bin (C : Cb) {o} {a} {b} : ev C (.bin o a b) = fun f h => (ev C a f h).bind fun x h1 => (ev C b f h1).bind fun y h2 => binW o x y h2 := by
  funext f h; first | rfl | simp only [ev]
theorem ev_neg (C : Cb) {a} : ev C (.neg a) = fun f h => (ev C a f h).bind fun x h1 => match x with | .int i => .ok (.int (-i)) h1 | _ => .bad := by
  funext f h; first | rfl | simp only [ev]
theorem ev_cmp (C : Cb) {o} {a} {b} : ev C (.cmp o a b) = fun f h => (ev C a f h).bind fun x h1 => (ev C b f h1).bind fun y h2 => match cmpW o x y h2 with | some c => .ok (.bl c) h2 | none => .bad := by
  funext f h; first | rfl | simp only [ev]
theorem ev_chn (C : Cb) {o o' : CmpOp} {a b c : E} : ev C (.chn o o' a b c) = fun f h => (ev C a f h).bind fun x h1 => (ev C b f h1).bind fun y h2 => match cmpW o x y h2 with
    | some true => (ev C c f h2).bind fun z h3 => (match cmpW o' y z h3 with | some c => .ok (.bl c) h3 | none => .bad)
    | some false => .ok (.bl false) h2
    | none => .bad := by
  funext f h; first | rfl | simp only [ev]
theorem ev_and (C : Cb) {a} {b} : ev C (.and a b) = fun f h => (ev C a f h).bind fun x h1 => match x with | .bl true => ev C b f h1 | .bl false => .ok (.bl false) h1 | _ => .bad := by
  funext f h; first | rfl | simp only [ev]
theorem ev_or (C : Cb) {a} {b} : ev C (.or a b) = fun f h => (ev C a f h).bind fun x h1 => match x with | .bl false => ev C b f h1 | .bl true => .ok (.bl true) h1 | _ => .bad := by
  funext f h; first | rfl | simp only [ev]
theorem ev_not (C : Cb) {a} : ev C (.not a) = fun f h => (ev C a f h).bind fun x h1 => match x with | .bl b => .ok (.bl (!b)) h1 | _ => .bad := by
  funext f h; first | rfl | simp only [ev]
theorem ev_ife (C : Cb) {c} {a} {b} : ev C (.ife c a b) = fun f h => (ev C c f h).bind fun x h1 => match x with | .bl true => ev C a f h1 | .bl false => ev C b f h1 | _ => .bad := by
  funext f h; first | rfl | simp only [ev]
theorem ev_tup (C : Cb) {l} : ev C (.tup l) = fun f h => (evs C l f h).bind fun ws h1 => if ws.length ≤ line then .ok (.tup ws) h1 else .bad := by
  funext f h; first | rfl | simp only [ev]
theorem ev_lst (C : Cb) {l} : ev C (.lst l) = fun f h => (evs C l f h).bind fun ws h1 => if ws.length ≤ line then alloc (.lst ws) h1 else .bad := by
  funext f h; first | rfl | simp only [ev]
theorem ev_dnew (C : Cb) {t} : ev C (.dnew t) = fun _ h => alloc (if t then .dT [] else .dK []) h := by
  funext f h; first | rfl | simp only [ev]
theorem ev_idx (C : Cb) {a} {i} : ev C (.idx a i) = fun f h => (ev C a f h).bind fun x h1 => (ev C i f h1).bind fun y h2 => match idxW x y h2 with | some w => .ok w h2 | none => .bad := by
  funext f h; first | rfl | simp only [ev]
theorem ev_sli (C : Cb) {a} {lo} {hi} : ev C (.sli a lo hi) = fun f h => (ev C a f h).bind fun x h1 => (optI (evs C lo f h1)).bind fun l h2 => (optI (evs C hi f h2)).bind fun u h3 => sliW x l u h3 := by
  funext f h; first | rfl | simp only [ev]
theorem ev_cal (C : Cb) {g} {l} : ev C (.cal g l) = fun f h => (evs C l f h).bind fun ws h1 => C.call g ws h1 := by
  funext f h; first | rfl | simp only [ev]
theorem ev_mk (C : Cb) {c} {l} : ev C (.mk c l) = fun f h => (evs C l f h).bind fun ws h1 => C.make c ws h1 := by
  funext f h; first | rfl | simp only [ev]
theorem ev_mth (C : Cb) {m} {o} {l} : ev C (.mth m o l) = fun f h => (ev C o f h).bind fun x h1 => match x with
    | .ref a => (match h1[a]? with
      | some (.ins c fs) => (match C.tb.metI c m with
        | some g => (evs C l f h1).bind fun ws h2 => C.call g (.ref a :: ws) h2
        | none => .bad)
      | _ => .bad)
    | _ => .bad := by
  funext f h; first | rfl | simp only [ev]
theorem ev_blt (C : Cb) {b} {l} : ev C (.blt b l) = fun f h => (evs C l f h).bind fun ws h1 => bltW b ws h1 := by
  funext f h; first | rfl | simp only [ev]
theorem ev_bm (C : Cb) {m} {o} {l} : ev C (.bm m o l) = fun f h => (ev C o f h).bind fun x h1 => if bmTy m x h1 then (evs C l f h1).bind fun ws h2 => bmW m x ws h2 else .bad := by
  funext f h; first | rfl | simp only [ev]
theorem ev_fld (C : Cb) {o} {k} : ev C (.fld o k) = fun f h => (ev C o f h).bind fun x h1 => match x with
    | .ref a => (match h1[a]? with
      | some (.ins _ fs) => (match look fs k with | some w => .ok w h1 | none => .bad)
      | _ => .bad)
    | _ => .bad := by
  funext f h; first | rfl | simp only [ev]
theorem ev_isi (C : Cb) {a} {c} : ev C (.isi a c) = fun f h => (ev C a f h).bind fun x h1 => match isiW C.tb x c h1 with | some b => .ok (.bl b) h1 | none => .bad := by
  funext f h; first | rfl | simp only [ev]
theorem ev_isx (C : Cb) {d} : ev C (.isx d) = fun _ h => (match C.xc.bind fun c => C.tb.subX c d with | some b => .ok (.bl b) h | none => .bad) := by
  funext f h; first | rfl | simp only [ev]
theorem ev_lc (C : Cb) {own} {t} {it} {cond} {e} : ev C (.lc own t it cond e) = fun f h => (evI C it f h).bind fun J h1 => match J.len h1 with
    | some n => (lcL (evC C cond) (ev C e) (bindT t) J (wipe f own) n 0 [] h1).bind fun ws h2 => alloc (.lst ws) h2
    | none => .bad := by
  funext f h; first | rfl | simp only [ev]
theorem ev_agg (C : Cb) {b} {own} {t} {it} {cond} {e} : ev C (.agg b (.lc own t it cond e)) = fun f h => (evI C it f h).bind fun J h1 => match J.len h1 with
    | some n => (lcL (evC C cond) (ev C e) (bindT t) J (wipe f own) n 0 [] h1).bind fun ws h2 => bltL b ws h2
    | none => .bad := by
  funext f h; first | rfl | simp only [ev]
theorem evs_nil (C : Cb) : evs C .nil = fun _ h => .ok [] h := by funext f h; rfl
theorem evs_cons (C : Cb) {a r} : evs C (.cons a r) = fun f h => (ev C a f h).bind fun x h1 => (evs C r f h1).bind fun xs h2 => .ok (x :: xs) h2 := by funext f h; rfl
theorem evI_rng (C : Cb) {l} : evI C (.rng l) = fun f h => (evs C l f h).bind fun ws h1 => match rngOf ws with | some J => .ok J h1 | none => .bad := by funext f h; rfl
theorem evI_zip (C : Cb) {a b} : evI C (.zip a b) = fun f h => (ev C a f h).bind fun x h1 => (ev C b f h1).bind fun y h2 => match lstOf x h2, lstOf y h2 with
    | some _, some _ => .ok (.zip x y) h2
    | _, _ => .bad := by funext f h; rfl
theorem evI_enu (C : Cb) {a} : evI C (.enu a) = fun f h => (ev C a f h).bind fun x h1 => match lstOf x h1 with
    | some _ => .ok (.enu x) h1
    | none => .bad := by funext f h; rfl
theorem evI_sq (C : Cb) {e : E} : evI C (.sq e) = fun f h => (ev C e f h).bind fun x h1 => match seqOf x h1 with
    | some _ => .ok (.seq x) h1
    | none => .bad := by funext f h; rfl
theorem evC_nil (C : Cb) : evC C .nil = fun _ h => .ok (.bl true) h := by funext f h; rfl
theorem evC_e (C : Cb) {e r : E} : evC C (.cons e r) = ev C e := by funext f h; rfl
theorem ev_rev (C : Cb) {a} : ev C (.rev a) = fun f h => (ev C a f h).bind fun x h1 => match lstOf x h1 with | some l => alloc (.lst l.reverse) h1 | none => .bad := by
  funext f h; first | rfl | simp only [ev]
theorem ev_calv (C : Cb) {i} {l} : ev C (.calv i l) = fun f h => (match f[i]? with
    | some (some (.fn g)) => (evs C l f h).bind fun ws h1 => C.call g ws h1
    | some (some (.cod np ns b)) => (evs C l f h).bind fun ws h1 => C.cods np ns b ws h1
    | _ => .bad) := by
  funext f h; first | rfl | simp only [ev]
theorem ev_thk (C : Cb) {g} {b} : ev C (.thk g b) = fun f h => C.thkc g (fun h1 => ev (lowC C) b f h1) h := by funext f h; rfl
theorem ev_lam (C : Cb) {np ns} {b : E} : ev C (.lam np ns b) = fun _ h => .ok (.cod np ns b) h := by funext f h; rfl
theorem ev_bad (C : Cb) : ev C .bad = fun _ _ => .bad := by funext f h; rfl
end WL

/-! from the text to the IR -/
namespace WL
open PySem
/-- a lambda that captures nothing: its parameters, body, scope, qualified name -/
structure LamT where
  params : Arguments
  body : Expr
  scope : Scope
  qual : Str
/-- the names of a program: its defs and methods, its own classes, fields, methods' names, whole constants; the defs whose {} has tuples as keys -/
structure Nm where
  fns : List (Str × Option Str)
  cls : List Str
  exs : List Str
  flds : List Str
  mets : List Str
  consts : List (Str × Int)
  mkrs : List ((Str × Option Str) × Str) := []
  tds : List Str := []
def idxS (x : Str) : List Str → Option Nat
  | [] => none
  | y :: r => if y = x then some 0 else (idxS x r).map (· + 1)
def idxF (x : Str) : List (Str × Option Str) → Option Nat
  | [] => none
  | (y, none) :: r => if y = x then some 0 else (idxF x r).map (· + 1)
  | (_, some _) :: r => (idxF x r).map (· + 1)
/-- where one stands: names by slot, the scope, {} with tuple keys, whether lambdas are made here -/
structure Sx where
  N : List Str
  sc : Scope
  tsc : Scope
  td : Bool
  ml : Bool
def plainN (x : Str) : Bool := !(x == ("__debug__" : Str)) && !(x == ("__classdict__" : Str)) && !(x == ("__name__" : Str))
def visB (sc : Scope) (x : Str) : Bool := match sc.names.lookup x with
  | some .local => true
  | some .cell => true
  | some .free => true
  | _ => false
def locB (sc : Scope) (x : Str) : Bool := match sc.names.lookup x with
  | some .local => true
  | some .cell => true
  | _ => false
def glB (sc : Scope) (x : Str) : Bool := match sc.names.lookup x with
  | some .globalImplicit => true
  | _ => false
def noStar : Expr → Bool
  | .Starred _ _ => false
  | _ => true
def noSuper : Expr → Bool
  | .Call (.Name x _) [] [] _ => !(x == ("super" : Str))
  | _ => true
def noSet : Expr → Bool
  | .Set _ _ _ => false
  | _ => true
def noSlice : Expr → Bool
  | .Slice _ _ _ _ => false
  | _ => true
def noIf : Expr → Bool
  | .IfExp _ _ _ _ => false
  | _ => true
def noComp : Expr → Bool
  | .ListComp _ _ _ _ => false
  | .SetComp _ _ _ _ => false
  | .DictComp _ _ _ _ _ => false
  | _ => true
def ownOf (N : List Str) (scope : Scope) : List (Str × Nat) := scope.names.filterMap fun y => match y.2 with
  | .local => (idxS y.1 N).map fun i => (y.1, i)
  | .cell => (idxS y.1 N).map fun i => (y.1, i)
  | _ => none
def bltNm : B → Str
  | .len => "len" | .abs => "abs" | .max => "max" | .min => "min" | .sum => "sum" | .all => "all" | .any => "any" | .sorted => "sorted" | .list => "list" | .tuple => "tuple" | .set => "set"
def findN {α : Type} (nm : α → Str) (x : Str) : List α → Option α
  | [] => none
  | a :: r => if nm a = x then some a else findN nm x r
theorem findN_eq {α : Type} {nm : α → Str} {x : Str} : ∀ {l : List α} {a : α}, findN nm x l = some a → nm a = x ∧ a ∈ l
  | [], _, h => by cases h
  | b :: r, a, h => by
    unfold findN at h
    split at h
    · cases h; exact ⟨by assumption, List.mem_cons_self⟩
    · obtain ⟨h1, h2⟩ := findN_eq h; exact ⟨h1, List.mem_cons_of_mem _ h2⟩
def bltOf (x : Str) : Option B := findN bltNm x [.len, .abs, .max, .min, .sum, .all, .any, .sorted, .list, .tuple]
def bmNm : BM → Str
  | .append => "append" | .extend => "extend" | .remove => "remove" | .count => "count" | .insert => "insert" | .pop => "pop" | .clear => "clear" | .get => "get"
def bmOf (x : Str) : Option BM := findN bmNm x [.append, .extend, .clear, .get, .count, .remove, .insert, .pop]
/-- the slots that a target stores -/
def slotsT : E → List Nat
  | .v i => [i]
  | .tup l => slotsT l
  | .cons a r => slotsT a ++ slotsT r
  | _ => []
def clOf (G : Nm) (x : Str) : Option Cl :=
  if x = "int" then some .int else if x = "bool" then some .bool else if x = "tuple" then some .tuple else if x = "list" then some .list else if x = "str" then some .str
  else (idxS x G.cls).map Cl.own
def listE : List E → E
  | [] => .nil
  | a :: r => .cons a (listE r)
def andE : List E → E
  | [] => .bad
  | [a] => a
  | a :: r => .and a (andE r)
def orE : List E → E
  | [] => .bad
  | [a] => a
  | a :: r => .or a (orE r)
def seqS : List S → S
  | [] => .nil
  | a :: r => .seq a (seqS r)
/-- a target of a for, a comprehension, an assignment -/
def compT (s : Sx) : Nat → Expr → E
  | 0, _ => .bad
  | n + 1, e => match e with
    | .Name x _ => if locB s.tsc x && plainN x then (match idxS x s.N with | some i => .v i | none => .bad) else .bad
    | .Tuple ts _ _ => if ts.all noStar then .tup (listE (ts.map (compT s n))) else .bad
    | _ => .bad
def aggOk : B → Bool
  | .sum => true | .all => true | .any => true | _ => false
/-- what is walked -/
def compI (ce : Expr → E) (s : Sx) (tg iter : Expr) : E := match iter with
  | .Call (.Name x p) args [] q => if !(plainN x && glB s.sc x && args.all noStar) then .bad else
    if x = "range" then (if decide (1 ≤ args.length) && decide (args.length ≤ 3) then .rng (listE (args.map ce)) else .bad)
    else if x = "zip" then (match args, tg with
      | [a, b], .Tuple _ _ _ => .zip (ce a) (ce b)
      | _, _ => .bad)
    else if x = "enumerate" then (match args, tg with
      | [a], .Tuple _ _ _ => .enu (ce a)
      | _, _ => .bad)
    else .sq (ce iter)
  | _ => .sq (ce iter)
/-- a list comprehension -/
def blkX (s : Sx) (scope : Scope) : Sx := ⟨s.N, L2.relS scope s.sc, scope, s.td, s.ml⟩
def compL (ce : Sx → Expr → E) (n : Nat) (s : Sx) (elt tg iter : Expr) (ifs : List Expr) (scope : Scope) : E :=
  if !(L2.blkC s.N s.sc scope (ownOf s.N scope) && noSet iter && (slotsT (compT (blkX s scope) n tg)).all (fun i => ((ownOf s.N scope).map (·.2)).contains i) && decide (ifs.length ≤ 1) && ifs.all noIf) then .bad else
    .lc ((ownOf s.N scope).map (·.2)) (compT (blkX s scope) n tg) (compI (ce s) s tg iter) (listE (ifs.map (ce (blkX s scope)))) (ce (blkX s scope) elt)
def aggE (b : B) : E → E
  | .lc own t it c e => .agg b (.lc own t it c e)
  | _ => .bad
/-! ### names -/
def locN (sc : Scope) : List Str := sc.names.filterMap fun y => match y.2 with
  | .local => some y.1
  | .cell => some y.1
  | _ => none
def dedS : List Str → List Str → List Str
  | [], acc => acc.reverse
  | x :: r, acc => if acc.any (fun y => decide (y = x)) then dedS r acc else dedS r (x :: acc)
def optL {α : Type} : Option α → List α
  | none => []
  | some a => [a]
/-- the names that the comprehensions in an expression bind -/
def lnE : Nat → Expr → List Str
  | 0, _ => []
  | n + 1, e => match e with
    | .BoolOp _ es _ => es.flatMap (lnE n)
    | .BinOp a _ b _ => lnE n a ++ lnE n b
    | .UnaryOp _ a _ => lnE n a
    | .Lambda _ b sc _ => locN sc ++ lnE n b
    | .IfExp a b c _ => lnE n a ++ lnE n b ++ lnE n c
    | .Dict ks vs _ => (ks.flatMap optL).flatMap (lnE n) ++ vs.flatMap (lnE n)
    | .ListComp e gs sc _ => locN sc ++ lnE n e ++ gs.flatMap fun g => lnE n g.iter ++ g.ifs.flatMap (lnE n)
    | .Compare a _ bs _ => lnE n a ++ bs.flatMap (lnE n)
    | .Call f as _ _ => lnE n f ++ as.flatMap (lnE n)
    | .Attribute a _ _ => lnE n a
    | .Subscript a b _ => lnE n a ++ lnE n b
    | .List es _ => es.flatMap (lnE n)
    | .Tuple es _ _ => es.flatMap (lnE n)
    | .Slice a b c _ => (optL a ++ optL b ++ optL c).flatMap (lnE n)
    | _ => []
def parN (a : Arguments) : List Str := a.args.map (·.arg)
/-- a def's text is plain -/
def plainA (a : Arguments) : Bool := a.posonlyargs.isEmpty && a.vararg.isNone && a.kwonlyargs.isEmpty && a.kwarg.isNone
def ndS : List Str → Bool
  | [] => true
  | x :: r => !(r.any fun y => decide (y = x)) && ndS r
def scopeB (N P : List Str) (sc : Scope) : Bool := decide (sc.kind = .function) && !sc.isCoroutine && !sc.isGenerator && ndS N && decide (N.take P.length = P) && (P.all fun x => locB sc x) && (sc.names.all fun y => !decide (y.2 = .free))
/-- a lambda that captures nothing -/
def sxL (params : Arguments) (scope : Scope) (body : Expr) : Sx := ⟨dedS (parN params ++ locN scope ++ lnE 40 body) [], scope, scope, false, false⟩
def lamB (params : Arguments) (scope : Scope) (body : Expr) : Bool := plainA params && params.defaults.isEmpty && params.kw_defaults.isEmpty && scopeB (sxL params scope body).N (parN params) scope && scope.names.all fun y => !decide (y.2 = .cell)
/-- a lambda of no parameter that is handed on -/
def thkB (sc : Scope) (params : Arguments) (scope : Scope) : Bool := plainA params && params.args.isEmpty && params.defaults.isEmpty && params.kw_defaults.isEmpty && LamX.lamSB sc scope
/-- [::-1] -/
def revIx : Expr → Bool
  | .Slice none none (some (.UnaryOp .USub (.Constant (.int i) _ _) _)) _ => decide (i = 1)
  | _ => false
theorem revIx_eq {i : Expr} (h : revIx i = true) : ∃ j p1 p2 p3, i = .Slice none none (some (.UnaryOp .USub (.Constant (.int 1) j p1) p2)) p3 := by
  unfold revIx at h
  split at h
  · have e := of_decide_eq_true h
    subst e
    exact ⟨_, _, _, _, rfl⟩
  · cases h
def noLam : List Expr → Bool
  | [.Lambda _ _ _ _] => false
  | _ => true
def compE (G : Nm) : Nat → Sx → Expr → E
  | 0, _, _ => .bad
  | n + 1, s, e => match e with
    | .Name x _ => if !plainN x then .bad else if visB s.sc x then (match idxS x s.N with | some i => .v i | none => .bad)
      else if glB s.sc x then (match G.consts.lookup x with
        | some i => .int i
        | none => (match idxF x G.fns with | some f => .fnv f | none => .bad))
      else .bad
    | .Constant c _ _ => (match c with
      | .none => .non
      | .bool b => .bl b
      | .int i => .int i
      | .str x => .str x
      | _ => .bad)
    | .BinOp a o b _ => .bin o (compE G n s a) (compE G n s b)
    | .UnaryOp .USub a _ => .neg (compE G n s a)
    | .UnaryOp .Not a _ => if noIf a then .not (compE G n s a) else .bad
    | .Compare a [o] [b] _ => if behindInMarks o b then .bad else .cmp o (compE G n s a) (compE G n s b)
    | .Compare a [o, o'] [b, c] _ => if lastMarks [o, o'] [b, c] then .bad else .chn o o' (compE G n s a) (compE G n s b) (compE G n s c)
    | .BoolOp .And es _ => if es.all noIf then andE (es.map (compE G n s)) else .bad
    | .BoolOp .Or es _ => if es.all noIf then orE (es.map (compE G n s)) else .bad
    | .IfExp c a b _ => if noIf c then .ife (compE G n s c) (compE G n s a) (compE G n s b) else .bad
    | .Tuple es _ _ => if es.all noStar then .tup (listE (es.map (compE G n s))) else .bad
    | .List es _ => if es.all noStar then .lst (listE (es.map (compE G n s))) else .bad
    | .Dict [] [] _ => .dnew s.td
    | .Subscript a (.Slice lo hi none _) _ => .sli (compE G n s a) (match lo with | none => .nil | some x => .cons (compE G n s x) .nil) (match hi with | none => .nil | some x => .cons (compE G n s x) .nil)
    | .Subscript a i _ => if noSlice i then .idx (compE G n s a) (compE G n s i) else if revIx i then .rev (compE G n s a) else .bad
    | .Attribute o f _ => if noSuper o then (match idxS f G.flds with | some k => .fld (compE G n s o) k | none => .bad) else .bad
    | .Lambda params body scope _ => if s.ml && lamB params scope body then .lam (parN params).length (sxL params scope body).N.length (compE G n (sxL params scope body) body) else .bad
    | .Call (.Name x _) args [] _ => if !(plainN x && args.all noStar) then .bad else
      if visB s.sc x then (match idxS x s.N, args with
        | some i, _ :: _ => .calv i (listE (args.map (compE G n s)))
        | _, _ => .bad) else
      if !(glB s.sc x) then .bad else
      (match idxF x G.fns with
      | some f => (match args with
        | [.Lambda params body scope _] => if s.ml && thkB s.sc params scope then .thk f (compE G n ⟨s.N, scope, scope, s.td, false⟩ body) else .bad
        | args => .cal f (listE (args.map (compE G n s))))
      | none => match idxS x G.cls with
        | some c => .mk c (listE (args.map (compE G n s)))
        | none => if x = "isinstance" then (match args with
            | [a, .Name y _] => (match clOf G y with
              | some c => if plainN y && glB s.sc y then .isi (compE G n s a) c else .bad
              | none => .bad)
            | _ => .bad)
          else match bltOf x with
            | some b => (match args with
              | [] => .bad
              | [.ListComp elt [⟨tg, iter, ifs, isa⟩] scope p] => if aggOk b then (if isa = 0 then aggE b (compL (compE G n) n s elt tg iter ifs scope) else .bad) else .blt b (.cons (compE G n s (.ListComp elt [⟨tg, iter, ifs, isa⟩] scope p)) .nil)
              | args => .blt b (listE (args.map (compE G n s))))
            | none => .bad)
    | .Call (.Attribute o m apos) args [] cpos => if !(noSuper o && args.all noStar && (apos.endLine == cpos.line) && decide (args.length < 20)) then .bad else
      (match idxS m G.mets with
      | some mi => .mth mi (compE G n s o) (listE (args.map (compE G n s)))
      | none => match bmOf m with
        | some b => .bm b (compE G n s o) (listE (args.map (compE G n s)))
        | none => .bad)
    | .ListComp elt [⟨tg, iter, ifs, isa⟩] scope _ => if isa = 0 then compL (compE G n) n s elt tg iter ifs scope else .bad
    | _ => .bad

/-- all targets are plain names, two or more -/
def namesOf (s : Sx) : List Expr → Option (List Nat)
  | [] => some []
  | .Name x _ :: r => if locB s.tsc x && plainN x then (match idxS x s.N, namesOf s r with
    | some i, some is => some (i :: is)
    | _, _ => none) else none
  | _ :: _ => none
def ndupN : List Nat → Bool
  | [] => true
  | a :: r => !(r.contains a) && ndupN r
/-- no store order that the model leaves open -/
def parOk (vs : List Expr) : Bool := vs.all (PySem.foldedForSure 8) || !(vs.all (PySem.constantsAlone 8))
/-- X('..') -/
def raiseOf (v : Option Expr) : Option Str := match v with
  | some (.Call (.Name x _) [.Constant (.str _) _ _] [] _) => some x
  | _ => none
theorem raiseOf_eq {v : Option Expr} {x : Str} (h : raiseOf v = some x) : ∃ px m j p2 pc, v = some (.Call (.Name x px) [.Constant (.str m) j p2] [] pc) := by
  unfold raiseOf at h
  split at h
  · cases h; exact ⟨_, _, _, _, _, rfl⟩
  · cases h
def isCall : Expr → Bool
  | .Call _ _ _ _ => true
  | _ => false
/-- the suite of an except clause that binds the name er -/
def compXE (G : Nm) (s : Sx) (er : Str) : Nat → Expr → E
  | 0, _ => .bad
  | n + 1, e => match e with
    | .Name x _ => if !plainN x || decide (x = er) then .bad else if visB s.sc x then (match idxS x s.N with | some i => .v i | none => .bad) else .bad
    | .Constant c _ _ => (match c with
      | .bool b => .bl b
      | .str x => .str x
      | _ => .bad)
    | .BinOp a .Add b _ => .bin .Add (compXE G s er n a) (compXE G s er n b)
    | .UnaryOp .Not a _ => .not (compXE G s er n a)
    | .BoolOp .And [a, b] _ => .and (compXE G s er n a) (compXE G s er n b)
    | .List es _ => if es.all noStar then .lst (listE (es.map (compXE G s er n))) else .bad
    | .Call (.Name f _) [.Name x _, .Name y _] [] _ => if decide (f = "isinstance") && decide (x = er) && glB s.sc f && glB s.sc y && plainN y && plainN x then
        (match idxS y G.exs with
        | some d => .isx d
        | none => if y = "ValueError" then .isx G.exs.length else .bad) else .bad
    | _ => .bad
def compXS (G : Nm) (s : Sx) (er : Str) : Nat → Stmt → S
  | 0, _ => .bad
  | n + 1, st => match st with
    | .Assign [.Name x _] e _ => if locB s.tsc x && plainN x && !decide (x = er) && noComp e then (match idxS x s.N with | some i => .asg i (compXE G s er n e) | none => .bad) else .bad
    | .If c a [] _ => if isCall c then .ife (compXE G s er n c) (seqS (a.map (compXS G s er n))) .nil else .bad
    | _ => .bad
def compS (G : Nm) : Nat → Sx → Stmt → S
  | 0, _, _ => .bad
  | n + 1, s, st => match st with
    | .Pass _ => .pas
    | .Break _ => .brk
    | .Continue _ => .cnt
    | .Expr e _ => if noComp e then .exp (compE G n s e) else .bad
    | .Return (some e) _ => .ret (compE G n s e)
    | .Return none _ => .ret .non
    | .Assign [.Name x _] e _ => if locB s.tsc x && plainN x then (match idxS x s.N with | some i => .asg i (compE G n s e) | none => .bad) else .bad
    | .Assign [.Tuple ts _ _] (.Tuple vs _ _) _ => if ts.all noStar && vs.all noStar && decide (ts.length = vs.length) && parOk vs && decide (vs.length < 1000) then (match namesOf s ts with
        | some is => if ndupN is then .par is (listE (vs.map (compE G n s))) else .bad
        | none => .bad)
      else .bad
    | .Assign [.Tuple ts _ _] e _ => if ts.all noStar && noComp e then .unp (.tup (listE (ts.map (compT s n)))) (compE G n s e) else .bad
    | .Assign [.Subscript o i _] e _ => if noSlice i && noComp e then .sub (compE G n s o) (compE G n s i) (compE G n s e) else .bad
    | .Assign [.Attribute o f _] e _ => (match idxS f G.flds with | some k => .stf (compE G n s o) k (compE G n s e) | none => .bad)
    | .AugAssign (.Name x _) o e _ => if locB s.tsc x && plainN x then (match idxS x s.N with | some i => .aug i o (compE G n s e) | none => .bad) else .bad
    | .If c a b _ => if !noIf c then .bad else .ife (compE G n s c) (seqS (a.map (compS G n s))) (seqS (b.map (compS G n s)))
    | .While c b [] _ => if !noIf c then .bad else .whl (compE G n s c) (seqS (b.map (compS G n s)))
    | .For tg it b [] _ => if noSet it then .forS (compT s n tg) (compI (compE G n s) s tg it) (seqS (b.map (compS G n s))) else .bad
    | .Raise v none _ => (match raiseOf v with
      | some x => if plainN x && glB s.sc x then (match idxS x G.exs with | some c => .rai c | none => .bad) else .bad
      | none => .bad)
    | _ => .bad
def lnS : Nat → Stmt → List Str
  | 0, _ => []
  | n + 1, st => match st with
    | .Return v _ => (optL v).flatMap (lnE n)
    | .Assign ts v _ => ts.flatMap (lnE n) ++ lnE n v
    | .AugAssign _ _ v _ => lnE n v
    | .For _ it b _ _ => lnE n it ++ b.flatMap (lnS n)
    | .While c b _ _ => lnE n c ++ b.flatMap (lnS n)
    | .If c a b _ => lnE n c ++ a.flatMap (lnS n) ++ b.flatMap (lnS n)
    | .Try b hs _ _ _ => b.flatMap (lnS n) ++ hs.flatMap fun h => match h with
      | .ExceptHandler _ _ s _ => s.flatMap (lnS n)
    | .Expr e _ => lnE n e
    | _ => []
def slotN (d : He.DefD) : List Str := dedS (parN d.params ++ locN d.scope ++ d.body.flatMap (lnS 40)) []
def sxOf (G : Nm) (d : He.DefD) : Sx := ⟨slotN d, d.scope, d.scope, G.tds.any (fun x => decide (x = d.name)), G.mkrs.any (fun p => decide (p.1 = d.at_))⟩
def fnI (G : Nm) (d : He.DefD) : FnI := ⟨(parN d.params).length, (slotN d).length, seqS (d.body.map (compS G 40 (sxOf G d)))⟩
def defB (d : He.DefD) : Bool := plainA d.params && d.dfl.isEmpty && d.kwd.isEmpty && scopeB (slotN d) (parN d.params) d.scope
def constE : Expr → Option E
  | .List [] _ => some (.lst .nil)
  | .Constant (.bool b) _ _ => some (.bl b)
  | .Constant (.str x) _ _ => some (.str x)
  | _ => none
/-- x = e0; try: a() except c as i: s; return y -/
def tkOf (G : Nm) (d : He.DefD) : Option TkI := match d.body with
  | [.Assign [.Name y _] e1 _, .Try [.Expr (.Call (.Name a _) [] [] _) _] [.ExceptHandler (some (.Name x _)) (some er) (s0 :: suite) _] [] [] _, .Return (some (.Name y2 _)) _] =>
    (match constE e1, idxS y (slotN d), idxS x G.exs, idxS er (slotN d), idxS y2 (slotN d) with
    | some e0, some iy, some c, some ie, some iy2 =>
      if decide (parN d.params = [a]) && locB d.scope y && plainN y && visB d.scope a && plainN a && plainN x && glB d.scope x && decide (d.scope.names.lookup er = some .local) && visB d.scope y2 && plainN y2 && !decide (iy = ie) && !decide (iy = 0) && !decide (ie = 0) then
        some ⟨(slotN d).length, iy, e0, c, ie, seqS ((s0 :: suite).map (compXS G (sxOf G d) er 40)), iy2⟩ else none
    | _, _, _, _, _ => none)
  | _ => none
end WL

/-! how the machine's state stands for the model's -/
namespace WL
open PySem PySem.Spec PyProof.Rows L2
abbrev St := L2.St
section
variable (G : Nm) (K : PySem.W.Frag)
def cA (c : Nat) : Addr := match G.cls[c]? with | some x => He.ga K x | none => 0
def xA (c : Nat) : Addr := match G.exs[c]? with | some x => He.ga K x | none => 0
def fA (f : Nat) : Addr := match G.fns[f]? with | some p => He.fAd K p | none => 0
/-- the object at f is the lambda L; its code object at c -/
def LamO (f : Addr) (L : LamT) (c : Addr) : HO := .ext fun h => ∃ pm ctv, h.get? f = some (PySem.W.kla_obj "<lambda>" L.qual L.params L.body L.scope [] pm c ctv)
/-- b is what the machine makes of L's body -/
structure CodOk (L : LamT) (np ns : Nat) (b : E) : Prop where
  ok : lamB L.params L.scope L.body = true
  np : np = (parN L.params).length
  ns : ns = (sxL L.params L.scope L.body).N.length
  b : ∃ n, b = compE G n (sxL L.params L.scope L.body) L.body
/-- the tables of the defs that make lambdas -/
def tabL : List (Addr × Str) := G.mkrs.map fun p => ((He.cT K p.1).2, p.2)
/-- what may be written -/
def Mt : Option HO → Prop
  | some (.lst _) => True
  | some (.dK _) => True
  | some (.dT _) => True
  | some (.ins _ _ _) => True
  | _ => False
mutual
def RV (r : List Addr) (H : Hp) : W → V → Prop
  | .non, v => v = .non
  | .bl b, v => v = .bl b
  | .int i, v => v = .int i
  | .str x, v => v = .str x
  | .tup l, v => ∃ a vs, v = .ref a ∧ H a = some (.tup vs) ∧ RVs r H l vs
  | .ref n, v => ∃ a, v = .ref a ∧ r[n]? = some a
  | .scr l, v => ∃ a, v = .ref a ∧ ((∃ o, H a = some (.frz o (.lst (l.map V.int)))) ∨ ∃ (o : Obj) (its : Array Value) (n : Nat), K.lookup a = some o ∧ o.cls = .type "list" ∧ o.dict = none ∧ o.data = .seq its n ∧ its.size ≤ sizeLine ∧ Vals (l.map V.int) its.toList)
  | .fn f, v => f < G.fns.length ∧ v = .ref (fA G K f)
  | .cod np ns b, v => ∃ a L c, v = .ref a ∧ H a = some (LamO a L c) ∧ H c = some (LamX.CodeO c L.qual) ∧ CodOk G L np ns b
def RVs (r : List Addr) (H : Hp) : List W → List V → Prop
  | [], vs => vs = []
  | w :: ws, vs => ∃ v rest, vs = v :: rest ∧ RV r H w v ∧ RVs r H ws rest
end
/-- what was, is: for values -/
structure Ext0 (r : List Addr) (H : Hp) (r' : List Addr) (H' : Hp) : Prop where
  rho : ∀ (n : Nat) (a : Addr), r[n]? = some a → r'[n]? = some a
  tup : ∀ a xs, H a = some (.tup xs) → H' a = some (.tup xs)
  frz : ∀ a o u, H a = some (.frz o u) → H' a = some (.frz o u)
  ext : ∀ a u, H a = some (.ext u) → H' a = some (.ext u)
/-- what the machine does not know stays as it is; what is new was free -/
structure Ext (r : List Addr) (H : Hp) (r' : List Addr) (H' : Hp) : Prop extends Ext0 r H r' H' where
  keep : ∀ a o, H a = some o → (∀ n : Nat, r[n]? ≠ some a) → (∀ ps, o ≠ .tbl ps) → H' a = some o
  fresh : ∀ (n : Nat) (a : Addr), r'[n]? = some a → (∃ m : Nat, r[m]? = some a) ∨ H a = none
  stay : ∀ a o, H a = some o → ∃ o', H' a = some o'
def RK (r : List Addr) (H : Hp) : List (Int × W) → List (Key × V) → Prop
  | [], kvs => kvs = []
  | (k, w) :: l, kvs => ∃ v rest, kvs = (Sum.inl k, v) :: rest ∧ RV G K r H w v ∧ RK r H l rest
def RT (r : List Addr) (H : Hp) : List (List Int × W) → List (List Key × V) → Prop
  | [], kvs => kvs = []
  | (k, w) :: l, kvs => ∃ v rest, kvs = (k.map Sum.inl, v) :: rest ∧ RV G K r H w v ∧ RT r H l rest
def RFd (r : List Addr) (H : Hp) : List (Nat × W) → List (Str × V) → Prop
  | [], kvs => kvs = []
  | (k, w) :: l, kvs => ∃ x v rest, G.flds[k]? = some x ∧ kvs = (x, v) :: rest ∧ RV G K r H w v ∧ RFd r H l rest
def RO (r : List Addr) (H : Hp) (a : Addr) : O → Prop
  | .lst l => ∃ vs, H a = some (.lst vs) ∧ RVs G K r H l vs
  | .dK l => ∃ kvs, H a = some (.dK kvs) ∧ RK G K r H l kvs
  | .dT l => ∃ kvs, H a = some (.dT kvs) ∧ RT G K r H l kvs
  | .ins c fs => ∃ dx fs', H a = some (.ins (cA G K c) dx fs') ∧ RFd G K r H fs fs' ∧ c < G.cls.length
structure RelH (r : List Addr) (h : Hm) (H : Hp) : Prop where
  len : r.length = h.length
  inj : ∀ (i j : Nat) (a : Addr), r[i]? = some a → r[j]? = some a → i = j
  obj : ∀ (n : Nat) (a : Addr) (o : O), r[n]? = some a → h[n]? = some o → RO G K r H a o
  tabs : LamX.Tabs (tabL G K) H
structure RelS (r : List Addr) (f : F) (h : Hm) (σ : St) (H : Hp) : Prop where
  heap : RelH G K r h H
  fr : ∀ (i : Nat) (w : W), f[i]? = some (some w) → ∃ v, σ[i]? = some (some v) ∧ RV G K r H w v
  len : f.length = σ.length
end
section
variable {G : Nm} {K : PySem.W.Frag} {r r' r'' : List Addr} {H H' H'' : Hp}
theorem Ext.refl : Ext r H r H := ⟨⟨fun _ _ h => h, fun _ _ h => h, fun _ _ _ h => h, fun _ _ h => h⟩, fun _ _ h _ _ => h, fun n a h => .inl ⟨n, h⟩, fun _ o h => ⟨o, h⟩⟩
theorem Ext.trans (a : Ext r H r' H') (b : Ext r' H' r'' H'') : Ext r H r'' H'' := by
  refine ⟨⟨fun n x h => b.rho n x (a.rho n x h), fun x xs h => b.tup x xs (a.tup x xs h), fun x o u h => b.frz x o u (a.frz x o u h), fun x u h => b.ext x u (a.ext x u h)⟩, fun x o h hn ht => ?_, fun n x h => ?_, fun x o h => ?_⟩
  · refine b.keep x o (a.keep x o h hn ht) (fun n hx => ?_) ht
    rcases a.fresh n x hx with ⟨m, hm⟩ | z
    · exact hn m hm
    · rw [h] at z; cases z
  · rcases b.fresh n x h with ⟨m, hm⟩ | z
    · exact a.fresh m x hm
    · cases q : H x with
      | none => exact .inr rfl
      | some o =>
        obtain ⟨o', h'⟩ := a.stay x o q
        rw [z] at h'; cases h'
  · obtain ⟨o', h'⟩ := a.stay x o h
    exact b.stay x o' h'
mutual
theorem RV.ext0 (e : Ext0 r H r' H') : ∀ {w : W} {v : V}, RV G K r H w v → RV G K r' H' w v
  | .non, _, h => h
  | .bl _, _, h => h
  | .int _, _, h => h
  | .str _, _, h => h
  | .tup l, _, h => by
    obtain ⟨a, vs, h1, h2, h3⟩ := h
    exact ⟨a, vs, h1, e.tup a vs h2, RVs.ext0 e h3⟩
  | .ref n, _, h => by
    obtain ⟨a, h1, h2⟩ := h
    exact ⟨a, h1, e.rho n a h2⟩
  | .scr l, _, h => by
    obtain ⟨a, h1, h2⟩ := h
    rcases h2 with ⟨o, h2⟩ | h2
    · exact ⟨a, h1, .inl ⟨o, e.frz _ _ _ h2⟩⟩
    · exact ⟨a, h1, .inr h2⟩
  | .fn f, _, h => h
  | .cod np ns b, _, h => by
    obtain ⟨a, L, c, h1, h2, h3, h4⟩ := h
    exact ⟨a, L, c, h1, e.ext _ _ h2, e.ext _ _ h3, h4⟩
theorem RVs.ext0 (e : Ext0 r H r' H') : ∀ {ws : List W} {vs : List V}, RVs G K r H ws vs → RVs G K r' H' ws vs
  | [], _, h => h
  | w :: ws, _, h => by
    obtain ⟨v, rest, h1, h2, h3⟩ := h
    exact ⟨v, rest, h1, RV.ext0 e h2, RVs.ext0 e h3⟩
end
theorem RV.ext (e : Ext r H r' H') {w : W} {v : V} (q : RV G K r H w v) : RV G K r' H' w v := RV.ext0 e.toExt0 q
theorem RVs.ext (e : Ext r H r' H') {w : List W} {v : List V} (q : RVs G K r H w v) : RVs G K r' H' w v := RVs.ext0 e.toExt0 q
theorem RVs.length : ∀ {ws : List W} {vs : List V}, RVs G K r H ws vs → vs.length = ws.length
  | [], _, h => by rw [show _ = [] from h]; rfl
  | w :: ws, _, h => by
    obtain ⟨v, rest, rfl, _, h3⟩ := h
    rw [List.length_cons, List.length_cons, RVs.length h3]
theorem RVs.app : ∀ {ws ws' : List W} {vs vs' : List V}, RVs G K r H ws vs → RVs G K r H ws' vs' → RVs G K r H (ws ++ ws') (vs ++ vs')
  | [], _, _, _, h, h' => by rw [show _ = [] from h]; exact h'
  | w :: ws, _, _, _, h, h' => by
    obtain ⟨v, rest, rfl, h2, h3⟩ := h
    exact ⟨v, rest ++ _, rfl, h2, RVs.app h3 h'⟩
theorem RVs.get : ∀ {ws : List W} {vs : List V} {i : Nat} {w : W}, RVs G K r H ws vs → ws[i]? = some w → ∃ v, vs[i]? = some v ∧ RV G K r H w v
  | [], _, _, _, _, e => by simp at e
  | x :: ws, _, 0, w, h, e => by
    obtain ⟨v, rest, rfl, h2, h3⟩ := h
    simp at e
    subst e
    exact ⟨v, rfl, h2⟩
  | x :: ws, _, i + 1, w, h, e => by
    obtain ⟨v, rest, rfl, h2, h3⟩ := h
    obtain ⟨u, h4, h5⟩ := RVs.get (i := i) (w := w) h3 (by simpa using e)
    exact ⟨u, by simpa using h4, h5⟩
theorem RVs.set {w : W} {v : V} (hw : RV G K r H w v) : ∀ {ws : List W} {vs : List V} (i : Nat), RVs G K r H ws vs → RVs G K r H (ws.set i w) (vs.set i v)
  | [], _, _, h => by rw [show _ = [] from h]; rfl
  | x :: ws, _, 0, h => by
    obtain ⟨u, rest, rfl, h2, h3⟩ := h
    exact ⟨v, rest, rfl, hw, h3⟩
  | x :: ws, _, i + 1, h => by
    obtain ⟨u, rest, rfl, h2, h3⟩ := h
    exact ⟨u, rest.set i v, rfl, h2, RVs.set hw i h3⟩
theorem RVs.take : ∀ {ws : List W} {vs : List V} (n : Nat), RVs G K r H ws vs → RVs G K r H (ws.take n) (vs.take n)
  | [], _, n, h => by rw [show _ = [] from h]; simp; rfl
  | x :: ws, _, 0, h => by simp; rfl
  | x :: ws, _, n + 1, h => by
    obtain ⟨u, rest, rfl, h2, h3⟩ := h
    exact ⟨u, rest.take n, rfl, h2, RVs.take n h3⟩
theorem RVs.drop : ∀ {ws : List W} {vs : List V} (n : Nat), RVs G K r H ws vs → RVs G K r H (ws.drop n) (vs.drop n)
  | [], _, n, h => by rw [show _ = [] from h]; simp; rfl
  | x :: ws, _, 0, h => h
  | x :: ws, _, n + 1, h => by
    obtain ⟨u, rest, rfl, h2, h3⟩ := h
    exact RVs.drop n h3
theorem RVs.ofInts : ∀ {ws : List W} {vs : List V} {ns : List Int}, RVs G K r H ws vs → intsOf ws = some ns → vs = ns.map V.int
  | [], _, ns, h, e => by
    rw [show _ = [] from h]
    simp [intsOf] at e
    subst e; rfl
  | .int i :: ws, _, ns, h, e => by
    obtain ⟨u, rest, rfl, h2, h3⟩ := h
    simp only [intsOf] at e
    cases q : intsOf ws with
    | none => rw [q] at e; cases e
    | some l =>
      rw [q] at e
      cases e
      rw [RVs.ofInts h3 q, show u = .int i from h2]
      rfl
  | .non :: _, _, _, _, e => by cases e
  | .bl _ :: _, _, _, _, e => by cases e
  | .str _ :: _, _, _, _, e => by cases e
  | .tup _ :: _, _, _, _, e => by cases e
  | .ref _ :: _, _, _, _, e => by cases e
  | .scr _ :: _, _, _, _, e => by cases e
  | .fn _ :: _, _, _, _, e => by cases e
  | .cod _ _ _ :: _, _, _, _, e => by cases e
theorem RVs.ofBls : ∀ {ws : List W} {vs : List V} {ns : List Bool}, RVs G K r H ws vs → bls ws = some ns → vs = ns.map V.bl
  | [], _, ns, h, e => by
    rw [show _ = [] from h]
    simp [bls] at e
    subst e; rfl
  | .bl i :: ws, _, ns, h, e => by
    obtain ⟨u, rest, rfl, h2, h3⟩ := h
    simp only [bls] at e
    cases q : bls ws with
    | none => rw [q] at e; cases e
    | some l =>
      rw [q] at e
      cases e
      rw [RVs.ofBls h3 q, show u = .bl i from h2]
      rfl
  | .non :: _, _, _, _, e => by cases e
  | .int _ :: _, _, _, _, e => by cases e
  | .str _ :: _, _, _, _, e => by cases e
  | .tup _ :: _, _, _, _, e => by cases e
  | .ref _ :: _, _, _, _, e => by cases e
  | .scr _ :: _, _, _, _, e => by cases e
  | .fn _ :: _, _, _, _, e => by cases e
  | .cod _ _ _ :: _, _, _, _, e => by cases e
theorem RVs.ints : ∀ (ns : List Int), RVs G K r H (ns.map W.int) (ns.map V.int)
  | [] => rfl
  | n :: ns => ⟨_, _, rfl, rfl, RVs.ints ns⟩
theorem RVs.snoc {ws : List W} {vs : List V} {w : W} {v : V} (h : RVs G K r H ws vs) (hw : RV G K r H w v) : RVs G K r H (ws ++ [w]) (vs ++ [v]) :=
  h.app ⟨v, [], rfl, hw, rfl⟩
theorem RK.ext0 (e : Ext0 r H r' H') : ∀ {l : List (Int × W)} {kvs : List (Key × V)}, RK G K r H l kvs → RK G K r' H' l kvs
  | [], _, h => h
  | (k, w) :: l, _, h => by
    obtain ⟨v, rest, h1, h2, h3⟩ := h
    exact ⟨v, rest, h1, h2.ext0 e, RK.ext0 e h3⟩
theorem RT.ext0 (e : Ext0 r H r' H') : ∀ {l : List (List Int × W)} {kvs : List (List Key × V)}, RT G K r H l kvs → RT G K r' H' l kvs
  | [], _, h => h
  | (k, w) :: l, _, h => by
    obtain ⟨v, rest, h1, h2, h3⟩ := h
    exact ⟨v, rest, h1, h2.ext0 e, RT.ext0 e h3⟩
theorem RFd.ext0 (e : Ext0 r H r' H') : ∀ {l : List (Nat × W)} {kvs : List (Str × V)}, RFd G K r H l kvs → RFd G K r' H' l kvs
  | [], _, h => h
  | (k, w) :: l, _, h => by
    obtain ⟨x, v, rest, h0, h1, h2, h3⟩ := h
    exact ⟨x, v, rest, h0, h1, h2.ext0 e, RFd.ext0 e h3⟩
/-- an object that still stands -/
theorem RO.ext0 (e : Ext0 r H r' H') {a : Addr} (s : H' a = H a) : ∀ {o : O}, RO G K r H a o → RO G K r' H' a o
  | .lst l, h => by obtain ⟨vs, h1, h2⟩ := h; exact ⟨vs, s.trans h1, h2.ext0 e⟩
  | .dK l, h => by obtain ⟨vs, h1, h2⟩ := h; exact ⟨vs, s.trans h1, h2.ext0 e⟩
  | .dT l, h => by obtain ⟨vs, h1, h2⟩ := h; exact ⟨vs, s.trans h1, h2.ext0 e⟩
  | .ins c fs, h => by obtain ⟨dx, vs, h1, h2, h3⟩ := h; exact ⟨dx, vs, s.trans h1, h2.ext0 e, h3⟩
theorem RO.some {a : Addr} : ∀ {o : O}, RO G K r H a o → ∃ u, H a = some u ∧ Mt (some u)
  | .lst l, h => by obtain ⟨vs, h1, h2⟩ := h; exact ⟨_, h1, trivial⟩
  | .dK l, h => by obtain ⟨vs, h1, h2⟩ := h; exact ⟨_, h1, trivial⟩
  | .dT l, h => by obtain ⟨vs, h1, h2⟩ := h; exact ⟨_, h1, trivial⟩
  | .ins c fs, h => by obtain ⟨dx, vs, h1, h2⟩ := h; exact ⟨_, h1, trivial⟩
theorem RO.ext (e : Ext r H r' H') {a : Addr} (s : H' a = H a) {o : O} (q : RO G K r H a o) : RO G K r' H' a o := RO.ext0 e.toExt0 s q
theorem Ext.new {p : Addr} {ho : HO} (hp : H p = none) : Ext r H r (upd H p ho) :=
  ⟨⟨fun _ _ h => h, fun a xs h => by rw [upd_ne (ne_of_none h hp)]; exact h, fun a o u h => by rw [upd_ne (ne_of_none h hp)]; exact h, fun a u h => by rw [upd_ne (ne_of_none h hp)]; exact h⟩, fun a o h _ _ => by rw [upd_ne (ne_of_none h hp)]; exact h, fun n a h => .inl ⟨n, h⟩, fun a o h => ⟨o, by rw [upd_ne (ne_of_none h hp)]; exact h⟩⟩
theorem stay_upd {p : Addr} {ho o : HO} {a : Addr} (h : H a = some o) : ∃ o', upd H p ho a = some o' := by
  by_cases e : a = p
  · exact ⟨ho, by rw [e, upd_same]⟩
  · exact ⟨o, by rw [upd_ne e]; exact h⟩
theorem Ext0.put {p : Addr} {u ho : HO} (hp : H p = some u) (hm : Mt (some u)) : Ext0 r H r (upd H p ho) := by
  refine ⟨fun _ _ h => h, fun a xs h => ?_, fun a o u' h => ?_, fun a u' h => ?_⟩
  · rw [upd_ne]; exact h
    rintro rfl; rw [hp] at h; cases h; exact hm
  · rw [upd_ne]; exact h
    rintro rfl; rw [hp] at h; cases h; exact hm
  · rw [upd_ne]; exact h
    rintro rfl; rw [hp] at h; cases h; exact hm
theorem Ext.put {n : Nat} {p : Addr} {u ho : HO} (hn : r[n]? = some p) (hp : H p = some u) (hm : Mt (some u)) : Ext r H r (upd H p ho) :=
  ⟨Ext0.put hp hm, fun a o h z _ => by rw [upd_ne (fun e => z n (by rw [e]; exact hn))]; exact h, fun n a h => .inl ⟨n, h⟩, fun a o h => stay_upd h⟩
theorem Ext.laid {p : Addr} {ho : HO} (hp : H p = none) : Ext r H (r ++ [p]) (upd H p ho) := by
  refine ⟨⟨fun n a h => by rw [List.getElem?_append_left (List.getElem?_eq_some_iff.mp h).1]; exact h, (Ext.new (r := r) hp).tup, (Ext.new (r := r) hp).frz, (Ext.new (r := r) hp).ext⟩, (Ext.new (r := r) hp).keep, fun n a h => ?_, (Ext.new (r := r) hp).stay⟩
  by_cases hl : n < r.length
  · rw [List.getElem?_append_left hl] at h; exact .inl ⟨n, h⟩
  · rw [List.getElem?_append_right (Nat.le_of_not_lt hl)] at h
    have : n - r.length = 0 := by
      have := (List.getElem?_eq_some_iff.mp h).1
      simp at this; omega
    rw [this] at h
    simp at h
    exact .inr (h ▸ hp)
/-- a thing aside that came later is written -/
theorem Ext.side {p : Addr} {ho : HO} (e : Ext r H r' H') (hp : H p = none) : Ext r H r' (upd H' p ho) := by
  refine ⟨⟨e.rho, fun a xs h => ?_, fun a o u h => ?_, fun a u h => ?_⟩, fun a o h hn ht => ?_, e.fresh, fun a o h => ?_⟩
  · rw [upd_ne (ne_of_none h hp)]; exact e.tup a xs h
  · rw [upd_ne (ne_of_none h hp)]; exact e.frz a o u h
  · rw [upd_ne (ne_of_none h hp)]; exact e.ext a u h
  · rw [upd_ne (ne_of_none h hp)]; exact e.keep a o h hn ht
  · obtain ⟨o', h'⟩ := e.stay a o h
    exact stay_upd h'
/-- .. and is taken up -/
theorem Ext.adopt {p : Addr} (e : Ext r H r' H') (hp : H p = none) : Ext r H (r' ++ [p]) H' := by
  refine ⟨⟨fun n a h => ?_, e.tup, e.frz, e.ext⟩, e.keep, fun n a h => ?_, e.stay⟩
  · have h' := e.rho n a h
    rw [List.getElem?_append_left (List.getElem?_eq_some_iff.mp h').1]; exact h'
  · by_cases hl : n < r'.length
    · rw [List.getElem?_append_left hl] at h; exact e.fresh n a h
    · rw [List.getElem?_append_right (Nat.le_of_not_lt hl)] at h
      have : n - r'.length = 0 := by
        have := (List.getElem?_eq_some_iff.mp h).1
        simp at this; omega
      rw [this] at h
      simp at h
      exact .inr (h ▸ hp)
variable {h : Hm}
theorem tabs_put {T : List (Addr × Str)} {p : Addr} {u ho : HO} (t : LamX.Tabs T H) (hp : H p = some u) (hm : Mt (some u)) : LamX.Tabs T (upd H p ho) := fun q hq => by
  obtain ⟨ps, h1, h2, h3⟩ := t q hq
  have n1 : q.1 ≠ p := fun e => by rw [e, hp] at h1; cases h1; exact hm
  refine ⟨ps, by rw [upd_ne n1]; exact h1, h2, fun pos cv hc => ?_⟩
  obtain ⟨c, e1, e2⟩ := h3 pos cv hc
  have n2 : c ≠ p := fun e => by rw [e, hp] at e2; cases e2; exact hm
  exact ⟨c, e1, by rw [upd_ne n2]; exact e2⟩
theorem tabs_new {T : List (Addr × Str)} {p : Addr} {ho : HO} (t : LamX.Tabs T H) (hp : H p = none) : LamX.Tabs T (upd H p ho) := t.ext fun b o e => by rw [upd_ne (ne_of_none e hp)]; exact e
theorem RelH.isAt (R : RelH G K r h H) {n : Nat} {a : Addr} (hn : r[n]? = some a) : ∃ u, H a = some u ∧ Mt (some u) := by
  have hl : n < h.length := R.len ▸ (List.getElem?_eq_some_iff.mp hn).1
  exact (R.obj n a _ hn (List.getElem?_eq_getElem hl)).some
theorem RelH.out (R : RelH G K r h H) {p : Addr} (hp : H p = none) (n : Nat) : r[n]? ≠ some p := fun z => by
  obtain ⟨u, h1, _⟩ := R.isAt z
  rw [hp] at h1; cases h1
/-- a thing that the machine does not know is laid -/
theorem RelH.aside (R : RelH G K r h H) {p : Addr} {ho : HO} (hp : H p = none) : RelH G K r h (upd H p ho) :=
  ⟨R.len, R.inj, fun n a o h1 h2 => (R.obj n a o h1 h2).ext (Ext.new hp) (upd_ne fun e => R.out hp n (e ▸ h1)), tabs_new R.tabs hp⟩
/-- .. is written -/
theorem RelH.aput (R : RelH G K r h H) {p : Addr} {u ho : HO} (hn : ∀ n : Nat, r[n]? ≠ some p) (hp : H p = some u) (hm : Mt (some u)) : RelH G K r h (upd H p ho) :=
  ⟨R.len, R.inj, fun n a o h1 h2 => (R.obj n a o h1 h2).ext0 (Ext0.put hp hm) (upd_ne fun e => hn n (e ▸ h1)), tabs_put R.tabs hp hm⟩
theorem snoc_at {p : Addr} {i : Nat} {a : Addr} (hi : (r ++ [p])[i]? = some a) : r[i]? = some a ∨ (i = r.length ∧ a = p) := by
  by_cases hl : i < r.length
  · rw [List.getElem?_append_left hl] at hi; exact .inl hi
  · rw [List.getElem?_append_right (Nat.le_of_not_lt hl)] at hi
    have : i - r.length = 0 := by
      have := (List.getElem?_eq_some_iff.mp hi).1
      simp at this; omega
    rw [this] at hi
    simp at hi
    exact .inr ⟨by omega, hi.symm⟩
/-- an object that stands is taken up -/
theorem RelH.adopt (R : RelH G K r h H) {p : Addr} {o : O} (hn : ∀ n : Nat, r[n]? ≠ some p) (ro : RO G K r H p o) : RelH G K (r ++ [p]) (h ++ [o]) H := by
  have e1 : Ext0 r H (r ++ [p]) H := ⟨fun n a h => by rw [List.getElem?_append_left (List.getElem?_eq_some_iff.mp h).1]; exact h, fun _ _ h => h, fun _ _ _ h => h, fun _ _ h => h⟩
  refine ⟨by simp [R.len], fun i j a hi hj => ?_, fun n a o' h1 h2 => ?_, R.tabs⟩
  · rcases snoc_at hi with hi | ⟨ei, ea⟩ <;> rcases snoc_at hj with hj | ⟨ej, ea'⟩
    · exact R.inj i j a hi hj
    · exact absurd (ea' ▸ hi) (hn i)
    · exact absurd (ea ▸ hj) (hn j)
    · rw [ei, ej]
  · rcases snoc_at h1 with h1 | ⟨ei, ea⟩
    · have hl : n < h.length := R.len ▸ (List.getElem?_eq_some_iff.mp h1).1
      rw [List.getElem?_append_left hl] at h2
      exact (R.obj n a o' h1 h2).ext0 e1 rfl
    · rw [ei, R.len, List.getElem?_append_right (Nat.le_refl _)] at h2
      simp at h2
      rw [← h2, ea]
      exact ro.ext0 e1 rfl
/-- a new object -/
theorem RelH.laid (R : RelH G K r h H) {p : Addr} {ho : HO} {o : O} (hp : H p = none) (ro : RO G K r (upd H p ho) p o) : RelH G K (r ++ [p]) (h ++ [o]) (upd H p ho) :=
  (R.aside hp).adopt (R.out hp) ro
/-- an object that is written -/
theorem RelH.put (R : RelH G K r h H) {n : Nat} {p : Addr} {ho u : HO} {o : O} (hn : r[n]? = some p) (hp : H p = some u) (hm : Mt (some u)) (ro : RO G K r (upd H p ho) p o) : RelH G K r (h.set n o) (upd H p ho) := by
  have e1 : Ext r H r (upd H p ho) := Ext.put hn hp hm
  refine ⟨by simp [R.len], R.inj, fun i a o' h1 h2 => ?_, tabs_put R.tabs hp hm⟩
  by_cases hi : i = n
  · subst hi
    rw [hn] at h1; cases h1
    have hl : i < h.length := R.len ▸ (List.getElem?_eq_some_iff.mp hn).1
    rw [List.getElem?_set_self hl] at h2
    cases h2
    exact ro
  · rw [List.getElem?_set_ne (Ne.symm hi)] at h2
    exact (R.obj i a o' h1 h2).ext e1 (upd_ne fun z => hi (R.inj i n a h1 (by rw [z]; exact hn)))
theorem RelS.ext0 {f : F} {σ : St} {h' : Hm} (S : RelS G K r f h σ H) (e : Ext0 r H r' H') (R : RelH G K r' h' H') : RelS G K r' f h' σ H' :=
  ⟨R, fun i w hi => let ⟨v, h1, h2⟩ := S.fr i w hi; ⟨v, h1, h2.ext0 e⟩, S.len⟩
theorem RelS.ext {f : F} {σ : St} {h' : Hm} (S : RelS G K r f h σ H) (e : Ext r H r' H') (R : RelH G K r' h' H') : RelS G K r' f h' σ H' :=
  ⟨R, fun i w hi => let ⟨v, h1, h2⟩ := S.fr i w hi; ⟨v, h1, h2.ext e⟩, S.len⟩
end
/-! ### what the machine's answer asks -/
section
variable (G : Nm) (K : PySem.W.Frag)
def PostG {α β : Type} (rel : List Addr → Hp → Hm → α → β → Prop) (Wx : WX) (σ : St) (r : List Addr) (H : Hp) (x : R α) (Q : β → Hp → Prop) : Prop := match x with
  | .ok a h => ∀ r' H' b, Ext r H r' H' → RelH G K r' h H' → rel r' H' h a b → Q b H'
  | .exc c h => ∀ r' H', Ext r H r' H' → RelH G K r' h H' → Wx (.ref (xA G K c)) none σ H'
  | .bad => False
abbrev relW : List Addr → Hp → Hm → W → V → Prop := fun r H _ w v => RV G K r H w v
abbrev relA : List Addr → Hp → Hm → List W → List V → Prop := fun r H _ w v => RVs G K r H w v
abbrev relB : List Addr → Hp → Hm → W → Bool → Prop := fun _ _ _ w b => w = .bl b
abbrev relO : List Addr → Hp → Hm → Option Int → Option Int → Prop := fun _ _ _ w b => w = b
def TmG {α β : Type} (rel : List Addr → Hp → Hm → α → β → Prop) (Wx : WX) (m : F → Hm → R α) : St → Hp → (β → Hp → Prop) → Prop := fun σ H Q => ∃ r f h, RelS G K r f h σ H ∧ PostG G K rel Wx σ r H (m f h) Q
end
section
variable {G : Nm} {K : PySem.W.Frag} {Wx : WX} {σ : St} {r : List Addr} {H : Hp}
theorem PostG.mono {α β : Type} {rel : List Addr → Hp → Hm → α → β → Prop} {x : R α} {Q Q' : β → Hp → Prop} (p : PostG G K rel Wx σ r H x Q) (hq : ∀ b H', Q b H' → Q' b H') : PostG G K rel Wx σ r H x Q' := by
  cases x with
  | ok a h => exact fun r' H' b e R q => hq _ _ (p r' H' b e R q)
  | exc c h => exact p
  | bad => exact p
/-- one part behind another -/
theorem PostG.seq {α β γ δ : Type} {rel : List Addr → Hp → Hm → α → β → Prop} {rel' : List Addr → Hp → Hm → γ → δ → Prop} {x : R α} {f : α → Hm → R γ} {Q : δ → Hp → Prop} (p : PostG G K rel' Wx σ r H (x.bind f) Q) :
    PostG G K rel Wx σ r H x fun b H1 => ∃ r1 a h1, Ext r H r1 H1 ∧ RelH G K r1 h1 H1 ∧ rel r1 H1 h1 a b ∧ PostG G K rel' Wx σ r1 H1 (f a h1) Q := by
  cases x with
  | ok a h =>
    intro r' H' b e R q
    refine ⟨r', a, h, e, R, q, ?_⟩
    have p : PostG G K rel' Wx σ r H (f a h) Q := p
    cases z : f a h with
    | ok c h2 => rw [z] at p; exact fun r2 H2 d e2 R2 q2 => p r2 H2 d (e.trans e2) R2 q2
    | exc c h2 => rw [z] at p; exact fun r2 H2 e2 R2 => p r2 H2 (e.trans e2) R2
    | bad => rw [z] at p; exact p
  | exc c h => exact p
  | bad => exact p
theorem PostG.seq' {α β γ δ : Type} {rel : List Addr → Hp → Hm → α → β → Prop} {rel' : List Addr → Hp → Hm → γ → δ → Prop} {x : R α} {f : α → Hm → R γ} {Q : δ → Hp → Prop} (p : PostG G K rel' Wx σ r H (x.bind f) Q) :
    PostG G K rel Wx σ r H x fun b H1 => ∃ r1 a h1, x = .ok a h1 ∧ Ext r H r1 H1 ∧ RelH G K r1 h1 H1 ∧ rel r1 H1 h1 a b ∧ PostG G K rel' Wx σ r1 H1 (f a h1) Q := by
  cases x with
  | ok a h =>
    intro r' H' b e R q
    refine ⟨r', a, h, rfl, e, R, q, ?_⟩
    have p : PostG G K rel' Wx σ r H (f a h) Q := p
    cases z : f a h with
    | ok c h2 => rw [z] at p; exact fun r2 H2 d e2 R2 q2 => p r2 H2 d (e.trans e2) R2 q2
    | exc c h2 => rw [z] at p; exact fun r2 H2 e2 R2 => p r2 H2 (e.trans e2) R2
    | bad => rw [z] at p; exact p
  | exc c h => exact p
  | bad => exact p
theorem PostG.ok {α β : Type} {rel : List Addr → Hp → Hm → α → β → Prop} {a : α} {h : Hm} {b : β} {Q : β → Hp → Prop} (p : PostG G K rel Wx σ r H (.ok a h) Q) (R : RelH G K r h H) (q : rel r H h a b) : Q b H := p r H b .refl R q
end
end WL

/-! lemmas ahead of the expressions -/
namespace WL
open PySem PySem.Spec PyProof.Rows L2
section
variable {G : Nm} {K : PySem.W.Frag} {r r' : List Addr} {h : Hm} {H H' : Hp}
/-! ### lists that are read -/
theorem lstOf_ok (R : RelH G K r h H) {w : W} {v : V} {l : List W} (q : RV G K r H w v) (e : lstOf w h = some l) : ∃ a vs, v = .ref a ∧ SqL K H a vs ∧ RVs G K r H l vs := by
  cases w with
  | ref n =>
    obtain ⟨a, rfl, ha⟩ := q
    simp only [lstOf] at e
    cases z : h[n]? with
    | none => rw [z] at e; cases e
    | some o =>
      rw [z] at e
      cases o with
      | lst xs =>
        cases e
        obtain ⟨vs, h1, h2⟩ := R.obj n a _ ha z
        exact ⟨a, vs, rfl, SqL.of h1, h2⟩
      | dK _ => cases e
      | dT _ => cases e
      | ins _ _ => cases e
  | scr ns =>
    obtain ⟨a, rfl, ha⟩ := q
    cases e
    rcases ha with ⟨o, ha⟩ | ha
    · exact ⟨a, _, rfl, .inl (.inr ⟨o, ha⟩), RVs.ints ns⟩
    · exact ⟨a, _, rfl, .inr ha, RVs.ints ns⟩
  | non => cases e
  | bl _ => cases e
  | int _ => cases e
  | str _ => cases e
  | tup _ => cases e
  | fn _ => cases e
  | cod _ _ _ => cases e
theorem seqOf_ok (R : RelH G K r h H) {w : W} {v : V} {l : List W} (q : RV G K r H w v) (e : seqOf w h = some l) : ∃ a vs, v = .ref a ∧ (SqL K H a vs ∨ SqT K H a vs) ∧ RVs G K r H l vs := by
  cases w with
  | tup ws =>
    cases e
    obtain ⟨a, vs, rfl, h1, h2⟩ := q
    exact ⟨a, vs, rfl, .inr (SqT.of h1), h2⟩
  | ref n => obtain ⟨a, vs, h1, h2, h3⟩ := lstOf_ok R q e; exact ⟨a, vs, h1, .inl h2, h3⟩
  | scr n => obtain ⟨a, vs, h1, h2, h3⟩ := lstOf_ok R q e; exact ⟨a, vs, h1, .inl h2, h3⟩
  | non => cases e
  | bl _ => cases e
  | int _ => cases e
  | str _ => cases e
  | fn _ => cases e
  | cod _ _ _ => cases e
/-! ### data -/
mutual
theorem toD_ok (R : RelH G K r h H) : ∀ (n : Nat) (w : W) (v : V) (d : PyData), RV G K r H w v → toD n h w = some d → Dp K H v d ∧ d.canLay0 = true ∧ d.depth ≤ n
  | 0, _, _, _, _, e => by simp [toD] at e
  | n + 1, .non, v, d, q, e => by
    simp only [toD] at e; cases e
    rw [show v = .non from q]
    exact ⟨.non, by simp [PyData.canLay0], by simp [PyData.depth]⟩
  | n + 1, .bl b, v, d, q, e => by
    simp only [toD] at e; cases e
    rw [show v = .bl b from q]
    exact ⟨.bl b, by simp [PyData.canLay0], by simp [PyData.depth]⟩
  | n + 1, .int b, v, d, q, e => by
    simp only [toD] at e; cases e
    rw [show v = .int b from q]
    exact ⟨.int b, by simp [PyData.canLay0], by simp [PyData.depth]⟩
  | n + 1, .str b, v, d, q, e => by
    simp only [toD] at e
    by_cases z : PyData.strOk b = true
    · rw [if_pos z] at e; cases e
      rw [show v = .str b from q]
      exact ⟨.str b, by simp [PyData.canLay0, z], by simp [PyData.depth]⟩
    · rw [if_neg z] at e; cases e
  | n + 1, .tup l, v, d, q, e => by
    rw [toD_tup] at e
    cases z : toDs n h l with
    | none => rw [z] at e; cases e
    | some ds =>
      rw [z] at e; cases e
      obtain ⟨a, vs, rfl, h1, h2⟩ := q
      obtain ⟨k1, k2, k3⟩ := toDs_ok R n l vs ds h2 z
      exact ⟨.tup (SqT.of h1) k1, by simp [PyData.canLay0, k2], by simp [PyData.depth]; omega⟩
  | n + 1, .scr l, v, d, q, e => by
    simp only [toD] at e; cases e
    obtain ⟨a, rfl, ha⟩ := q
    have hs : SqL K H a (l.map V.int) := by
      rcases ha with ⟨o, ha⟩ | ha
      · exact .inl (.inr ⟨o, ha⟩)
      · exact .inr ha
    have k1 : ∀ l : List Int, DpAll K H (l.map V.int) (l.map PyData.int) ∧ PyData.canLayAll0 (l.map PyData.int) = true ∧ PyData.depthAll (l.map PyData.int) = 0 := by
      intro l
      induction l with
      | nil => exact ⟨.nil, by simp [PyData.canLayAll0], by simp [PyData.depthAll]⟩
      | cons x l ih => exact ⟨.cons (.int x) ih.1, by simp [PyData.canLayAll0, PyData.canLay0]; exact ih.2.1, by simp [PyData.depthAll, PyData.depth]; exact ih.2.2⟩
    exact ⟨.lst hs (k1 l).1, by simp [PyData.canLay0, (k1 l).2.1], by simp [PyData.depth, (k1 l).2.2]⟩
  | n + 1, .ref a, v, d, q, e => by
    rw [toD_ref] at e
    cases z : h[a]? with
    | none => rw [z] at e; cases e
    | some o =>
      rw [z] at e
      cases o with
      | lst l =>
        simp only at e
        cases z2 : toDs n h l with
        | none => rw [z2] at e; cases e
        | some ds =>
          rw [z2] at e; cases e
          obtain ⟨b, rfl, hb⟩ := q
          obtain ⟨vs, h1, h2⟩ := R.obj a b _ hb z
          obtain ⟨k1, k2, k3⟩ := toDs_ok R n l vs ds h2 z2
          exact ⟨.lst (SqL.of h1) k1, by simp [PyData.canLay0, k2], by simp [PyData.depth]; omega⟩
      | dK _ => cases e
      | dT _ => cases e
      | ins _ _ => cases e
  | n + 1, .fn _, v, d, q, e => by simp [toD] at e
  | n + 1, .cod _ _ _, v, d, q, e => by simp [toD] at e
theorem toDs_ok (R : RelH G K r h H) : ∀ (n : Nat) (ws : List W) (vs : List V) (ds : List PyData), RVs G K r H ws vs → toDs n h ws = some ds → DpAll K H vs ds ∧ PyData.canLayAll0 ds = true ∧ PyData.depthAll ds ≤ n
  | n, [], vs, ds, q, e => by
    rw [toDs_nil] at e; cases e
    rw [show vs = [] from q]
    exact ⟨.nil, by simp [PyData.canLayAll0], by simp [PyData.depthAll]⟩
  | n, w :: ws, vs, ds, q, e => by
    rw [toDs_cons] at e
    cases z : toD n h w with
    | none => rw [z] at e; cases e
    | some d =>
      rw [z] at e
      cases z2 : toDs n h ws with
      | none => rw [z2] at e; cases e
      | some ds' =>
        rw [z2] at e; cases e
        obtain ⟨v, rest, rfl, h1, h2⟩ := q
        obtain ⟨a1, a2, a3⟩ := toD_ok R n w v d h1 z
        obtain ⟨b1, b2, b3⟩ := toDs_ok R n ws rest ds' h2 z2
        exact ⟨.cons a1 b1, by simp [PyData.canLayAll0, a2, b2], by simp [PyData.depthAll]; omega⟩
end
theorem eqW_ok (R : RelH G K r h H) {x y : W} {v u : V} {b : Bool} (qx : RV G K r H x v) (qy : RV G K r H y u) (e : eqW x y h = some b) : ∃ d e', Dp K H v d ∧ Dp K H u e' ∧ SeqAt.shaped d = true ∧ SeqAt.shaped e' = true ∧ PyData.eqv d e' = b := by
  unfold eqW at e
  cases z1 : toD deep h x with
  | none => rw [z1] at e; cases e
  | some d =>
    cases z2 : toD deep h y with
    | none => rw [z1, z2] at e; cases e
    | some d2 =>
      rw [z1, z2] at e
      obtain ⟨a1, a2, a3⟩ := toD_ok R _ _ _ _ qx z1
      obtain ⟨b1, b2, b3⟩ := toD_ok R _ _ _ _ qy z2
      refine ⟨d, d2, a1, b1, ?_, ?_, Option.some.inj e⟩
      · unfold SeqAt.shaped; rw [a2]; simp; unfold deep at a3; omega
      · unfold SeqAt.shaped; rw [b2]; simp; unfold deep at b3; omega
/-! ### flat values -/
theorem flat_ok {w : W} {v : V} (q : RV G K r H w v) (e : flat w = true) : flatV v = true := by
  cases w with
  | non => rw [show v = .non from q]; rfl
  | bl b => rw [show v = .bl b from q]; rfl
  | int b => rw [show v = .int b from q]; rfl
  | str b => rw [show v = .str b from q]; rfl
  | tup _ => cases e
  | ref _ => cases e
  | scr _ => cases e
  | fn _ => cases e
  | cod _ _ _ => cases e
theorem eqF_ok {x y : W} {v u : V} (qx : RV G K r H x v) (qy : RV G K r H y u) (ex : flat x = true) (ey : flat y = true) : eqV v u = eqF x y := by
  cases x <;> first | (cases ex; done) | (cases y <;> first | (cases ey; done) | (cases qx; cases qy; rfl))
theorem flats_ok : ∀ {ws : List W} {vs : List V}, RVs G K r H ws vs → ws.all flat = true → vs.all flatV = true
  | [], vs, q, e => by rw [show vs = [] from q]; rfl
  | w :: ws, vs, q, e => by
    obtain ⟨v, rest, rfl, h1, h2⟩ := q
    simp only [List.all_cons, Bool.and_eq_true] at e ⊢
    exact ⟨flat_ok h1 e.1, flats_ok h2 e.2⟩
theorem inW_ok {x : W} {v : V} (qx : RV G K r H x v) (ex : flat x = true) : ∀ {ws : List W} {vs : List V}, RVs G K r H ws vs → ws.all flat = true → inV v vs = inW x ws
  | [], vs, q, e => by rw [show vs = [] from q]; rfl
  | w :: ws, vs, q, e => by
    obtain ⟨u, rest, rfl, h1, h2⟩ := q
    simp only [List.all_cons, Bool.and_eq_true] at e
    show (eqV u v || inV v rest) = (eqF w x || inW x ws)
    rw [eqF_ok h1 qx e.1 ex, inW_ok qx ex h2 e.2]
/-! ### places -/
theorem ixN_eq (n : Nat) (i : Int) : L2.ixN n i = ixN n i := rfl
theorem atI_ok {ws : List W} {vs : List V} {i : Int} {w : W} (q : RVs G K r H ws vs) (e : atI ws i = some w) : ∃ v, L2.atI vs i = some v ∧ RV G K r H w v := by
  unfold atI at e
  cases z : ixN ws.length i with
  | none => rw [z] at e; cases e
  | some j =>
    rw [z] at e
    obtain ⟨v, h1, h2⟩ := q.get (show ws[j]? = some w from e)
    refine ⟨v, ?_, h2⟩
    unfold L2.atI
    rw [ixN_eq, q.length, z]
    exact h1
theorem cut_ok {ws : List W} {vs : List V} (lo hi : Option Int) (q : RVs G K r H ws vs) : RVs G K r H (cutW ws lo hi) (cutV vs lo hi) := by
  have e : ∀ n d o, HT.sIx n d o = sIx n d o := fun n d o => by cases o <;> rfl
  unfold cutW cutV
  rw [e, e, q.length]
  exact (q.drop _).take _
/-! ### tables -/
theorem look_ok : ∀ {l : List (Int × W)} {kvs : List (Key × V)} (k : Int), RK G K r H l kvs → match look l k with
    | some w => ∃ v, valV kvs (Sum.inl k) = some v ∧ RV G K r H w v
    | none => valV kvs (Sum.inl k) = none
  | [], kvs, k, q => by rw [show kvs = [] from q]; rfl
  | (j, w) :: l, kvs, k, q => by
    obtain ⟨v, rest, rfl, h1, h2⟩ := q
    by_cases e : j = k
    · subst e
      have e1 : look ((j, w) :: l) j = some w := by simp [look]
      rw [e1]
      exact ⟨v, valV_pos rfl, h1⟩
    · have e1 : look ((j, w) :: l) k = look l k := by simp [look, e]
      have e2 : valV ((Sum.inl j, v) :: rest) (Sum.inl k) = valV rest (Sum.inl k : Key) := valV_neg (fun z => e (Sum.inl.inj z))
      rw [e1, e2]
      exact look_ok k h2
theorem inl_inj : ∀ {a b : List Int}, a.map (Sum.inl : Int → Key) = b.map Sum.inl → a = b
  | [], [], _ => rfl
  | [], _ :: _, e => by cases e
  | _ :: _, [], e => by cases e
  | a :: r, b :: s, e => by
    simp only [List.map_cons, List.cons.injEq] at e
    rw [Sum.inl.inj e.1, inl_inj e.2]
theorem lookT_ok : ∀ {l : List (List Int × W)} {kvs : List (List Key × V)} (k : List Int), RT G K r H l kvs → match look l k with
    | some w => ∃ v, valV kvs (k.map Sum.inl) = some v ∧ RV G K r H w v
    | none => valV kvs (k.map Sum.inl) = none
  | [], kvs, k, q => by rw [show kvs = [] from q]; rfl
  | (j, w) :: l, kvs, k, q => by
    obtain ⟨v, rest, rfl, h1, h2⟩ := q
    by_cases e : j = k
    · subst e
      have e1 : look ((j, w) :: l) j = some w := by simp [look]
      rw [e1]
      exact ⟨v, valV_pos rfl, h1⟩
    · have e1 : look ((j, w) :: l) k = look l k := by simp [look, e]
      have e2 : valV ((j.map Sum.inl, v) :: rest) (k.map Sum.inl) = valV rest (k.map Sum.inl : List Key) := valV_neg (fun z => e (inl_inj z))
      rw [e1, e2]
      exact lookT_ok k h2
theorem RK.app : ∀ {l l' : List (Int × W)} {k k' : List (Key × V)}, RK G K r H l k → RK G K r H l' k' → RK G K r H (l ++ l') (k ++ k')
  | [], _, _, _, h, h' => by rw [show _ = [] from h]; exact h'
  | (j, w) :: l, _, _, _, h, h' => by
    obtain ⟨v, rest, rfl, h2, h3⟩ := h
    exact ⟨v, rest ++ _, rfl, h2, RK.app h3 h'⟩
theorem RT.app : ∀ {l l' : List (List Int × W)} {k k' : List (List Key × V)}, RT G K r H l k → RT G K r H l' k' → RT G K r H (l ++ l') (k ++ k')
  | [], _, _, _, h, h' => by rw [show _ = [] from h]; exact h'
  | (j, w) :: l, _, _, _, h, h' => by
    obtain ⟨v, rest, rfl, h2, h3⟩ := h
    exact ⟨v, rest ++ _, rfl, h2, RT.app h3 h'⟩
theorem RK.length : ∀ {l : List (Int × W)} {k : List (Key × V)}, RK G K r H l k → k.length = l.length
  | [], _, h => by rw [show _ = [] from h]; rfl
  | (j, w) :: l, _, h => by
    obtain ⟨v, rest, rfl, h2, h3⟩ := h
    rw [List.length_cons, List.length_cons, RK.length h3]
theorem RT.length : ∀ {l : List (List Int × W)} {k : List (List Key × V)}, RT G K r H l k → k.length = l.length
  | [], _, h => by rw [show _ = [] from h]; rfl
  | (j, w) :: l, _, h => by
    obtain ⟨v, rest, rfl, h2, h3⟩ := h
    rw [List.length_cons, List.length_cons, RT.length h3]
theorem RK.keys : ∀ {l : List (Int × W)} {k : List (Key × V)}, RK G K r H l k → k.map (·.1) = (l.map (·.1)).map Sum.inl
  | [], _, h => by rw [show _ = [] from h]; rfl
  | (j, w) :: l, _, h => by
    obtain ⟨v, rest, rfl, h2, h3⟩ := h
    simp only [List.map_cons, RK.keys h3]
theorem RK.mapput {k : Int} {w : W} {v : V} (hw : RV G K r H w v) : ∀ {l : List (Int × W)} {kvs : List (Key × V)}, RK G K r H l kvs → RK G K r H (l.map fun p => if p.1 = k then (p.1, w) else p) (kvs.map fun p => if p.1 = Sum.inl k then (p.1, v) else p)
  | [], _, h => by rw [show _ = [] from h]; rfl
  | (j, x) :: l, _, h => by
    obtain ⟨u, rest, rfl, h2, h3⟩ := h
    by_cases e : j = k
    · subst e
      simp only [List.map_cons, if_pos]
      exact ⟨v, _, rfl, hw, RK.mapput hw h3⟩
    · simp only [List.map_cons, if_neg e, if_neg (show ¬ (Sum.inl j : Key) = Sum.inl k from fun z => e (Sum.inl.inj z))]
      exact ⟨u, _, rfl, h2, RK.mapput hw h3⟩
theorem RT.mapput {k : List Int} {w : W} {v : V} (hw : RV G K r H w v) : ∀ {l : List (List Int × W)} {kvs : List (List Key × V)}, RT G K r H l kvs → RT G K r H (l.map fun p => if p.1 = k then (p.1, w) else p) (kvs.map fun p => if p.1 = k.map Sum.inl then (p.1, v) else p)
  | [], _, h => by rw [show _ = [] from h]; rfl
  | (j, x) :: l, _, h => by
    obtain ⟨u, rest, rfl, h2, h3⟩ := h
    by_cases e : j = k
    · subst e
      simp only [List.map_cons, if_pos]
      exact ⟨v, _, rfl, hw, RT.mapput hw h3⟩
    · simp only [List.map_cons, if_neg e, if_neg (show ¬ (j.map Sum.inl : List Key) = k.map Sum.inl from fun z => e (inl_inj z))]
      exact ⟨u, _, rfl, h2, RT.mapput hw h3⟩
theorem RK.anyEq (k : Int) : ∀ {l : List (Int × W)} {kvs : List (Key × V)}, RK G K r H l kvs → (kvs.any fun kv => decide (kv.1 = Sum.inl k)) = l.any fun p => decide (p.1 = k)
  | [], _, h => by rw [show _ = [] from h]; rfl
  | (j, x) :: l, _, h => by
    obtain ⟨u, rest, rfl, h2, h3⟩ := h
    simp only [List.any_cons, RK.anyEq k h3, key_ll]
    by_cases e : j = k <;> simp [e]
theorem RT.anyEq (k : List Int) : ∀ {l : List (List Int × W)} {kvs : List (List Key × V)}, RT G K r H l kvs → (kvs.any fun kv => decide (kv.1 = k.map Sum.inl)) = l.any fun p => decide (p.1 = k)
  | [], _, h => by rw [show _ = [] from h]; rfl
  | (j, x) :: l, _, h => by
    obtain ⟨u, rest, rfl, h2, h3⟩ := h
    simp only [List.any_cons, RT.anyEq k h3]
    by_cases e : j = k
    · subst e; simp
    · rw [decide_eq_false (fun z => e (inl_inj z)), decide_eq_false e]
theorem put_ok {k : Int} {w : W} {v : V} (hw : RV G K r H w v) {l : List (Int × W)} {kvs : List (Key × V)} (q : RK G K r H l kvs) : RK G K r H (put l k w) (putK kvs (Sum.inl k) v) := by
  unfold put putK
  rw [q.anyEq k]
  split
  · exact q.mapput hw
  · exact q.app ⟨v, [], rfl, hw, rfl⟩
theorem putT_ok {k : List Int} {w : W} {v : V} (hw : RV G K r H w v) {l : List (List Int × W)} {kvs : List (List Key × V)} (q : RT G K r H l kvs) : RT G K r H (put l k w) (putK kvs (k.map Sum.inl) v) := by
  unfold put putK
  rw [q.anyEq k]
  split
  · exact q.mapput hw
  · exact q.app ⟨v, [], rfl, hw, rfl⟩
/-! ### fields -/
theorem fd_look (nd : G.flds.Nodup) : ∀ {l : List (Nat × W)} {fs : List (Str × V)} {k : Nat} {x : Str} {w : W}, RFd G K r H l fs → G.flds[k]? = some x → look l k = some w → ∃ v, fs.lookup x = some v ∧ RV G K r H w v
  | [], fs, k, x, w, q, hk, e => by cases e
  | (j, u) :: l, fs, k, x, w, q, hk, e => by
    obtain ⟨y, v, rest, h0, rfl, h1, h2⟩ := q
    by_cases z : j = k
    · subst z
      have e1 : look ((j, u) :: l) j = some u := by simp [look]
      rw [e1] at e; cases e
      rw [h0] at hk; cases hk
      exact ⟨v, by simp [List.lookup], h1⟩
    · have e1 : look ((j, u) :: l) k = look l k := by simp [look, z]
      rw [e1] at e
      obtain ⟨v', h3, h4⟩ := fd_look nd h2 hk e
      refine ⟨v', ?_, h4⟩
      have ne : ¬ x = y := fun q => by
        subst q
        have hj := List.getElem?_eq_some_iff.mp h0
        have hk' := List.getElem?_eq_some_iff.mp hk
        exact z ((List.getElem_inj nd).mp (hj.2.trans hk'.2.symm))
      rw [List.lookup_cons]
      have : (x == y) = false := by simp [ne]
      rw [this]; exact h3
theorem fd_none (nd : G.flds.Nodup) : ∀ {l : List (Nat × W)} {fs : List (Str × V)} {x : Str}, RFd G K r H l fs → (∀ k : Nat, G.flds[k]? ≠ some x) → fs.lookup x = none
  | [], fs, x, q, hk => by rw [show fs = [] from q]; rfl
  | (j, u) :: l, fs, x, q, hk => by
    obtain ⟨y, v, rest, h0, rfl, h1, h2⟩ := q
    have ne : ¬ x = y := fun q => hk j (by rw [h0, q])
    rw [List.lookup_cons]
    have : (x == y) = false := by simp [ne]
    rw [this]; exact fd_none nd h2 hk
theorem fd_put (nd : G.flds.Nodup) {k : Nat} {x : Str} {w : W} {v : V} (hk : G.flds[k]? = some x) (hw : RV G K r H w v) : ∀ {l : List (Nat × W)} {fs : List (Str × V)}, RFd G K r H l fs → (l.map (·.1)).Nodup → RFd G K r H (put l k w) (putF x v fs)
  | [], fs, q, _ => by rw [show fs = [] from q]; exact ⟨x, v, [], hk, rfl, hw, rfl⟩
  | (j, u) :: l, fs, q, hn => by
    obtain ⟨y, v', rest, h0, rfl, h1, h2⟩ := q
    by_cases z : j = k
    · subst z
      rw [h0] at hk; cases hk
      have e1 : put ((j, u) :: l) j w = (j, w) :: l := by
        unfold put
        simp only [List.any_cons, decide_true, Bool.true_or, if_pos, List.map_cons]
        congr 1
        have hn2 : j ∉ l.map (·.1) := (List.nodup_cons.mp hn).1
        have : ∀ l : List (Nat × W), j ∉ l.map (·.1) → l.map (fun p => if p.1 = j then (p.1, w) else p) = l := by
          intro l
          induction l with
          | nil => intro _; rfl
          | cons p l ih =>
            intro hp
            simp only [List.map_cons, List.mem_cons, not_or] at hp
            rw [List.map_cons, if_neg (fun e => hp.1 e.symm), ih hp.2]
        exact this l hn2
      have e2 : putF x v ((x, v') :: rest) = (x, v) :: rest := by simp [putF]
      rw [e1, e2]
      exact ⟨x, v, rest, h0, rfl, hw, h2⟩
    · have ne : ¬ y = x := fun q => by
        subst q
        have hj := List.getElem?_eq_some_iff.mp h0
        have hk' := List.getElem?_eq_some_iff.mp hk
        exact z ((List.getElem_inj nd).mp (hj.2.trans hk'.2.symm))
      have e1 : put ((j, u) :: l) k w = (j, u) :: put l k w := by
        unfold put
        simp only [List.any_cons, decide_eq_false z, Bool.false_or, List.map_cons, if_neg z]
        split <;> rfl
      have e2 : putF x v ((y, v') :: rest) = (y, v') :: putF x v rest := by simp [putF, ne]
      rw [e1, e2]
      exact ⟨y, v', _, h0, rfl, h1, fd_put nd hk hw h2 (List.nodup_cons.mp hn).2⟩
end
/-! ### sorting -/
theorem insI_perm (a : Int) : ∀ l : List Int, (insI a l).Perm (a :: l)
  | [] => List.Perm.refl _
  | b :: r => by
    unfold insI
    split
    · exact List.Perm.refl _
    · exact ((insI_perm a r).cons b).trans (List.Perm.swap a b r)
theorem sortI_perm : ∀ l : List Int, (sortI l).Perm l
  | [] => List.Perm.refl _
  | a :: r => (insI_perm a (sortI r)).trans ((sortI_perm r).cons a)
theorem insI_sorted (a : Int) : ∀ l : List Int, l.Pairwise (· ≤ ·) → (insI a l).Pairwise (· ≤ ·)
  | [], _ => by simp [insI]
  | b :: r, h => by
    unfold insI
    have h' := List.pairwise_cons.mp h
    split
    · rename_i hab
      refine List.pairwise_cons.mpr ⟨fun c hc => ?_, h⟩
      rcases List.mem_cons.mp hc with rfl | hc
      · exact hab
      · exact Int.le_trans hab (h'.1 c hc)
    · rename_i hab
      refine List.pairwise_cons.mpr ⟨fun c hc => ?_, insI_sorted a r h'.2⟩
      rcases List.mem_cons.mp ((insI_perm a r).mem_iff.mp hc) with rfl | hc
      · omega
      · exact h'.1 c hc
theorem sortI_sorted : ∀ l : List Int, (sortI l).Pairwise (· ≤ ·)
  | [] => List.Pairwise.nil
  | a :: r => insI_sorted a _ (sortI_sorted r)
theorem sorted_one : ∀ {a b : List Int}, a.Perm b → a.Pairwise (· ≤ ·) → b.Pairwise (· ≤ ·) → a = b
  | [], b, p, _, _ => (List.Perm.nil_eq p)
  | x :: a, b, p, ha, hb => by
    cases b with
    | nil => exact absurd p.symm.nil_eq (by simp)
    | cons y b =>
      have ha' := List.pairwise_cons.mp ha
      have hb' := List.pairwise_cons.mp hb
      have e : x = y := by
        have h1 : x ∈ y :: b := p.mem_iff.mp List.mem_cons_self
        have h2 : y ∈ x :: a := p.mem_iff.mpr List.mem_cons_self
        rcases List.mem_cons.mp h1 with h1 | h1
        · exact h1
        · rcases List.mem_cons.mp h2 with h2 | h2
          · exact h2.symm
          · have := hb'.1 x h1
            have := ha'.1 y h2
            omega
      subst e
      rw [sorted_one (List.Perm.cons_inv p) ha'.2 hb'.2]
theorem sort_eq {a b : List Int} (p : a.Perm b) (h : a.Pairwise (· ≤ ·)) : a = sortI b := sorted_one (p.trans (sortI_perm b).symm) h (sortI_sorted b)
/-- sorted(d) of a dict, all keys ints, any number of them (as the library's call_sortedDI, with the sort of any length) -/
theorem call_sortedDN {X : Cx} (hcalm : X.calm = true) : CallR X (.builtin "sorted") (fun xs H Q => ∃ (a : Addr) (kvs : List (Key × V)) (ks : List Int), xs = [.ref a] ∧ Rd H a (.dK kvs) ∧ kvs.map (·.1) = ks.map Sum.inl ∧
    ∀ (ys : List Int) (p : Addr), ys.Perm ks → ys.Pairwise (· ≤ ·) → H p = none → Q (.ref p) (upd H p (.lst (ys.map V.int)))) := by
  intro pins s σ H xs us Q I r q
  obtain ⟨a, kvs, ks, ex, hd, hks, q⟩ := q
  subst ex
  obtain ⟨u, eu, rx⟩ := vals1 r
  subst eu
  cases rx
  obtain ⟨z, lo, vs, rel, dd⟩ := dk_rd I.hok hd
  obtain ⟨ep, hat⟩ := dd.dictAt
  have hkeys : vs.map (·.1) = ks.map Sum.inl := rel.keys.symm.trans hks
  have hl : vs.length = ks.length := by
    have e := congrArg List.length hkeys
    rw [List.length_map, List.length_map] at e
    exact e
  have h16 : vs.length ≤ sizeLine := by rw [← rel.length]; exact z
  refine Calls.call_function_entry PyProof.Rows.kind_sorted PyProof.Rows.plain_sorted PyProof.Rows.entry_sorted (PyProof.Rows.args_sorted1 _) ?_
  unfold Builtin.«sorted»
  refine wpAny_bind (m := checkCount "sorted" 1 1 _) (wpAny_pure ?_)
  refine wpAny_bind (PySem.W.kdu_collect (A := X.A.in1) (PySem.W.kdl_dict (knd := mixKind X.prog X.w) (kvs := vs) (ep := ep) lo) (I.ok.hd hcalm) hat h16 fun h' tk acc hk hacc => ?_)
  have hal : acc.toList.length = ks.length := by rw [Array.length_toList, hacc.1, hl]
  have hS : IntsAre acc.toList ks := ints_each hal fun j v e => by
    obtain ⟨k, x, e1, e2⟩ := hacc.2 j v (by rw [← Array.getElem?_toList]; exact e)
    have e3 : (vs.map (·.1))[j]? = some k := by rw [List.getElem?_map, e1]; rfl
    rw [hkeys, List.getElem?_map] at e3
    cases e4 : ks[j]? with
    | none => rw [e4] at e3; cases e3
    | some y =>
      rw [e4] at e3
      have e5 : Sum.inl y = k := Option.some.inj e3
      subst e5
      rcases keyIs_shape (show keyIs (Sum.inl y) v = true from e2) with ⟨i, t, ek, ev⟩ | ⟨z, t, ek, ev⟩
      · cases ek
        exact ⟨y, t, rfl, ev⟩
      · cases ek
  have I1 : Inv X pins σ H { s with heap := h', toks := tk } := I.kept hk
  have hsz : acc.toList.length ≤ sizeLine := by rw [hal, ← hl]; exact h16
  refine wpAny_bind (wpAny_newList ?_ hsz)
  have hoL : (h'.push (seqObj "list" acc.toList.toArray 0)).get? h'.objs.size = some (seqObj "list" acc.toList.toArray 0) := Heap.get?_push_size _ rfl
  show wpAny _ _ _ _ _ { s with heap := h'.push (seqObj "list" acc.toList.toArray 0), toks := tk }
  refine wpAny_bind (wpAny_holding (wpAny_call_entry PyProof.Rows.slot_list_sort ⟨_, hoL, rfl⟩ PyProof.Rows.entry_list_sort
    (SrtO.list_sort_ord (s := { s with heap := h'.push (seqObj "list" acc.toList.toArray 0), toks := tk }) SrtO.swo_int hoL hsz (fun h2 => SrtO.ints_sortable hS h2) fun out g1 g2 => ⟨_, rfl, ?_⟩) (PyProof.Rows.args_list_sort _)))
  obtain ⟨k1, k2, k3⟩ := SrtO.ints_out hS g1 g2
  obtain ⟨e', he'⟩ := PyProof.Rows.sortedHeap_at (vs := acc.toList) (out := out.toArray) hoL
  have hlen : ((out.map SrtO.iv).map V.int).length ≤ sizeLine := by
    rw [List.length_map, k2.length_eq, ← hal]
    exact hsz
  refine wpAny_pure ⟨_, rfl, .ref h'.objs.size, upd H h'.objs.size (.lst ((out.map SrtO.iv).map V.int)), I1.laid (t' := tk) (fun b u e => ?_) (Nat.le_refl _)
    (show ObjOk X.prog X.w _ _ _ (.lst ((out.map SrtO.iv).map V.int)) from ⟨hlen, out, e', vals_of_ints k1, he'⟩), rfl, q _ _ k2 k3 (I1.hok.fresh (Nat.le_refl _))⟩
  have hb : b < h'.objs.size := Heap.lt_size e
  rw [PyProof.Rows.sortedHeap_old (Nat.ne_of_lt hb) (by rw [size_push']; exact Nat.lt_succ_of_lt hb)]
  exact Heap.get?_push_of_some _ e
end WL

/-! expressions: each rule -/
namespace WL
open PySem PySem.Spec PyProof.Rows L2
def R.tst (x : R W) : R Bool := x.bind fun w h => match w with
  | .bl b => .ok b h
  | _ => .bad
def relQ {α : Type} : List Addr → Hp → Hm → α → α → Prop := fun _ _ _ a b => a = b
abbrev TEm (G : Nm) (K : PySem.W.Frag) (Wx : WX) (m : F → Hm → R W) : TE := TmG G K (relW G K) Wx m
abbrev TTm (G : Nm) (K : PySem.W.Frag) (Wx : WX) (m : F → Hm → R W) : TT := TmG G K (relQ) Wx (fun f h => (m f h).tst)
abbrev TAm (G : Nm) (K : PySem.W.Frag) (Wx : WX) (m : F → Hm → R (List W)) : TA := TmG G K (relA G K) Wx m
section
variable {G : Nm} {X : Cx} {Wx : WX} {e a b c : Expr} {es : List Expr} {ma mb mc : F → Hm → R W} {pos : Pos}
theorem pe_weak {t t' : TE} (p : PE X e t) (h : ∀ σ H Q, t' σ H Q → t σ H Q) : PE X e t' := ⟨fun pins s σ H Q I q => p.run pins s σ H Q I (h σ H Q q)⟩
theorem pt_weak {t t' : TT} (p : PT X e t) (h : ∀ σ H Q, t' σ H Q → t σ H Q) : PT X e t' := ⟨fun pins s σ H Q I q => p.run pins s σ H Q I (h σ H Q q)⟩
theorem pw_weak {t t' : TT} (p : PW X e t) (h : ∀ σ H Q, t' σ H Q → t σ H Q) : PW X e t' := ⟨fun wh pins s σ H Q I q => p.run wh pins s σ H Q I (h σ H Q q)⟩
theorem pa_weak {t t' : TA} (p : PA X es t) (h : ∀ σ H Q, t' σ H Q → t σ H Q) : PA X es t' := ⟨fun po pins s σ H Q I q => p.run po pins s σ H Q I (h σ H Q q)⟩
theorem pe_bad : PE X e (TEm G X.K Wx fun _ _ => .bad) := ⟨fun _ _ _ _ _ _ h => by obtain ⟨_, _, _, _, p⟩ := h; exact p.elim⟩
theorem pt_bad : PT X e (TTm G X.K Wx fun _ _ => .bad) := ⟨fun _ _ _ _ _ _ h => by obtain ⟨_, _, _, _, p⟩ := h; exact p.elim⟩
theorem pa_bad : PA X es (TAm G X.K Wx fun _ _ => .bad) := ⟨fun _ _ _ _ _ _ _ h => by obtain ⟨_, _, _, _, p⟩ := h; exact p.elim⟩
/-- a value that is there -/
theorem te_c {w : W} {v : V} (hv : ∀ r H, RV G X.K r H w v) : ∀ σ H Q, TEm G X.K Wx (fun _ h => .ok w h) σ H Q → tC v σ H Q := by
  rintro σ H Q ⟨r, f, h, S, p⟩
  exact p r H v .refl S.heap (hv r H)
theorem te_var {i : Nat} : ∀ σ H Q, TEm G X.K Wx (fun f h => match f[i]? with | some (some w) => .ok w h | _ => .bad) σ H Q → tVar i σ H Q := by
  rintro σ H Q ⟨r, f, h, S, p⟩
  cases e : f[i]? with
  | none => simp only [e] at p; exact p.elim
  | some o =>
    cases o with
    | none => simp only [e] at p; exact p.elim
    | some w =>
      simp only [e] at p
      obtain ⟨v, h1, h2⟩ := S.fr i w e
      exact ⟨v, h1, p r H v .refl S.heap h2⟩
/-- two parts and a step upon their values -/
theorem te_op {r : R2} {fop : W → W → Hm → R W} (hr : ∀ (σ : St) (r0 : List Addr) (h : Hm) (H : Hp) (x y : W) (v u : V) (Q : VK), RelH G X.K r0 h H → RV G X.K r0 H x v → RV G X.K r0 H y u → PostG G X.K (relW G X.K) Wx σ r0 H (fop x y h) Q → r v u H Q) :
    ∀ σ H Q, TEm G X.K Wx (fun f h => (ma f h).bind fun x h1 => (mb f h1).bind fun y h2 => fop x y h2) σ H Q → tOp r (TEm G X.K Wx ma) (TEm G X.K Wx mb) σ H Q := by
  rintro σ H Q ⟨r0, f, h, S, p⟩
  refine ⟨r0, f, h, S, (PostG.seq (rel := relW G X.K) p).mono ?_⟩
  rintro v H1 ⟨r1, x, h1, e1, R1, q1, p1⟩
  refine ⟨r1, f, h1, S.ext e1 R1, (PostG.seq (rel := relW G X.K) p1).mono ?_⟩
  rintro u H2 ⟨r2, y, h2, e2, R2, q2, p2⟩
  exact hr σ r2 h2 H2 x y v u Q R2 (q1.ext e2) q2 p2
theorem te_un {r : V → Hp → VK → Prop} {fop : W → Hm → R W} (hr : ∀ (σ : St) (r0 : List Addr) (h : Hm) (H : Hp) (x : W) (v : V) (Q : VK), RelH G X.K r0 h H → RV G X.K r0 H x v → PostG G X.K (relW G X.K) Wx σ r0 H (fop x h) Q → r v H Q) :
    ∀ σ H Q, TEm G X.K Wx (fun f h => (ma f h).bind fun x h1 => fop x h1) σ H Q → tUn r (TEm G X.K Wx ma) σ H Q := by
  rintro σ H Q ⟨r0, f, h, S, p⟩
  refine ⟨r0, f, h, S, (PostG.seq (rel := relW G X.K) p).mono ?_⟩
  rintro v H1 ⟨r1, x, h1, e1, R1, q1, p1⟩
  exact hr σ r1 h1 H1 x v Q R1 q1 p1
/-- a test's answer out of a value's -/
theorem post_tst {σ : St} {r : List Addr} {H : Hp} {x : R W} {K : PySem.W.Frag} {Q : Bool → Hp → Prop} (p : PostG G K relQ Wx σ r H x.tst Q) : PostG G K (relW G K) Wx σ r H x fun v H1 => ∃ c, v = .bl c ∧ Q c H1 := by
  cases x with
  | ok w h =>
    cases w with
    | bl b =>
      intro r' H' v e R q
      exact ⟨b, q, p r' H' b e R rfl⟩
    | non => exact p.elim
    | int _ => exact p.elim
    | str _ => exact p.elim
    | tup _ => exact p.elim
    | ref _ => exact p.elim
    | scr _ => exact p.elim
    | fn _ => exact p.elim
    | cod _ _ _ => exact p.elim
  | exc c h => exact p
  | bad => exact p
def plainT : Expr → Bool
  | .UnaryOp .Not _ _ => false
  | .BoolOp _ _ _ => false
  | .IfExp _ _ _ _ => false
  | .Compare _ _ _ _ => false
  | _ => true
theorem isTrue_plainT (h : plainT e = true) (env : Env) : ∀ whole, isTrue e env whole = (do let v ← whole; standAt e.pos; holding [v] (truthy v)) := by
  intro whole
  cases e with
  | UnaryOp op _ _ => cases op <;> first | rfl | cases h
  | BoolOp _ _ _ => cases h
  | IfExp _ _ _ _ => cases h
  | Compare _ _ _ _ => cases h
  | _ => rfl
theorem pt_of_pe (h : plainT e = true) (p : PE X e (TEm G X.K Wx ma)) : PT X e (TTm G X.K Wx ma) := by
  refine pt_weak (pt_val p (isTrue_plainT h X.env)) ?_
  rintro σ H Q ⟨r, f, h, S, q⟩
  exact ⟨r, f, h, S, post_tst q⟩
/-! ### and, or, not, if -/
theorem te_and : ∀ σ H Q, TEm G X.K Wx (fun f h => (ma f h).bind fun x h1 => match x with | .bl true => mb f h1 | .bl false => .ok (.bl false) h1 | _ => .bad) σ H Q → tAndV (TEm G X.K Wx ma) (TEm G X.K Wx mb) σ H Q := by
  rintro σ H Q ⟨r0, f, h, S, p⟩
  refine ⟨r0, f, h, S, (PostG.seq (rel := relW G X.K) p).mono ?_⟩
  rintro v H1 ⟨r1, x, h1, e1, R1, q1, p1⟩
  cases x with
  | bl b =>
    refine ⟨b, q1, ?_⟩
    cases b with
    | true => exact ⟨r1, f, h1, S.ext e1 R1, p1⟩
    | false => exact p1 r1 H1 _ .refl R1 rfl
  | _ => exact p1.elim
theorem te_or : ∀ σ H Q, TEm G X.K Wx (fun f h => (ma f h).bind fun x h1 => match x with | .bl false => mb f h1 | .bl true => .ok (.bl true) h1 | _ => .bad) σ H Q → tOrV (TEm G X.K Wx ma) (TEm G X.K Wx mb) σ H Q := by
  rintro σ H Q ⟨r0, f, h, S, p⟩
  refine ⟨r0, f, h, S, (PostG.seq (rel := relW G X.K) p).mono ?_⟩
  rintro v H1 ⟨r1, x, h1, e1, R1, q1, p1⟩
  cases x with
  | bl b =>
    refine ⟨b, q1, ?_⟩
    cases b with
    | false => exact ⟨r1, f, h1, S.ext e1 R1, p1⟩
    | true => exact p1 r1 H1 _ .refl R1 rfl
  | _ => exact p1.elim
theorem te_not : ∀ σ H Q, TEm G X.K Wx (fun f h => (ma f h).bind fun x h1 => match x with | .bl b => .ok (.bl (!b)) h1 | _ => .bad) σ H Q → tNotV (TEm G X.K Wx ma) σ H Q := by
  rintro σ H Q ⟨r0, f, h, S, p⟩
  refine ⟨r0, f, h, S, (PostG.seq (rel := relW G X.K) p).mono ?_⟩
  rintro v H1 ⟨r1, x, h1, e1, R1, q1, p1⟩
  cases x with
  | bl b => exact ⟨b, q1, p1 r1 H1 _ .refl R1 rfl⟩
  | _ => exact p1.elim
theorem bind_assoc {α β γ : Type} (x : R α) (f : α → Hm → R β) (g : β → Hm → R γ) : (x.bind f).bind g = x.bind fun a h => (f a h).bind g := by cases x <;> rfl
theorem tt_seq {m1 : F → Hm → R W} {f1 : Bool → F → Hm → R W} (hf : ∀ f h, m1 f h = (ma f h).tst.bind fun b h1 => f1 b f h1) {σ : St} {H : Hp} {Q : Bool → Hp → Prop} (q : TTm G X.K Wx m1 σ H Q) :
    TTm G X.K Wx ma σ H fun b H1 => TTm G X.K Wx (f1 b) σ H1 Q := by
  obtain ⟨r0, f, h, S, p⟩ := q
  refine ⟨r0, f, h, S, ?_⟩
  have e : (m1 f h).tst = (ma f h).tst.bind fun b h1 => (f1 b f h1).tst := by
    rw [hf]; unfold R.tst; exact bind_assoc _ _ _
  have p : PostG G X.K relQ Wx σ r0 H ((m1 f h).tst) Q := p
  rw [e] at p
  refine (PostG.seq (rel := relQ) p).mono ?_
  rintro b H1 ⟨r1, x, h1, e1, R1, rfl, p1⟩
  exact ⟨r1, f, h1, S.ext e1 R1, p1⟩
theorem tt_okb {b : Bool} {σ : St} {H : Hp} {Q : Bool → Hp → Prop} (q : TTm G X.K Wx (fun _ h => .ok (.bl b) h) σ H Q) : Q b H := by
  obtain ⟨r0, f, h, S, p⟩ := q
  exact p r0 H b .refl S.heap rfl
theorem tt_and : ∀ σ H Q, TTm G X.K Wx (fun f h => (ma f h).bind fun x h1 => match x with | .bl true => mb f h1 | .bl false => .ok (.bl false) h1 | _ => .bad) σ H Q → tAnd (TTm G X.K Wx ma) (TTm G X.K Wx mb) σ H Q := by
  intro σ H Q q
  have q2 := tt_seq (f1 := fun b f h1 => if b then mb f h1 else .ok (.bl false) h1) (ma := ma) (fun f h => by
    unfold R.tst; rw [bind_assoc]; congr 1; funext x h1; cases x with
    | bl b => cases b <;> rfl
    | _ => rfl) q
  obtain ⟨r0, f, h, S, p⟩ := q2
  refine ⟨r0, f, h, S, p.mono fun b H1 z => ?_⟩
  cases b with
  | true => exact z
  | false => exact tt_okb z
theorem tt_or : ∀ σ H Q, TTm G X.K Wx (fun f h => (ma f h).bind fun x h1 => match x with | .bl false => mb f h1 | .bl true => .ok (.bl true) h1 | _ => .bad) σ H Q → tOr (TTm G X.K Wx ma) (TTm G X.K Wx mb) σ H Q := by
  intro σ H Q q
  have q2 := tt_seq (f1 := fun b f h1 => if b then .ok (.bl true) h1 else mb f h1) (ma := ma) (fun f h => by
    unfold R.tst; rw [bind_assoc]; congr 1; funext x h1; cases x with
    | bl b => cases b <;> rfl
    | _ => rfl) q
  obtain ⟨r0, f, h, S, p⟩ := q2
  refine ⟨r0, f, h, S, p.mono fun b H1 z => ?_⟩
  cases b with
  | false => exact z
  | true => exact tt_okb z
theorem tt_not : ∀ σ H Q, TTm G X.K Wx (fun f h => (ma f h).bind fun x h1 => match x with | .bl b => .ok (.bl (!b)) h1 | _ => .bad) σ H Q → tNot (TTm G X.K Wx ma) σ H Q := by
  intro σ H Q q
  have q2 := tt_seq (f1 := fun b f h1 => .ok (.bl (!b)) h1) (ma := ma) (fun f h => by
    unfold R.tst; rw [bind_assoc]; congr 1; funext x h1; cases x with
    | bl b => rfl
    | _ => rfl) q
  obtain ⟨r0, f, h, S, p⟩ := q2
  exact ⟨r0, f, h, S, p.mono fun b H1 z => tt_okb z⟩
theorem te_if : ∀ σ H Q, TEm G X.K Wx (fun f h => (mc f h).bind fun x h1 => match x with | .bl true => ma f h1 | .bl false => mb f h1 | _ => .bad) σ H Q → tIf (TTm G X.K Wx mc) (TEm G X.K Wx ma) (TEm G X.K Wx mb) σ H Q := by
  rintro σ H Q ⟨r0, f, h, S, p⟩
  refine ⟨r0, f, h, S, ?_⟩
  have e : ((mc f h).bind fun x h1 => match x with | .bl true => ma f h1 | .bl false => mb f h1 | _ => .bad) = (mc f h).tst.bind fun b h1 => if b then ma f h1 else mb f h1 := by
    unfold R.tst; rw [bind_assoc]; congr 1; funext x h1; cases x with
    | bl b => cases b <;> rfl
    | _ => rfl
  have p : PostG G X.K (relW G X.K) Wx σ r0 H ((mc f h).bind fun x h1 => match x with | .bl true => ma f h1 | .bl false => mb f h1 | _ => .bad) Q := p
  rw [e] at p
  refine (PostG.seq (rel := relQ) p).mono ?_
  rintro b H1 ⟨r1, x, h1, e1, R1, rfl, p1⟩
  cases x with
  | true => exact ⟨r1, f, h1, S.ext e1 R1, p1⟩
  | false => exact ⟨r1, f, h1, S.ext e1 R1, p1⟩
/-! ### argument lists -/
theorem ta_cons {me : F → Hm → R W} {ms : F → Hm → R (List W)} : ∀ σ H Q, TAm G X.K Wx (fun f h => (me f h).bind fun x h1 => (ms f h1).bind fun xs h2 => .ok (x :: xs) h2) σ H Q → tCons (TEm G X.K Wx me) (TAm G X.K Wx ms) σ H Q := by
  rintro σ H Q ⟨r0, f, h, S, p⟩
  refine ⟨r0, f, h, S, (PostG.seq (rel := relW G X.K) p).mono ?_⟩
  rintro v H1 ⟨r1, x, h1, e1, R1, q1, p1⟩
  refine ⟨r1, f, h1, S.ext e1 R1, (PostG.seq (rel := relA G X.K) p1).mono ?_⟩
  rintro u H2 ⟨r2, xs, h2, e2, R2, q2, p2⟩
  exact p2 r2 H2 _ .refl R2 ⟨v, u, rfl, q1.ext e2, q2⟩
theorem ta_nil : ∀ σ H Q, TAm G X.K Wx (fun _ h => .ok [] h) σ H Q → tNil σ H Q := by
  rintro σ H Q ⟨r0, f, h, S, p⟩
  exact p r0 H [] .refl S.heap rfl
theorem star_cons {env : Env} (h : noStar e = true) (es : List Expr) : starEach (e :: es) env = (false, eval e env) :: starEach es env := by
  cases e <;> first | rfl | cases h
theorem star_any {env : Env} {pos : Pos} : ∀ {es : List Expr}, es.all noStar = true → (backTo pos (starEach es env)).any (·.1) = false
  | [], _ => rfl
  | e :: es, h => by
    simp only [List.all_cons, Bool.and_eq_true] at h
    rw [star_cons h.1]
    show (false || (backTo pos (starEach es env)).any (·.1)) = false
    rw [star_any h.2]; rfl
theorem star_all {env : Env} {pos : Pos} : ∀ {es : List Expr}, es.all noStar = true → (backTo pos (starEach es env)).all (fun x => !x.1) = true
  | [], _ => rfl
  | e :: es, h => by
    simp only [List.all_cons, Bool.and_eq_true] at h
    rw [star_cons h.1]
    show (true && (backTo pos (starEach es env)).all (fun x => !x.1)) = true
    rw [star_all h.2]; rfl
theorem pa_all {C : Cb} {ce : Expr → E} (hp : ∀ e, PE X e (TEm G X.K Wx (ev C (ce e)))) : ∀ {es : List Expr}, es.all noStar = true → PA X es (TAm G X.K Wx (evs C (listE (es.map ce))))
  | [], _ => pa_weak pa_nil (by
      intro σ H Q q
      rw [show (listE (List.map ce [])) = E.nil from rfl, evs_nil] at q
      exact ta_nil σ H Q q)
  | e :: es, h => by
    simp only [List.all_cons, Bool.and_eq_true] at h
    refine pa_weak (pa_cons (hp e) (pa_all hp h.2) (star_cons h.1 es)) ?_
    intro σ H Q q
    rw [show (listE (List.map ce (e :: es))) = E.cons (ce e) (listE (List.map ce es)) from rfl, evs_cons] at q
    exact ta_cons σ H Q q
/-! ### displays -/
theorem te_tup {ms : F → Hm → R (List W)} : ∀ σ H Q, TEm G X.K Wx (fun f h => (ms f h).bind fun ws h1 => if ws.length ≤ line then .ok (.tup ws) h1 else .bad) σ H Q → tTup (TAm G X.K Wx ms) σ H Q := by
  rintro σ H Q ⟨r0, f, h, S, p⟩
  refine ⟨r0, f, h, S, (PostG.seq (rel := relA G X.K) p).mono ?_⟩
  rintro v H1 ⟨r1, x, h1, e1, R1, q1, p1⟩
  by_cases hl : x.length ≤ line
  · rw [if_pos hl] at p1
    refine ⟨by rw [q1.length]; exact hl, fun pt hp => ?_⟩
    exact p1 r1 _ _ (Ext.new hp) (R1.aside hp) ⟨pt, v, rfl, upd_same, q1.ext (Ext.new hp)⟩
  · rw [if_neg hl] at p1; exact p1.elim
/-- a new object, as the machine lays it -/
theorem post_alloc {K : PySem.W.Frag} {σ : St} {r : List Addr} {h : Hm} {H : Hp} {o : O} {ho : HO} {pt : Addr} {Q : VK} (p : PostG G K (relW G K) Wx σ r H (alloc o h) Q) (R : RelH G K r h H) (hp : H pt = none) (ro : RO G K r (upd H pt ho) pt o) : Q (.ref pt) (upd H pt ho) := by
  refine p (r ++ [pt]) (upd H pt ho) (.ref pt) (Ext.laid hp) (R.laid hp ro) ⟨pt, rfl, ?_⟩
  rw [← R.len, List.getElem?_append_right (Nat.le_refl _)]; simp
theorem ext_laid {r : List Addr} {H : Hp} {pt : Addr} {ho : HO} (hp : H pt = none) : Ext r H r (upd H pt ho) := Ext.new hp
theorem te_lst {ms : F → Hm → R (List W)} : ∀ σ H Q, TEm G X.K Wx (fun f h => (ms f h).bind fun ws h1 => if ws.length ≤ line then alloc (.lst ws) h1 else .bad) σ H Q → tLst (TAm G X.K Wx ms) σ H Q := by
  rintro σ H Q ⟨r0, f, h, S, p⟩
  refine ⟨r0, f, h, S, (PostG.seq (rel := relA G X.K) p).mono ?_⟩
  rintro v H1 ⟨r1, x, h1, e1, R1, q1, p1⟩
  by_cases hl : x.length ≤ line
  · rw [if_pos hl] at p1
    refine ⟨by rw [q1.length]; exact hl, fun pt hp => ?_⟩
    exact post_alloc p1 R1 hp ⟨v, upd_same, q1.ext (ext_laid hp)⟩
  · rw [if_neg hl] at p1; exact p1.elim
theorem te_dK : ∀ σ H Q, TEm G X.K Wx (fun _ h => alloc (.dK []) h) σ H Q → tDNewK σ H Q := by
  rintro σ H Q ⟨r0, f, h, S, p⟩ pt hp
  exact post_alloc p S.heap hp ⟨[], upd_same, rfl⟩
theorem te_dT : ∀ σ H Q, TEm G X.K Wx (fun _ h => alloc (.dT []) h) σ H Q → tDNewT σ H Q := by
  rintro σ H Q ⟨r0, f, h, S, p⟩ pt hp
  exact post_alloc p S.heap hp ⟨[], upd_same, rfl⟩
end
end WL

/-! operators, subscripts, slices -/
namespace WL
open PySem PySem.Spec PyProof.Rows L2
section
variable {G : Nm} {X : Cx} {Wx : WX} {e a b c : Expr} {es : List Expr} {ma mb mc : F → Hm → R W} {pos : Pos}
theorem no_op {f : Value → Value → Sem Value} : OpR X f (fun _ _ _ _ => False) := fun _ _ _ _ _ _ _ _ _ _ _ _ h => h.elim
theorem post_ok {K : PySem.W.Frag} {σ : St} {r : List Addr} {h : Hm} {H : Hp} {w : W} {v : V} {Q : VK} (p : PostG G K (relW G K) Wx σ r H (.ok w h) Q) (R : RelH G K r h H) (q : RV G K r H w v) : Q v H := p r H v .refl R q
theorem ro_lst {K : PySem.W.Frag} {r : List Addr} {h : Hm} {H : Hp} {n : Nat} {a : Addr} {l : List W} (R : RelH G K r h H) (ha : r[n]? = some a) (e : h[n]? = some (.lst l)) : ∃ vs, H a = some (.lst vs) ∧ RVs G K r H l vs := R.obj n a _ ha e
theorem RVs.rep {K : PySem.W.Frag} {r : List Addr} {H : Hp} {l : List W} {vs : List V} (q : RVs G K r H l vs) : ∀ n : Nat, RVs G K r H (List.replicate n l).flatten (List.replicate n vs).flatten
  | 0 => rfl
  | n + 1 => by
    rw [List.replicate_succ, List.replicate_succ, List.flatten_cons, List.flatten_cons]
    exact q.app (RVs.rep q n)
theorem pe_bin {o : Operator} (ha : PE X a (TEm G X.K Wx ma)) (hb : PE X b (TEm G X.K Wx mb)) : PE X (.BinOp a o b pos) (TEm G X.K Wx fun f h => (ma f h).bind fun x h1 => (mb f h1).bind fun y h2 => binW o x y h2) := by
  have nope : (∀ x y h, binW o x y h = .bad) → PE X (.BinOp a o b pos) (TEm G X.K Wx fun f h => (ma f h).bind fun x h1 => (mb f h1).bind fun y h2 => binW o x y h2) := fun z =>
    pe_weak (pe_op no_op ha hb) (te_op fun σ r0 h H x y v u Q R q1 q2 p => by rw [z] at p; exact p)
  cases o with
  | Add =>
    refine pe_weak (pe_op (OpR.or op_add op_cat) ha hb) (te_op fun σ r0 h H x y v u Q R q1 q2 p => ?_)
    cases x with
    | int i =>
      cases y with
      | int j => exact .inl ⟨i, j, q1, q2, post_ok p R rfl⟩
      | _ => exact p.elim
    | ref m =>
      cases y with
      | ref n =>
        obtain ⟨pa, rfl, ha⟩ := q1
        obtain ⟨pb, rfl, hb⟩ := q2
        simp only [binW] at p
        cases e1 : h[m]? with
        | none => simp only [e1] at p; exact p.elim
        | some o1 =>
          cases o1 with
          | lst xs =>
            cases e2 : h[n]? with
            | none => simp only [e1, e2] at p; exact p.elim
            | some o2 =>
              cases o2 with
              | lst ys =>
                simp only [e1, e2] at p
                by_cases hl : xs.length + ys.length ≤ line
                · rw [if_pos hl] at p
                  obtain ⟨vx, k1, k2⟩ := ro_lst R ha e1
                  obtain ⟨vy, k3, k4⟩ := ro_lst R hb e2
                  refine .inr ⟨pa, pb, vx, vy, rfl, rfl, k1, k3, by rw [k2.length, k4.length]; exact hl, fun pt hp => ?_⟩
                  exact post_alloc p R hp ⟨_, upd_same, (k2.app k4).ext (ext_laid hp)⟩
                · rw [if_neg hl] at p; exact p.elim
              | _ => simp only [e1, e2] at p; exact p.elim
          | _ => simp only [e1] at p; exact p.elim
      | _ => exact p.elim
    | _ => exact p.elim
  | Sub =>
    refine pe_weak (pe_op op_sub ha hb) (te_op fun σ r0 h H x y v u Q R q1 q2 p => ?_)
    cases x with
    | int i =>
      cases y with
      | int j => exact ⟨i, j, q1, q2, post_ok p R rfl⟩
      | _ => exact p.elim
    | _ => exact p.elim
  | Mult =>
    refine pe_weak (pe_op (OpR.or op_mulW op_rep) ha hb) (te_op fun σ r0 h H x y v u Q R q1 q2 p => ?_)
    cases x with
    | int i =>
      cases y with
      | int j =>
        simp only [binW] at p
        by_cases hc : i.natAbs.log2 + j.natAbs.log2 < 1000000
        · rw [if_pos hc] at p; exact .inl ⟨i, j, q1, q2, hc, post_ok p R rfl⟩
        · rw [if_neg hc] at p; exact p.elim
      | _ => exact p.elim
    | ref m =>
      cases y with
      | int k =>
        obtain ⟨pa, rfl, ha⟩ := q1
        simp only [binW] at p
        cases e1 : h[m]? with
        | none => simp only [e1] at p; exact p.elim
        | some o1 =>
          cases o1 with
          | lst xs =>
            simp only [e1] at p
            by_cases hl : -(2 ^ 63) ≤ k ∧ k < 2 ^ 63 ∧ xs.length * k.toNat ≤ line
            · rw [if_pos hl] at p
              obtain ⟨vx, k1, k2⟩ := ro_lst R ha e1
              refine .inr ⟨pa, k, vx, rfl, q2, k1, hl.1, hl.2.1, by rw [k2.length]; exact hl.2.2, fun pt hp => ?_⟩
              exact post_alloc p R hp ⟨_, upd_same, (k2.rep _).ext (ext_laid hp)⟩
            · rw [if_neg hl] at p; exact p.elim
          | _ => simp only [e1] at p; exact p.elim
      | _ => exact p.elim
    | _ => exact p.elim
  | FloorDiv =>
    refine pe_weak (pe_op op_fdivW ha hb) (te_op fun σ r0 h H x y v u Q R q1 q2 p => ?_)
    cases x with
    | int i =>
      cases y with
      | int j =>
        simp only [binW] at p
        by_cases hc : 0 < j ∧ j.natAbs.log2 < 9000
        · rw [if_pos hc] at p; exact ⟨i, j, q1, q2, hc, post_ok p R rfl⟩
        · rw [if_neg hc] at p; exact p.elim
      | _ => exact p.elim
    | _ => exact p.elim
  | Mod =>
    refine pe_weak (pe_op op_mod ha hb) (te_op fun σ r0 h H x y v u Q R q1 q2 p => ?_)
    cases x with
    | int i =>
      cases y with
      | int j =>
        simp only [binW] at p
        by_cases hc : 0 < j
        · rw [if_pos hc] at p; exact ⟨i, j, q1, q2, hc, post_ok p R rfl⟩
        · rw [if_neg hc] at p; exact p.elim
      | _ => exact p.elim
    | _ => exact p.elim
  | Pow =>
    refine pe_weak (pe_op op_pow ha hb) (te_op fun σ r0 h H x y v u Q R q1 q2 p => ?_)
    cases x with
    | int i =>
      cases y with
      | int j =>
        simp only [binW] at p
        by_cases hc : 0 ≤ j ∧ j ≤ 1000000 ∧ i.natAbs < 2 ^ 64
        · rw [if_pos hc] at p; exact ⟨i, j, q1, q2, hc, post_ok p R rfl⟩
        · rw [if_neg hc] at p; exact p.elim
      | _ => exact p.elim
    | _ => exact p.elim
  | RShift =>
    refine pe_weak (pe_op op_shr ha hb) (te_op fun σ r0 h H x y v u Q R q1 q2 p => ?_)
    cases x with
    | int i =>
      cases y with
      | int j =>
        simp only [binW] at p
        by_cases hc : 0 ≤ j
        · rw [if_pos hc] at p; exact ⟨i, j, q1, q2, hc, post_ok p R rfl⟩
        · rw [if_neg hc] at p; exact p.elim
      | _ => exact p.elim
    | _ => exact p.elim
  | _ => exact nope fun x y h => by cases x <;> cases y <;> rfl
theorem pe_neg (ha : PE X a (TEm G X.K Wx ma)) : PE X (.UnaryOp .USub a pos) (TEm G X.K Wx fun f h => (ma f h).bind fun x h1 => match x with | .int i => .ok (.int (-i)) h1 | _ => .bad) := by
  refine pe_weak (pe_un un_neg ha) (te_un fun σ r0 h H x v Q R q1 p => ?_)
  cases x with
  | int i => exact ⟨i, q1, post_ok p R rfl⟩
  | _ => exact p.elim
/-! ### comparisons: each operator's rule -/
/-- what the model asks at a comparison -/
def rCmp (X : Cx) (o : CmpOp) : R2 := match o with
  | .Eq => rEqD X.K
  | .NotEq => rNeD X.K
  | .Lt => rI0 fun i j => .bl (decide (i < j))
  | .LtE => rI0 fun i j => .bl (decide (i ≤ j))
  | .Gt => rI0 fun i j => .bl (decide (j < i))
  | .GtE => rI0 fun i j => .bl (decide (j ≤ i))
  | .Is => fun x y H Q => (y = .non ∧ Q (.bl (decide (x = .non))) H) ∨ rIsB x y H Q
  | .IsNot => fun x y H Q => (y = .non ∧ Q (.bl (!decide (x = .non))) H) ∨ rNotB x y H Q
  | .In => rIn X.K false
  | .NotIn => rIn X.K true
theorem op_cmp (hu : X.A.units + 64 < cLine) (o : CmpOp) : OpR X (compareOp o) (rCmp X o) := by
  cases o with
  | Eq => exact op_eqD hu
  | NotEq => exact op_neD hu
  | Lt => exact op_lt
  | LtE => exact op_le
  | Gt => exact op_gt
  | GtE => exact op_ge
  | Is => exact OpR.or op_isN op_isBl
  | IsNot => exact OpR.or op_notN op_notBl
  | In => exact op_in_seq
  | NotIn => exact op_notIn_seq
theorem non_iff {K : PySem.W.Frag} {r : List Addr} {H : Hp} {x : W} {v : V} (q : RV G K r H x v) : decide (v = .non) = isNon x := by
  cases x with
  | non => rw [show v = .non from q]; rfl
  | bl b => rw [show v = .bl b from q]; rfl
  | int b => rw [show v = .int b from q]; rfl
  | str b => rw [show v = .str b from q]; rfl
  | tup l => obtain ⟨a, vs, rfl, _⟩ := q; rfl
  | ref n => obtain ⟨a, rfl, _⟩ := q; rfl
  | scr n => obtain ⟨a, rfl, _⟩ := q; rfl
  | fn f => rw [show v = .ref _ from q.2]; rfl
  | cod _ _ _ => obtain ⟨a, _, _, rfl, _⟩ := q; rfl
theorem cmp_ok {r : List Addr} {h : Hm} {H : Hp} {o : CmpOp} {x y : W} {v u : V} {k : Bool} {Q : VK} (R : RelH G X.K r h H) (q1 : RV G X.K r H x v) (q2 : RV G X.K r H y u) (e : cmpW o x y h = some k) (z : Q (.bl k) H) : rCmp X o v u H Q := by
  cases o with
  | Eq =>
    obtain ⟨d, d', h1, h2, h3, h4, h5⟩ := eqW_ok R q1 q2 e
    exact ⟨d, d', h1, h2, h3, h4, by rw [h5]; exact z⟩
  | NotEq =>
    simp only [cmpW] at e
    cases e1 : eqW x y h with
    | none => rw [e1] at e; cases e
    | some b =>
      rw [e1] at e; cases e
      obtain ⟨d, d', h1, h2, h3, h4, h5⟩ := eqW_ok R q1 q2 e1
      exact ⟨d, d', h1, h2, h3, h4, by rw [h5]; exact z⟩
  | Lt =>
    cases x with
    | int i =>
      cases y with
      | int j => cases e; exact ⟨i, j, q1, q2, z⟩
      | _ => cases e
    | _ => cases e
  | LtE =>
    cases x with
    | int i =>
      cases y with
      | int j => cases e; exact ⟨i, j, q1, q2, z⟩
      | _ => cases e
    | _ => cases e
  | Gt =>
    cases x with
    | int i =>
      cases y with
      | int j => cases e; exact ⟨i, j, q1, q2, z⟩
      | _ => cases e
    | _ => cases e
  | GtE =>
    cases x with
    | int i =>
      cases y with
      | int j => cases e; exact ⟨i, j, q1, q2, z⟩
      | _ => cases e
    | _ => cases e
  | Is =>
    unfold cmpW at e
    simp only at e
    split at e
    · exact .inr ⟨_, _, q1, q2, by rw [Option.some.inj e]; exact z⟩
    · refine .inl ⟨q2, ?_⟩
      show Q (.bl (decide (v = .non))) H
      rw [non_iff q1]
      rw [show isNon x = k from Option.some.inj e]; exact z
    · cases e
  | IsNot =>
    unfold cmpW at e
    simp only at e
    split at e
    · exact .inr ⟨_, _, q1, q2, by rw [Option.some.inj e]; exact z⟩
    · refine .inl ⟨q2, ?_⟩
      show Q (.bl (!decide (v = .non))) H
      rw [non_iff q1]
      rw [show (!isNon x) = k from Option.some.inj e]; exact z
    · cases e
  | In =>
    simp only [cmpW] at e
    cases e1 : seqOf y h with
    | none => rw [e1] at e; cases e
    | some l =>
      rw [e1] at e
      simp only at e
      by_cases hf : (flat x && l.all flat) = true
      · rw [if_pos hf] at e
        have hf' := Bool.and_eq_true_iff.mp hf
        obtain ⟨a, vs, rfl, h2, h3⟩ := seqOf_ok R q2 e1
        refine ⟨a, vs, rfl, h2, flat_ok q1 hf'.1, flats_ok h3 hf'.2, ?_⟩
        show Q (.bl (inV v vs)) H
        rw [inW_ok q1 hf'.1 h3 hf'.2, Option.some.inj e]; exact z
      · rw [if_neg hf] at e; cases e
  | NotIn =>
    simp only [cmpW] at e
    cases e1 : seqOf y h with
    | none => rw [e1] at e; cases e
    | some l =>
      rw [e1] at e
      simp only at e
      by_cases hf : (flat x && l.all flat) = true
      · rw [if_pos hf] at e
        have hf' := Bool.and_eq_true_iff.mp hf
        obtain ⟨a, vs, rfl, h2, h3⟩ := seqOf_ok R q2 e1
        refine ⟨a, vs, rfl, h2, flat_ok q1 hf'.1, flats_ok h3 hf'.2, ?_⟩
        show Q (.bl (!inV v vs)) H
        rw [inW_ok q1 hf'.1 h3 hf'.2, Option.some.inj e]; exact z
      · rw [if_neg hf] at e; cases e
abbrev mCmp (o : CmpOp) (ma mb : F → Hm → R W) : F → Hm → R W := fun f h => (ma f h).bind fun x h1 => (mb f h1).bind fun y h2 => match cmpW o x y h2 with | some c => .ok (.bl c) h2 | none => .bad
theorem te_cmp {o : CmpOp} : ∀ σ H Q, TEm G X.K Wx (mCmp o ma mb) σ H Q → tOp (rCmp X o) (TEm G X.K Wx ma) (TEm G X.K Wx mb) σ H Q :=
  te_op fun σ r0 h H x y v u Q R q1 q2 p => by
    cases e : cmpW o x y h with
    | none => simp only [e] at p; exact p.elim
    | some k => simp only [e] at p; exact cmp_ok R q1 q2 e (post_ok p R rfl)
theorem tt_test {t : TE} {m : F → Hm → R W} (hw : ∀ σ H Q, TEm G X.K Wx m σ H Q → t σ H Q) : ∀ σ H Q, TTm G X.K Wx m σ H Q → tTest t σ H Q := by
  rintro σ H Q ⟨r, f, h, S, q⟩
  exact hw _ _ _ ⟨r, f, h, S, post_tst q⟩
theorem pe_cmpA {o : CmpOp} (hu : X.A.units + 64 < cLine) (hm : behindInMarks o b = false) (ha : PE X a (TEm G X.K Wx ma)) (hb : PE X b (TEm G X.K Wx mb)) : PE X (.Compare a [o] [b] pos) (TEm G X.K Wx (mCmp o ma mb)) :=
  pe_weak (pe_cmpR (op_cmp hu o) ha hb hm) te_cmp
theorem pt_cmpA {o : CmpOp} (hu : X.A.units + 64 < cLine) (hm : behindInMarks o b = false) (ha : PE X a (TEm G X.K Wx ma)) (hb : PE X b (TEm G X.K Wx mb)) : PT X (.Compare a [o] [b] pos) (TTm G X.K Wx (mCmp o ma mb)) :=
  pt_weak (pt_cmpR (op_cmp hu o) ha hb hm) (tt_test te_cmp)
abbrev mChn (o o' : CmpOp) (ma mb mc : F → Hm → R W) : F → Hm → R W := fun f h => (ma f h).bind fun x h1 => (mb f h1).bind fun y h2 => match cmpW o x y h2 with
    | some true => (mc f h2).bind fun z h3 => (match cmpW o' y z h3 with | some c => .ok (.bl c) h3 | none => .bad)
    | some false => .ok (.bl false) h2
    | none => .bad
theorem te_chn {o o' : CmpOp} : ∀ σ H Q, TEm G X.K Wx (mChn o o' ma mb mc) σ H Q → tChain (rCmp X o) (rCmp X o') (TEm G X.K Wx ma) (TEm G X.K Wx mb) (TEm G X.K Wx mc) σ H Q := by
  rintro σ H Q ⟨r0, f, h, S, p⟩
  refine ⟨r0, f, h, S, (PostG.seq (rel := relW G X.K) p).mono ?_⟩
  rintro v H1 ⟨r1, x, h1, e1, R1, q1, p1⟩
  refine ⟨r1, f, h1, S.ext e1 R1, (PostG.seq (rel := relW G X.K) p1).mono ?_⟩
  rintro u H2 ⟨r2, y, h2, e2, R2, q2, p2⟩
  cases e : cmpW o x y h2 with
  | none => simp only [e] at p2; exact p2.elim
  | some k =>
    refine cmp_ok R2 (q1.ext e2) q2 e ⟨k, rfl, ?_⟩
    cases k with
    | false => simp only [e] at p2; exact post_ok p2 R2 rfl
    | true =>
      simp only [e] at p2
      refine ⟨r2, f, h2, (S.ext e1 R1).ext e2 R2, (PostG.seq (rel := relW G X.K) p2).mono ?_⟩
      rintro w H3 ⟨r3, z, h3, e3, R3, q3, p3⟩
      cases e4 : cmpW o' y z h3 with
      | none => simp only [e4] at p3; exact p3.elim
      | some k => simp only [e4] at p3; exact cmp_ok R3 (q2.ext e3) q3 e4 (post_ok p3 R3 rfl)
theorem pe_chnA {o o' : CmpOp} (hu : X.A.units + 64 < cLine) (hm : lastMarks [o, o'] [b, c] = false) (ha : PE X a (TEm G X.K Wx ma)) (hb : PE X b (TEm G X.K Wx mb)) (hc : PE X c (TEm G X.K Wx mc)) : PE X (.Compare a [o, o'] [b, c] pos) (TEm G X.K Wx (mChn o o' ma mb mc)) :=
  pe_weak (pe_chain (op_cmp hu o) (op_cmp hu o') ha hb hc hm) te_chn
theorem pt_chnA {o o' : CmpOp} (hu : X.A.units + 64 < cLine) (hm : lastMarks [o, o'] [b, c] = false) (ha : PE X a (TEm G X.K Wx ma)) (hb : PE X b (TEm G X.K Wx mb)) (hc : PE X c (TEm G X.K Wx mc)) : PT X (.Compare a [o, o'] [b, c] pos) (TTm G X.K Wx (mChn o o' ma mb mc)) :=
  pt_weak (pt_chain (op_cmp hu o) (op_cmp hu o') ha hb hc hm) (tt_test te_chn)
/-! ### subscripts -/
def rIxD : R2 := fun x y H Q => ∃ a v, x = .ref a ∧ DGet H a y (some v) ∧ Q v H
theorem ix_dict (hu : X.A.units + 1 < cLine) : IxR X rIxD := by
  intro value slice pins s σ H x y v u Q I rx ry h hs
  obtain ⟨a, z, rfl, g, q⟩ := h
  cases rx
  unfold subscriptTail
  refine wpAny_bind ?_
  rw [getitemInPython_of_ne (dict_typeIs I g).not_modules]
  refine wpAny_bind (wpAny_specialOf (dict_typeIs I g) PySem.F.slot_dict_getitem.lookup ?_)
  have fin : wpAny (model X.prog X.w) X.A (subscripted slice false (.ref a) u) (fun r s₃ => wpAny (model X.prog X.w) X.A (letTemporaryGo value (.ref a) r >>= fun _ => pure r) (EP X pins σ Q) X.xe s₃) X.xe s := by
    rw [hs]
    exact wpAny_operating (wpAny_mono (d_getItem (E := X.xe) hu I g ry fun w' s3 I3 rw' => (⟨z, H, I3, rw', q⟩ : EP X pins σ Q w' s3)) (fun r s₃ h₃ => wpAny_bind (wpAny_letTemporaryGo (wpAny_pure h₃))) fun _ _ x => x)
  first
    | exact wpAny_pure (wpAny_bind fin)
    | exact wpAny_bind (wpAny_pure (wpAny_bind fin))
    | exact wpAny_pure fin
theorem noSlice_plain (h : noSlice b = true) : PlainIx b := by
  intro o i
  cases b <;> first | rfl | cases h
theorem DGet.ki {H : Hp} {a : Addr} {kvs : List (Key × V)} {k : Int} (e : H a = some (.dK kvs)) : DGet H a (.int k) (valV kvs (Sum.inl k)) := DGet.k (k := Sum.inl k) e
theorem kV_ints : ∀ ks : List Int, (ks.map (Sum.inl : Int → Key)).map kV = ks.map V.int
  | [] => rfl
  | k :: ks => by simp only [List.map_cons, kV_ints ks]; rfl
theorem tup_key {K : PySem.W.Frag} {r : List Addr} {H : Hp} {ks : List W} {is : List Int} {v : V} (q : RV G K r H (.tup ks) v) (e : intsOf ks = some is) : ∃ b, v = .ref b ∧ H b = some (.tup ((is.map Sum.inl).map kV)) := by
  obtain ⟨b, vs, rfl, h1, h2⟩ := q
  refine ⟨b, rfl, ?_⟩
  rw [kV_ints, ← h2.ofInts e]; exact h1
theorem pe_idxA (hu : X.A.units + 1 < cLine) (hs : noSlice b = true) (ha : PE X a (TEm G X.K Wx ma)) (hb : PE X b (TEm G X.K Wx mb)) : PE X (.Subscript a b pos) (TEm G X.K Wx fun f h => (ma f h).bind fun x h1 => (mb f h1).bind fun y h2 => match idxW x y h2 with | some w => .ok w h2 | none => .bad) := by
  refine pe_weak (pe_ix (IxR.or ix_list (IxR.or ix_tup (ix_dict hu))) ha hb (noSlice_plain hs)) (te_op fun σ r0 h H x y v u Q R q1 q2 p => ?_)
  cases e : idxW x y h with
  | none => simp only [e] at p; exact p.elim
  | some w =>
    simp only [e] at p
    cases x with
    | ref n =>
      obtain ⟨pa, rfl, hn⟩ := q1
      cases y with
      | int k =>
        simp only [idxW] at e
        cases e1 : h[n]? with
        | none => simp only [e1] at e; cases e
        | some o =>
          simp only [e1] at e
          cases o with
          | lst l =>
            obtain ⟨vs, k1, k2⟩ := R.obj n pa _ hn e1
            obtain ⟨z, k3, k4⟩ := atI_ok k2 e
            exact .inl ⟨pa, vs, k, z, rfl, q2, SqL.of k1, k3, post_ok p R k4⟩
          | dK l =>
            obtain ⟨kvs, k1, k2⟩ := R.obj n pa _ hn e1
            have k3 := look_ok k k2
            rw [show look l k = some w from e] at k3
            obtain ⟨z, k4, k5⟩ := k3
            refine .inr (.inr ⟨pa, z, rfl, ?_, post_ok p R k5⟩)
            rw [show u = .int k from q2, ← k4]
            exact DGet.ki k1
          | dT _ => cases e
          | ins _ _ => cases e
      | tup ks =>
        simp only [idxW] at e
        cases e1 : h[n]? with
        | none => simp only [e1] at e; cases e
        | some o =>
          cases o with
          | dT l =>
            cases e2 : intsOf ks with
            | none => simp only [e1, e2] at e; cases e
            | some is =>
              simp only [e1, e2] at e
              obtain ⟨kvs, k1, k2⟩ := R.obj n pa _ hn e1
              have k3 := lookT_ok is k2
              rw [show look l is = some w from e] at k3
              obtain ⟨z, k4, k5⟩ := k3
              obtain ⟨b, rfl, hb⟩ := tup_key q2 e2
              refine .inr (.inr ⟨pa, z, rfl, ?_, post_ok p R k5⟩)
              rw [← k4]
              exact DGet.t k1 hb
          | _ => simp only [e1] at e; cases e
      | _ => cases e
    | tup l =>
      cases y with
      | int k =>
        obtain ⟨pa, vs, rfl, k1, k2⟩ := q1
        obtain ⟨z, k3, k4⟩ := atI_ok k2 (show atI l k = some w from e)
        exact .inr (.inl ⟨pa, vs, k, z, rfl, q2, SqT.of k1, k3, post_ok p R k4⟩)
      | _ => cases e
    | scr l =>
      cases y with
      | int k =>
        obtain ⟨pa, vs, h1, h2, h3⟩ := lstOf_ok R q1 rfl
        obtain ⟨z, k3, k4⟩ := atI_ok h3 (show atI (l.map W.int) k = some w from e)
        exact .inl ⟨pa, vs, k, z, h1, q2, h2, k3, post_ok p R k4⟩
      | _ => cases e
    | _ => cases e
/-! ### slices -/
theorem sIx_eq (n d : Nat) (o : Option Int) : HT.sIx n d o = sIx n d o := by cases o <;> rfl
abbrev TOm (G : Nm) (K : PySem.W.Frag) (Wx : WX) (m : F → Hm → R (List W)) : TO := TmG G K relQ Wx (fun f h => optI (m f h))
theorem po_weak {eo : Option Expr} {t t' : TO} (p : PO X eo t) (h : ∀ σ H Q, t' σ H Q → t σ H Q) : PO X eo t' := ⟨fun pins s σ H Q I q => p.run pins s σ H Q I (h σ H Q q)⟩
theorem po_noneA {C : Cb} : PO X none (TOm G X.K Wx (evs C .nil)) := by
  refine po_weak po_none ?_
  rw [evs_nil]
  rintro σ H Q ⟨r, f, h, S, p⟩
  exact p r H _ .refl S.heap rfl
theorem po_someA {C : Cb} {ce : E} (he : PE X e (TEm G X.K Wx (ev C ce))) : PO X (some e) (TOm G X.K Wx (evs C (.cons ce .nil))) := by
  refine po_weak (po_some he) ?_
  rw [evs_cons, evs_nil]
  rintro σ H Q ⟨r, f, h, S, p⟩
  refine ⟨r, f, h, S, ?_⟩
  have p : PostG G X.K relQ Wx σ r H (optI ((ev C ce f h).bind fun x h1 => (R.ok [] h1 : R (List W)).bind fun xs h2 => .ok (x :: xs) h2)) Q := p
  cases z : ev C ce f h with
  | ok w h1 =>
    rw [z] at p
    intro r' H' v ex Rx q
    cases w with
    | int i => exact ⟨i, q, p r' H' _ ex Rx rfl⟩
    | _ => exact p.elim
  | exc c h1 => rw [z] at p; exact p
  | bad => rw [z] at p; exact p
theorem pe_sliA {lo hi : Option Expr} {ml mh : F → Hm → R (List W)} {p2 : Pos} (ha : PE X a (TEm G X.K Wx ma)) (hl : PO X lo (TOm G X.K Wx ml)) (hh : PO X hi (TOm G X.K Wx mh)) :
    PE X (.Subscript a (.Slice lo hi none p2) pos) (TEm G X.K Wx fun f h => (ma f h).bind fun x h1 => (optI (ml f h1)).bind fun l h2 => (optI (mh f h2)).bind fun u h3 => sliW x l u h3) := by
  refine pe_weak (pe_slice (SlR.or sl_list sl_tup) ha hl hh) ?_
  rintro σ H Q ⟨r0, f, h, S, p⟩
  refine ⟨r0, f, h, S, (PostG.seq (rel := relW G X.K) p).mono ?_⟩
  rintro v H1 ⟨r1, x, h1, e1, R1, q1, p1⟩
  refine ⟨r1, f, h1, S.ext e1 R1, (PostG.seq (rel := relQ) p1).mono ?_⟩
  rintro l H2 ⟨r2, l', h2, e2, R2, q2, p2⟩
  refine ⟨r2, f, h2, (S.ext e1 R1).ext e2 R2, (PostG.seq (rel := relQ) p2).mono ?_⟩
  rintro u H3 ⟨r3, u', h3, e3, R3, q3, p3⟩
  have q2 : l' = l := q2
  have q3 : u' = u := q3
  subst q2
  subst q3
  have q1 := (q1.ext e2).ext e3
  have aslist : ∀ w : W, RV G X.K r3 H3 w v → (sliW w l' u' h3 = (match lstOf w h3 with | some l => alloc (.lst (cutW l l' u')) h3 | none => .bad)) → PostG G X.K (relW G X.K) Wx σ r3 H3 (sliW w l' u' h3) Q → rSlL X.K v l' u' H3 Q := by
    intro w qw ew pw
    rw [ew] at pw
    cases e : lstOf w h3 with
    | none => rw [e] at pw; exact pw.elim
    | some l =>
      rw [e] at pw
      obtain ⟨pa, vs, rfl, k1, k2⟩ := lstOf_ok R3 qw e
      exact ⟨pa, vs, rfl, k1, fun pt hp => post_alloc pw R3 hp ⟨_, upd_same, (cut_ok l' u' k2).ext (ext_laid hp)⟩⟩
  cases x with
  | tup l =>
    obtain ⟨pa, vs, rfl, k1, k2⟩ := q1
    simp only [sliW] at p3
    by_cases hc : sIx l.length 0 l' = 0 ∧ sIx l.length l.length u' = l.length
    · rw [if_pos hc] at p3; exact p3.elim
    · rw [if_neg hc] at p3
      refine .inr ⟨pa, vs, rfl, SqT.of k1, by rw [sIx_eq, sIx_eq, k2.length]; exact hc, fun pt hp => ?_⟩
      exact p3 r3 _ _ (Ext.new hp) (R3.aside hp) ⟨pt, _, rfl, upd_same, (cut_ok l' u' k2).ext (Ext.new hp)⟩
  | ref n => exact .inl (aslist _ q1 rfl p3)
  | scr n => exact .inl (aslist _ q1 rfl p3)
  | non => exact p3.elim
  | bl _ => exact p3.elim
  | int _ => exact p3.elim
  | str _ => exact p3.elim
  | fn _ => exact p3.elim
  | cod _ _ _ => exact p3.elim
end
end WL

/-! targets, what is walked, comprehensions -/
namespace WL
open PySem PySem.Spec PyProof.Rows L2
/-! ### slots that are wiped -/
theorem wipe_in {σ : St} {i : Nat} : ∀ {vs : List Nat}, i ∈ vs → (L2.wipe σ vs)[i]? = if i < σ.length then some none else none
  | [], h => by cases h
  | v :: vs, h => by
    unfold L2.wipe
    by_cases e : v = i
    · subst e
      rw [List.getElem?_set]
      simp only [if_pos, wipe_length]
    · rw [List.getElem?_set_ne e]
      exact wipe_in ((List.mem_cons.mp h).resolve_left (fun q => e q.symm))
theorem wipe_set {σ : St} {i : Nat} {x : Option V} {vs : List Nat} (h : i ∈ vs) : L2.wipe (σ.set i x) vs = L2.wipe σ vs := by
  apply List.ext_getElem?
  intro j
  by_cases hj : j ∈ vs
  · rw [wipe_in hj, wipe_in hj, List.length_set]
  · rw [L2.wipe_out hj, L2.wipe_out hj, List.getElem?_set_ne]
    exact fun e => hj (e ▸ h)
theorem wipe_wipe {σ : St} {vs : List Nat} : L2.wipe (L2.wipe σ vs) vs = L2.wipe σ vs := by
  apply List.ext_getElem?
  intro j
  by_cases hj : j ∈ vs
  · rw [wipe_in hj, wipe_in hj, wipe_length]
  · rw [L2.wipe_out hj]
theorem wipeW_length (f : F) : ∀ vs : List Nat, (wipe f vs).length = f.length
  | [] => rfl
  | v :: vs => by unfold wipe; rw [List.length_set]; exact wipeW_length f vs
theorem wipeW_get {f : F} {i : Nat} {w : W} : ∀ {vs : List Nat}, (wipe f vs)[i]? = some (some w) → f[i]? = some (some w) ∧ i ∉ vs
  | [], h => ⟨h, fun z => nomatch z⟩
  | v :: vs, h => by
    unfold wipe at h
    by_cases e : v = i
    · subst e
      rw [List.getElem?_set] at h
      simp only [if_pos] at h
      split at h <;> cases h
    · rw [List.getElem?_set_ne e] at h
      obtain ⟨h1, h2⟩ := wipeW_get h
      exact ⟨h1, fun z => (List.mem_cons.mp z).elim (fun q => e q.symm) h2⟩
section
variable {G : Nm} {K : PySem.W.Frag} {r : List Addr} {h : Hm} {H : Hp} {f : F} {σ : St}
theorem RelS.wipe (S : RelS G K r f h σ H) (vs : List Nat) : RelS G K r (wipe f vs) h (L2.wipe σ vs) H :=
  ⟨S.heap, fun i w e => by
    obtain ⟨h1, h2⟩ := wipeW_get e
    obtain ⟨v, h3, h4⟩ := S.fr i w h1
    exact ⟨v, by rw [L2.wipe_out h2]; exact h3, h4⟩, by rw [wipeW_length, wipe_length]; exact S.len⟩
theorem RelS.set (S : RelS G K r f h σ H) {i : Nat} {w : W} {v : V} (q : RV G K r H w v) : RelS G K r (f.set i (some w)) h (σ.set i (some v)) H :=
  ⟨S.heap, fun j u e => by
    by_cases hj : i = j
    · subst hj
      rw [List.getElem?_set] at e
      simp only [if_pos] at e
      split at e
      · rename_i hl
        cases e
        exact ⟨v, by rw [List.getElem?_set_self (S.len ▸ hl)], q⟩
      · cases e
    · rw [List.getElem?_set_ne hj] at e
      obtain ⟨z, h1, h2⟩ := S.fr j u e
      exact ⟨z, by rw [List.getElem?_set_ne hj]; exact h1, h2⟩, by rw [List.length_set, List.length_set]; exact S.len⟩
end
/-! ### targets -/
def inOwn (t : E) (own : List Nat) : Prop := ∀ i ∈ slotsT t, i ∈ own
def TGm (G : Nm) (K : PySem.W.Frag) (t : E) : TG := fun v σ H Q => ∃ r f h w f', RelS G K r f h σ H ∧ RV G K r H w v ∧ bindT t w f = some f' ∧
  ∀ σ', RelS G K r f' h σ' H → (∀ own, inOwn t own → L2.wipe σ' own = L2.wipe σ own) → Q σ' H
def TGsm (G : Nm) (K : PySem.W.Frag) (t : E) : TGs := fun vs σ H Q => ∃ r f h ws f', RelS G K r f h σ H ∧ RVs G K r H ws vs ∧ bindTs t ws f = some f' ∧
  ∀ σ', RelS G K r f' h σ' H → (∀ own, inOwn t own → L2.wipe σ' own = L2.wipe σ own) → Q σ' H
theorem idxS_get {x : Str} : ∀ {l : List Str} {i : Nat}, idxS x l = some i → l[i]? = some x
  | [], _, h => by cases h
  | y :: l, i, h => by
    unfold idxS at h
    split at h
    · rename_i e
      cases h
      rw [e]; rfl
    · cases z : idxS x l with
      | none => rw [z] at h; cases h
      | some j =>
        rw [z] at h; cases h
        show l[j]? = some x
        exact idxS_get z
theorem idxF_get {x : Str} : ∀ {l : List (Str × Option Str)} {i : Nat}, idxF x l = some i → l[i]? = some (x, none)
  | [], _, h => by cases h
  | (y, none) :: l, i, h => by
    unfold idxF at h
    split at h
    · rename_i e
      cases h
      rw [e]; rfl
    · cases z : idxF x l with
      | none => rw [z] at h; cases h
      | some j =>
        rw [z] at h; cases h
        show l[j]? = some (x, none)
        exact idxF_get z
  | (y, some m) :: l, i, h => by
    unfold idxF at h
    cases z : idxF x l with
    | none => rw [z] at h; cases h
    | some j =>
      rw [z] at h; cases h
      show l[j]? = some (x, none)
      exact idxF_get z
theorem visB_ok {sc : Scope} {x : Str} (h : visB sc x = true) : Vis sc x := by
  unfold visB at h
  unfold Vis
  split at h
  · exact .inl (by assumption)
  · exact .inr (.inl (by assumption))
  · exact .inr (.inr (by assumption))
  · cases h
theorem locB_ok {sc : Scope} {x : Str} (h : locB sc x = true) : L2.Loc sc x := by
  unfold locB at h
  unfold L2.Loc
  split at h
  · exact .inl (by assumption)
  · exact .inr (by assumption)
  · cases h
theorem glB_ok {sc : Scope} {x : Str} (h : glB sc x = true) : sc.names.lookup x = some .globalImplicit := by
  unfold glB at h
  split at h
  · assumption
  · cases h
theorem plainN_ok {x : Str} (h : plainN x = true) : (x == ("__debug__" : Str)) = false ∧ (x == ("__classdict__" : Str)) = false ∧ x ≠ "__name__" := by
  unfold plainN at h
  simp only [Bool.and_eq_true, Bool.not_eq_true'] at h
  refine ⟨h.1.1, h.1.2, fun e => ?_⟩
  have := h.2
  rw [e] at this
  simp at this
/-- how the names of a text stand where it runs -/
structure NmOk (s : Sx) (X : Cx) : Prop where
  eN : X.N = s.N
  nd : s.N.Nodup
  eS : X.env.scope = s.sc
  tgt : ∀ x, locB s.tsc x = true → L2.Loc X.env.scope x ∧ (X.fn x = true ∨ X.env.scope.names.lookup x = some .local)
  calm : X.calm = true
section
variable {G : Nm} {X : Cx} {s : Sx}
theorem pg_weak {e : Expr} {t t' : TG} (p : PG X e t) (h : ∀ v σ H Q, t' v σ H Q → t v σ H Q) : PG X e t' := ⟨fun pins st σ H v u Q I q z => p.run pins st σ H v u Q I q (h v σ H Q z)⟩
theorem pg_bad {e : Expr} {t : E} (h : ∀ w f, bindT t w f = none) : PG X e (TGm G X.K t) := ⟨fun pins st σ H v u Q I q z => by
  obtain ⟨r, f, h', w, f', _, _, e, _⟩ := z
  rw [h] at e; cases e⟩
theorem ae_cons {e : Expr} {es : List Expr} {env : Env} (h : noStar e = true) : assignEach (e :: es) env = (false, assign e env) :: assignEach es env := by
  cases e <;> first | rfl | cases h
theorem ae_len {env : Env} : ∀ {es : List Expr}, es.all noStar = true → (assignEach es env).length = es.length
  | [], _ => rfl
  | e :: es, h => by
    simp only [List.all_cons, Bool.and_eq_true] at h
    rw [ae_cons h.1, List.length_cons, List.length_cons, ae_len h.2]
theorem ae_find {env : Env} : ∀ {es : List Expr}, es.all noStar = true → (assignEach es env).findIdx? (·.1) = none
  | [], _ => rfl
  | e :: es, h => by
    simp only [List.all_cons, Bool.and_eq_true] at h
    rw [ae_cons h.1, List.findIdx?_cons]
    simp [ae_find h.2]
theorem bindTs_len : ∀ {t : List E} {ws : List W} {f f' : F}, bindTs (listE t) ws f = some f' → ws.length = t.length
  | [], [], _, _, _ => rfl
  | [], _ :: _, _, _, h => by simp [listE, bindTs] at h
  | _ :: _, [], _, _, h => by simp [listE, bindTs] at h
  | t :: ts, w :: ws, f, f', h => by
    simp only [listE, bindTs] at h
    cases z : bindT t w f with
    | none => rw [z] at h; cases h
    | some f1 =>
      rw [z] at h
      rw [List.length_cons, List.length_cons, bindTs_len h]
theorem pgs_of {ct : Expr → E} (hp : ∀ e, PG X e (TGm G X.K (ct e))) : ∀ {es : List Expr}, es.all noStar = true → PGs X es (TGsm G X.K (listE (es.map ct)))
  | [], _ => ⟨fun pins st σ H vs us Q I q z => by
      obtain ⟨r, f, h, ws, f', S, q2, e, k⟩ := z
      refine pgs_nil.run pins st σ H vs us Q I q ?_
      simp only [List.map_nil, listE] at e k
      cases ws with
      | nil =>
        simp only [bindTs] at e
        cases e
        exact ⟨q2, k σ S fun _ _ => rfl⟩
      | cons _ _ => simp [bindTs] at e⟩
  | e :: es, hs => by
    simp only [List.all_cons, Bool.and_eq_true] at hs
    have p := pgs_cons (hp e) (pgs_of hp hs.2) (by rw [ae_cons hs.1]; rfl)
    refine ⟨fun pins st σ H vs us Q I q z => p.run pins st σ H vs us Q I q ?_⟩
    obtain ⟨r, f, h, ws, f', S, q2, e1, k⟩ := z
    simp only [List.map_cons, listE] at e1 k
    cases ws with
    | nil => simp [bindTs] at e1
    | cons w ws =>
      simp only [bindTs] at e1
      cases z1 : bindT (ct e) w f with
      | none => rw [z1] at e1; cases e1
      | some f1 =>
        rw [z1] at e1
        obtain ⟨v, rest, rfl, k1, k2⟩ := q2
        refine ⟨v, rest, rfl, r, f, h, w, f1, S, k1, z1, fun σ1 S1 w1 => ?_⟩
        refine ⟨r, f1, h, ws, f', S1, k2, e1, fun σ2 S2 w2 => k σ2 S2 fun own ho => ?_⟩
        rw [w2 own (fun i hi => ho i (by show i ∈ slotsT (ct e) ++ _; exact List.mem_append_right _ hi)), w1 own (fun i hi => ho i (by show i ∈ slotsT (ct e) ++ _; exact List.mem_append_left _ hi))]
theorem pgT (O : NmOk s X) : ∀ (n : Nat) (e : Expr), PG X e (TGm G X.K (compT s n e))
  | 0, e => pg_bad fun w f => by simp [compT, bindT]
  | n + 1, e => by
    have nope : compT s (n + 1) e = .bad → PG X e (TGm G X.K (compT s (n + 1) e)) := fun z => by
      rw [z]; exact pg_bad fun w f => by simp [bindT]
    cases e with
    | Name x p =>
      by_cases c1 : (locB s.tsc x && plainN x) = true
      · cases c2 : idxS x s.N with
        | none => exact nope (by simp only [compT, c1, c2, if_pos])
        | some i =>
          have z : compT s (n + 1) (.Name x p) = .v i := by simp only [compT, c1, c2, if_pos]
          rw [z]
          have c1' := Bool.and_eq_true_iff.mp c1
          obtain ⟨k1, k2⟩ := O.tgt x c1'.1
          refine pg_weak (pg_name (i := i) (O.eN ▸ O.nd) (by rw [O.eN]; exact idxS_get c2) k1 k2) ?_
          rintro v σ H Q ⟨r, f, h, w, f', S, q, e, k⟩
          simp only [bindT, stV] at e
          split at e
          · cases e
            exact k _ (S.set q) fun own ho => wipe_set (ho i (by simp [slotsT]))
          · cases e
      · exact nope (by simp only [compT]; rw [if_neg c1])
    | Tuple ts kk p =>
      by_cases c1 : ts.all noStar = true
      · have z : compT s (n + 1) (.Tuple ts kk p) = .tup (listE (ts.map (compT s n))) := by simp only [compT]; rw [if_pos c1]
        rw [z]
        refine pg_weak (pg_tup O.calm (pgs_of (pgT O n) c1) (ae_len c1) (ae_find c1)) ?_
        rintro v σ H Q ⟨r, f, h, w, f', S, q, e, k⟩
        cases w with
        | tup ws =>
          obtain ⟨a, vs, rfl, k1, k2⟩ := q
          simp only [bindT] at e
          refine ⟨a, vs, rfl, SqT.of k1, ?_, r, f, h, ws, f', S, k2, e, k⟩
          rw [k2.length, bindTs_len e, List.length_map]
        | _ => simp [bindT] at e
      · exact nope (by simp only [compT]; rw [if_neg c1])
    | _ => exact nope rfl
end
/-! ### what is walked -/
def RI (G : Nm) (K : PySem.W.Frag) (r : List Addr) (H : Hp) : It → L2.It → Prop
  | .seq w, J => ∃ a, RV G K r H w (.ref a) ∧ ((∃ l, w = .tup l) ∧ J = Itt K a ∨ (∀ l, w ≠ .tup l) ∧ J = Itl K a)
  | .rng lo c n, J => (c = 1 ∧ J = Itr lo n) ∨ J = Itc lo c n
  | .zip x y, J => ∃ a b, RV G K r H x (.ref a) ∧ RV G K r H y (.ref b) ∧ J = Itz K a b
  | .enu x, J => ∃ a, RV G K r H x (.ref a) ∧ J = Ite K a
abbrev relI (G : Nm) (K : PySem.W.Frag) : List Addr → Hp → Hm → It → L2.It → Prop := fun r H _ J J' => RI G K r H J J'
abbrev TIm (G : Nm) (K : PySem.W.Frag) (Wx : WX) (m : F → Hm → R It) : TI := TmG G K (relI G K) Wx m
section
variable {G : Nm} {K : PySem.W.Frag} {r r' : List Addr} {h : Hm} {H H' : Hp}
theorem RI.ext0 (e : Ext0 r H r' H') : ∀ {J : It} {J' : L2.It}, RI G K r H J J' → RI G K r' H' J J'
  | .seq w, _, ⟨a, h1, h2⟩ => ⟨a, h1.ext0 e, h2⟩
  | .rng _ _ _, _, h => h
  | .zip _ _, _, ⟨a, b, h1, h2, h3⟩ => ⟨a, b, h1.ext0 e, h2.ext0 e, h3⟩
  | .enu _, _, ⟨a, h1, h2⟩ => ⟨a, h1.ext0 e, h2⟩
theorem seq_lst {w : W} {l : List W} (hn : ∀ l, w ≠ .tup l) (e : seqOf w h = some l) : lstOf w h = some l := by
  cases w with
  | tup l => exact absurd rfl (hn l)
  | _ => exact e
/-- a turn of the walk -/
theorem RI.go (R : RelH G K r h H) : ∀ {J : It} {J' : L2.It} {i : Nat} {w : W}, RI G K r H J J' → J.item i h = some w →
    J'.go i H ∧ ∀ x H1, J'.yld i H x H1 → Ext r H r H1 ∧ RelH G K r h H1 ∧ RV G K r H1 w x ∧ ∀ b o, H b = some o → H1 b = some o
  | .seq u, J', i, w, ⟨a, q, hh⟩, e => by
    simp only [It.item] at e
    cases z : seqOf u h with
    | none => rw [z] at e; cases e
    | some l =>
      rw [z] at e
      have e : l[i]? = some w := e
      rcases hh with ⟨⟨l0, rfl⟩, rfl⟩ | ⟨hn, rfl⟩
      · obtain ⟨a', vs, ea, k1, k2⟩ := q
        cases ea
        cases z
        obtain ⟨v, k3, k4⟩ := k2.get e
        refine ⟨⟨vs, v, SqT.of k1, k3⟩, fun x H1 y => ?_⟩
        obtain ⟨rfl, y⟩ := y
        have := y vs (SqT.of k1)
        rw [k3] at this; cases this
        exact ⟨.refl, R, k4, fun _ _ h => h⟩
      · obtain ⟨a', vs, ea, k1, k2⟩ := lstOf_ok R q (seq_lst hn z)
        cases ea
        obtain ⟨v, k3, k4⟩ := k2.get e
        refine ⟨⟨vs, v, k1, k3⟩, fun x H1 y => ?_⟩
        obtain ⟨rfl, y⟩ := y
        have := y vs k1
        rw [k3] at this; cases this
        exact ⟨.refl, R, k4, fun _ _ h => h⟩
  | .rng lo c n, J', i, w, hh, e => by
    simp only [It.item] at e
    split at e
    · rename_i hi
      cases e
      rcases hh with ⟨rfl, rfl⟩ | rfl
      · refine ⟨hi, fun x H1 y => ?_⟩
        obtain ⟨rfl, rfl⟩ := y
        exact ⟨.refl, R, by show V.int _ = V.int _; rw [Int.mul_one], fun _ _ h => h⟩
      · refine ⟨hi, fun x H1 y => ?_⟩
        obtain ⟨rfl, rfl⟩ := y
        exact ⟨.refl, R, rfl, fun _ _ h => h⟩
    · cases e
  | .zip u u2, J', i, w, ⟨a, b, q1, q2, ej⟩, e => by
    subst ej
    simp only [It.item] at e
    cases z1 : lstOf u h with
    | none => rw [z1] at e; cases e
    | some l =>
      cases z2 : lstOf u2 h with
      | none => rw [z1, z2] at e; cases e
      | some m =>
        rw [z1, z2] at e
        cases z3 : l[i]? with
        | none => simp only [Option.bind, z3] at e; cases e
        | some x =>
          cases z4 : m[i]? with
          | none => simp only [Option.bind, z3, z4] at e; cases e
          | some y =>
            simp only [Option.bind, z3, z4, Option.map] at e
            cases e
            obtain ⟨a', vs, ea, k1, k2⟩ := lstOf_ok R q1 z1
            obtain ⟨b', us, eb, k3, k4⟩ := lstOf_ok R q2 z2
            cases ea; cases eb
            obtain ⟨v, k5, k6⟩ := k2.get z3
            obtain ⟨v2, k7, k8⟩ := k4.get z4
            refine ⟨⟨vs, us, v, v2, k1, k3, k5, k7⟩, fun x H1 y => ?_⟩
            obtain ⟨T, x1, y1, rfl, hT, rfl, y2, y3⟩ := y
            have := y2 vs k1
            rw [k5] at this; cases this
            have := y3 us k3
            rw [k7] at this; cases this
            refine ⟨Ext.new hT, R.aside hT, ⟨T, _, rfl, upd_same, _, _, rfl, k6.ext (Ext.new hT), _, _, rfl, k8.ext (Ext.new hT), rfl⟩, fun b o hb => ?_⟩
            rw [upd_ne (ne_of_none hb hT)]; exact hb
  | .enu u, J', i, w, ⟨a, q1, ej⟩, e => by
    subst ej
    simp only [It.item] at e
    cases z1 : lstOf u h with
    | none => rw [z1] at e; cases e
    | some l =>
      rw [z1] at e
      cases z3 : l[i]? with
      | none => simp only [Option.bind, z3] at e; cases e
      | some x =>
        simp only [Option.bind, z3, Option.map] at e
        cases e
        obtain ⟨a', vs, ea, k1, k2⟩ := lstOf_ok R q1 z1
        cases ea
        obtain ⟨v, k5, k6⟩ := k2.get z3
        refine ⟨⟨vs, v, k1, k5⟩, fun x H1 y => ?_⟩
        obtain ⟨T, x1, rfl, hT, rfl, y2⟩ := y
        have := y2 vs k1
        rw [k5] at this; cases this
        refine ⟨Ext.new hT, R.aside hT, ⟨T, _, rfl, upd_same, _, _, rfl, rfl, _, _, rfl, k6.ext (Ext.new hT), rfl⟩, fun b o hb => ?_⟩
        rw [upd_ne (ne_of_none hb hT)]; exact hb
theorem RI.stop (R : RelH G K r h H) : ∀ {J : It} {J' : L2.It} {i : Nat}, RI G K r H J J' → J.stop i h = true → J'.stop i H
  | .seq u, J', i, ⟨a, q, hh⟩, e => by
    simp only [It.stop, It.len] at e
    cases z : seqOf u h with
    | none => simp [z] at e
    | some l =>
      simp [z] at e
      rcases hh with ⟨⟨l0, rfl⟩, rfl⟩ | ⟨hn, rfl⟩
      · obtain ⟨a', vs, ea, k1, k2⟩ := q
        cases ea
        cases z
        exact ⟨vs, SqT.of k1, by rw [k2.length]; exact e⟩
      · obtain ⟨a', vs, ea, k1, k2⟩ := lstOf_ok R q (seq_lst hn z)
        cases ea
        exact ⟨vs, k1, by rw [k2.length]; exact e⟩
  | .rng lo c n, J', i, hh, e => by
    simp [It.stop, It.len] at e
    rcases hh with ⟨rfl, rfl⟩ | rfl
    · exact e
    · exact e
  | .zip u u2, J', i, ⟨a, b, q1, q2, ej⟩, e => by
    subst ej
    simp only [It.stop, It.len] at e
    cases z1 : lstOf u h with
    | none => simp [z1] at e
    | some l =>
      cases z2 : lstOf u2 h with
      | none => simp [z1, z2] at e
      | some m =>
        simp [z1, z2] at e
        obtain ⟨a', vs, ea, k1, k2⟩ := lstOf_ok R q1 z1
        obtain ⟨b', us, eb, k3, k4⟩ := lstOf_ok R q2 z2
        cases ea; cases eb
        refine ⟨vs, us, k1, k3, ?_⟩
        rw [k2.length, k4.length]
        omega
  | .enu u, J', i, ⟨a, q1, ej⟩, e => by
    subst ej
    simp only [It.stop, It.len] at e
    cases z1 : lstOf u h with
    | none => simp [z1] at e
    | some l =>
      simp [z1] at e
      obtain ⟨a', vs, ea, k1, k2⟩ := lstOf_ok R q1 z1
      cases ea
      exact ⟨vs, k1, by rw [k2.length]; exact e⟩
end
section
variable {G : Nm} {X : Cx} {Wx : WX} {e a b tg : Expr} {es : List Expr} {ma mb : F → Hm → R W} {ms : F → Hm → R (List W)} {pos p : Pos}
theorem pi_weak {iter : Expr} {t t' : TI} (q : PI X tg iter t) (h : ∀ σ H Q, t' σ H Q → t σ H Q) : PI X tg iter t' := ⟨fun pins s σ H Q I z => q.run pins s σ H Q I (h σ H Q z)⟩
/-- a list or a tuple -/
theorem pi_seq {l : Expr} {tl : TE} (hl : PE X l tl) : PI X tg l (fun σ H R => tl σ H fun x H1 => (∃ a, x = .ref a ∧ (∃ xs, SqL X.K H1 a xs) ∧ R (Itl X.K a) H1) ∨ ∃ a, x = .ref a ∧ (∃ xs, SqT X.K H1 a xs) ∧ R (Itt X.K a) H1) := by
  refine ⟨fun pins s σ H R I h => ?_⟩
  refine thn (hl.run pins s σ H _ I h) fun v s1 ⟨x, H1, I1, r1, q1⟩ => ?_
  rcases q1 with ⟨a, e, ⟨xs, hq⟩, q⟩ | ⟨a, e, ⟨xs, hq⟩, q⟩
  · subst e
    cases r1
    obtain ⟨its, rv, p, hz⟩ := I1.list hq
    refine wpAny_pyIter_list p.isList ?_
    refine ⟨s1.heap.objs.size, [s1.heap.objs.size], _, _, H1, rfl, I1.kept (t' := s1.toks) fun b o e => Heap.get?_push_of_some _ e, turn_list a _, ⟨_, Heap.get?_push_size _ rfl, rfl, rfl⟩, fun b hb => ?_, q⟩
    have e : b = s1.heap.objs.size := by simpa using hb
    subst e
    exact I1.fpOk (Nat.le_refl _) I1.fresh
  · subst e
    cases r1
    obtain ⟨its, rv, p, hz⟩ := I1.tuple hq
    refine wpAny_pyIter_tuple (show s1.heap.IsTuple a its.toArray from p) ?_
    refine ⟨s1.heap.objs.size, [s1.heap.objs.size], _, _, H1, rfl, I1.kept (t' := s1.toks) fun b o e => Heap.get?_push_of_some _ e, turn_tuple a _, ⟨_, Heap.get?_push_size _ rfl, rfl, rfl⟩, fun b hb => ?_, q⟩
    have e : b = s1.heap.objs.size := by simpa using hb
    subst e
    exact I1.fpOk (Nat.le_refl _) I1.fresh
theorem pi_seqA {C : Cb} {ce : E} (he : PE X e (TEm G X.K Wx (ev C ce))) : PI X tg e (TIm G X.K Wx (evI C (.sq ce))) := by
  refine pi_weak (pi_seq he) ?_
  rw [evI_sq]
  rintro σ H Q ⟨r, f, h, S, p⟩
  refine ⟨r, f, h, S, (PostG.seq (rel := relW G X.K) p).mono ?_⟩
  rintro v H1 ⟨r1, x, h1, e1, R1, q1, p1⟩
  cases z : seqOf x h1 with
  | none => simp only [z] at p1; exact p1.elim
  | some l =>
    simp only [z] at p1
    obtain ⟨pa, vs, rfl, k1, k2⟩ := seqOf_ok R1 q1 z
    have fin : ∀ J, ((∃ l, x = .tup l) ∧ J = Itt X.K pa ∨ (∀ l, x ≠ .tup l) ∧ J = Itl X.K pa) → Q J H1 := fun J hj => p1 r1 H1 J .refl R1 ⟨pa, q1, hj⟩
    by_cases ht : ∃ l, x = .tup l
    · obtain ⟨l0, rfl⟩ := ht
      obtain ⟨a', vs', ea, k3, k4⟩ := q1
      cases ea
      exact .inr ⟨pa, rfl, ⟨vs', SqT.of k3⟩, fin _ (.inl ⟨⟨l0, rfl⟩, rfl⟩)⟩
    · have hn : ∀ l, x ≠ .tup l := fun l e => ht ⟨l, e⟩
      obtain ⟨a', vs', ea, k3, k4⟩ := lstOf_ok R1 q1 (seq_lst hn z)
      cases ea
      exact .inl ⟨pa, rfl, ⟨vs', k3⟩, fin _ (.inr ⟨hn, rfl⟩)⟩
theorem ta2 {ma mb : F → Hm → R W} {σ : St} {H : Hp} {Q : List V → Hp → Prop} (q : TEm G X.K Wx ma σ H fun v H1 => TEm G X.K Wx mb σ H1 fun u H2 => Q [v, u] H2) : tCons (TEm G X.K Wx ma) (tCons (TEm G X.K Wx mb) tNil) σ H Q := q
theorem pi_zipA' {C : Cb} {ca cb : E} {elts : List Expr} {kk : Nat} {tpos : Pos} (hg : Gl X "zip") (hm : X.mg "zip" = none) (na : noStar a = true) (nb : noStar b = true) (ha : PE X a (TEm G X.K Wx (ev C ca))) (hb : PE X b (TEm G X.K Wx (ev C cb))) :
    PI X (.Tuple elts kk tpos) (.Call (.Name "zip" p) [a, b] [] pos) (TIm G X.K Wx (evI C (.zip ca cb))) := by
  refine pi_weak (pi_zip hg hm (pa_cons ha (pa_cons hb pa_nil (star_cons nb [])) (star_cons na [b])) (star_cons na [b]) (star_any (es := [b]) (by simp [nb]))) ?_
  rw [evI_zip]
  rintro σ H Q ⟨r, f, h, S, p⟩
  refine ⟨r, f, h, S, (PostG.seq (rel := relW G X.K) p).mono ?_⟩
  rintro v H1 ⟨r1, x, h1, e1, R1, q1, p1⟩
  refine ⟨r1, f, h1, S.ext e1 R1, (PostG.seq (rel := relW G X.K) p1).mono ?_⟩
  rintro u H2 ⟨r2, y, h2, e2, R2, q2, p2⟩
  cases z1 : lstOf x h2 with
  | none => simp only [z1] at p2; exact p2.elim
  | some l =>
    cases z2 : lstOf y h2 with
    | none => simp only [z1, z2] at p2; exact p2.elim
    | some m =>
      simp only [z1, z2] at p2
      have q1 := q1.ext e2
      obtain ⟨pa, vs, rfl, k1, k2⟩ := lstOf_ok R2 q1 z1
      obtain ⟨pb, us, rfl, k3, k4⟩ := lstOf_ok R2 q2 z2
      exact ⟨pa, pb, vs, us, rfl, k1, k3, p2 r2 H2 _ .refl R2 ⟨pa, pb, q1, q2, rfl⟩⟩
theorem pi_enuA {C : Cb} {ca : E} {elts : List Expr} {kk : Nat} {tpos : Pos} (hg : Gl X "enumerate") (hm : X.mg "enumerate" = none) (na : noStar a = true) (ha : PE X a (TEm G X.K Wx (ev C ca))) :
    PI X (.Tuple elts kk tpos) (.Call (.Name "enumerate" p) [a] [] pos) (TIm G X.K Wx (evI C (.enu ca))) := by
  refine pi_weak (pi_enum hg hm (pa_cons ha pa_nil (star_cons na [])) (star_cons na [])) ?_
  rw [evI_enu]
  rintro σ H Q ⟨r, f, h, S, p⟩
  refine ⟨r, f, h, S, (PostG.seq (rel := relW G X.K) p).mono ?_⟩
  rintro v H1 ⟨r1, x, h1, e1, R1, q1, p1⟩
  cases z1 : lstOf x h1 with
  | none => simp only [z1] at p1; exact p1.elim
  | some l =>
    simp only [z1] at p1
    obtain ⟨pa, vs, rfl, k1, k2⟩ := lstOf_ok R1 q1 z1
    exact ⟨pa, vs, rfl, k1, p1 r1 H1 _ .refl R1 ⟨pa, q1, rfl⟩⟩
theorem evs_len {C : Cb} : ∀ {l : List E} {f : F} {h h' : Hm} {ws : List W}, evs C (listE l) f h = .ok ws h' → ws.length = l.length
  | [], f, h, h', ws, e => by
    rw [show listE ([] : List E) = E.nil from rfl, evs_nil] at e
    cases e; rfl
  | a :: l, f, h, h', ws, e => by
    rw [show listE (a :: l) = E.cons a (listE l) from rfl, evs_cons] at e
    simp only at e
    cases z : ev C a f h with
    | ok x h1 =>
      rw [z] at e
      simp only [R.bind] at e
      cases z2 : evs C (listE l) f h1 with
      | ok xs h2 =>
        rw [z2] at e
        cases e
        rw [List.length_cons, List.length_cons, evs_len z2]
      | exc c h2 => rw [z2] at e; cases e
      | bad => rw [z2] at e; cases e
    | exc c h1 => rw [z] at e; cases e
    | bad => rw [z] at e; cases e
theorem rv_int {K : PySem.W.Frag} {r : List Addr} {H : Hp} {i : Int} {v : V} (q : RV G K r H (.int i) v) : v = .int i := q
theorem pi_rngA {C : Cb} {ce : Expr → E} (hg : Gl X "range") (hm : X.mg "range" = none) (hp : ∀ e, PE X e (TEm G X.K Wx (ev C (ce e)))) (hs : es.all noStar = true) (h1 : 1 ≤ es.length) (h3 : es.length ≤ 3) :
    PI X tg (.Call (.Name "range" p) es [] pos) (TIm G X.K Wx (evI C (.rng (listE (es.map ce))))) := by
  have ha := pa_all (C := C) hp hs
  rw [evI_rng]
  have key : ∀ σ H Q, TIm G X.K Wx (fun f h => (evs C (listE (es.map ce)) f h).bind fun ws h1 => match rngOf ws with | some J => .ok J h1 | none => .bad) σ H Q →
      TAm G X.K Wx (evs C (listE (es.map ce))) σ H fun vs H1 => ∃ ws r h1 J, ws.length = es.length ∧ RelH G X.K r h1 H1 ∧ RVs G X.K r H1 ws vs ∧ rngOf ws = some J ∧ ∀ J', RI G X.K r H1 J J' → Q J' H1 := by
    rintro σ H Q ⟨r, f, h, S, p⟩
    refine ⟨r, f, h, S, (PostG.seq' (rel := relA G X.K) p).mono ?_⟩
    rintro vs H1 ⟨r1, ws, h1, e0, e1, R1, q1, p1⟩
    cases z : rngOf ws with
    | none => simp only [z] at p1; exact p1.elim
    | some J =>
      simp only [z] at p1
      exact ⟨ws, r1, h1, J, by rw [evs_len e0, List.length_map], R1, q1, z, fun J' hj => p1 r1 H1 J' .refl R1 hj⟩
  match es, hs, h1, h3, ha, key with
  | [a], hs, _, _, ha, key =>
    simp only [List.all_cons, Bool.and_eq_true] at hs
    refine pi_weak (pi_range1 hg hm ha (star_cons hs.1 [])) fun σ H Q z => ?_
    obtain ⟨r, f, h, S, p⟩ := key σ H Q z
    refine ⟨r, f, h, S, p.mono ?_⟩
    rintro vs H1 ⟨ws, r1, h1, J, hl, R1, q1, e, k⟩
    match ws, hl, e, q1 with
    | [w], _, e, q1 =>
      cases w with
      | int i =>
        obtain ⟨v, rest, rfl, k1, k2⟩ := q1
        rw [rv_int k1, show rest = [] from k2]
        simp only [rngOf] at e
        split at e
        · rename_i hb
          cases e
          exact ⟨i, rfl, hb.1, hb.2, k _ (.inl ⟨rfl, rfl⟩)⟩
        · cases e
      | _ => simp [rngOf] at e
  | [a, b], hs, _, _, ha, key =>
    simp only [List.all_cons, Bool.and_eq_true] at hs
    refine pi_weak (pi_range2 hg hm ha (by rw [star_cons hs.1, star_cons hs.2.1]; rfl) (star_cons hs.2.1 [])) fun σ H Q z => ?_
    obtain ⟨r, f, h, S, p⟩ := key σ H Q z
    refine ⟨r, f, h, S, p.mono ?_⟩
    rintro vs H1 ⟨ws, r1, h1, J, hl, R1, q1, e, k⟩
    match ws, hl, e, q1 with
    | [w, w2], _, e, q1 =>
      cases w with
      | int i =>
        cases w2 with
        | int j =>
          obtain ⟨v, rest, rfl, k1, v2, rest2, rfl, k2, k3⟩ := q1
          rw [rv_int k1, rv_int k2, show rest2 = [] from k3]
          simp only [rngOf] at e
          split at e
          · rename_i hb
            cases e
            exact ⟨i, j, rfl, ⟨hb.1.1, hb.1.2, hb.2.1, hb.2.2⟩, k _ (.inl ⟨rfl, rfl⟩)⟩
          · cases e
        | _ => simp [rngOf] at e
      | _ => simp [rngOf] at e
  | [a, b, c], hs, _, _, ha, key =>
    simp only [List.all_cons, Bool.and_eq_true] at hs
    refine pi_weak (pi_range3 hg hm ha (star_cons hs.1 _) (star_any (es := [b, c]) (by simp [hs.2.1, hs.2.2.1]))) fun σ H Q z => ?_
    obtain ⟨r, f, h, S, p⟩ := key σ H Q z
    refine ⟨r, f, h, S, p.mono ?_⟩
    rintro vs H1 ⟨ws, r1, h1, J, hl, R1, q1, e, k⟩
    match ws, hl, e, q1 with
    | [w, w2, w3], _, e, q1 =>
      cases w with
      | int i =>
        cases w2 with
        | int j =>
          cases w3 with
          | int c =>
            obtain ⟨v, rest, rfl, k1, v2, rest2, rfl, k2, v3, rest3, rfl, k3, k4⟩ := q1
            rw [rv_int k1, rv_int k2, rv_int k3, show rest3 = [] from k4]
            simp only [rngOf] at e
            split at e
            · rename_i hb
              cases e
              obtain ⟨⟨hb1, hb2⟩, rfl⟩ := hb
              exact ⟨i, j, -1, _, rfl, RgC.neg hb1.1 hb1.2 hb2.1 hb2.2, k _ (.inr rfl)⟩
            · cases e
          | _ => simp [rngOf] at e
        | _ => simp [rngOf] at e
      | _ => simp [rngOf] at e
end
end WL

/-! comprehensions -/
namespace WL
open PySem PySem.Spec PyProof.Rows L2
abbrev Wno : WX := fun _ _ _ _ => False
/-- the new list at D holds what the machine has gathered -/
def PostL (G : Nm) (K : PySem.W.Frag) (D : Addr) (r : List Addr) (H : Hp) (x : R (List W)) (Qd : Hp → Prop) : Prop := match x with
  | .ok ws h => ∀ r' H' vs, Ext r H r' H' → RelH G K r' h H' → H' D = some (.lst vs) → RVs G K r' H' ws vs → (∀ n : Nat, r'[n]? ≠ some D) → Qd H'
  | _ => False
section
variable {G : Nm} {K : PySem.W.Frag}
theorem lc_inv {C : Cb} {t cond e : E} {own : List Nat} {n : Nat} {J : It} {J' : L2.It} {r1 : List Addr} {h1 : Hm} {H1 : Hp} {f : F} {σ : St} {D : Addr} {Qd : Hp → Prop}
    (S1 : RelS G K r1 f h1 σ H1) (hJ : RI G K r1 H1 J J') (hD : H1 D = none) (ho : inOwn t own)
    (p : PostL G K D r1 H1 (lcL (evC C cond) (ev C e) (bindT t) J (wipe f own) n 0 [] h1) Qd) :
    ∃ Wi : Nat → Nat → Hp → Prop, (∃ m, Wi 0 m (upd H1 D (.lst []))) ∧ ∀ i m H, Wi i m H →
      (J'.stop i H ∧ Qd H) ∨ (J'.go i H ∧ ∃ Nx : Hp → Prop, (∀ H', Nx H' → ∃ m', m' < m ∧ Wi (i + 1) m' H') ∧ ∀ x H', J'.yld i H x H' → TGm G K t x (L2.wipe σ own) H' fun σ2 H2 => L2.wipe σ2 own = L2.wipe σ own ∧ TTm G K Wno (evC C cond) σ2 H2 fun b H3 =>
        if b = true then TEm G K Wno (ev C e) σ2 H3 fun y H4 => ∃ acc, H4 D = some (.lst acc) ∧ acc.length < sizeLine ∧ Nx (upd H4 D (.lst (acc ++ [y]))) else Nx H3) := by
  refine ⟨fun i m H => ∃ r h acc vs, Ext r1 H1 r H ∧ RelS G K r (wipe f own) h (L2.wipe σ own) H ∧ RI G K r H J J' ∧ H D = some (.lst vs) ∧ RVs G K r H acc vs ∧ (∀ n : Nat, r[n]? ≠ some D) ∧
    PostL G K D r1 H1 (lcL (evC C cond) (ev C e) (bindT t) J (wipe f own) m i acc h) Qd, ⟨n, r1, h1, [], [], Ext.new hD, ?_, hJ.ext0 (Ext.new hD).toExt0, upd_same, rfl, S1.heap.out hD, p⟩, ?_⟩
  · exact (S1.wipe own).ext (Ext.new hD) (S1.heap.aside hD)
  · rintro i m H ⟨r, h, acc, vs, X1, S, qJ, hd, qa, nD, p⟩
    cases m with
    | zero =>
      simp only [lcL] at p
      by_cases hs : J.stop i h = true
      · rw [if_pos hs] at p
        exact .inl ⟨qJ.stop S.heap hs, p r H vs X1 S.heap hd qa nD⟩
      · rw [if_neg hs] at p; exact p.elim
    | succ m =>
      simp only [lcL] at p
      cases z : (J.item i h).bind fun w => bindT t w (wipe f own) with
      | none => rw [z] at p; exact p.elim
      | some f1 =>
        rw [z] at p
        simp only at p
        cases z1 : J.item i h with
        | none => rw [z1] at z; cases z
        | some w =>
          rw [z1] at z
          have z : bindT t w (wipe f own) = some f1 := z
          obtain ⟨hgo, hy⟩ := qJ.go S.heap z1
          refine .inr ⟨hgo, fun H' => ∃ r h acc vs, Ext r1 H1 r H' ∧ RelS G K r (wipe f own) h (L2.wipe σ own) H' ∧ RI G K r H' J J' ∧ H' D = some (.lst vs) ∧ RVs G K r H' acc vs ∧ (∀ n : Nat, r[n]? ≠ some D) ∧
            PostL G K D r1 H1 (lcL (evC C cond) (ev C e) (bindT t) J (wipe f own) m (i + 1) acc h) Qd, fun H' q => ⟨m, Nat.lt_succ_self _, q⟩, fun x H2 y => ?_⟩
          obtain ⟨e2, R2, q2, k2⟩ := hy x H2 y
          have S2 := S.ext e2 R2
          refine ⟨r, wipe f own, h, w, f1, S2, q2, z, fun σ2 S3 w2 => ⟨by rw [w2 own ho, wipe_wipe], ?_⟩⟩
          refine ⟨r, f1, h, S3, ?_⟩
          show PostG G K relQ Wno σ2 r H2 (evC C cond f1 h).tst _
          cases z3 : evC C cond f1 h with
          | exc c hx => simp only [z3] at p; exact p.elim
          | bad => simp only [z3] at p; exact p.elim
          | ok wc h3 =>
            simp only [z3] at p
            cases wc with
            | bl b =>
              intro r3 H3 b' e3 R3 qb
              have qb : b = b' := qb
              subst qb
              have X3 : Ext r1 H1 r3 H3 := (X1.trans e2).trans e3
              have nD3 : ∀ n : Nat, r3[n]? ≠ some D := fun n hn => by
                rcases e3.fresh n D hn with ⟨m', hm⟩ | q
                · exact nD m' hm
                · rw [k2 D _ hd] at q; cases q
              have hd3 : H3 D = some (.lst vs) := e3.keep D _ (k2 D _ hd) nD (fun _ z => by cases z)
              have e23 := (e2.trans e3)
              cases b with
              | false =>
                simp only [Bool.false_eq_true, if_false]
                exact ⟨r3, h3, acc, vs, X3, S.ext e23 R3, qJ.ext0 e23.toExt0, hd3, qa.ext e23, nD3, p⟩
              | true =>
                simp only [if_true]
                refine ⟨r3, f1, h3, S3.ext e3 R3, ?_⟩
                cases z4 : ev C e f1 h3 with
                | exc c hx => simp only [z4] at p; exact p.elim
                | bad => simp only [z4] at p; exact p.elim
                | ok w4 h4 =>
                  simp only [z4] at p
                  intro r4 H4 y4 e4 R4 q4
                  have X4 : Ext r1 H1 r4 H4 := X3.trans e4
                  have nD4 : ∀ n : Nat, r4[n]? ≠ some D := fun n hn => by
                    rcases e4.fresh n D hn with ⟨m', hm⟩ | q
                    · exact nD3 m' hm
                    · rw [hd3] at q; cases q
                  have hd4 : H4 D = some (.lst vs) := e4.keep D _ hd3 nD3 (fun _ z => by cases z)
                  have e24 := e23.trans e4
                  have qa4 := qa.ext e24
                  by_cases hl : acc.length < line
                  · rw [if_pos hl] at p
                    have e5 : Ext0 r4 H4 r4 (upd H4 D (.lst (vs ++ [y4]))) := Ext0.put hd4 trivial
                    have R5 := R4.aput (ho := .lst (vs ++ [y4])) nD4 hd4 trivial
                    refine ⟨vs, hd4, by rw [qa4.length]; exact hl, r4, h4, acc ++ [w4], vs ++ [y4], X4.side hD, ?_, (qJ.ext0 e24.toExt0).ext0 e5, upd_same, ?_, nD4, p⟩
                    · exact (S.ext e24 R4).ext0 e5 R5
                    · exact (qa4.snoc q4).ext0 e5
                  · rw [if_neg hl] at p; exact p.elim
            | _ => exact p.elim
end
/-! ### the rule -/
theorem relS_scope {scope : Scope} {cl : List (Str × Addr)} {C : Addr} {env : Env} : (compEnvC scope cl C env).scope = relS scope env.scope := rfl
theorem foldSet {iter : Expr} (h : noSet iter = true) (env : Env) : ∀ x, foldedSetIterable iter env x = pure x := by
  intro x
  cases iter <;> first | rfl | cases h
section
variable {G : Nm} {X : Cx} {Wx : WX}
/-- how the machine's gathered list answers as the list at D -/
theorem lc_read {elt tg iter : Expr} {ifs : List Expr} {scope : Scope} {own : List (Str × Nat)} {pos : Pos} {C : Cb} {t it cond e : E} (hc : X.calm = true) (hN : X.N.Nodup) (hb : BlkOk X.N X.env.scope scope own) (ho : inOwn t (own.map (·.2))) (hs : noSet iter = true)
    (hi : PI X tg iter (TIm G X.K Wx (evI C it)))
    (hg : ∀ (s : Shared) (H : Hp) (Ca : Addr) (cl : List (Str × Addr)) (fp : List Addr), PG (X.blk s H scope (compEnvC scope cl Ca X.env) fp) tg (TGm G X.K t))
    (ht : ∀ (s : Shared) (H : Hp) (Ca : Addr) (cl : List (Str × Addr)) (fp : List Addr), PTs (X.blk s H scope (compEnvC scope cl Ca X.env) fp) ifs (TTm G X.K Wno (evC C cond)))
    (he : ∀ (s : Shared) (H : Hp) (Ca : Addr) (cl : List (Str × Addr)) (fp : List Addr), PE (X.blk s H scope (compEnvC scope cl Ca X.env) fp) elt (TEm G X.K Wno (ev C e))) :
    PE X (.ListComp elt [⟨tg, iter, ifs, 0⟩] scope pos) (tLc (TIm G X.K Wx (evI C it)) (TGm G X.K t) (TTm G X.K Wno (evC C cond)) (TEm G X.K Wno (ev C e)) (own.map (·.2))) :=
  pe_lc hc hN hi hb hg ht he (foldSet hs X.env)
abbrev mLc (C : Cb) (own : List Nat) (t it cond e : E) (k : List W → Hm → R W) : F → Hm → R W := fun f h => (evI C it f h).bind fun J h1 => match J.len h1 with
    | some n => (lcL (evC C cond) (ev C e) (bindT t) J (wipe f own) n 0 [] h1).bind fun ws h2 => k ws h2
    | none => .bad
theorem te_lc {C : Cb} {own : List Nat} {t it cond e : E} {k : List W → Hm → R W} (ho : inOwn t own) (R1 : VK → V → Hp → Prop)
    (hk : ∀ (σ : St) (Q : VK) (D : Addr) (r1 : List Addr) (H1 : Hp) (ws : List W) (h2 : Hm) (r' : List Addr) (H' : Hp) (vs : List V), H1 D = none → PostG G X.K (relW G X.K) Wx σ r1 H1 (k ws h2) Q → Ext r1 H1 r' H' → RelH G X.K r' h2 H' → H' D = some (.lst vs) → RVs G X.K r' H' ws vs → (∀ n : Nat, r'[n]? ≠ some D) → R1 Q (.ref D) H')  :
    ∀ σ H Q, TEm G X.K Wx (mLc C own t it cond e k) σ H Q → tLc (TIm G X.K Wx (evI C it)) (TGm G X.K t) (TTm G X.K Wno (evC C cond)) (TEm G X.K Wno (ev C e)) own σ H (R1 Q) := by
  rintro σ H Q ⟨r, f, h, S, p⟩
  refine ⟨r, f, h, S, (PostG.seq (rel := relI G X.K) p).mono ?_⟩
  rintro J' H1 ⟨r1, J, h1, e1, Rl, q1, p1⟩
  cases z : J.len h1 with
  | none => simp only [z] at p1; exact p1.elim
  | some n =>
    simp only [z] at p1
    intro D hD
    refine lc_inv (S.ext e1 Rl) q1 hD ho (n := n) (Qd := fun H' => R1 Q (.ref D) H') ?_
    -- the gathered list's end
    cases z2 : lcL (evC C cond) (ev C e) (bindT t) J (wipe f own) n 0 [] h1 with
    | ok ws h2 =>
      rw [z2] at p1
      intro r' H' vs X1 Rr hd qa nD
      exact hk σ Q D r1 H1 ws h2 r' H' vs hD p1 X1 Rr hd qa nD
    | exc c hx =>
      exfalso
      have nex : ∀ m i acc h c hx, lcL (evC C cond) (ev C e) (bindT t) J (wipe f own) m i acc h ≠ .exc c hx := by
        intro m
        induction m with
        | zero =>
          intro i acc h c hx
          simp only [lcL]
          split <;> exact fun q => nomatch q
        | succ m ih =>
          intro i acc h c hx
          simp only [lcL]
          split
          · exact fun q => nomatch q
          · split
            · split
              · split
                · exact ih _ _ _ _ _
                · exact fun q => nomatch q
              · exact fun q => nomatch q
            · exact ih _ _ _ _ _
            · exact fun q => nomatch q
      exact nex _ _ _ _ _ _ z2
    | bad => rw [z2] at p1; exact p1.elim
/-- a new list -/
theorem te_lcA {C : Cb} {own : List Nat} {t it cond e : E} (ho : inOwn t own) : ∀ σ H Q, TEm G X.K Wx (mLc C own t it cond e fun ws h2 => alloc (.lst ws) h2) σ H Q → tLc (TIm G X.K Wx (evI C it)) (TGm G X.K t) (TTm G X.K Wno (evC C cond)) (TEm G X.K Wno (ev C e)) own σ H Q :=
  te_lc ho (fun Q v H => Q v H) fun σ Q D r1 H1 ws h2 r' H' vs hD p X1 Rr hd qa nD => by
    refine p (r' ++ [D]) H' (.ref D) (X1.adopt hD) (Rr.adopt nD ⟨vs, hd, qa⟩) ⟨D, rfl, ?_⟩
    rw [← Rr.len, List.getElem?_append_right (Nat.le_refl _)]; simp
end
end WL

/-! calls, built-ins, methods -/
namespace WL
open PySem PySem.Spec PyProof.Rows L2
theorem ndS_ok : ∀ {l : List Str}, ndS l = true → l.Nodup
  | [], _ => List.nodup_nil
  | x :: r, h => by
    unfold ndS at h
    simp only [Bool.and_eq_true, Bool.not_eq_true'] at h
    refine List.nodup_cons.mpr ⟨fun hm => ?_, ndS_ok h.2⟩
    have : (r.any fun y => decide (y = x)) = true := List.any_eq_true.mpr ⟨x, hm, by simp⟩
    rw [h.1] at this; cases this
theorem scope_ok {N P : List Str} {sc : Scope} (h : scopeB N P sc = true) : FnScope N P sc := by
  unfold scopeB at h
  simp only [Bool.and_eq_true, Bool.not_eq_true', decide_eq_true_eq, List.all_eq_true, decide_eq_false_iff_not] at h
  obtain ⟨⟨⟨⟨⟨⟨h1, h2⟩, h3⟩, h4⟩, h5⟩, h6⟩, h7⟩ := h
  exact ⟨h1, h2, h3, ndS_ok h4, h5, fun x hx => locB_ok (h6 x hx), h7⟩
/-! ### parameters bound -/
theorem zip_lookup : ∀ {ps : List Str} {us : List Value}, ps.Nodup → us.length = ps.length → ∀ {i : Nat} {x : Str}, ps[i]? = some x → ∃ u, us[i]? = some u ∧ (ps.zip us).lookup x = some u
  | [], us, _, _, i, x, h => by simp at h
  | p :: ps, [], _, hl, _, _, _ => by simp at hl
  | p :: ps, u :: us, hn, hl, 0, x, h => by
    simp at h; subst h
    exact ⟨u, rfl, by simp [List.zip_cons_cons, List.lookup_cons]⟩
  | p :: ps, u :: us, hn, hl, i + 1, x, h => by
    rw [List.nodup_cons] at hn
    obtain ⟨v, h1, h2⟩ := zip_lookup (us := us) hn.2 (by simpa using hl) (i := i) (x := x) (by simpa using h)
    have hx : x ≠ p := fun e => hn.1 (e ▸ List.mem_of_getElem? (by simpa using h))
    refine ⟨v, by simpa using h1, ?_⟩
    rw [List.zip_cons_cons, List.lookup_cons, beq_eq_false_iff_ne.mpr hx]
    exact h2
theorem zip_fm {ps : List Str} {us : List Value} (hn : ps.Nodup) (hl : us.length = ps.length) : ps.filterMap (fun n => ((ps.zip us).lookup n).map fun v => (n, v)) = ps.zip us := by
  have h1 : ∀ n ∈ ps, ∃ v, (ps.zip us).lookup n = some v := fun n hm => by
    obtain ⟨i, hi, e⟩ := List.mem_iff_getElem.mp hm
    obtain ⟨u, _, h⟩ := zip_lookup hn hl (i := i) (x := n) (by rw [List.getElem?_eq_getElem hi, e])
    exact ⟨u, h⟩
  have h2 : ∀ l : List Str, (∀ n ∈ l, ∃ v, (ps.zip us).lookup n = some v) → (l.filterMap (fun n => ((ps.zip us).lookup n).map fun v => (n, v))).length = l.length := by
    intro l
    induction l with
    | nil => intro _; rfl
    | cons a l ih =>
      intro h
      obtain ⟨v, hv⟩ := h a List.mem_cons_self
      rw [List.filterMap_cons, hv]
      simp only [Option.map_some, List.length_cons]
      rw [ih fun n hn => h n (List.mem_cons_of_mem _ hn)]
  have h3 : ∀ l : List Str, (∀ n ∈ l, ∃ v, (ps.zip us).lookup n = some v) → ∀ i : Nat, (l.filterMap (fun n => ((ps.zip us).lookup n).map fun v => (n, v)))[i]? = (l[i]?).bind fun n => ((ps.zip us).lookup n).map fun v => (n, v) := by
    intro l
    induction l with
    | nil => intro _ i; simp
    | cons a l ih =>
      intro h i
      obtain ⟨v, hv⟩ := h a List.mem_cons_self
      rw [List.filterMap_cons, hv]
      cases i with
      | zero => simp [hv]
      | succ i => simpa using ih (fun n hn => h n (List.mem_cons_of_mem _ hn)) i
  apply List.ext_getElem?
  intro i
  rw [h3 ps h1 i]
  cases q : ps[i]? with
  | none =>
    have : ps.length ≤ i := List.getElem?_eq_none_iff.mp q
    rw [List.getElem?_eq_none (by simp; omega)]; rfl
  | some x =>
    obtain ⟨u, h4, h5⟩ := zip_lookup hn hl q
    have : (ps.zip us)[i]? = some (x, u) := by
      rw [List.getElem?_zip_eq_some]; exact ⟨q, h4⟩
    rw [this]
    simp [h5]
theorem bind_plain {fd : FuncData} {ps : List Str} {us : List Value} (h1 : plainA fd.params = true) (h2 : fd.defaults = .none) (h3 : parN fd.params = ps) (hn : ps.Nodup) (hl : us.length = ps.length) : bindArgs fd ⟨us, []⟩ = pure (ps.zip us) := by
  unfold plainA at h1
  simp only [Bool.and_eq_true, List.isEmpty_iff, Option.isNone_iff_eq_none] at h1
  obtain ⟨⟨⟨k1, k2⟩, k3⟩, k4⟩ := h1
  have e1 : seqItems? .none = (pure none : Sem (Option (Array Value))) := by first | rfl | (unfold seqItems?; rfl)
  have e2 : fd.params.args.map (·.arg) = ps := h3
  have hm : ∀ n ∈ ps, ∃ v, (ps.zip us).lookup n = some v := fun n hm => by
    obtain ⟨i, hi, e⟩ := List.mem_iff_getElem.mp hm
    obtain ⟨u, _, h⟩ := zip_lookup hn hl (i := i) (x := n) (by rw [List.getElem?_eq_getElem hi, e])
    exact ⟨u, h⟩
  have hmiss : (ps.filter fun n => ((ps.zip us).lookup n).isNone) = [] := by
    rw [List.filter_eq_nil_iff]
    intro n hnm
    obtain ⟨v, hv⟩ := hm n hnm
    rw [hv]; simp
  have hz := zip_fm hn hl
  unfold bindArgs
  simp only [k1, k2, k3, k4, h2, e1, e2, List.map_nil, List.nil_append, List.append_nil, hl]
  simp [hmiss, hz]
def bnames : List Str := ["len", "abs", "max", "min", "sum", "all", "any", "sorted", "list", "tuple", "range", "zip", "enumerate", "isinstance", "int", "bool", "str", "ValueError"]
def spM (G : Nm) (K : PySem.W.Frag) (T : Tb) (k g : Nat) : Sp := fun vs H Q E => ∃ r h ws, RelH G K r h H ∧ RVs G K r H ws vs ∧ PostG G K (relW G K) (fun c d _ H' => E c d H') [] r H (callM T k g ws h) Q
/-- what isinstance asks of an own class -/
structure ClT (K : PySem.W.Frag) (C : Addr) : Prop where
  ha : PySem.W.findIn K (.ref C) "__class__" = some (some (.builtin "object.__class__"))
  hn : PySem.W.specialIn K (.builtin "object.__class__") "__get__" = some (some (.builtin "getset_descriptor.__get__"))
  ht : PySem.W.takesIn K (.builtin "object.__class__") = some true
  hm : PySem.W.mroIn K C (.type "object") = some true
/-- a class that has no __init__ of its own -/
structure Mk0 (K : PySem.W.Frag) (C : Addr) : Prop where
  makes : PySem.W.makesIn K C = true
  init : PySem.W.findIn K (.ref C) "__init__" = some (some (.builtin "object.__init__"))
  kp : PySem.W.keepIn K (.ref C) = true
/-- the class that the number d stands for -/
def xV (G : Nm) (K : PySem.W.Frag) (d : Nat) : Value := if d < G.exs.length then .ref (xA G K d) else .type "ValueError"
structure Sta (G : Nm) (T : Tb) (K : PySem.W.Frag) (mg : Str → Option Value) : Prop where
  glo : ∀ (g : Nat) (x : Str), G.fns[g]? = some (x, none) → mg x = some (.ref (fA G K g))
  kp : ∀ (g : Nat) (p : Str × Option Str), G.fns[g]? = some p → PySem.W.keepIn K (.ref (fA G K g)) = true
  free : ∀ x ∈ bnames, mg x = none
  con : ∀ x i, G.consts.lookup x = some i → ∃ t, mg x = some (.int i t)
  cls : ∀ (c : Nat) (x : Str), G.cls[c]? = some x → mg x = some (.ref (cA G K c)) ∧ Cls K (cA G K c) ∧ ClT K (cA G K c) ∧ PySem.W.keepIn K (.ref (cA G K c)) = true
  noat : ∀ (c k : Nat) (f : Str), c < G.cls.length → G.flds[k]? = some f → NoAttr K (cA G K c) f
  met : ∀ (c m g : Nat) (mn : Str), T.metI c m = some g → G.mets[m]? = some mn → Meth K (cA G K c) mn (fA G K g) ∧ c < G.cls.length ∧ g < G.fns.length
  ini : ∀ (c i : Nat), T.init[c]? = some (some i) → Mk K (cA G K c) (fA G K i) ∧ i < G.fns.length
  ini0 : ∀ c : Nat, T.init[c]? = some none → Mk0 K (cA G K c)
  sub : ∀ c d : Nat, c < G.cls.length → d < G.cls.length → PySem.W.kitOne K (.ref (cA G K c)) (.ref (cA G K d)) = some (T.subB c d)
  fnd : G.flds.Nodup
  dis : ∀ (m k : Nat) (x : Str), G.mets[m]? = some x → G.flds[k]? ≠ some x
  exm : ∀ (e c : Nat) (b : Bool), T.subX e c = some b → c < G.exs.length → PySem.W.exmOne K (.ref (xA G K e)) (.ref (xA G K c)) = some b
  exi : ∀ (e d : Nat) (b : Bool), T.subX e d = some b → PySem.W.kitOne K (.ref (xA G K e)) (xV G K d) = some b
  exc : ∀ (e d : Nat) (b : Bool), T.subX e d = some b → ExcC K (xA G K e)
  exg : ∀ (c : Nat) (x : Str), G.exs[c]? = some x → mg x = some (.ref (xA G K c))
  dfs : ∀ (g : Nat) (p : Str × Option Str), G.fns[g]? = some p → ∃ d fd, d.at_ = p ∧ FunD K d.name d.qual d.params d.body d.scope [] [] (fA G K g) fd ∧ defB d = true ∧ T.fns[g]? = some (fnI G d)
  tks : ∀ (g : Nat) (tk : TkI), T.tks[g]? = some (some tk) → ∃ x d fd, G.fns[g]? = some (x, none) ∧ d.name = x ∧ d.qual = x ∧ FunD K d.name d.qual d.params d.body d.scope [] [] (fA G K g) fd ∧ defB d = true ∧ tkOf G d = some tk
/-- lambdas as values keep what the machine says -/
def spC (G : Nm) (K : PySem.W.Frag) (T : Tb) (k np ns : Nat) (b : E) : Sp := fun vs H Q E => ∃ r h ws, RelH G K r h H ∧ RVs G K r H ws vs ∧ PostG G K (relW G K) (fun c d _ H' => E c d H') [] r H (codM T k np ns b ws h) Q
structure Lev (G : Nm) (T : Tb) (P : Program) (w : World) (K : PySem.W.Frag) (mg : Str → Option Value) (base : Heap) (k : Nat) : Prop where
  fn : ∀ (g : Nat) (p : Str × Option Str), G.fns[g]? = some p → ∃ fd ps, Binds K fd ps [] ∧ FnOk P w K mg base (L2.CX P w) k (fA G K g) fd ps (spM G K T k g)
  cod : ∀ (L : LamT) (np ns : Nat) (b : E), CodOk G L np ns b → ∀ (A : Around) (outer : List Env) (s : Shared) (H : Hp) (us : List Value) (vs : List V) (Q : VK) (E' : XK) (a c : Addr), Room k A → Env0 P w K mg base A outer s H → H a = some (LamO a L c) → H c = some (LamX.CodeO c L.qual) → Vals vs us → spC G K T k np ns b vs H Q E' →
    codeAny (model P w) A (.call (.ref a) ⟨us, []⟩) (CR (L2.CX P w) outer P w H s Q E') s
/-- the defs that make lambdas: their code objects and tables -/
def MkOk (G : Nm) (K : PySem.W.Frag) (mg : Str → Option Value) (base : Heap) (code : Value) (qual : Str) : Prop := ∃ c P, code = .ref c ∧ LamX.TabB base mg c P ∧ (P, qual) ∈ tabL G K ∧ ∀ p ∈ tabL G K, p.1 = P → p.2 = qual
structure Good (G : Nm) (T : Tb) (k : Nat) (C : Cb) (s : Sx) (X : Cx) (Wx : WX) : Prop extends NmOk s X where
  room : Room k X.A
  tk : Takes X Wx
  sta : Sta G T X.K X.mg
  lev : ∀ j, j ≤ k → Lev G T X.prog X.w X.K X.mg X.base j
  mkr : MkOk G X.K X.mg X.base X.env.code (X.env.qual ++ "<lambda>") ∨ s.ml = false
  cT : C.tb = T
  cC : C.call = callM T k
  cM : C.make = mkM T k
  cD : C.cods = codM T k
  cK : (∀ g th h, C.thkc g th h = .bad) ∨ ∃ j, k = j + 2 ∧ C.thkc = runT (cbM T (j + 1)) ∧ C.lcall = callM T j ∧ C.lmake = mkM T j ∧ C.lcods = codM T j
section
variable {G : Nm} {T : Tb} {k : Nat} {C : Cb} {s : Sx} {X : Cx} {Wx : WX}
theorem Good.gl (O : Good G T k C s X Wx) {x : Str} (h : glB s.sc x = true) : Gl X x := by
  show X.env.scope.names.lookup x = some .globalImplicit
  rw [O.eS]; exact glB_ok h
theorem Good.blk (O : Good G T k C s X Wx) (scope : Scope) (sh : Shared) (H : Hp) (Ca : Addr) (cl : List (Str × Addr)) (fp : List Addr) : Good G T k C (blkX s scope) (X.blk sh H scope (compEnvC scope cl Ca X.env) fp) Wno where
  eN := O.eN
  nd := O.nd
  eS := by
    show relS scope X.env.scope = relS scope s.sc
    rw [O.eS]
  tgt := fun x hx => by
    have hx : locB scope x = true := hx
    have hl := locB_ok hx
    show L2.Loc (relS scope X.env.scope) x ∧ ((scope.names.lookup x == some .cell) = true ∨ (relS scope X.env.scope).names.lookup x = some .local)
    rcases hl with hl | hl
    · have := lookup_relS_keep (sc := X.env.scope) (k := .local) (by decide) hl
      exact ⟨.inl this, .inr this⟩
    · have := lookup_relS_keep (sc := X.env.scope) (k := .cell) (by decide) hl
      exact ⟨.inr this, .inl (by rw [hl]; rfl)⟩
  calm := O.calm
  room := O.room
  tk := L2.takes0
  sta := O.sta
  lev := O.lev
  mkr := O.mkr
  cT := O.cT
  cC := O.cC
  cM := O.cM
  cD := O.cD
  cK := O.cK
end
/-! ### a def is called -/
section
variable {G : Nm} {T : Tb} {k : Nat} {X : Cx} {Wx : WX} {x : Str} {p pos : Pos} {es : List Expr} {ms : F → Hm → R (List W)}
theorem post_any {K : PySem.W.Frag} {σ : St} {r : List Addr} {H : Hp} {y : R W} {Q : VK} (q : PostG G K (relW G K) Wx σ r H y Q) : PostG G K (relW G K) (fun c d _ H' => WE Wx σ c d H') [] r H y Q := by
  cases y with
  | ok a h => exact q
  | exc c h => exact q
  | bad => exact q
theorem te_cal {g : Nat} {σ : St} {H : Hp} {Q : VK} (q : TEm G X.K Wx (fun f h => (ms f h).bind fun ws h1 => callM T k g ws h1) σ H Q) : TAm G X.K Wx ms σ H fun vs H1 => spM G X.K T k g vs H1 Q (WE Wx σ) := by
  obtain ⟨r, f, h, S, p⟩ := q
  refine ⟨r, f, h, S, (PostG.seq (rel := relA G X.K) p).mono ?_⟩
  rintro vs H1 ⟨r1, ws, h1, e1, R1, q1, p1⟩
  exact ⟨r1, h1, ws, R1, q1, post_any p1⟩
theorem pe_cal {g : Nat} (sta : Sta G T X.K X.mg) (lev : Lev G T X.prog X.w X.K X.mg X.base k) (room : Room k X.A) (tk : Takes X Wx) (hg : Gl X x) (hpn : plainN x = true) (hf : idxF x G.fns = some g) (hs : es.all noStar = true) (ha : PA X es (TAm G X.K Wx ms)) (h0 : es = [] → ∀ σ H Q, TAm G X.K Wx ms σ H Q → Q [] H) :
    PE X (.Call (.Name x p) es [] pos) (TEm G X.K Wx fun f h => (ms f h).bind fun ws h1 => callM T k g ws h1) := by
  have hat := idxF_get hf
  obtain ⟨fd, ps, hb, F⟩ := lev.fn g _ hat
  have hm := sta.glo g x hat
  have hk := sta.kp g _ hat
  have hdb := (plainN_ok hpn).1
  cases es with
  | nil =>
    refine ⟨fun pins s σ H Q I q => ?_⟩
    refine wpAny_Call_Name_kw (ld_glob I hg hm ?_ hdb)
    refine PySem.W.callWith_K0 I.kIn hk ?_
    exact run_fnS F room hb (passAt tk σ) I .nil (h0 rfl σ H _ (te_cal q))
  | cons e es =>
    simp only [List.all_cons, Bool.and_eq_true] at hs
    refine pe_weak (pe_callS F room hg hm hk hb (fun σ => passAt tk σ) ha hdb (star_cons hs.1 es) (star_any hs.2)) ?_
    intro σ H Q q
    exact te_cal q
end
/-! ### built-ins -/
section
variable {G : Nm} {X : Cx} {Wx : WX}
def rB (X : Cx) : B → List V → Hp → VK → Prop
  | .len => fun xs H Q => ∃ p ys, xs = [.ref p] ∧ (SqL X.K H p ys ∨ SqT X.K H p ys) ∧ Q (.int ys.length) H
  | .abs => fun xs H Q => ∃ i, xs = [.int i] ∧ Q (.int (if i < 0 then -i else i)) H
  | .max => fun xs H Q => (∃ i j, xs = [.int i, .int j] ∧ Q (.int (if j > i then j else i)) H) ∨ rMax X.K xs H Q
  | .min => fun xs H Q => ∃ i j, xs = [.int i, .int j] ∧ Q (.int (if j < i then j else i)) H
  | .sum => rSum X.K
  | .all => rAll X.K
  | .any => rAny X.K
  | .sorted => fun xs H Q => rSortedI X.K xs H Q ∨ ∃ (a : Addr) (kvs : List (Key × V)) (ks : List Int), xs = [.ref a] ∧ Rd H a (.dK kvs) ∧ kvs.map (·.1) = ks.map Sum.inl ∧
    ∀ (ys : List Int) (p : Addr), ys.Perm ks → ys.Pairwise (· ≤ ·) → H p = none → Q (.ref p) (upd H p (.lst (ys.map V.int)))
  | .list => fun xs H Q => ∃ p ys, xs = [.ref p] ∧ (SqL X.K H p ys ∨ SqT X.K H p ys) ∧ ∀ l, H l = none → Q (.ref l) (upd H l (.lst ys))
  | .tuple => fun xs H Q => ∃ p ys, xs = [.ref p] ∧ ((SqL X.K H p ys ∧ ∀ l, H l = none → Q (.ref l) (upd H l (.tup ys))) ∨ (SqT X.K H p ys ∧ Q (.ref p) H))
  | .set => fun _ _ _ => False
def valB : B → Value
  | .len => .builtin "len" | .abs => .builtin "abs" | .max => .builtin "max" | .min => .builtin "min" | .sum => .builtin "sum" | .all => .builtin "all" | .any => .builtin "any" | .sorted => .builtin "sorted"
  | .list => .type "list" | .tuple => .type "tuple" | .set => .type "set"
theorem cr_B (hc : X.calm = true) : ∀ b, CallR X (valB b) (rB X b)
  | .len => call_len_seq
  | .abs => call_abs
  | .max => CallR.or (call_max2 hc) (cr_max hc)
  | .min => call_min2 hc
  | .sum => cr_sum hc
  | .all => cr_all hc
  | .any => cr_any hc
  | .sorted => CallR.or cr_sortedI (call_sortedDN hc)
  | .list => call_list_of
  | .tuple => call_tuple_of
  | .set => fun _ _ _ _ _ _ _ _ _ h => h.elim
theorem boot_B : ∀ b, b ∈ ([.len, .abs, .max, .min, .sum, .all, .any, .sorted, .list, .tuple] : List B) → bootBuiltins (bltNm b) = some (valB b)
  | .len, _ => by decide +kernel
  | .abs, _ => by decide +kernel
  | .max, _ => by decide +kernel
  | .min, _ => by decide +kernel
  | .sum, _ => by decide +kernel
  | .all, _ => by decide +kernel
  | .any, _ => by decide +kernel
  | .sorted, _ => by decide +kernel
  | .list, _ => by decide +kernel
  | .tuple, _ => by decide +kernel
  | .set, h => by cases h <;> contradiction
theorem max_eq {ns : List Int} {n m : Int} (hm : m ∈ n :: ns) (hle : ∀ y, y ∈ n :: ns → y ≤ m) : m = ns.foldl max n := by
  have key : ∀ (ns : List Int) (n : Int), (ns.foldl max n ∈ n :: ns) ∧ ∀ y, y ∈ n :: ns → y ≤ ns.foldl max n := by
    intro ns
    induction ns with
    | nil => intro n; exact ⟨List.mem_cons_self, fun y hy => by simp at hy; rw [hy]; exact Int.le_refl _⟩
    | cons a ns ih =>
      intro n
      obtain ⟨h1, h2⟩ := ih (max n a)
      refine ⟨?_, fun y hy => ?_⟩
      · show ns.foldl max (max n a) ∈ n :: a :: ns
        rcases List.mem_cons.mp h1 with h1 | h1
        · rw [h1]
          rcases Int.le_total n a with h | h
          · rw [Int.max_eq_right h]; simp
          · rw [Int.max_eq_left h]; simp
        · simp [h1]
      · show y ≤ ns.foldl max (max n a)
        have h3 := h2 (max n a) List.mem_cons_self
        rcases List.mem_cons.mp hy with hy | hy
        · rw [hy]; exact Int.le_trans (Int.le_max_left _ _) h3
        · rcases List.mem_cons.mp hy with hy | hy
          · rw [hy]; exact Int.le_trans (Int.le_max_right _ _) h3
          · exact h2 y (List.mem_cons_of_mem _ hy)
  obtain ⟨h1, h2⟩ := key ns n
  exact Int.le_antisymm (h2 m hm) (hle _ h1)
/-- a built-in upon a list that stands -/
theorem bltL_ok {σ : St} {r : List Addr} {h : Hm} {H : Hp} {b : B} {ws : List W} {vs : List V} {D : Addr} {Q : VK} {r1 : List Addr} {H1 : Hp} (X1 : Ext r1 H1 r H) (R : RelH G X.K r h H) (hd : SqL X.K H D vs) (q : RVs G X.K r H ws vs) (p : PostG G X.K (relW G X.K) Wx σ r1 H1 (bltL b ws h) Q) : rB X b [.ref D] H Q := by
  have okp : ∀ {w : W} {v : V}, PostG G X.K (relW G X.K) Wx σ r1 H1 (.ok w h) Q → RV G X.K r H w v → Q v H := fun p q => p r H _ X1 R q
  have newp : ∀ {o : O} {ho : HO} {pt : Addr}, PostG G X.K (relW G X.K) Wx σ r1 H1 (alloc o h) Q → H pt = none → RO G X.K r (upd H pt ho) pt o → Q (.ref pt) (upd H pt ho) := fun {o ho pt} p hp ro => by
    refine p (r ++ [pt]) (upd H pt ho) (.ref pt) (X1.trans (Ext.laid hp)) (R.laid hp ro) ⟨pt, rfl, ?_⟩
    rw [← R.len, List.getElem?_append_right (Nat.le_refl _)]; simp
  cases b with
  | len => exact ⟨D, vs, rfl, .inl hd, okp p (by show V.int _ = V.int _; rw [q.length])⟩
  | sum =>
    simp only [bltL] at p
    cases z : intsOf ws with
    | none => rw [z] at p; exact p.elim
    | some ns => rw [z] at p; exact ⟨D, ns, rfl, by rw [← q.ofInts z]; exact hd, okp p rfl⟩
  | all =>
    simp only [bltL] at p
    cases z : bls ws with
    | none => rw [z] at p; exact p.elim
    | some ns => rw [z] at p; exact ⟨D, ns, rfl, by rw [← q.ofBls z]; exact hd, okp p rfl⟩
  | any =>
    simp only [bltL] at p
    cases z : bls ws with
    | none => rw [z] at p; exact p.elim
    | some ns => rw [z] at p; exact ⟨D, ns, rfl, by rw [← q.ofBls z]; exact hd, okp p rfl⟩
  | sorted =>
    simp only [bltL] at p
    cases z : intsOf ws with
    | none => rw [z] at p; exact p.elim
    | some ns =>
      rw [z] at p
      refine .inl ⟨D, ns, rfl, by rw [← q.ofInts z]; exact hd, fun ns' pt hp hs hn => ?_⟩
      rw [sort_eq hp hs]
      exact newp p hn ⟨_, upd_same, RVs.ints _⟩
  | max =>
    simp only [bltL] at p
    cases z : intsOf ws with
    | none => rw [z] at p; exact p.elim
    | some ns =>
      rw [z] at p
      cases ns with
      | nil => exact p.elim
      | cons n ns =>
        refine .inr ⟨D, n :: ns, rfl, by rw [← q.ofInts z]; exact hd, Nat.succ_pos _, fun m hm hle => ?_⟩
        rw [max_eq hm hle]
        exact okp p rfl
  | list => exact ⟨D, vs, rfl, .inl hd, fun pt hp => newp p hp ⟨vs, upd_same, q.ext (Ext.new hp)⟩⟩
  | abs => exact p.elim
  | min => exact p.elim
  | tuple => exact p.elim
  | set => exact p.elim
theorem one_ref {K : PySem.W.Frag} {r : List Addr} {H : Hp} {n : Nat} {vs : List V} (q : RVs G K r H [.ref n] vs) : ∃ a, vs = [.ref a] ∧ r[n]? = some a := by
  obtain ⟨v, rest, rfl, ⟨a, rfl, h1⟩, h2⟩ := q
  exact ⟨a, by rw [show rest = [] from h2], h1⟩
theorem bltW_ok {σ : St} {r : List Addr} {h : Hm} {H : Hp} {b : B} {ws : List W} {vs : List V} {Q : VK} (R : RelH G X.K r h H) (q : RVs G X.K r H ws vs) (p : PostG G X.K (relW G X.K) Wx σ r H (bltW b ws h) Q) : rB X b vs H Q := by
  have one : ∀ {w : W}, ws = [w] → ∃ v, vs = [v] ∧ RV G X.K r H w v := fun e => by
    subst e
    obtain ⟨v, rest, rfl, h1, h2⟩ := q
    exact ⟨v, by rw [show rest = [] from h2], h1⟩
  have two : ∀ {w w' : W}, ws = [w, w'] → ∃ v v', vs = [v, v'] ∧ RV G X.K r H w v ∧ RV G X.K r H w' v' := fun e => by
    subst e
    obtain ⟨v, rest, rfl, h1, v2, rest2, rfl, h2, h3⟩ := q
    exact ⟨v, v2, by rw [show rest2 = [] from h3], h1, h2⟩
  have lst1 : ∀ {n : Nat}, ws = [.ref n] → (bltW b ws h = match h[n]? with | some (.lst l) => bltL b l h | _ => .bad) → rB X b vs H Q := fun {n} e z => by
    rw [z] at p
    cases z1 : h[n]? with
    | none => rw [z1] at p; exact p.elim
    | some o =>
      rw [z1] at p
      cases o with
      | lst l =>
        subst e
        obtain ⟨a, rfl, ha⟩ := one_ref q
        obtain ⟨us, k1, k2⟩ := R.obj n a _ ha z1
        exact bltL_ok .refl R (SqL.of k1) k2 p
      | _ => exact p.elim
  unfold bltW at p
  split at p
  · obtain ⟨v, rfl, h1⟩ := one rfl
    exact ⟨_, by rw [rv_int h1], post_ok p R rfl⟩
  · obtain ⟨v, v2, rfl, h1, h2⟩ := two rfl
    exact .inl ⟨_, _, by rw [rv_int h1, rv_int h2], post_ok p R rfl⟩
  · obtain ⟨v, v2, rfl, h1, h2⟩ := two rfl
    exact ⟨_, _, by rw [rv_int h1, rv_int h2], post_ok p R rfl⟩
  · obtain ⟨v, rfl, h1⟩ := one rfl
    split at p
    · rename_i l z
      obtain ⟨a, us, rfl, k1, k2⟩ := seqOf_ok R h1 z
      exact ⟨a, us, rfl, k1, post_ok p R (by show V.int _ = V.int _; rw [k2.length])⟩
    · exact p.elim
  · obtain ⟨v, rfl, h1⟩ := one rfl
    split at p
    · rename_i l z
      obtain ⟨a, us, rfl, k1, k2⟩ := seqOf_ok R h1 z
      exact ⟨a, us, rfl, k1, fun pt hp => post_alloc p R hp ⟨us, upd_same, k2.ext (Ext.new hp)⟩⟩
    · exact p.elim
  · obtain ⟨v, rfl, h1⟩ := one rfl
    split at p
    · rename_i l z
      obtain ⟨a, us, rfl, k1, k2⟩ := lstOf_ok R h1 z
      exact ⟨a, us, rfl, .inl ⟨k1, fun pt hp => p r _ _ (Ext.new hp) (R.aside hp) ⟨pt, us, rfl, upd_same, k2.ext (Ext.new hp)⟩⟩⟩
    · exact p.elim
  · rename_i n
    obtain ⟨a, rfl, ha⟩ := one_ref q
    split at p
    · rename_i l z1
      obtain ⟨us, k1, k2⟩ := R.obj n a _ ha z1
      exact bltL_ok .refl R (SqL.of k1) k2 p
    · rename_i l z1
      obtain ⟨kvs, k1, k2⟩ := R.obj n a _ ha z1
      refine .inr ⟨a, kvs, l.map (·.1), rfl, .inl k1, k2.keys, fun ys pt hp hs hn => ?_⟩
      rw [sort_eq hp hs]
      exact post_alloc p R hn ⟨_, upd_same, RVs.ints _⟩
    · exact p.elim
  · obtain ⟨a, rfl, ha⟩ := one_ref q
    split at p
    · rename_i l z1
      obtain ⟨us, k1, k2⟩ := R.obj _ a _ ha z1
      exact bltL_ok .refl R (SqL.of k1) k2 p
    · exact p.elim
  · exact p.elim
end
end WL

/-! built-ins and methods called, isinstance; all expressions -/
namespace WL
open PySem PySem.Spec PyProof.Rows L2
theorem bn_mem : ∀ b, b ∈ ([.len, .abs, .max, .min, .sum, .all, .any, .sorted, .list, .tuple] : List B) → bltNm b ∈ bnames := by
  intro b hb
  simp only [List.mem_cons, List.not_mem_nil, or_false] at hb
  rcases hb with rfl | rfl | rfl | rfl | rfl | rfl | rfl | rfl | rfl | rfl <;> simp [bltNm, bnames]
section
variable {G : Nm} {X : Cx} {Wx : WX} {p pos apos : Pos} {e o : Expr} {es : List Expr} {ms : F → Hm → R (List W)} {ma : F → Hm → R W}
/-- a built-in by its name -/
theorem pe_bltC {T : Tb} {b : B} {t : TA} (sta : Sta G T X.K X.mg) (hc : X.calm = true) (hb : b ∈ ([.len, .abs, .max, .min, .sum, .all, .any, .sorted, .list, .tuple] : List B)) (hg : Gl X (bltNm b)) (hpn : plainN (bltNm b) = true) (hs : (e :: es).all noStar = true) (ha : PA X (e :: es) t) :
    PE X (.Call (.Name (bltNm b) p) (e :: es) [] pos) (tCB (rB X b) t) := by
  have hm := sta.free _ (bn_mem b hb)
  have hbo := boot_B b hb
  obtain ⟨hdb, _, hn⟩ := plainN_ok hpn
  simp only [List.all_cons, Bool.and_eq_true] at hs
  have cr := cr_B (X := X) hc b
  cases b with
  | list => exact pe_callTy cr hg hm hbo ha hn hdb (star_cons hs.1 es) (star_any hs.2)
  | tuple => exact pe_callTy cr hg hm hbo ha hn hdb (star_cons hs.1 es) (star_any hs.2)
  | set => exact pe_callTy cr hg hm hbo ha hn hdb (star_cons hs.1 es) (star_any hs.2)
  | len => exact pe_callB cr hg hm hbo ha hn hdb (star_cons hs.1 es) (star_any hs.2)
  | abs => exact pe_callB cr hg hm hbo ha hn hdb (star_cons hs.1 es) (star_any hs.2)
  | max => exact pe_callB cr hg hm hbo ha hn hdb (star_cons hs.1 es) (star_any hs.2)
  | min => exact pe_callB cr hg hm hbo ha hn hdb (star_cons hs.1 es) (star_any hs.2)
  | sum => exact pe_callB cr hg hm hbo ha hn hdb (star_cons hs.1 es) (star_any hs.2)
  | all => exact pe_callB cr hg hm hbo ha hn hdb (star_cons hs.1 es) (star_any hs.2)
  | any => exact pe_callB cr hg hm hbo ha hn hdb (star_cons hs.1 es) (star_any hs.2)
  | sorted => exact pe_callB cr hg hm hbo ha hn hdb (star_cons hs.1 es) (star_any hs.2)
theorem te_blt {b : B} : ∀ σ H Q, TEm G X.K Wx (fun f h => (ms f h).bind fun ws h1 => bltW b ws h1) σ H Q → tCB (rB X b) (TAm G X.K Wx ms) σ H Q := by
  rintro σ H Q ⟨r, f, h, S, p⟩
  refine ⟨r, f, h, S, (PostG.seq (rel := relA G X.K) p).mono ?_⟩
  rintro vs H1 ⟨r1, ws, h1, e1, R1, q1, p1⟩
  exact bltW_ok R1 q1 p1
theorem te_agg {b : B} {C : Cb} {own : List Nat} {t it cond ce : E} (ho : inOwn t own) : ∀ σ H Q, TEm G X.K Wx (mLc C own t it cond ce fun ws h2 => bltL b ws h2) σ H Q →
    tCB (rB X b) (tCons (tLc (TIm G X.K Wx (evI C it)) (TGm G X.K t) (TTm G X.K Wno (evC C cond)) (TEm G X.K Wno (ev C ce)) own) tNil) σ H Q :=
  te_lc ho (fun Q v H => rB X b [v] H Q) fun σ Q D r1 H1 ws h2 r' H' vs hD p X1 Rr hd qa nD => bltL_ok X1 Rr (SqL.of hd) qa p
/-! ### methods of built-in types -/
theorem attr_base {attr : Str} (h : noSuper o = true) (env : Env) (whole : Sem Value) : attributeBase o attr env whole = whole := by
  unfold attributeBase
  split
  · rename_i x p q
    have h : (!(x == ("super" : Str))) = true := h
    have hx : (x != "super") = true := by
      simp only [bne, h]
    simp only [hx, Bool.true_or, if_true]
    try (first | rfl | exact bind_pure _ | simp)
  · rfl
def rInsA : V → List V → Hp → VK → Prop := fun x vs H Q => ∃ (l : Addr) (xs : List V) (i : Int) (y : V), x = .ref l ∧ vs = [.int i, y] ∧ H l = some (.lst xs) ∧ xs.length < sizeLine ∧ 0 ≤ i ∧ i < 2 ^ 63 ∧ Q .non (upd H l (.lst (xs.take i.toNat ++ [y] ++ xs.drop i.toNat)))
theorem remI_ok {k : Int} : ∀ {ns ns' : List Int}, remI k ns = some ns' → ∃ j : Nat, ns[j]? = some k ∧ (∀ m : Nat, m < j → ns[m]? ≠ some k) ∧ ns' = ns.eraseIdx j
  | [], _, h => by cases h
  | a :: r, ns', h => by
    unfold remI at h
    split at h
    · rename_i e
      cases h
      exact ⟨0, by simp [e], fun m hm => absurd hm (Nat.not_lt_zero m), rfl⟩
    · rename_i e
      cases z : remI k r with
      | none => rw [z] at h; cases h
      | some l =>
        rw [z] at h
        cases h
        obtain ⟨j, h1, h2, h3⟩ := remI_ok z
        refine ⟨j + 1, by simpa using h1, fun m hm => ?_, by rw [List.eraseIdx_cons_succ, h3]⟩
        cases m with
        | zero => simpa using e
        | succ m => simpa using h2 m (by omega)
def rM (X : Cx) : BM → V → List V → Hp → VK → Prop
  | .append => rAppend
  | .extend => rExtend
  | .clear => rClear
  | .get => fun x xs H Q => ∃ a y d o, x = .ref a ∧ xs = [y, d] ∧ DGet H a y o ∧ Q (o.getD d) H
  | .count => rCntI X.K
  | .remove => rRemI
  | .insert => rInsA
  | .pop => rPop
def idM : BM → String
  | .append => "list.append" | .extend => "list.extend" | .clear => "list.clear" | .get => "dict.get" | .remove => "list.remove" | .count => "list.count" | .insert => "list.insert" | .pop => "list.pop"
theorem mt_get (hu : X.A.units + 1 < cLine) : MtR X "dict.get" (rM X .get) := by
  intro pins s σ H x xs v us Q I rx rxs h
  obtain ⟨a, y, d, ov, rfl, rfl, g, q⟩ := h
  obtain ⟨u1, u2, rfl, r1, r2⟩ := vals2 rxs
  obtain rfl : v = Value.ref a := rx
  exact d_get2 hu I g r1 r2 fun w' s' I' rw' => ⟨_, H, I', rw', q⟩
/-- the kind of what a method is called of -/
def tyN : BM → String
  | .get => "dict"
  | _ => "list"
theorem bmTy_ok {r : List Addr} {h : Hm} {H : Hp} {m : BM} {w : W} {v : V} (R : RelH G X.K r h H) (q : RV G X.K r H w v) (e : bmTy m w h = true) : tyV X.K (tyN m) v H := by
  have lst : isLstW w h = true → tyV X.K "list" v H := fun e => by
    cases w with
    | ref n =>
      obtain ⟨a, rfl, ha⟩ := q
      simp only [isLstW] at e
      cases z : h[n]? with
      | none => rw [z] at e; cases e
      | some ob =>
        rw [z] at e
        cases ob with
        | lst l =>
          obtain ⟨vs, k1, k2⟩ := R.obj n a _ ha z
          exact .inl ⟨rfl, vs, SqL.of k1⟩
        | _ => cases e
    | _ => cases e
  cases m with
  | get =>
    cases w with
    | ref n =>
      obtain ⟨a, rfl, ha⟩ := q
      simp only [bmTy, isDicW] at e
      cases z : h[n]? with
      | none => rw [z] at e; cases e
      | some ob =>
        rw [z] at e
        cases ob with
        | dK l =>
          obtain ⟨vs, k1, k2⟩ := R.obj n a _ ha z
          exact .inr (.inr (.inl ⟨rfl, .inl ⟨vs, k1⟩⟩))
        | dT l =>
          obtain ⟨vs, k1, k2⟩ := R.obj n a _ ha z
          exact .inr (.inr (.inl ⟨rfl, .inr ⟨vs, k1⟩⟩))
        | _ => cases e
    | _ => cases e
  | _ => exact lst e
theorem bmW_ok {σ : St} {r : List Addr} {h : Hm} {H : Hp} {m : BM} {x : W} {v : V} {ws : List W} {vs : List V} {Q : VK} (R : RelH G X.K r h H) (qx : RV G X.K r H x v) (q : RVs G X.K r H ws vs) (p : PostG G X.K (relW G X.K) Wx σ r H (bmW m x ws h) Q) : rM X m v vs H Q := by
  have putp : ∀ {n : Nat} {a : Addr} {us us' : List V} {l' : List W}, r[n]? = some a → H a = some (.lst us) → RVs G X.K r H l' us' → PostG G X.K (relW G X.K) Wx σ r H (.ok .non (h.set n (.lst l'))) Q → Q .non (upd H a (.lst us')) := fun {n a us us' l'} ha hH q' p => by
    exact p r _ .non (Ext.put ha hH trivial) (R.put ha hH trivial ⟨us', upd_same, q'.ext0 (Ext0.put hH trivial)⟩) rfl
  unfold bmW at p
  split at p
  · rename_i n w
    obtain ⟨a, rfl, ha⟩ := qx
    obtain ⟨u, rest, rfl, q1, q2⟩ := q
    rw [show rest = [] from q2]
    split at p
    · rename_i l z
      obtain ⟨us, k1, k2⟩ := R.obj n a _ ha z
      split at p
      · rename_i hl
        exact ⟨a, us, u, rfl, rfl, k1, by rw [k2.length]; exact hl, putp ha k1 (k2.snoc q1) p⟩
      · exact p.elim
    · exact p.elim
  · rename_i n n2
    obtain ⟨a, rfl, ha⟩ := qx
    obtain ⟨b, rfl, hb⟩ := one_ref q
    split at p
    · rename_i l l2 z z2
      obtain ⟨us, k1, k2⟩ := R.obj n a _ ha z
      obtain ⟨us2, k3, k4⟩ := R.obj n2 b _ hb z2
      split at p
      · rename_i hl
        exact ⟨a, b, us, us2, rfl, rfl, k1, k3, by rw [k2.length, k4.length]; exact hl, putp ha k1 (k2.app k4) p⟩
      · exact p.elim
    · exact p.elim
  · rename_i n
    obtain ⟨a, rfl, ha⟩ := qx
    rw [show vs = [] from q]
    split at p
    · rename_i l z
      obtain ⟨us, k1, k2⟩ := R.obj n a _ ha z
      exact ⟨a, us, rfl, rfl, k1, putp (l' := []) (us' := []) ha k1 rfl p⟩
    · exact p.elim
  · rename_i n k
    obtain ⟨a, rfl, ha⟩ := qx
    obtain ⟨u, rest, rfl, q1, q2⟩ := q
    rw [show rest = [] from q2, rv_int q1]
    split at p
    · rename_i l z
      obtain ⟨us, k1, k2⟩ := R.obj n a _ ha z
      split at p
      · rename_i ns z2
        exact ⟨a, ns, k, rfl, rfl, by rw [← k2.ofInts z2]; exact SqL.of k1, post_ok p R rfl⟩
      · exact p.elim
    · exact p.elim
  · rename_i n k
    obtain ⟨a, rfl, ha⟩ := qx
    obtain ⟨u, rest, rfl, q1, q2⟩ := q
    rw [show rest = [] from q2, rv_int q1]
    split at p
    · rename_i l z
      obtain ⟨us, k1, k2⟩ := R.obj n a _ ha z
      split at p
      · rename_i ns z2
        cases z3 : intsOf l with
        | none => rw [z3] at z2; cases z2
        | some ms =>
          rw [z3] at z2
          obtain ⟨j, h1, h2, h3⟩ := remI_ok (show remI k ms = some ns from z2)
          have k4 := k2.ofInts z3
          rw [k4] at k1
          refine ⟨a, ms, k, j, rfl, rfl, k1, h1, h2, ?_⟩
          rw [← h3]
          exact putp ha k1 (RVs.ints ns) p
      · exact p.elim
    · exact p.elim
  · rename_i n i w
    obtain ⟨a, rfl, ha⟩ := qx
    obtain ⟨u, rest, rfl, q1, u2, rest2, rfl, q2, q3⟩ := q
    rw [show rest2 = [] from q3, rv_int q1]
    split at p
    · rename_i l z
      obtain ⟨us, k1, k2⟩ := R.obj n a _ ha z
      split at p
      · rename_i hc
        refine ⟨a, us, i, u2, rfl, rfl, k1, by rw [k2.length]; exact hc.1, hc.2.1, hc.2.2, ?_⟩
        exact putp ha k1 (((k2.take _).snoc q2).app (k2.drop _)) p
      · exact p.elim
    · exact p.elim
  · rename_i n
    obtain ⟨a, rfl, ha⟩ := qx
    rw [show vs = [] from q]
    split at p
    · rename_i l z
      obtain ⟨us, k1, k2⟩ := R.obj n a _ ha z
      split at p
      · rename_i w z2
        obtain ⟨v, h1, h2⟩ := k2.get z2
        refine ⟨a, us, v, rfl, rfl, k1, by rw [k2.length]; exact h1, ?_⟩
        have e0 := Ext0.put (r := r) (ho := .lst us.dropLast) k1 trivial
        have k3 : RVs G X.K r H l.dropLast us.dropLast := by
          rw [List.dropLast_eq_take, List.dropLast_eq_take, k2.length]; exact k2.take _
        exact p r _ v (Ext.put ha k1 trivial) (R.put ha k1 trivial ⟨_, upd_same, k3.ext0 e0⟩) (h2.ext0 e0)
      · exact p.elim
    · exact p.elim
  · rename_i n k d
    obtain ⟨a, rfl, ha⟩ := qx
    obtain ⟨u, rest, rfl, q1, u2, rest2, rfl, q2, q3⟩ := q
    rw [show rest2 = [] from q3, rv_int q1]
    split at p
    · rename_i l z
      obtain ⟨kvs, k1, k2⟩ := R.obj n a _ ha z
      refine ⟨a, .int k, u2, _, rfl, rfl, DGet.ki k1, ?_⟩
      have k3 := look_ok k k2
      cases z2 : look l k with
      | none =>
        rw [z2] at k3 p
        simp only at k3
        rw [k3]
        exact post_ok p R q2
      | some w =>
        rw [z2] at k3 p
        obtain ⟨v, k4, k5⟩ := k3
        rw [k4]
        exact post_ok p R k5
    · exact p.elim
  · rename_i n ks d
    obtain ⟨a, rfl, ha⟩ := qx
    obtain ⟨u, rest, rfl, q1, u2, rest2, rfl, q2, q3⟩ := q
    rw [show rest2 = [] from q3]
    split at p
    · rename_i l is z z1
      obtain ⟨kvs, k1, k2⟩ := R.obj n a _ ha z
      obtain ⟨b, rfl, hb⟩ := tup_key q1 z1
      refine ⟨a, .ref b, u2, _, rfl, rfl, DGet.t k1 hb, ?_⟩
      have k3 := lookT_ok is k2
      cases z2 : look l is with
      | none =>
        rw [z2] at k3 p
        simp only at k3
        rw [k3]
        exact post_ok p R q2
      | some w =>
        rw [z2] at k3 p
        obtain ⟨v, k4, k5⟩ := k3
        rw [k4]
        exact post_ok p R k5
    · exact p.elim
  · exact p.elim
abbrev mBm (m : BM) (ma : F → Hm → R W) (ms : F → Hm → R (List W)) : F → Hm → R W := fun f h => (ma f h).bind fun x h1 => if bmTy m x h1 then (ms f h1).bind fun ws h2 => bmW m x ws h2 else .bad
theorem te_bm {m : BM} : ∀ σ H Q, TEm G X.K Wx (mBm m ma ms) σ H Q → tBM X.K (tyN m) (rM X m) (TEm G X.K Wx ma) (TAm G X.K Wx ms) σ H Q := by
  rintro σ H Q ⟨r, f, h, S, p⟩
  refine ⟨r, f, h, S, (PostG.seq (rel := relW G X.K) p).mono ?_⟩
  rintro v H1 ⟨r1, x, h1, e1, R1, q1, p1⟩
  by_cases hb : bmTy m x h1 = true
  · rw [if_pos hb] at p1
    refine ⟨bmTy_ok R1 q1 hb, r1, f, h1, S.ext e1 R1, (PostG.seq (rel := relA G X.K) p1).mono ?_⟩
    rintro vs H2 ⟨r2, ws, h2, e2, R2, q2, p2⟩
    exact bmW_ok R2 (q1.ext e2) q2 p2
  · rw [if_neg hb] at p1; exact p1.elim
theorem few_ok {env : Env} {cpos : Pos} (hs : es.all noStar = true) (hl : es.length < 20) : ((backTo cpos (starEach es env)).all (fun x => !x.1) && (backToKw cpos (keywordEach [] env)).all (fun x => x.1.isSome) && decide (es.length + ([] : List Keyword).length + (if ([] : List Keyword).isEmpty then 0 else 1) < 30)) = true := by
  rw [star_all hs]
  simp [keywordEach, backToKw]
  omega
theorem pe_bmA {m : BM} (hu : X.A.units + 1 < cLine) (hm : m ∈ ([.append, .extend, .clear, .get, .count, .remove, .insert, .pop] : List BM)) (ho : noSuper o = true) (hs : es.all noStar = true) (hl : es.length < 20) (hline : (apos.endLine == pos.line) = true) (hp : PE X o (TEm G X.K Wx ma)) (ha : PA X es (TAm G X.K Wx ms))
    (h0 : es = [] → ∀ σ H Q, TAm G X.K Wx ms σ H Q → Q [] H) : PE X (.Call (.Attribute o (bmNm m) apos) es [] pos) (TEm G X.K Wx (mBm m ma ms)) := by
  cases es with
  | nil =>
    have z0 : ∀ {id : String} {T : String} (pa : PlainAttrs T) (slot : Slot T (bmNm m) id) (hty : typeOf (.builtin id) = pure (.type "method_descriptor")) (mt : MtR X id (rM X m)) (eT : tyN m = T), PE X (.Call (.Attribute o (bmNm m) apos) [] [] pos) (TEm G X.K Wx (mBm m ma ms)) := fun pa slot hty mt eT => by
      subst eT
      refine pe_weak (pe_bm0 pa slot hty mt hp (attr_base ho _ _) hline) ?_
      intro σ H Q q
      obtain ⟨r, f, h, S, q⟩ := te_bm σ H Q q
      refine ⟨r, f, h, S, q.mono ?_⟩
      rintro v H1 ⟨k1, k2⟩
      exact ⟨k1, h0 rfl σ H1 _ k2⟩
    simp only [List.mem_cons, List.not_mem_nil, or_false] at hm
    rcases hm with rfl | rfl | rfl | rfl | rfl | rfl | rfl | rfl
    · exact z0 PySem.F.plainAttrs_list PySem.F.slot_list_append PySem.F.type_list_append mt_append rfl
    · exact z0 PySem.F.plainAttrs_list PySem.F.slot_list_extend PySem.F.type_list_extend mt_extend rfl
    · exact z0 PySem.F.plainAttrs_list PySem.F.slot_list_clear PySem.F.type_list_clear mt_clear rfl
    · exact z0 PySem.F.plainAttrs_dict PySem.F.slot_dict_get PySem.F.type_dict_get (mt_get hu) rfl
    · exact z0 PySem.F.plainAttrs_list PySem.F.slot_list_count PySem.F.type_list_count mt_lcount rfl
    · exact z0 PySem.F.plainAttrs_list PySem.F.slot_list_remove PySem.F.type_list_remove mt_remove rfl
    · exact z0 PySem.F.plainAttrs_list PySem.F.slot_list_insert PySem.F.type_list_insert mt_insert rfl
    · exact z0 PySem.F.plainAttrs_list PySem.F.slot_list_pop PySem.F.type_list_pop mt_pop rfl
  | cons e es =>
    have hs' := hs
    simp only [List.all_cons, Bool.and_eq_true] at hs'
    have z0 : ∀ {id : String} {T : String} (pa : PlainAttrs T) (slot : Slot T (bmNm m) id) (hty : typeOf (.builtin id) = pure (.type "method_descriptor")) (mt : MtR X id (rM X m)) (eT : tyN m = T), PE X (.Call (.Attribute o (bmNm m) apos) (e :: es) [] pos) (TEm G X.K Wx (mBm m ma ms)) := fun pa slot hty mt eT => by
      subst eT
      exact pe_weak (pe_bm pa slot hty mt hp ha (attr_base ho _ _) (few_ok hs hl) hline (star_cons hs'.1 es) (star_any hs'.2)) te_bm
    simp only [List.mem_cons, List.not_mem_nil, or_false] at hm
    rcases hm with rfl | rfl | rfl | rfl | rfl | rfl | rfl | rfl
    · exact z0 PySem.F.plainAttrs_list PySem.F.slot_list_append PySem.F.type_list_append mt_append rfl
    · exact z0 PySem.F.plainAttrs_list PySem.F.slot_list_extend PySem.F.type_list_extend mt_extend rfl
    · exact z0 PySem.F.plainAttrs_list PySem.F.slot_list_clear PySem.F.type_list_clear mt_clear rfl
    · exact z0 PySem.F.plainAttrs_dict PySem.F.slot_dict_get PySem.F.type_dict_get (mt_get hu) rfl
    · exact z0 PySem.F.plainAttrs_list PySem.F.slot_list_count PySem.F.type_list_count mt_lcount rfl
    · exact z0 PySem.F.plainAttrs_list PySem.F.slot_list_remove PySem.F.type_list_remove mt_remove rfl
    · exact z0 PySem.F.plainAttrs_list PySem.F.slot_list_insert PySem.F.type_list_insert mt_insert rfl
    · exact z0 PySem.F.plainAttrs_list PySem.F.slot_list_pop PySem.F.type_list_pop mt_pop rfl
/-! ### isinstance of a built-in type -/
def clTy : Cl → String
  | .int => "int" | .bool => "bool" | .tuple => "tuple" | .list => "list" | .str => "str" | .own _ => ""
def clNm : Cl → Str
  | .int => "int" | .bool => "bool" | .tuple => "tuple" | .list => "list" | .str => "str" | .own _ => ""
theorem isi_ok {T : Tb} {r : List Addr} {h : Hm} {H : Hp} {c : Cl} {x : W} {v : V} {b : Bool} (hc : ∀ d, c ≠ .own d) (R : RelH G X.K r h H) (q : RV G X.K r H x v) (e : isiW T x c h = some b) : ∃ t, TyX X.K H v t ∧ PySem.W.kitOne X.K t (.type (clTy c)) = some b := by
  have fin : ∀ {n : String}, TyX X.K H v (.type n) → kitB n (clTy c) = some b → ∃ t, TyX X.K H v t ∧ PySem.W.kitOne X.K t (.type (clTy c)) = some b := fun h1 h2 => ⟨_, h1, kit_ty h2⟩
  cases x with
  | non =>
    refine fin (n := "NoneType") (by rw [show v = .non from q]; exact .base .non) ?_
    cases c <;> first | (exact absurd rfl (hc _)) | (rw [← show some false = some b from e]; decide +kernel)
  | bl k =>
    refine fin (n := "bool") (by rw [show v = .bl k from q]; exact .base (.bl k)) ?_
    cases c <;> first | (exact absurd rfl (hc _)) | (rw [← show some true = some b from e]; decide +kernel) | (rw [← show some false = some b from e]; decide +kernel)
  | int k =>
    refine fin (n := "int") (by rw [show v = .int k from q]; exact .base (.int k)) ?_
    cases c <;> first | (exact absurd rfl (hc _)) | (rw [← show some true = some b from e]; decide +kernel) | (rw [← show some false = some b from e]; decide +kernel)
  | str k =>
    refine fin (n := "str") (by rw [show v = .str k from q]; exact .base (.str k)) ?_
    cases c <;> first | (exact absurd rfl (hc _)) | (rw [← show some true = some b from e]; decide +kernel) | (rw [← show some false = some b from e]; decide +kernel)
  | tup l =>
    obtain ⟨a, vs, rfl, k1, k2⟩ := q
    refine fin (n := "tuple") (.base (.tup k1)) ?_
    cases c <;> first | (exact absurd rfl (hc _)) | (rw [← show some true = some b from e]; decide +kernel) | (rw [← show some false = some b from e]; decide +kernel)
  | scr l =>
    obtain ⟨a, rfl, k1⟩ := q
    have ty : TyX X.K H (.ref a) (.type "list") := by
      rcases k1 with ⟨ob, k1⟩ | ⟨ob, its, n, k1, k2, _⟩
      · exact .base (.frz k1)
      · exact .kList k1 k2
    refine fin (n := "list") ty ?_
    cases c <;> first | (exact absurd rfl (hc _)) | (rw [← show some true = some b from e]; decide +kernel) | (rw [← show some false = some b from e]; decide +kernel)
  | ref n =>
    obtain ⟨a, rfl, ha⟩ := q
    cases z : h[n]? with
    | none => cases c <;> first | (exact absurd rfl (hc _)) | (simp [isiW, z] at e)
    | some ob =>
      cases ob with
      | lst l =>
        obtain ⟨vs, k1, k2⟩ := R.obj n a _ ha z
        refine fin (n := "list") (.base (.lst k1)) ?_
        cases c <;> first | (exact absurd rfl (hc _)) | (simp [isiW, z] at e; subst e; decide +kernel)
      | dK l =>
        obtain ⟨vs, k1, k2⟩ := R.obj n a _ ha z
        refine fin (n := "dict") (.base (.dK k1)) ?_
        cases c <;> first | (exact absurd rfl (hc _)) | (simp [isiW, z] at e; subst e; decide +kernel)
      | dT l =>
        obtain ⟨vs, k1, k2⟩ := R.obj n a _ ha z
        refine fin (n := "dict") (.base (.dT k1)) ?_
        cases c <;> first | (exact absurd rfl (hc _)) | (simp [isiW, z] at e; subst e; decide +kernel)
      | ins _ _ => cases c <;> first | (exact absurd rfl (hc _)) | (simp [isiW, z] at e)
  | fn f => cases c <;> first | (exact absurd rfl (hc _)) | (simp [isiW] at e)
  | cod _ _ _ => cases c <;> first | (exact absurd rfl (hc _)) | (simp [isiW] at e)
theorem pe_isiA {T : Tb} {c : Cl} {py : Pos} (sta : Sta G T X.K X.mg) (hc : ∀ d, c ≠ .own d) (hg : Gl X "isinstance") (hy : Gl X (clNm c)) (ns : noStar e = true) (he : PE X e (TEm G X.K Wx ma)) :
    PE X (.Call (.Name "isinstance" p) [e, .Name (clNm c) py] [] pos) (TEm G X.K Wx fun f h => (ma f h).bind fun x h1 => match isiW T x c h1 with | some b => .ok (.bl b) h1 | none => .bad) := by
  have hcl : PE X (.Name (clNm c) py) (tC (.ty (clTy c))) := by
    cases c with
    | own d => exact absurd rfl (hc d)
    | int => exact pe_bltn hy (sta.free _ (by simp [clNm, bnames])) (by decide +kernel : bootBuiltins "int" = some (.type "int")) rfl (by decide +kernel) (by decide +kernel)
    | bool => exact pe_bltn hy (sta.free _ (by simp [clNm, bnames])) (by decide +kernel : bootBuiltins "bool" = some (.type "bool")) rfl (by decide +kernel) (by decide +kernel)
    | tuple => exact pe_bltn hy (sta.free _ (by simp [clNm, bnames])) (by decide +kernel : bootBuiltins "tuple" = some (.type "tuple")) rfl (by decide +kernel) (by decide +kernel)
    | list => exact pe_bltn hy (sta.free _ (by simp [clNm, bnames])) (by decide +kernel : bootBuiltins "list" = some (.type "list")) rfl (by decide +kernel) (by decide +kernel)
    | str => exact pe_bltn hy (sta.free _ (by simp [clNm, bnames])) (by decide +kernel : bootBuiltins "str" = some (.type "str")) rfl (by decide +kernel) (by decide +kernel)
  refine pe_weak (pe_callB call_isi hg (sta.free _ (by simp [bnames])) (by decide +kernel : bootBuiltins "isinstance" = some (.builtin "isinstance")) (pa_cons he (pa_cons hcl pa_nil (star_cons rfl [])) (star_cons ns _)) (by decide +kernel) (by decide +kernel) (star_cons ns _) (star_any (es := [.Name (clNm c) py]) rfl)) ?_
  rintro σ H Q ⟨r, f, h, S, p⟩
  refine ⟨r, f, h, S, (PostG.seq (rel := relW G X.K) p).mono ?_⟩
  rintro v H1 ⟨r1, x, h1, e1, R1, q1, p1⟩
  cases z : isiW T x c h1 with
  | none => simp only [z] at p1; exact p1.elim
  | some b =>
    simp only [z] at p1
    obtain ⟨t, k1, k2⟩ := isi_ok hc R1 q1 z
    exact ⟨v, .ty (clTy c), t, .type (clTy c), b, rfl, .ty _, k1, k2, post_ok p1 R1 rfl⟩
end
end WL

/-! own classes: fields, methods, makings, isinstance; [::-1] -/
namespace WL
open PySem PySem.Spec PyProof.Rows L2
section
variable {G : Nm} {K : PySem.W.Frag} {r : List Addr} {H : Hp}
theorem flds_eq (nd : G.flds.Nodup) {i j : Nat} {x : Str} (hi : G.flds[i]? = some x) (hj : G.flds[j]? = some x) : i = j := by
  exact nodup_ix nd hi hj
theorem RFd.look (nd : G.flds.Nodup) {k : Nat} {x : Str} (hk : G.flds[k]? = some x) : ∀ {fs : List (Nat × W)} {kvs : List (Str × V)} {w : W}, RFd G K r H fs kvs → look fs k = some w → ∃ v, kvs.lookup x = some v ∧ RV G K r H w v
  | [], _, _, _, e => by cases e
  | (j, u) :: fs, _, w, q, e => by
    obtain ⟨y, v, rest, h0, rfl, h1, h2⟩ := q
    by_cases ej : j = k
    · subst ej
      have e : some u = some w := by simpa [WL.look] using e
      cases e
      rw [h0] at hk; cases hk
      exact ⟨v, by simp [List.lookup_cons], h1⟩
    · have e : WL.look fs k = some w := by simpa [WL.look, ej] using e
      obtain ⟨v', k1, k2⟩ := RFd.look nd hk h2 e
      have hne : (x == y) = false := beq_eq_false_iff_ne.mpr fun z => ej (flds_eq nd h0 (z ▸ hk))
      exact ⟨v', by rw [List.lookup_cons, hne]; exact k1, k2⟩
theorem RFd.putN (nd : G.flds.Nodup) {k : Nat} {x : Str} {w : W} {v : V} (hk : G.flds[k]? = some x) (hw : RV G K r H w v) : ∀ {fs : List (Nat × W)} {kvs : List (Str × V)}, RFd G K r H fs kvs → RFd G K r H (WL.putN k w fs) (putF x v kvs)
  | [], kvs, q => by
    rw [show kvs = [] from q]
    exact ⟨x, v, [], hk, rfl, hw, rfl⟩
  | (j, u) :: fs, kvs, q => by
    obtain ⟨y, v', rest, h0, rfl, h1, h2⟩ := q
    by_cases ej : j = k
    · subst ej
      have hyx : y = x := Option.some.inj (h0.symm.trans hk)
      have e1 : WL.putN j w ((j, u) :: fs) = (j, w) :: fs := by simp [WL.putN]
      have e2 : putF x v ((y, v') :: rest) = (y, v) :: rest := by simp [putF, hyx]
      rw [e1, e2]
      exact ⟨y, v, rest, h0, rfl, hw, h2⟩
    · have hne : y ≠ x := fun z => ej (flds_eq nd h0 (z ▸ hk))
      have e1 : WL.putN k w ((j, u) :: fs) = (j, u) :: WL.putN k w fs := by simp [WL.putN, ej]
      have e2 : putF x v ((y, v') :: rest) = (y, v') :: putF x v rest := by simp [putF, hne]
      rw [e1, e2]
      exact ⟨y, v', _, h0, rfl, h1, RFd.putN nd hk hw h2⟩
theorem RFd.out {x : Str} (hx : ∀ k : Nat, G.flds[k]? ≠ some x) : ∀ {fs : List (Nat × W)} {kvs : List (Str × V)}, RFd G K r H fs kvs → kvs.lookup x = none
  | [], kvs, q => by rw [show kvs = [] from q]; rfl
  | (j, u) :: fs, kvs, q => by
    obtain ⟨y, v', rest, h0, rfl, h1, h2⟩ := q
    have hne : (x == y) = false := beq_eq_false_iff_ne.mpr fun z => hx j (z ▸ h0)
    rw [List.lookup_cons, hne]
    exact RFd.out hx h2
theorem RFd.length : ∀ {fs : List (Nat × W)} {kvs : List (Str × V)}, RFd G K r H fs kvs → kvs.length = fs.length
  | [], kvs, q => by rw [show kvs = [] from q]; rfl
  | (j, u) :: fs, kvs, q => by
    obtain ⟨y, v', rest, h0, rfl, h1, h2⟩ := q
    rw [List.length_cons, List.length_cons, RFd.length h2]
end
section
variable {G : Nm} {T : Tb} {k : Nat} {X : Cx} {Wx : WX} {p pos apos : Pos} {e o : Expr} {es : List Expr} {ma mb : F → Hm → R W} {ms : F → Hm → R (List W)}
/-! ### fields -/
abbrev mFld (ma : F → Hm → R W) (n : Nat) : F → Hm → R W := fun f h => (ma f h).bind fun x h1 => match x with
    | .ref a => (match h1[a]? with
      | some (.ins _ fs) => (match look fs n with | some w => .ok w h1 | none => .bad)
      | _ => .bad)
    | _ => .bad
theorem pe_fldA {n : Nat} {x : Str} (sta : Sta G T X.K X.mg) (hn : G.flds[n]? = some x) (hs : noSuper o = true) (ho : PE X o (TEm G X.K Wx ma)) : PE X (.Attribute o x pos) (TEm G X.K Wx (mFld ma n)) := by
  refine pe_weak (pe_fld ho (attr_base hs _ _)) ?_
  rintro σ H Q ⟨r, f, h, S, q⟩
  refine ⟨r, f, h, S, (PostG.seq (rel := relW G X.K) q).mono ?_⟩
  rintro v H1 ⟨r1, w, h1, e1, R1, q1, p1⟩
  cases w with
  | ref a =>
    obtain ⟨b, rfl, hb⟩ := q1
    cases z : h1[a]? with
    | none => simp only [z] at p1; exact p1.elim
    | some ob =>
      cases ob with
      | ins c fs =>
        simp only [z] at p1
        obtain ⟨dx, fs', k1, k2, k3⟩ := R1.obj a b _ hb z
        cases z2 : look fs n with
        | none => simp only [z2] at p1; exact p1.elim
        | some w =>
          simp only [z2] at p1
          obtain ⟨v, l1, l2⟩ := RFd.look sta.fnd hn k2 z2
          have hc : G.cls[c]? = some G.cls[c] := List.getElem?_eq_getElem k3
          exact ⟨b, _, dx, fs', v, rfl, k1, (sta.cls c _ hc).2.1, sta.noat c n x k3 hn, l1, post_ok p1 R1 l2⟩
      | _ => simp only [z] at p1; exact p1.elim
  | _ => exact p1.elim
theorem ps_fldA {C : Cb} {n : Nat} {x : Str} {eo ee : E} {pos' : Pos} (sta : Sta G T X.K X.mg) (hn : G.flds[n]? = some x) (ho : PE X o (TEm G X.K Wx (ev C eo))) (he : PE X e (TEm G X.K Wx (ev C ee))) (hsw : swapsWith e (some (.Attribute o x pos')) pos.line X.env = pure false) :
    PS X (.Assign [.Attribute o x pos'] e pos) (fun D σ H => ∃ r f h, RelS G X.K r f h σ H ∧ (match (ev C ee f h) with
      | .bad => False
      | .exc c h1 => ∀ r' H' σ', Ext r H r' H' → RelS G X.K r' f h1 σ' H' → Wx (.ref (xA G X.K c)) none σ' H'
      | .ok w h1 => (match ev C eo f h1 with
        | .bad => False
        | .exc c h2 => ∀ r' H' σ', Ext r H r' H' → RelS G X.K r' f h2 σ' H' → Wx (.ref (xA G X.K c)) none σ' H'
        | .ok (.ref a) h2 => (match h2[a]? with
          | some (.ins c fs) => fs.length < 1000 ∧ ∀ r' H' σ', Ext r H r' H' → RelS G X.K r' f (h2.set a (.ins c (WL.putN n w fs))) σ' H' → D.nx σ' H'
          | _ => False)
        | .ok _ _ => False))) := by
  refine ⟨fun pins s σ H D I q => (ps_fld ho he hsw).run pins s σ H D I ?_⟩
  obtain ⟨r, f, h, S, q⟩ := q
  refine ⟨r, f, h, S, ?_⟩
  cases z : ev C ee f h with
  | bad => rw [z] at q; exact q.elim
  | exc c h1 => rw [z] at q; exact fun r' H' e1 R1 => q r' H' σ e1 (S.ext e1 R1)
  | ok w h1 =>
    rw [z] at q
    simp only at q
    intro r1 H1 y e1 R1 q1
    refine ⟨r1, f, h1, S.ext e1 R1, ?_⟩
    cases z2 : ev C eo f h1 with
    | bad => rw [z2] at q; exact q.elim
    | exc c h2 => rw [z2] at q; exact fun r' H' e2 R2 => q r' H' σ (e1.trans e2) ((S.ext e1 R1).ext e2 R2)
    | ok wo h2 =>
      rw [z2] at q
      intro r2 H2 x' e2 R2 q2
      cases wo with
      | ref a =>
        simp only at q
        obtain ⟨b, rfl, hb⟩ := q2
        cases z3 : h2[a]? with
        | none => rw [z3] at q; exact q.elim
        | some ob =>
          rw [z3] at q
          cases ob with
          | ins c fs =>
            simp only at q
            obtain ⟨hl, q⟩ := q
            obtain ⟨dx, fs', k1, k2, k3⟩ := R2.obj a b _ hb z3
            have hc : G.cls[c]? = some G.cls[c] := List.getElem?_eq_getElem k3
            refine ⟨b, _, dx, fs', rfl, k1, (sta.cls c _ hc).2.1, sta.noat c n x k3 hn, by rw [k2.length]; exact hl, ?_⟩
            have k4 := RFd.putN sta.fnd hn (q1.ext e2) k2
            have x0 : Ext0 r2 H2 r2 (upd H2 b (.ins (cA G X.K c) dx (putF x y fs'))) := Ext0.put k1 trivial
            have x1 : Ext r2 H2 r2 (upd H2 b (.ins (cA G X.K c) dx (putF x y fs'))) := Ext.put hb k1 trivial
            have R3 := R2.put (ho := .ins (cA G X.K c) dx (putF x y fs')) (o := .ins c (WL.putN n w fs)) hb k1 trivial ⟨dx, _, upd_same, k4.ext0 x0, k3⟩
            exact q r2 _ σ ((e1.trans e2).trans x1) (((S.ext e1 R1).ext e2 R2).ext x1 R3)
          | _ => exact q.elim
      | _ => exact q.elim
/-! ### [::-1] -/
theorem pe_revA {j : Nat} {p1 p2 p3 : Pos} (ho : PE X o (TEm G X.K Wx ma)) : PE X (.Subscript o (.Slice none none (some (.UnaryOp .USub (.Constant (.int 1) j p1) p2)) p3) pos) (TEm G X.K Wx fun f h => (ma f h).bind fun x h1 => match lstOf x h1 with | some l => alloc (.lst l.reverse) h1 | none => .bad) := by
  refine pe_weak (pe_revL ho) ?_
  rintro σ H Q ⟨r, f, h, S, q⟩
  refine ⟨r, f, h, S, (PostG.seq (rel := relW G X.K) q).mono ?_⟩
  rintro v H1 ⟨r1, w, h1, e1, R1, q1, p1⟩
  cases z : lstOf w h1 with
  | none => simp only [z] at p1; exact p1.elim
  | some l =>
    simp only [z] at p1
    obtain ⟨a, vs, rfl, k1, k2⟩ := lstOf_ok R1 q1 z
    refine ⟨a, vs, rfl, k1, fun pt hp => post_alloc p1 R1 hp ⟨_, upd_same, ?_⟩⟩
    have rv : ∀ {ws : List W} {us : List V}, RVs G X.K r1 H1 ws us → RVs G X.K r1 H1 ws.reverse us.reverse := by
      intro ws
      induction ws with
      | nil => intro us q; rw [show us = [] from q]; rfl
      | cons w ws ih =>
        intro us q
        obtain ⟨v, rest, rfl, q1, q2⟩ := q
        rw [List.reverse_cons, List.reverse_cons]
        exact (ih q2).snoc q1
    exact (rv k2).ext (Ext.new hp)
/-! ### isinstance of an own class -/
theorem isiO_ok {c : Nat} {r : List Addr} {h : Hm} {H : Hp} {w : W} {v : V} {b : Bool} (sta : Sta G T X.K X.mg) (hc : c < G.cls.length) (R : RelH G X.K r h H) (q : RV G X.K r H w v) (z : isiW T w (.own c) h = some b) : ∃ t, TyX X.K H v t ∧ PySem.W.kitOne X.K t (.ref (cA G X.K c)) = some b := by
  cases w with
  | ref a =>
    obtain ⟨d, rfl, hd⟩ := q
    simp only [isiW] at z
    cases z1 : h[a]? with
    | none => rw [z1] at z; cases z
    | some ob =>
      rw [z1] at z
      cases ob with
      | ins cc fs =>
        have z : some (T.subB cc c) = some b := z
        cases z
        obtain ⟨dx, fs', k1, k2, k3⟩ := R.obj a d _ hd z1
        obtain ⟨_, c2, c3, _⟩ := sta.cls cc _ (List.getElem?_eq_getElem k3)
        exact ⟨_, .base (.ins k1 c2 c3.ha c3.hn c3.ht c3.hm), sta.sub cc c k3 hc⟩
      | _ => cases z
  | _ => cases z
theorem pe_isiO {c : Nat} {y : Str} {py : Pos} (sta : Sta G T X.K X.mg) (hy : G.cls[c]? = some y) (hg : Gl X "isinstance") (hgy : Gl X y) (hpy : plainN y = true) (ns : noStar e = true) (he : PE X e (TEm G X.K Wx ma)) :
    PE X (.Call (.Name "isinstance" p) [e, .Name y py] [] pos) (TEm G X.K Wx fun f h => (ma f h).bind fun x h1 => match isiW T x (.own c) h1 with | some b => .ok (.bl b) h1 | none => .bad) := by
  obtain ⟨c1, c2, c3, _⟩ := sta.cls c y hy
  have hcl : PE X (.Name y py) (tC (.ref (cA G X.K c))) := pe_glob hgy c1 rfl (plainN_ok hpy).1
  refine pe_weak (pe_callB call_isi hg (sta.free _ (by simp [bnames])) (by decide +kernel : bootBuiltins "isinstance" = some (.builtin "isinstance")) (pa_cons he (pa_cons hcl pa_nil (star_cons rfl [])) (star_cons ns _)) (by decide +kernel) (by decide +kernel) (star_cons ns _) (star_any (es := [.Name y py]) rfl)) ?_
  rintro σ H Q ⟨r, f, h, S, q⟩
  refine ⟨r, f, h, S, (PostG.seq (rel := relW G X.K) q).mono ?_⟩
  rintro v H1 ⟨r1, w, h1, e1, R1, q1, p1⟩
  have hc : c < G.cls.length := (List.getElem?_eq_some_iff.mp hy).1
  cases z : isiW T w (.own c) h1 with
  | none => simp only [z] at p1; exact p1.elim
  | some b =>
    simp only [z] at p1
    obtain ⟨t, k1, k2⟩ := isiO_ok sta hc R1 q1 z
    exact ⟨v, .ref (cA G X.K c), t, .ref (cA G X.K c), b, rfl, .own _, k1, k2, post_ok p1 R1 rfl⟩
end
end WL

/-! methods, makings, values that are called -/
namespace WL
open PySem PySem.Spec PyProof.Rows L2
section
variable {prog : Program} {w : World} {A : Around} {E : Value → Shared → Prop} {s : Shared} {env : Env}
/-- o.name(..), whatever o's class -/
theorem wp_meth {o : Expr} {name : Str} {apos pos : Pos} {args : List Expr} {Q : Value → Shared → Prop} (hb : attributeBase o name env (eval o env) = eval o env)
    (hs : args.all noStar = true) (hl : args.length < 20) (hline : (apos.endLine == pos.line) = true)
    (h : wpAny (model prog w) A (eval o env) (fun ov t => ∀ pl, wpAny (model prog w) A (getMethod ov name pl) (fun fx t2 => wpAny (model prog w) A (callWith pos fx.1 fx.2 (backTo pos (starEach args env)) []) Q E t2) E t) E s) :
    wpAny (model prog w) A (eval (.Call (.Attribute o name apos) args [] pos) env) Q E s := by
  have hform : methodCallForm (args.length + ([] : List Keyword).length) (backTo pos (starEach args env)) (backToKw pos (keywordEach [] env)) = true := few_ok (env := env) (cpos := pos) hs hl
  have hpos : methodCallPos true o env apos pos = pure pos := by unfold methodCallPos; simp [hline]
  rw [arm_eval_Call, hb]
  refine wpAny_bind (wpAny_mono h (fun ov t q => wpAny_bind (wpAny_standAt ?_)) fun _ _ x => x)
  unfold methodCall
  rw [hform]
  exact wpAny_bind (wpAny_holding (wpAny_mono (q _) (fun fx t2 q2 => wpAny_bind (wpAny_of_eq hpos q2)) fun _ _ x => x))
end
section
variable {G : Nm} {T : Tb} {k : Nat} {X : Cx} {Wx : WX} {p pos apos : Pos} {e o : Expr} {es : List Expr} {ma mb : F → Hm → R W} {ms : F → Hm → R (List W)}
/-- arguments, then what is called -/
theorem cw_args {pins : List (Addr × Obj)} {σ : St} {H : Hp} {s : Shared} {fv : Value} {first : List Value} {Q : Value → Shared → Prop} {Rr : List V → Hp → Prop} (hk : PySem.W.keepIn X.K fv = true) (hs : es.all noStar = true) (ha : PA X es (TAm G X.K Wx ms)) (h0 : es = [] → ∀ σ H Q, TAm G X.K Wx ms σ H Q → Q [] H)
    (I : Inv X pins σ H s) (q : TAm G X.K Wx ms σ H Rr) (fin : ∀ vs us H1 s1, Inv X pins σ H1 s1 → Vals vs us → Rr vs H1 → wpAny (model X.prog X.w) X.A (call fv (first ++ us)) Q X.xe s1) :
    wpAny (model X.prog X.w) X.A (callWith pos fv first (backTo pos (starEach es X.env)) []) Q X.xe s := by
  cases es with
  | nil => exact PySem.W.callWith_K0 I.kIn hk (fin [] [] H s I .nil (h0 rfl σ H _ q))
  | cons e es =>
    simp only [List.all_cons, Bool.and_eq_true] at hs
    exact PySem.W.callWith_K (h₀ := X.base) I.ok.mod.kin hk (thn (ha.run pos pins s σ H _ I q) fun us s1 ⟨vs, H1, I1, r1, q1⟩ => ⟨I1.kIn, fin vs us H1 s1 I1 r1 q1⟩) (star_cons hs.1 es) (star_any hs.2)
/-! ### methods -/
abbrev mMth (T : Tb) (call : Nat → List W → Hm → R W) (m : Nat) (ma : F → Hm → R W) (ms : F → Hm → R (List W)) : F → Hm → R W := fun f h => (ma f h).bind fun x h1 => match x with
    | .ref a => (match h1[a]? with
      | some (.ins c fs) => (match T.metI c m with
        | some g => (ms f h1).bind fun ws h2 => call g (.ref a :: ws) h2
        | none => .bad)
      | _ => .bad)
    | _ => .bad
theorem pe_mthA {m : Nat} {mn : Str} (sta : Sta G T X.K X.mg) (lev : Lev G T X.prog X.w X.K X.mg X.base k) (room : Room k X.A) (tk : Takes X Wx) (hm : G.mets[m]? = some mn) (hso : noSuper o = true) (hs : es.all noStar = true) (hl : es.length < 20) (hline : (apos.endLine == pos.line) = true)
    (ho : PE X o (TEm G X.K Wx ma)) (ha : PA X es (TAm G X.K Wx ms)) (h0 : es = [] → ∀ σ H Q, TAm G X.K Wx ms σ H Q → Q [] H) :
    PE X (.Call (.Attribute o mn apos) es [] pos) (TEm G X.K Wx (mMth T (callM T k) m ma ms)) := by
  refine ⟨fun pins s σ H Q I q => ?_⟩
  refine wp_meth (attr_base hso _ _) hs hl hline ?_
  obtain ⟨r, f, h, S, q⟩ := q
  refine thn (ho.run pins s σ H _ I ⟨r, f, h, S, PostG.seq (rel := relW G X.K) q⟩) fun u s1 ⟨v, H1, I1, rv, r1, x, h1, e1, R1, q1, p1⟩ => ?_
  cases x with
  | ref a =>
    obtain ⟨b, rfl, hb⟩ := q1
    obtain rfl : u = Value.ref b := rv
    simp only at p1
    cases z : h1[a]? with
    | none => rw [z] at p1; exact p1.elim
    | some ob =>
      rw [z] at p1
      cases ob with
      | ins c fs =>
        simp only at p1
        cases z2 : T.metI c m with
        | none => rw [z2] at p1; exact p1.elim
        | some g =>
          rw [z2] at p1
          simp only at p1
          obtain ⟨dx, fs', k1, k2, k3⟩ := R1.obj a b _ hb z
          obtain ⟨hM, hc, hg⟩ := sta.met c m g mn z2 hm
          obtain ⟨_, hC, _⟩ := sta.cls c _ (List.getElem?_eq_getElem k3)
          obtain ⟨fd, ps, hB, F⟩ := lev.fn g _ (List.getElem?_eq_getElem hg)
          intro pl
          refine getmeth_ok I1 k1 hC hM (RFd.out (fun j => sta.dis m j mn hm) k2) ?_
          refine cw_args (first := [.ref b]) hM.kp hs ha h0 I1 (Rr := fun vs H2 => spM G X.K T k g (.ref b :: vs) H2 Q (WE Wx σ)) ?_ fun vs us H2 s2 I2 r2 q2 => ?_
          · refine ⟨r1, f, h1, S.ext e1 R1, (PostG.seq (rel := relA G X.K) p1).mono ?_⟩
            rintro vs H2 ⟨r2, ws, h2, e2, R2, q2, p2⟩
            exact ⟨r2, h2, .ref a :: ws, R2, ⟨_, _, rfl, ⟨b, rfl, e2.rho a b hb⟩, q2⟩, post_any p2⟩
          · exact run_fnS F room hB (passAt tk σ) I2 (Paired.cons (show RelV (.ref b) (.ref b) from rfl) r2) q2
      | _ => exact p1.elim
  | _ => exact p1.elim
/-! ### makings -/
theorem run_mk {C f : Addr} {fd : FuncData} {ps : List Str} {sp : Sp} {En : XK} {pins : List (Addr × Obj)} {σ : St} {H : Hp} {s : Shared} {Q : VK} {us : List Value} {vs : List V} (M : Mk X.K C f) (F : FnOk X.prog X.w X.K X.mg X.base (L2.CX X.prog X.w) k f fd ps sp) (room : Room (k + 1) X.A)
    (hB : Binds X.K fd ps []) (hx : PassesAt (L2.CX X.prog X.w) X σ En) (I : Inv X pins σ H s) (rv : Vals vs us)
    (q : ∀ x dx, H x = none → H dx = none → dx ≠ x → sp (.ref x :: vs) (upd (upd H dx (.own x)) x (.ins C dx [])) (fun v H2 => v = .non ∧ Q (.ref x) H2) En) : wpAny (model X.prog X.w) X.A (call (.ref C) us) (EP X pins σ Q) X.xe s := by
  have n0 : H s.heap.objs.size = none := I.hok.fresh (Nat.le_refl _)
  have n1 : H (s.heap.objs.size + 1) = none := I.hok.fresh (Nat.le_succ _)
  have q1 := q (s.heap.objs.size + 1) s.heap.objs.size n1 n0 (Nat.ne_of_lt (Nat.lt_succ_self _))
  have J := Inv.made (C := C) I
  have r2 : Vals (V.ref (s.heap.objs.size + 1) :: vs) (Value.ref (s.heap.objs.size + 1) :: us) := Paired.cons (show RelV (.ref _) (.ref _) from rfl) rv
  have len2 : (Value.ref (s.heap.objs.size + 1) :: us ++ []).length = ps.length := by
    rw [List.append_nil, ← r2.length]; exact F.len _ _ _ _ q1
  have bind2 := hB _ (Value.ref (s.heap.objs.size + 1) :: us) J.kIn len2
  rw [List.append_nil] at bind2
  have run2 := F.run _ X.stack _ _ ⟨Value.ref (s.heap.objs.size + 1) :: us, []⟩ _ _ _ En (room.make C us []) (J.env0.make C us []) bind2 r2 q1
  refine wpAny_call (make_map (f := f) I.kIn M.makes M.init (beq_iff_eq.mp M.fn) (codeAny_mono run2 fun res s' z => ?_))
  cases res with
  | error e => exact hx pins _ _ e s' J z
  | ok fl =>
    cases fl with
    | ret u =>
      obtain ⟨v, H', J2, rr, ev, q3⟩ := J.after z
      subst ev
      exact ⟨rr, V.ref (s.heap.objs.size + 1), H', J2, rfl, q3⟩
    | _ => exact False.elim z
theorem run_mk0 {C : Addr} {pins : List (Addr × Obj)} {σ : St} {H : Hp} {s : Shared} {Q : VK} (M : Mk0 X.K C) (I : Inv X pins σ H s) (q : ∀ x dx, H x = none → H dx = none → dx ≠ x → Q (.ref x) (upd (upd H dx (.own x)) x (.ins C dx []))) :
    wpAny (model X.prog X.w) X.A (call (.ref C) []) (EP X pins σ Q) X.xe s := by
  have n0 : H s.heap.objs.size = none := I.hok.fresh (Nat.le_refl _)
  have n1 : H (s.heap.objs.size + 1) = none := I.hok.fresh (Nat.le_succ _)
  have q1 := q (s.heap.objs.size + 1) s.heap.objs.size n1 n0 (Nat.ne_of_lt (Nat.lt_succ_self _))
  have J := Inv.made (C := C) I
  have Y := PySem.W.makes_of (M := model X.prog X.w) I.kIn M.makes
  have get2 : ((s.heap.push PySem.W.emptyDict).push (PySem.W.instObj C s.heap.objs.size)).get? (s.heap.objs.size + 1) = some (PySem.W.instObj C s.heap.objs.size) := by
    have z := Heap.get?_push_size (s.heap.push PySem.W.emptyDict) (o := PySem.W.instObj C s.heap.objs.size) rfl
    rwa [Heap.size_push] at z
  have ty : PySem.W.Looks (model X.prog X.w) ((s.heap.push PySem.W.emptyDict).push (PySem.W.instObj C s.heap.objs.size)) (typeOf (.ref (s.heap.objs.size + 1))) (.ref C) := (PySem.W.Looks.ld get2).andThen .now
  have isO : PySem.W.Looks (model X.prog X.w) ((s.heap.push PySem.W.emptyDict).push (PySem.W.instObj C s.heap.objs.size)) (isInstance (.ref (s.heap.objs.size + 1)) (.type "object")) true := ty.andThen (Y.top.keeps fun b o z => Heap.get?_push_of_some _ (Heap.get?_push_of_some _ z))
  refine wpAny_call (make_map0 I.kIn M.makes M.init (fun self => PySem.W.Looks.of_pure (PySem.W.oi_bind self)) ?_)
  refine codeAny_call_builtin PySem.W.oi_plain PySem.W.entry_oi (@PySem.W.check_slot (model X.prog X.w) _ _ _ "object.__init__" "object" "__init__" _ [] [] _ PySem.W.oi_kind PySem.W.oi_split isO (PySem.W.oi_args _) ?_)
  rw [PySem.W.oi_run]
  exact wpAny_pure ⟨rfl, V.ref (s.heap.objs.size + 1), _, J, rfl, q1⟩
theorem made_rel {r : List Addr} {h : Hm} {H : Hp} {c : Nat} {x dx : Addr} (R : RelH G X.K r h H) (hc : c < G.cls.length) (hx : H x = none) (hd : H dx = none) (ne : dx ≠ x) :
    Ext r H (r ++ [x]) (upd (upd H dx (.own x)) x (.ins (cA G X.K c) dx [])) ∧ RelH G X.K (r ++ [x]) (h ++ [.ins c []]) (upd (upd H dx (.own x)) x (.ins (cA G X.K c) dx [])) := by
  have hx2 : upd H dx (.own x) x = none := by rw [upd_ne (Ne.symm ne)]; exact hx
  exact ⟨(Ext.new hd).trans (Ext.laid hx2), (R.aside hd).laid hx2 ⟨dx, [], upd_same, rfl, hc⟩⟩
theorem pe_mkA {c : Nat} {x : Str} (sta : Sta G T X.K X.mg) (lev : ∀ j, j + 1 = k → Lev G T X.prog X.w X.K X.mg X.base j) (room : Room k X.A) (tk : Takes X Wx) (hx : G.cls[c]? = some x) (hg : Gl X x) (hpn : plainN x = true) (hs : es.all noStar = true)
    (ha : PA X es (TAm G X.K Wx ms)) (h0 : es = [] → ∀ σ H Q, TAm G X.K Wx ms σ H Q → Q [] H) :
    PE X (.Call (.Name x p) es [] pos) (TEm G X.K Wx fun f h => (ms f h).bind fun ws h1 => mkM T k c ws h1) := by
  have hc : c < G.cls.length := (List.getElem?_eq_some_iff.mp hx).1
  obtain ⟨hm, _, _, hkp⟩ := sta.cls c x hx
  refine ⟨fun pins s σ H Q I q => ?_⟩
  refine wpAny_Call_Name_kw (ld_glob I hg hm ?_ (plainN_ok hpn).1)
  obtain ⟨r, f, h, S, q⟩ := q
  refine cw_args (first := []) hkp hs ha h0 I (Rr := fun vs H1 => ∃ r1 ws h1, RelH G X.K r1 h1 H1 ∧ RVs G X.K r1 H1 ws vs ∧ PostG G X.K (relW G X.K) Wx σ r1 H1 (mkM T k c ws h1) Q) ?_ fun vs us H1 s1 I1 rv q1 => ?_
  · refine ⟨r, f, h, S, (PostG.seq (rel := relA G X.K) q).mono ?_⟩
    rintro vs H1 ⟨r1, ws, h1, e1, R1, q1, p1⟩
    exact ⟨r1, ws, h1, R1, q1, p1⟩
  · obtain ⟨r1, ws, h1, R1, q1, p1⟩ := q1
    show wpAny (model X.prog X.w) X.A (call (.ref (cA G X.K c)) us) (EP X pins σ Q) X.xe s1
    cases k with
    | zero => exact p1.elim
    | succ k =>
      rw [mkM_succ] at p1
      unfold mkOf at p1
      split at p1
      · rename_i i zi
        obtain ⟨hM, hi⟩ := sta.ini c i zi
        obtain ⟨fd, ps, hB, F⟩ := (lev k rfl).fn i _ (List.getElem?_eq_getElem hi)
        refine run_mk hM F room hB (passAt tk σ) I1 rv fun y dy ny nd ne => ?_
        obtain ⟨x1, R2⟩ := made_rel (c := c) R1 hc ny nd ne
        refine ⟨r1 ++ [y], h1 ++ [.ins c []], .ref h1.length :: ws, R2, ⟨_, _, rfl, ⟨y, rfl, ?_⟩, q1.ext x1⟩, ?_⟩
        · rw [← R1.len, List.getElem?_append_right (Nat.le_refl _)]; simp
        · have aty : (r1 ++ [y])[h1.length]? = some y := by rw [← R1.len, List.getElem?_append_right (Nat.le_refl _)]; simp
          cases z : callM T k i (.ref h1.length :: ws) (h1 ++ [.ins c []]) with
          | bad => rw [z] at p1; exact p1.elim
          | exc e h2 => rw [z] at p1; exact fun r' H' e' R' => p1 r' H' (x1.trans e') R'
          | ok w2 h2 =>
            rw [z] at p1
            cases w2 with
            | non => exact fun r' H' v e' R' qv => ⟨qv, p1 r' H' _ (x1.trans e') R' ⟨y, rfl, e'.rho _ _ aty⟩⟩
            | _ => exact p1.elim
      · rename_i zi
        split at p1
        · have ev : vs = [] := q1
          subst ev
          cases rv
          refine run_mk0 (sta.ini0 c zi) I1 fun y dy ny nd ne => ?_
          obtain ⟨x1, R2⟩ := made_rel (c := c) R1 hc ny nd ne
          refine p1 _ _ _ x1 R2 ⟨y, rfl, ?_⟩
          rw [← R1.len, List.getElem?_append_right (Nat.le_refl _)]; simp
        · exact p1.elim
      · exact p1.elim
/-! ### a def that a slot holds -/
theorem pe_calvF {C : Cb} {i : Nat} {x : Str} (lev : Lev G T X.prog X.w X.K X.mg X.base k) (sta : Sta G T X.K X.mg) (room : Room k X.A) (tk : Takes X Wx) (hN : X.N[i]? = some x) (hv : Vis X.env.scope x) (hpn : plainN x = true) (hs : es.all noStar = true) (ha : PA X es (TAm G X.K Wx ms)) (h0 : es = [] → ∀ σ H Q, TAm G X.K Wx ms σ H Q → Q [] H)
    (hcod : ∀ (pins : List (Addr × Obj)) (s : Shared) (σ : St) (H : Hp) (Q : VK) (r : List Addr) (f : F) (h : Hm) (np ns : Nat) (b : E) (a : Addr), Inv X pins σ H s → RelS G X.K r f h σ H → RV G X.K r H (.cod np ns b) (.ref a) → PostG G X.K (relW G X.K) Wx σ r H ((ms f h).bind fun ws h1 => C.cods np ns b ws h1) Q →
      wpAny (model X.prog X.w) X.A (callWith pos (.ref a) [] (backTo pos (starEach es X.env)) []) (EP X pins σ Q) X.xe s)
    (hC : C.call = callM T k) :
    PE X (.Call (.Name x p) es [] pos) (TEm G X.K Wx fun f h => (match f[i]? with
    | some (some (.fn g)) => (ms f h).bind fun ws h1 => C.call g ws h1
    | some (some (.cod np ns b)) => (ms f h).bind fun ws h1 => C.cods np ns b ws h1
    | _ => .bad)) := by
  obtain ⟨hdb, hcd, _⟩ := plainN_ok hpn
  refine ⟨fun pins s σ H Q I q => ?_⟩
  obtain ⟨r, f, h, S, q⟩ := q
  dsimp only at q
  split at q
  · rename_i g zg
    obtain ⟨v, hs', hv'⟩ := S.fr i _ zg
    have ev : v = .ref (fA G X.K g) := hv'.2
    have hg : g < G.fns.length := hv'.1
    subst ev
    refine wpAny_Call_Name_kw (thn ((pe_var (pos := p) hN hv hdb hcd).run pins s σ H (fun v H1 => v = .ref (fA G X.K g) ∧ H1 = H) I ⟨_, hs', rfl, rfl⟩) fun u s1 ⟨v, H1, I1, r1, q1⟩ => ?_)
    obtain ⟨ev, eH⟩ := q1
    subst ev eH
    obtain rfl : u = Value.ref (fA G X.K g) := r1
    obtain ⟨fd, ps, hB, F⟩ := lev.fn g _ (List.getElem?_eq_getElem hg)
    refine cw_args (first := []) (sta.kp g _ (List.getElem?_eq_getElem hg)) hs ha h0 I1 (Rr := fun vs H2 => spM G X.K T k g vs H2 Q (WE Wx σ)) ?_ fun vs us H2 s2 I2 r2 q2 => ?_
    · rw [hC] at q
      exact te_cal ⟨r, f, h, S, q⟩
    · exact run_fnS F room hB (passAt tk σ) I2 r2 q2
  · rename_i np ns b zg
    obtain ⟨v, hs', hv'⟩ := S.fr i _ zg
    have hv2 := hv'
    obtain ⟨a, L, c, ev, _⟩ := hv2
    subst ev
    refine wpAny_Call_Name_kw (thn ((pe_var (pos := p) hN hv hdb hcd).run pins s σ H (fun v H1 => v = .ref a ∧ H1 = H) I ⟨_, hs', rfl, rfl⟩) fun u s1 ⟨v, H1, I1, r1, q1⟩ => ?_)
    obtain ⟨ev, eH⟩ := q1
    subst ev eH
    obtain rfl : u = Value.ref a := r1
    exact hcod pins s1 σ _ Q r f h np ns b a I1 S hv' q
  · exact q.elim
end
end WL

/-! lambdas as values -/
namespace WL
open PySem PySem.Spec PyProof.Rows L2
theorem clo_nil (cells : List (Str × Addr)) : ∀ {names : List (Str × NameKind)}, (∀ y ∈ names, y.2 ≠ .free) → cloFrom cells names [] = []
  | [], _ => rfl
  | (n, k) :: r, h => by
    have hk : (k == NameKind.free) = false := beq_eq_false_iff_ne.mpr (h (n, k) List.mem_cons_self)
    unfold cloFrom
    rw [hk]
    exact clo_nil cells fun y hy => h y (List.mem_cons_of_mem _ hy)
theorem lamO_ne {f c : Addr} {L : LamT} (ps : Array Value) : LamO f L c ≠ .tbl ps := fun z => by
  unfold LamO at z
  cases z
theorem lamO_at {P : Program} {w : World} {H : Hp} {h : Heap} {f c : Addr} {L : LamT} (hok : HOk P w H h) (e : H f = some (LamO f L c)) : ∃ pm ctv, h.get? f = some (PySem.W.kla_obj "<lambda>" L.qual L.params L.body L.scope [] pm c ctv) := by
  obtain ⟨z, _, _⟩ := hok f _ e
  exact z
section
variable {G : Nm} {K : PySem.W.Frag} {r : List Addr} {h : Hm} {H H' : Hp}
/-- all but the tables stays; the machine's things are there as before -/
theorem RelH.extN (R : RelH G K r h H) (eN : LamX.ExtN H H') (back : ∀ b, H' b = none → H b = none) (T : LamX.Tabs (tabL G K) H') : Ext r H r H' ∧ RelH G K r h H' := by
  have x : Ext r H r H' := by
    refine ⟨⟨fun _ _ z => z, fun a xs z => eN a _ z (fun ps y => by cases y), fun a o u z => eN a _ z (fun ps y => by cases y), fun a u z => eN a _ z (fun ps y => by cases y)⟩, fun a o z _ ht => eN a o z ht, fun n a z => .inl ⟨n, z⟩, fun a o z => ?_⟩
    cases q : H' a with
    | none => rw [back a q] at z; cases z
    | some o' => exact ⟨o', rfl⟩
  refine ⟨x, R.len, R.inj, fun n a o h1 h2 => (R.obj n a o h1 h2).ext x ?_, T⟩
  obtain ⟨u, z, hm⟩ := R.isAt h1
  rw [z]
  exact eN a u z fun ps y => by subst y; exact hm
end
section
variable {X : Cx} {pins : List (Addr × Obj)} {σ : St} {H : Hp} {s : Shared}
/-- a lambda's object just made is known from now on -/
theorem inv_lam {L : LamT} {c : Addr} {t' : Nat} {pm ctv : Value} (I : Inv X pins σ H s) :
    Inv X pins σ (upd H s.heap.objs.size (LamO s.heap.objs.size L c)) { s with heap := s.heap.push (PySem.W.kla_obj "<lambda>" L.qual L.params L.body L.scope [] pm c ctv), toks := t' } := by
  refine I.laid (a := s.heap.objs.size) (fun b u z => Heap.get?_push_of_some _ z) (Nat.le_refl _) ?_
  have e : (s.heap.push (PySem.W.kla_obj "<lambda>" L.qual L.params L.body L.scope [] pm c ctv)).get? s.heap.objs.size = some (PySem.W.kla_obj "<lambda>" L.qual L.params L.body L.scope [] pm c ctv) := Heap.get?_push_size _ rfl
  exact ⟨⟨pm, ctv, e⟩, ⟨_, e⟩, fun h1 h2 ⟨p1, c1, z⟩ st => ⟨p1, c1, st _ z⟩⟩
theorem lam_mk {T : List (Addr × Str)} {c P : Addr} {params : Arguments} {body : Expr} {scope : Scope} {pos : Pos} {En : Value → Shared → Prop} {Q : Value → Shared → Prop} (I : Inv X pins σ H s) (TB : LamX.TabB X.base X.mg c P) (hcode : X.env.code = .ref c)
    (hm : (P, X.env.qual ++ "<lambda>") ∈ T) (hu : ∀ p ∈ T, p.1 = P → p.2 = X.env.qual ++ "<lambda>") (hT : LamX.Tabs T H) (hdef : defaultsOf params X.env = ([], [])) (nf : ∀ y ∈ scope.names, y.2 ≠ .free)
    (fin : ∀ (f c' : Addr) (H2 : Hp) (s' : Shared), Inv X pins σ H2 s' → LamX.ExtN H H2 → (∀ b, H2 b = none → H b = none) → LamX.Tabs T H2 → H2 f = some (LamO f ⟨params, body, scope, X.env.qual ++ "<lambda>"⟩ c') → H2 c' = some (LamX.CodeO c' (X.env.qual ++ "<lambda>")) → Q (.ref f) s') :
    wpAny (model X.prog X.w) X.A (eval (.Lambda params body scope pos) X.env) Q En s := by
  have hfree : ∀ y ∈ scope.names, y.2 = .free → ∃ c, X.env.cells.lookup y.1 = some c := fun y hy z => absurd z (nf y hy)
  have hcl := clo_nil X.env.cells nf
  obtain ⟨ps, hP, ht, ha⟩ := hT _ hm
  have hP' : s.heap.get? P = some { cls := .none, data := .fields ps } := I.hok P _ hP
  have bP := TB.bm.keeps I.bk
  refine PySem.W.kla_eval hdef ?_
  cases hc : codeAmong pos ps.toList with
  | some cv =>
    obtain ⟨c1, z, hco⟩ := ha pos cv hc
    subst z
    refine PySem.W.kla_makeFunctionHit (mg := X.mg) (c := c) (P := P) (ps := ps) (closure_ok hfree) I.ok.glob (I.mod.glob.keeps I.bk) hcode (TB.code.keeps I.bk) hP' ht hc bP fun ctv h' tk hx hsz => ?_
    rw [hcl]
    have I1 : Inv X pins σ H { s with heap := h', toks := tk } := I.kept hx
    have nF : H h'.objs.size = none := I1.hok.fresh (Nat.le_refl _)
    have I2 := inv_lam (L := ⟨params, body, scope, X.env.qual ++ "<lambda>"⟩) (c := c1) (t' := tk) (pm := (X.mg "__name__").getD .none) (ctv := ctv) I1
    have up : ∀ b o, H b = some o → upd H h'.objs.size (LamO h'.objs.size ⟨params, body, scope, X.env.qual ++ "<lambda>"⟩ c1) b = some o := fun b o z => (upd_ne (ne_of_none z nF)).trans z
    exact fin h'.objs.size c1 _ _ I2 (fun b o z _ => up b o z) (fun b z => NdefX.upd_none z) (hT.ext up) upd_same (up _ _ hco)
  | none =>
    refine PySem.W.kla_makeFunction (mg := X.mg) (c := c) (P := P) (ps := ps) (closure_ok hfree) I.ok.glob (I.mod.glob.keeps I.bk) hcode (TB.code.keeps I.bk) hP' ht hc TB.gP bP fun c1 ctv h' tk hx hge hlt hrec htb => ?_
    rw [hcl]
    obtain ⟨c2, oc, vs, t, z2, hoc, hdt, hv⟩ := hrec
    cases z2
    have nC : H c1 = none := I.hok.fresh hge
    have J := LamX.inv_table (t' := tk) (more := #[rawInt pos.line, rawInt pos.col, .ref c1]) (h' := h') I hP (fun b o hb z => hx b o hb z) htb hge ⟨oc, vs, t, hoc, hdt, hv⟩
    have nPc : P ≠ c1 := ne_of_none hP nC
    have eN : LamX.ExtN H (upd (upd H P (.tbl (ps ++ #[rawInt pos.line, rawInt pos.col, .ref c1]))) c1 (LamX.CodeO c1 (X.env.qual ++ "<lambda>"))) := fun b o z nt => by
      have nb : b ≠ P := fun y => nt ps (Option.some.inj (z.symm.trans (by rw [y]; exact hP)))
      rw [upd_ne (ne_of_none z nC), upd_ne nb]; exact z
    have lst : (ps ++ #[rawInt pos.line, rawInt pos.col, .ref c1]).toList = ps.toList ++ [rawInt pos.line, rawInt pos.col, .ref c1] := by simp
    have T1 : LamX.Tabs T (upd (upd H P (.tbl (ps ++ #[rawInt pos.line, rawInt pos.col, .ref c1]))) c1 (LamX.CodeO c1 (X.env.qual ++ "<lambda>"))) := fun p hp => by
      by_cases hb : p.1 = P
      · rw [hu p hp hb, hb]
        refine ⟨_, by rw [upd_ne nPc, upd_same], by rw [lst]; exact PySem.TriplesOk_snoc _ _ _ _ ht, fun p2 cv y => ?_⟩
        rw [lst] at y
        rcases LamX.among_app _ ht y with y | y
        · obtain ⟨c0, k1, k2⟩ := ha p2 cv y
          exact ⟨c0, k1, eN _ _ k2 LamX.codeO_ne⟩
        · exact ⟨c1, y, upd_same⟩
      · obtain ⟨ps2, k1, k2, k3⟩ := hT p hp
        refine ⟨ps2, by rw [upd_ne (ne_of_none k1 nC), upd_ne hb]; exact k1, k2, fun p2 cv y => ?_⟩
        obtain ⟨c0, l1, l2⟩ := k3 p2 cv y
        exact ⟨c0, l1, eN _ _ l2 LamX.codeO_ne⟩
    have nF := J.hok.fresh (Nat.le_refl _)
    have I2 := inv_lam (L := ⟨params, body, scope, X.env.qual ++ "<lambda>"⟩) (c := c1) (t' := tk) (pm := (X.mg "__name__").getD .none) (ctv := ctv) J
    refine fin h'.objs.size c1 _ _ I2 (fun b o z nt => ?_) (fun b z => NdefX.upd_none (NdefX.upd_none (NdefX.upd_none z))) (T1.ext fun b o z => ?_) upd_same ?_
    · have z1 := eN b o z nt
      exact (upd_ne (ne_of_none z1 nF)).trans z1
    · exact (upd_ne (ne_of_none z nF)).trans z
    · exact (upd_ne (Nat.ne_of_lt hlt)).trans upd_same
end
section
variable {G : Nm} {T : Tb} {k : Nat} {C : Cb} {s : Sx} {X : Cx} {Wx : WX}
theorem lamB_ok {params : Arguments} {scope : Scope} {body : Expr} (h : lamB params scope body = true) : plainA params = true ∧ params.defaults = [] ∧ params.kw_defaults = [] ∧ FnScope (sxL params scope body).N (parN params) scope ∧ ∀ y ∈ scope.names, y.2 ≠ .cell := by
  unfold lamB at h
  simp only [Bool.and_eq_true, List.isEmpty_iff, List.all_eq_true, Bool.not_eq_true', decide_eq_false_iff_not] at h
  obtain ⟨⟨⟨⟨h1, h2⟩, h3⟩, h4⟩, h5⟩ := h
  exact ⟨h1, h2, h3, scope_ok h4, h5⟩
theorem def_nil {params : Arguments} (h1 : params.defaults = []) (h2 : params.kw_defaults = []) (env : Env) : defaultsOf params env = ([], []) := by
  obtain ⟨a1, a2, a3, a4, a5, a6, a7⟩ := params
  simp only at h1 h2
  subst h1 h2
  rfl
theorem pe_lamA (O : Good G T k C s X Wx) {n : Nat} {params : Arguments} {body : Expr} {scope : Scope} {pos : Pos} (hml : s.ml = true) (hl : lamB params scope body = true) :
    PE X (.Lambda params body scope pos) (TEm G X.K Wx fun _ h => .ok (.cod (parN params).length (sxL params scope body).N.length (compE G n (sxL params scope body) body)) h) := by
  obtain ⟨h1, h2, h3, h4, h5⟩ := lamB_ok hl
  refine ⟨fun pins st σ H Q I q => ?_⟩
  obtain ⟨r, f, h, S, p⟩ := q
  have mk : MkOk G X.K X.mg X.base X.env.code (X.env.qual ++ "<lambda>") := by
    rcases O.mkr with z | z
    · exact z
    · rw [hml] at z; cases z
  obtain ⟨c, P, hcode, TB, hm, hu⟩ := mk
  refine lam_mk I TB hcode hm hu S.heap.tabs (def_nil h2 h3 _) h4.nofree fun fa c1 H2 s2 I2 eN back T2 k1 k2 => ?_
  obtain ⟨x, R2⟩ := S.heap.extN eN back T2
  exact ⟨.ref fa, H2, I2, rfl, p r H2 (.ref fa) x R2 ⟨fa, _, c1, rfl, k1, k2, hl, rfl, rfl, n, rfl⟩⟩
/-- a lambda is called -/
theorem cod_run {P : Program} {w : World} {K : PySem.W.Frag} {mg : Str → Option Value} {base : Heap} {L : LamT} {np ns : Nat} {b : E} (ok : CodOk G L np ns b) {A : Around} {outer : List Env} {st : Shared} {H : Hp} {us : List Value} {vs : List V} {Q : VK} {En : XK} {a c : Addr} (hr : Room (k + 1) A) (e0 : Env0 P w K mg base A outer st H)
    (ha : H a = some (LamO a L c)) (hc : H c = some (LamX.CodeO c L.qual)) (rv : Vals vs us) (hlen : vs.length = np)
    (hbody : ∀ (F : NdefX.NF), F.qual = L.qual → F.scope = L.scope → F.cl = [] → F.c = c → PE (NdefX.ncx (L2.CX P w) P w K mg base (sxL L.params L.scope L.body).N F a A outer st H En) L.body fun σ H' Q' => σ = NdefX.startF (sxL L.params L.scope L.body).N vs [] ∧ H' = H ∧ Q' = Q) :
    codeAny (model P w) A (.call (.ref a) ⟨us, []⟩) (CR (L2.CX P w) outer P w H st Q En) st := by
  obtain ⟨h1, h2, h3, h4, h5⟩ := lamB_ok ok.ok
  obtain ⟨pm, ctv, hget⟩ := lamO_at e0.hok ha
  have lim : st.heap.NoLimit := e0.mod.nolimit.keeps fun b o z => (e0.bs b o z).1
  have hnd : (parN L.params).Nodup := by rw [← h4.pre]; exact h4.nd.sublist (List.take_sublist _ _)
  have hpar : ∀ x ∈ parN L.params, L.scope.names.lookup x = some .local := fun x hx => by
    rcases h4.par x hx with z | z
    · exact z
    · exact absurd rfl (h5 _ (PySem.mem_of_lookup z))
  have lenu : us.length = (parN L.params).length := by rw [← rv.length, hlen, ok.np]
  refine PySem.W.kla_callFunE hr.depth hget rfl h4.co h4.gen rfl (NdefX.codeO_at e0.hok hc) ?_
  rw [bind_plain (fd := PySem.W.kla_fn "<lambda>" L.qual L.params L.body L.scope [] pm (.ref c) ctv) (ps := parN L.params) h1 rfl rfl hnd lenu]
  refine wpAny_pure (wpAny_newFunctionEnv h5 (fun ⟨n, _⟩ hy => hpar n (List.of_mem_zip hy).1) (fun h1 hns hsb => ⟨lim.fresh _ hsb, ?_⟩) h4.kind)
  have kp : ∀ b o, st.heap.get? b = some o → h1.get? b = some o := fun b o z => hsb.extBut b o (Nat.ne_of_lt (Heap.lt_size z)) (Heap.get?_push_of_some _ z)
  have NS : NdefX.NScope (sxL L.params L.scope L.body).N (parN L.params) [] L.scope := ⟨h4.kind, h4.co, h4.gen, h4.nd, by simpa using h4.pre, hpar, h5, fun y hy z => absurd z (h4.nofree y hy), fun x hx => by cases hx⟩
  have J := NdefX.inv_startN (CX := L2.CX P w) (N := (sxL L.params L.scope L.body).N) (ps := parN L.params) (fr := []) (F := ⟨"<lambda>", L.qual, L.params, [], L.scope, [], c⟩) (f := a) (E := En) (ws := []) (tk := st.toks + ((parN L.params).zip us).length) NS hr.hd e0 (by rw [hlen, ok.np]) rv
    ⟨rfl, (fun y c z => by cases z), (fun x y c z => by cases z), (fun i y z => by simp at z)⟩ hns kp
  refine PySem.W.kla_codeExpr (wpAny_mono ((hbody ⟨"<lambda>", L.qual, L.params, [], L.scope, [], c⟩ rfl rfl rfl rfl).run [] _ _ H Q J ⟨rfl, rfl, rfl⟩) (fun v s' z => ?_) fun x s' z => z)
  obtain ⟨w', H', J', rr, q⟩ := z
  exact ⟨w', H', J'.os, J'.bare, J'.base, J'.hok, rr, q⟩
end
end WL

/-! the suite of an except clause -/
namespace WL
open PySem PySem.Spec PyProof.Rows L2
section
variable {X : Cx}
theorem ps_weak {st : Stmt} {t t' : TS} (p : PS X st t) (h : ∀ D σ H, t' D σ H → t D σ H) : PS X st t' := ⟨fun pins s σ H D I q => p.run pins s σ H D I (h D σ H q)⟩
theorem pss_weak {st : List Stmt} {t t' : TS} (p : PSs X st t) (h : ∀ D σ H, t' D σ H → t D σ H) : PSs X st t' := ⟨fun pins s σ H D I q => p.run pins s σ H D I (h D σ H q)⟩
end
/-- the slot i holds the error at a -/
abbrev Sl (i : Nat) (a : Addr) (σ : St) : Prop := σ[i]? = some (some (.ref a))
abbrev TXm (G : Nm) (K : PySem.W.Frag) (i : Nat) (a : Addr) (m : F → Hm → R W) : TE := fun σ H Q => Sl i a σ ∧ TEm G K Wno m σ H Q
abbrev TXa (G : Nm) (K : PySem.W.Frag) (i : Nat) (a : Addr) (m : F → Hm → R (List W)) : TA := fun σ H Q => Sl i a σ ∧ TAm G K Wno m σ H Q
section
variable {G : Nm} {T : Tb} {X : Cx} {i : Nat} {a : Addr} {C : Cb} {e x y : Expr} {es : List Expr} {ma mb : F → Hm → R W} {pos : Pos}
theorem tm_mono {K : PySem.W.Frag} {α β : Type} {rel : List Addr → Hp → Hm → α → β → Prop} {Wx : WX} {m : F → Hm → R α} {σ : St} {H : Hp} {Q Q' : β → Hp → Prop} (q : TmG G K rel Wx m σ H Q) (h : ∀ b H', Q b H' → Q' b H') : TmG G K rel Wx m σ H Q' := by
  obtain ⟨r, f, hh, S, p⟩ := q
  exact ⟨r, f, hh, S, p.mono h⟩
theorem px_bad : PE X e (TXm G X.K i a fun _ _ => .bad) := pe_weak pe_bad fun _ _ _ q => q.2
theorem px_of (p : PE X e (TEm G X.K Wno ma)) : PE X e (TXm G X.K i a ma) := pe_weak p fun _ _ _ q => q.2
theorem px_cat (hx : PE X x (TXm G X.K i a ma)) (hy : PE X y (TXm G X.K i a mb)) : PE X (.BinOp x .Add y pos) (TXm G X.K i a fun f h => (ma f h).bind fun u h1 => (mb f h1).bind fun v h2 => binW .Add u v h2) := by
  refine pe_weak (pe_op (OpR.or op_add op_cat) hx hy) ?_
  rintro σ H Q ⟨hs, q⟩
  have q2 := te_op (G := G) (X := X) (Wx := Wno) (r := fun x y H Q => (rI0 fun i j => .int (i + j)) x y H Q ∨ rCat x y H Q) (fop := binW .Add) (ma := ma) (mb := mb) (fun σ r0 h H u v z w Q R q1 q2 p => by
    cases u with
    | int n =>
      cases v with
      | int j => exact .inl ⟨n, j, q1, q2, post_ok p R rfl⟩
      | _ => exact p.elim
    | ref m =>
      cases v with
      | ref n =>
        obtain ⟨pa, rfl, ha⟩ := q1
        obtain ⟨pb, rfl, hb⟩ := q2
        simp only [binW] at p
        cases e1 : h[m]? with
        | none => simp only [e1] at p; exact p.elim
        | some o1 =>
          cases o1 with
          | lst xs =>
            cases e2 : h[n]? with
            | none => simp only [e1, e2] at p; exact p.elim
            | some o2 =>
              cases o2 with
              | lst ys =>
                simp only [e1, e2] at p
                by_cases hl : xs.length + ys.length ≤ line
                · rw [if_pos hl] at p
                  obtain ⟨vx, k1, k2⟩ := ro_lst R ha e1
                  obtain ⟨vy, k3, k4⟩ := ro_lst R hb e2
                  exact .inr ⟨pa, pb, vx, vy, rfl, rfl, k1, k3, by rw [k2.length, k4.length]; exact hl, fun pt hp => post_alloc p R hp ⟨_, upd_same, (k2.app k4).ext (ext_laid hp)⟩⟩
                · rw [if_neg hl] at p; exact p.elim
              | _ => simp only [e1, e2] at p; exact p.elim
          | _ => simp only [e1] at p; exact p.elim
      | _ => exact p.elim
    | _ => exact p.elim) σ H Q q
  exact ⟨hs, tm_mono q2 fun v H1 q3 => ⟨hs, q3⟩⟩
theorem px_not (hx : PE X x (TXm G X.K i a ma)) : PE X (.UnaryOp .Not x pos) (TXm G X.K i a fun f h => (ma f h).bind fun u h1 => match u with | .bl b => .ok (.bl (!b)) h1 | _ => .bad) := by
  refine pe_weak (pe_not hx) ?_
  rintro σ H Q ⟨hs, q⟩
  exact ⟨hs, te_not σ H Q q⟩
theorem px_and (hx : PE X x (TXm G X.K i a ma)) (hy : PE X y (TXm G X.K i a mb)) : PE X (.BoolOp .And [x, y] pos) (TXm G X.K i a fun f h => (ma f h).bind fun u h1 => match u with | .bl true => mb f h1 | .bl false => .ok (.bl false) h1 | _ => .bad) := by
  refine pe_weak (pe_and hx (pe_one hy)) ?_
  rintro σ H Q ⟨hs, q⟩
  refine ⟨hs, tm_mono (te_and σ H Q q) ?_⟩
  rintro v H1 ⟨c, ev, q3⟩
  refine ⟨c, ev, ?_⟩
  by_cases hc : c = true
  · rw [if_pos hc] at q3 ⊢; exact ⟨hs, q3⟩
  · rw [if_neg hc] at q3 ⊢; exact q3
theorem pa_x {ce : Expr → E} (hp : ∀ e, PE X e (TXm G X.K i a (ev C (ce e)))) : ∀ {es : List Expr}, es.all noStar = true → PA X es (TXa G X.K i a (evs C (listE (es.map ce))))
  | [], _ => pa_weak pa_nil fun σ H Q q => by
      have q := q.2
      rw [show listE (List.map ce []) = E.nil from rfl, evs_nil] at q
      exact ta_nil σ H Q q
  | e :: es, hs => by
    simp only [List.all_cons, Bool.and_eq_true] at hs
    refine pa_weak (pa_cons (hp e) (pa_x hp hs.2) (star_cons hs.1 es)) ?_
    rintro σ H Q ⟨h1, q⟩
    rw [show listE (List.map ce (e :: es)) = E.cons (ce e) (listE (es.map ce)) from rfl, evs_cons] at q
    exact ⟨h1, tm_mono (ta_cons σ H Q q) fun v H1 q3 => ⟨h1, q3⟩⟩
theorem px_lst {ce : Expr → E} (hp : ∀ e, PE X e (TXm G X.K i a (ev C (ce e)))) {es : List Expr} (hs : es.all noStar = true) : PE X (.List es pos) (TXm G X.K i a (ev C (.lst (listE (es.map ce))))) := by
  refine pe_weak (pe_lst (pa_x hp hs)) ?_
  rintro σ H Q ⟨h1, q⟩
  rw [ev_lst] at q
  exact ⟨h1, te_lst σ H Q q⟩
end
/-- where a suite runs: X the def's context, the error at a of the class number e -/
structure Suit (G : Nm) (T : Tb) (C : Cb) (s : Sx) (X : Cx) (i e : Nat) (a : Addr) (oe : Obj) (er : Str) : Prop where
  eN : X.N = s.N
  nd : s.N.Nodup
  eS : X.env.scope = s.sc
  eT : s.tsc = s.sc
  ie : idxS er s.N = some i
  el : s.sc.names.lookup er = some .local
  sta : Sta G T X.K X.mg
  cT : C.tb = T
  xc : C.xc = some e
  hz : Zc (.ref (xA G X.K e)) none oe
  hf : ∃ vs, oe.data = .fields vs
  fn : ∀ x, X.fn x = true
section
variable {G : Nm} {T : Tb} {C : Cb} {s : Sx} {X : Cx} {i e : Nat} {a : Addr} {oe : Obj} {er : Str} {pn : List (Addr × Obj)}
theorem idxS_none {x : Str} : ∀ {l : List Str}, idxS x l = none → ∀ k : Nat, l[k]? ≠ some x
  | [], _, k, h => by simp at h
  | y :: l, z, k, h => by
    unfold idxS at z
    split at z
    · cases z
    · rename_i hy
      cases z2 : idxS x l with
      | some j => rw [z2] at z; cases z
      | none =>
        cases k with
        | zero => simp at h; exact hy h
        | succ k => exact idxS_none z2 k (by simpa using h)
theorem px_isx (U : Suit G T C s X i e a oe er) {f x y : Str} {p1 p2 p3 pos : Pos} {d : Nat} (hf : f = "isinstance") (hx : x = er) (hg : glB s.sc f = true) (hgy : glB s.sc y = true) (hpy : plainN y = true) (hpx : plainN x = true)
    (hd : idxS y G.exs = some d ∨ (y = "ValueError" ∧ d = G.exs.length)) : PE (X.suite a ((a, oe) :: pn)) (.Call (.Name f p1) [.Name x p2, .Name y p3] [] pos) (TXm G X.K i a (ev C (.isx d))) := by
  subst hf hx
  have gl : ∀ {z : Str}, glB s.sc z = true → Gl (X.suite a ((a, oe) :: pn)) z := fun {z} h => by
    show X.env.scope.names.lookup z = some .globalImplicit
    rw [U.eS]; exact glB_ok h
  obtain ⟨db, cd, _⟩ := plainN_ok hpx
  obtain ⟨dby, _, hny⟩ := plainN_ok hpy
  have hN : (X.suite a ((a, oe) :: pn)).N[i]? = some x := by show X.N[i]? = some x; rw [U.eN]; exact idxS_get U.ie
  have hV : Vis (X.suite a ((a, oe) :: pn)).env.scope x := by show Vis X.env.scope x; rw [U.eS]; exact .inl U.el
  have hE : PE (X.suite a ((a, oe) :: pn)) (.Name x p2) (tVar i) := pe_var hN hV db cd
  have fin : ∀ (c : V) (cv : Value), (∀ u, RelV c u → u = cv) → xV G X.K d = cv → PE (X.suite a ((a, oe) :: pn)) (.Name y p3) (tC c) → PE (X.suite a ((a, oe) :: pn)) (.Call (.Name "isinstance" p1) [.Name x p2, .Name y p3] [] pos) (TXm G X.K i a (ev C (.isx d))) := by
    intro c cv hcv exv hY
    refine ⟨fun pins st σ H Q I q => ?_⟩
    obtain ⟨hs, r, f, h, S, p⟩ := q
    rw [ev_isx] at p
    simp only [U.xc, Option.bind_some, U.cT] at p
    cases z : T.subX e d with
    | none => rw [z] at p; exact p.elim
    | some b =>
      rw [z] at p
      have k1 := U.sta.exi e d b z
      rw [exv] at k1
      refine (pe_callB (call_isE (U.sta.exc e d b z) U.hz U.hf) (gl hg) (U.sta.free _ (by simp [bnames])) (by decide +kernel : bootBuiltins "isinstance" = some (.builtin "isinstance")) (pa_cons hE (pa_cons hY pa_nil (star_cons rfl [])) (star_cons rfl _)) (by decide +kernel) (by decide +kernel) (star_cons rfl _) (star_any (es := [.Name y p3]) rfl)).run pins st σ H Q I ?_
      exact ⟨.ref a, hs, c, cv, b, rfl, hcv, k1, post_ok p S.heap rfl⟩
  rcases hd with hd | ⟨ey, ed⟩
  · have hat := idxS_get hd
    have hlt : d < G.exs.length := (List.getElem?_eq_some_iff.mp hat).1
    refine fin (.ref (xA G X.K d)) (.ref (xA G X.K d)) (fun u z => z) (by unfold xV; rw [if_pos hlt]) ?_
    exact pe_glob (gl hgy) (U.sta.exg d y hat) rfl dby
  · subst ey
    refine fin (.ty "ValueError") (.type "ValueError") (fun u z => z) (by unfold xV; rw [ed, if_neg (Nat.lt_irrefl _)]) ?_
    exact pe_bltn (gl hgy) (U.sta.free _ (by simp [bnames])) (by decide +kernel : bootBuiltins "ValueError" = some (.type "ValueError")) rfl (by decide +kernel) (by decide +kernel)
theorem soundX (U : Suit G T C s X i e a oe er) : ∀ (n : Nat) (x : Expr), PE (X.suite a ((a, oe) :: pn)) x (TXm G X.K i a (ev C (compXE G s er n x)))
  | 0, x => by rw [show compXE G s er 0 x = E.bad from rfl, ev_bad]; exact px_bad
  | n + 1, x => by
    have ih := soundX U n
    have bad : PE (X.suite a ((a, oe) :: pn)) x (TXm G X.K i a (ev C .bad)) := by rw [ev_bad]; exact px_bad
    cases x with
    | Name y p =>
      simp only [compXE]
      split
      · exact bad
      · rename_i hc
        simp only [Bool.or_eq_true, Bool.not_eq_true', not_or, Bool.not_eq_false, decide_eq_true_eq] at hc
        obtain ⟨db, cd, _⟩ := plainN_ok hc.1
        split
        · rename_i hv
          split
          · rename_i j hj
            rw [ev_v]
            refine px_of (pe_weak (pe_var (i := j) ?_ ?_ db cd) te_var)
            · show X.N[j]? = some y; rw [U.eN]; exact idxS_get hj
            · show Vis X.env.scope y; rw [U.eS]; exact visB_ok hv
          · exact bad
        · exact bad
    | Constant c kk p =>
      cases c with
      | bool b => simp only [compXE]; rw [ev_bl]; exact px_of (pe_weak pe_bl (te_c fun _ _ => rfl))
      | str z => simp only [compXE]; rw [ev_str]; exact px_of (pe_weak pe_str (te_c fun _ _ => rfl))
      | _ => exact bad
    | BinOp y o z p =>
      cases o with
      | Add => simp only [compXE]; rw [ev_bin]; exact px_cat (ih y) (ih z)
      | _ => exact bad
    | UnaryOp o y p =>
      cases o with
      | Not => simp only [compXE]; rw [ev_not]; exact px_not (ih y)
      | _ => exact bad
    | BoolOp o ys p =>
      cases o with
      | And =>
        rcases ys with _ | ⟨y, _ | ⟨z, _ | ⟨u, ys⟩⟩⟩
        · exact bad
        · exact bad
        · simp only [compXE]; rw [ev_and]; exact px_and (ih y) (ih z)
        · exact bad
      | Or => exact bad
    | List ys p =>
      simp only [compXE]
      split
      · rename_i hs
        exact px_lst (C := C) ih hs
      · exact bad
    | Call f args kws p =>
      cases kws with
      | cons k1 k2 =>
        have e1 : compXE G s er (n + 1) (.Call f args (k1 :: k2) p) = .bad := by
          cases f <;> first | rfl | (rcases args with _ | ⟨y, _ | ⟨z, _ | ⟨u, args⟩⟩⟩ <;> first | rfl | (cases y <;> first | rfl | (cases z <;> rfl)))
        rw [e1]; exact bad
      | nil =>
        by_cases hsh : ∃ fn p1 y p2 z p3, f = .Name fn p1 ∧ args = [.Name y p2, .Name z p3]
        · obtain ⟨fn, p1, y, p2, z, p3, rfl, rfl⟩ := hsh
          simp only [compXE]
          split
          · rename_i hc
            simp only [Bool.and_eq_true, decide_eq_true_eq] at hc
            obtain ⟨⟨⟨⟨⟨h1, h2⟩, h3⟩, h4⟩, h5⟩, h6⟩ := hc
            split
            · rename_i d hd
              exact px_isx U h1 h2 h3 h4 h5 h6 (.inl hd)
            · split
              · rename_i hv
                exact px_isx U h1 h2 h3 h4 h5 h6 (.inr ⟨hv, rfl⟩)
              · exact bad
          · exact bad
        · have e1 : compXE G s er (n + 1) (.Call f args [] p) = .bad := by
            cases f with
            | Name fn p1 =>
              rcases args with _ | ⟨y, _ | ⟨z, _ | ⟨u, args⟩⟩⟩
              · rfl
              · cases y <;> rfl
              · cases y with
                | Name y p2 =>
                  cases z with
                  | Name z p3 => exact absurd ⟨fn, p1, y, p2, z, p3, rfl, rfl⟩ hsh
                  | _ => rfl
                | _ => rfl
              · cases y with
                | Name y p2 => cases z <;> rfl
                | _ => rfl
            | _ => rfl
          rw [e1]; exact bad
    | _ => exact bad
/-- .. its statements -/
def PostX (G : Nm) (K : PySem.W.Frag) (i : Nat) (a : Addr) (D : Ends) (r : List Addr) (H : Hp) (x : RS) : Prop := match x with
  | .nx f h => ∀ r' H' σ', Ext r H r' H' → RelS G K r' f h σ' H' → Sl i a σ' → D.nx σ' H'
  | _ => False
abbrev TXs (G : Nm) (K : PySem.W.Frag) (i : Nat) (a : Addr) (m : F → Hm → RS) : TS := fun D σ H => Sl i a σ ∧ ∃ r f h, RelS G K r f h σ H ∧ PostX G K i a D r H (m f h)
theorem PostX.ext {K : PySem.W.Frag} {D : Ends} {r r' : List Addr} {H H' : Hp} {x : RS} (p : PostX G K i a D r H x) (z : Ext r H r' H') : PostX G K i a D r' H' x := by
  cases x with
  | nx f h => exact fun r2 H2 σ2 z2 S hs => p r2 H2 σ2 (z.trans z2) S hs
  | _ => exact p
theorem psx_bad {st : Stmt} {Y : Cx} {K : PySem.W.Frag} : PS Y st (TXs G K i a fun _ _ => .bad) := ⟨fun _ _ _ _ _ _ q => by obtain ⟨_, _, _, _, _, p⟩ := q; exact p.elim⟩
theorem pssx_of {C : Cb} {Y : Cx} {K : PySem.W.Frag} {cs : Stmt → S} (hp : ∀ st, PS Y st (TXs G K i a (exec C (cs st)))) : ∀ (sts : List Stmt), PSs Y sts (TXs G K i a (exec C (seqS (sts.map cs))))
  | [] => pss_weak pss_nil fun D σ H ⟨hs, r, f, h, S, p⟩ => by
      have p : PostX G K i a D r H (.nx f h) := p
      exact p r H σ .refl S hs
  | st :: sts => by
    refine pss_weak (pss_cons (hp st) (pssx_of hp sts)) ?_
    rintro D σ H ⟨hs, r, f, h, S, p⟩
    have p : PostX G K i a D r H (match exec C (cs st) f h with
      | .nx f1 h1 => exec C (seqS (sts.map cs)) f1 h1
      | x => x) := p
    refine ⟨hs, r, f, h, S, ?_⟩
    cases z : exec C (cs st) f h with
    | nx f1 h1 => rw [z] at p; exact fun r1 H1 σ1 e1 S1 hs1 => ⟨hs1, r1, f1, h1, S1, p.ext e1⟩
    | _ => rw [z] at p; exact p
theorem soundXS (U : Suit G T C s X i e a oe er) : ∀ (n : Nat) (st : Stmt), PS (X.suite a ((a, oe) :: pn)) st (TXs G X.K i a (exec C (compXS G s er n st)))
  | 0, st => psx_bad
  | n + 1, st => by
    have ih := fun st => soundXS U n st
    have se := soundX U n (pn := pn)
    cases st with
    | Assign ts x p =>
      rcases ts with _ | ⟨t, _ | ⟨t2, ts⟩⟩
      · exact psx_bad
      · cases t with
        | Name y py =>
          simp only [compXS]
          split
          · rename_i hc
            simp only [Bool.and_eq_true, Bool.not_eq_true', decide_eq_false_iff_not] at hc
            obtain ⟨⟨⟨h1, h2⟩, h3⟩, h4⟩ := hc
            split
            · rename_i j hj
              have hat : (X.suite a ((a, oe) :: pn)).N[j]? = some y := by show X.N[j]? = some y; rw [U.eN]; exact idxS_get hj
              have hl : L2.Loc (X.suite a ((a, oe) :: pn)).env.scope y := by
                show L2.Loc X.env.scope y
                rw [U.eS]
                rw [U.eT] at h1
                exact locB_ok h1
              have hne : j ≠ i := fun z => h3 (by
                have a1 := idxS_get hj
                have a2 := idxS_get U.ie
                rw [z] at a1
                exact Option.some.inj (a1.symm.trans a2))
              refine ps_weak (ps_set (i := j) (by show X.N.Nodup; rw [U.eN]; exact U.nd) hat hl (se x) ?_ (.inl (U.fn y))) ?_
              · cases x <;> first | rfl | cases h4
              · rintro D σ H ⟨hs, r, f, h, S, p⟩
                have p : PostX G X.K i a D r H ((ev C (compXE G s er n x) f h).asS f fun w h1 => (match stV j w f with | some f1 => .nx f1 h1 | none => .bad)) := p
                refine ⟨hs, r, f, h, S, ?_⟩
                cases z : ev C (compXE G s er n x) f h with
                | bad => rw [z] at p; exact p
                | exc c h1 => rw [z] at p; exact p.elim
                | ok w h1 =>
                  rw [z] at p
                  intro r1 H1 v e1 R1 q1
                  have p : PostX G X.K i a D r H (match stV j w f with | some f1 => .nx f1 h1 | none => .bad) := p
                  unfold stV at p
                  split at p
                  · rename_i f1 hf
                    split at hf
                    · cases hf
                      refine p r1 H1 _ e1 ((S.ext e1 R1).set q1) ?_
                      show (σ.set j (some v))[i]? = _
                      rw [List.getElem?_set_ne hne]; exact hs
                    · cases hf
                  · exact p.elim
            · exact psx_bad
          · exact psx_bad
        | _ => exact psx_bad
      · have e1 : compXS G s er (n + 1) (.Assign (t :: t2 :: ts) x p) = .bad := by cases t <;> rfl
        rw [e1]; exact psx_bad
    | If c b d p =>
      cases d with
      | cons d1 d2 => exact psx_bad
      | nil =>
        simp only [compXS]
        split
        · rename_i hcall
          have pt : PT (X.suite a ((a, oe) :: pn)) c (fun σ H Q => Sl i a σ ∧ TTm G X.K Wno (ev C (compXE G s er n c)) σ H Q) := by
            have hpl : plainT c = true := by cases c <;> first | rfl | cases hcall
            refine pt_weak (pt_val (se c) (isTrue_plainT hpl _)) ?_
            rintro σ H Q ⟨hs, r, f, h, S, q⟩
            exact ⟨hs, r, f, h, S, post_tst q⟩
          refine ps_weak (ps_if pt (pssx_of ih b) (pssx_of (cs := compXS G s er n) ih [])) ?_
          rintro D σ H ⟨hs, r, f, h, S, p⟩
          have p : PostX G X.K i a D r H ((ev C (compXE G s er n c) f h).asS f fun w h1 => (match w with
            | .bl true => exec C (seqS (b.map (compXS G s er n))) f h1
            | .bl false => exec C .nil f h1
            | _ => .bad)) := p
          refine ⟨hs, r, f, h, S, ?_⟩
          dsimp only
          cases z : ev C (compXE G s er n c) f h with
          | bad => rw [z] at p; exact p
          | exc c h1 => rw [z] at p; exact p.elim
          | ok w h1 =>
            rw [z] at p
            cases w with
            | bl bb =>
              intro r1 H1 b' e1 R1 q
              have q : bb = b' := q
              subst q
              cases bb with
              | true =>
                have p : PostX G X.K i a D r H (exec C (seqS (b.map (compXS G s er n))) f h1) := p
                exact ⟨hs, r1, f, h1, S.ext e1 R1, p.ext e1⟩
              | false =>
                have p : PostX G X.K i a D r H (exec C (seqS (([] : List Stmt).map (compXS G s er n))) f h1) := p
                exact ⟨hs, r1, f, h1, S.ext e1 R1, p.ext e1⟩
            | _ => exact p.elim
        · exact psx_bad
    | _ => exact psx_bad
end
end WL

/-! a lambda handed to a def that calls it -/
namespace WL
open PySem PySem.Spec PyProof.Rows L2
section
variable {X : Cx} {pins : List (Addr × Obj)} {σ : St} {H : Hp} {s : Shared}
theorem lam_mkT {T : List (Addr × Str)} {c P : Addr} {params : Arguments} {body : Expr} {scope : Scope} {pos : Pos} {En : Value → Shared → Prop} {Q : Value → Shared → Prop} (I : Inv X pins σ H s) (TB : LamX.TabB X.base X.mg c P) (hcode : X.env.code = .ref c)
    (hm : (P, X.env.qual ++ "<lambda>") ∈ T) (hu : ∀ p ∈ T, p.1 = P → p.2 = X.env.qual ++ "<lambda>") (hT : LamX.Tabs T H) (hdef : defaultsOf params X.env = ([], [])) (hfree : ∀ y ∈ scope.names, y.2 = .free → ∃ c, X.env.cells.lookup y.1 = some c)
    (fin : ∀ (f c1 : Addr) (pm ctv : Value) (H1 : Hp) (s1 : Shared), Inv X pins σ H1 s1 → LamX.ExtN H H1 → (∀ b, H1 b = none → H b = none) → LamX.Tabs T H1 → s1.heap.get? f = some (PySem.W.kla_obj "<lambda>" (X.env.qual ++ "<lambda>") params body scope (cloFrom X.env.cells scope.names []) pm c1 ctv) →
      H1 f = none → f ∉ frs X.stack → H1 c1 = some (LamX.CodeO c1 (X.env.qual ++ "<lambda>")) → Q (.ref f) s1) :
    wpAny (model X.prog X.w) X.A (eval (.Lambda params body scope pos) X.env) Q En s := by
  have off : ∀ f, s.heap.objs.size ≤ f → f ∉ frs X.stack := fun f hf z => by
    rcases List.mem_cons.mp (I.stkSub _ z) with y | y
    · have lt := I.lt
      rw [← y] at lt
      exact Nat.lt_irrefl _ (Nat.lt_of_lt_of_le lt hf)
    · exact I.nofs hf y
  obtain ⟨ps, hP, ht, ha⟩ := hT _ hm
  have hP' : s.heap.get? P = some { cls := .none, data := .fields ps } := I.hok P _ hP
  have bP := TB.bm.keeps I.bk
  refine PySem.W.kla_eval hdef ?_
  cases hc : codeAmong pos ps.toList with
  | some cv =>
    obtain ⟨c1, z, hco⟩ := ha pos cv hc
    subst z
    refine PySem.W.kla_makeFunctionHit (mg := X.mg) (c := c) (P := P) (ps := ps) (closure_ok hfree) I.ok.glob (I.mod.glob.keeps I.bk) hcode (TB.code.keeps I.bk) hP' ht hc bP fun ctv h' tk hx hsz => ?_
    have J : Inv X pins σ H { s with heap := h'.push (PySem.W.kla_obj "<lambda>" (X.env.qual ++ "<lambda>") params body scope (cloFrom X.env.cells scope.names []) ((X.mg "__name__").getD .none) c1 ctv), toks := tk } := I.kept fun b o z => Heap.get?_push_of_some _ (hx b o z)
    exact fin _ c1 _ ctv H _ J (LamX.ExtN.refl H) (fun b z => z) hT (Heap.get?_push_size _ rfl) (I.hok.fresh hsz) (off _ hsz) hco
  | none =>
    refine PySem.W.kla_makeFunction (mg := X.mg) (c := c) (P := P) (ps := ps) (closure_ok hfree) I.ok.glob (I.mod.glob.keeps I.bk) hcode (TB.code.keeps I.bk) hP' ht hc TB.gP bP fun c1 ctv h' tk hx hge hlt hrec htb => ?_
    obtain ⟨c2, oc, vs, t, z2, hoc, hdt, hv⟩ := hrec
    cases z2
    have hsz : s.heap.objs.size ≤ h'.objs.size := Nat.le_trans hge (Nat.le_of_lt hlt)
    have nC : H c1 = none := I.hok.fresh hge
    have nPc : P ≠ c1 := ne_of_none hP nC
    have J := LamX.inv_table (t' := tk) (more := #[rawInt pos.line, rawInt pos.col, .ref c1]) (h' := h'.push (PySem.W.kla_obj "<lambda>" (X.env.qual ++ "<lambda>") params body scope (cloFrom X.env.cells scope.names []) ((X.mg "__name__").getD .none) c1 ctv)) I hP (fun b o hb z => Heap.get?_push_of_some _ (hx b o hb z)) (Heap.get?_push_of_some _ htb) hge
      ⟨oc, vs, t, Heap.get?_push_of_some _ hoc, hdt, hv⟩
    have eN : LamX.ExtN H (upd (upd H P (.tbl (ps ++ #[rawInt pos.line, rawInt pos.col, .ref c1]))) c1 (LamX.CodeO c1 (X.env.qual ++ "<lambda>"))) := fun b o z nt => by
      have nb : b ≠ P := fun y => nt ps (Option.some.inj (z.symm.trans (by rw [y]; exact hP)))
      rw [upd_ne (ne_of_none z nC), upd_ne nb]; exact z
    have lst : (ps ++ #[rawInt pos.line, rawInt pos.col, .ref c1]).toList = ps.toList ++ [rawInt pos.line, rawInt pos.col, .ref c1] := by simp
    have T1 : LamX.Tabs T (upd (upd H P (.tbl (ps ++ #[rawInt pos.line, rawInt pos.col, .ref c1]))) c1 (LamX.CodeO c1 (X.env.qual ++ "<lambda>"))) := fun p hp => by
      by_cases hb : p.1 = P
      · rw [hu p hp hb, hb]
        refine ⟨_, by rw [upd_ne nPc, upd_same], by rw [lst]; exact PySem.TriplesOk_snoc _ _ _ _ ht, fun p2 cv y => ?_⟩
        rw [lst] at y
        rcases LamX.among_app _ ht y with y | y
        · obtain ⟨c0, k1, k2⟩ := ha p2 cv y
          exact ⟨c0, k1, eN _ _ k2 LamX.codeO_ne⟩
        · exact ⟨c1, y, upd_same⟩
      · obtain ⟨ps2, k1, k2, k3⟩ := hT p hp
        refine ⟨ps2, by rw [upd_ne (ne_of_none k1 nC), upd_ne hb]; exact k1, k2, fun p2 cv y => ?_⟩
        obtain ⟨c0, l1, l2⟩ := k3 p2 cv y
        exact ⟨c0, l1, eN _ _ l2 LamX.codeO_ne⟩
    have hP2 : P < s.heap.objs.size := Heap.lt_size hP'
    refine fin h'.objs.size c1 _ ctv _ _ J eN (fun b z => NdefX.upd_none (NdefX.upd_none z)) T1 (Heap.get?_push_size _ rfl) ?_ (off _ hsz) upd_same
    rw [upd_ne (Nat.ne_of_gt hlt), upd_ne (Nat.ne_of_gt (Nat.lt_of_lt_of_le hP2 hsz))]
    exact I.hok.fresh hsz
/-- a(), in the def that got the lambda; what is raised, at the slots of that def -/
theorem pe_actS {CXg : CXT} {Eg : XK} {Ng : List Str} {qg : Str} {sg : Scope} {g f c1 : Addr} {cdg pm ctv : Value} {params : Arguments} {body : Expr} {scope : Scope} {k i : Nat} {a : Str} {pn : List (Addr × Obj)} {xe : Value → Shared → Prop} {W : WX} {tb : XK → TE} {p1 p2 : Pos}
    (I : Inv X pins σ H s) (L : LamX.LamS X.env.scope scope) (hf : s.heap.get? f = some (PySem.W.kla_obj "<lambda>" (X.env.qual ++ "<lambda>") params body scope (cloFrom X.env.cells scope.names []) pm c1 ctv)) (hfn : H f = none) (hfr : f ∉ frs X.stack)
    (hbind : bindArgs (PySem.W.kla_fn "<lambda>" (X.env.qual ++ "<lambda>") params body scope (cloFrom X.env.cells scope.names []) pm (.ref c1) ctv) ⟨[], []⟩ = pure [])
    (tk : Takes ((cxOf CXg X.prog X.w X.K X.mg X.base Ng qg sg g cdg X.A X.stack s H Eg).tr pn xe) W) (hr : Room (k + 1) (X.A.deeper (envOfC qg sg s.heap.objs.size g cdg)))
    (hbody : ∀ (A : Around) (outer : List Env) (s : Shared) (H : Hp) (En : XK), Room k (A.deeper (LamX.lamEnv X scope s.heap.objs.size f c1)) → PE (LamX.lamCx X A outer s H En scope f c1) body (tb En))
    (hN : Ng[i]? = some a) (hv : Vis sg a) (hd : (a == ("__debug__" : Str)) = false) (hcd : (a == ("__classdict__" : Str)) = false) :
    PE ((cxOf CXg X.prog X.w X.K X.mg X.base Ng qg sg g cdg X.A X.stack s H Eg).tr pn xe) (.Call (.Name a p1) [] [] p2)
      (fun σZ HZ Q => σZ[i]? = some (some (.ref f)) ∧ HZ c1 = some (LamX.CodeO c1 (X.env.qual ++ "<lambda>")) ∧ tb (WE W σZ) σ HZ Q) := by
  refine ⟨fun pinsZ sZ σZ HZ Q IZ q => ?_⟩
  obtain ⟨hs, hc, ht⟩ := q
  have look := (pe_var (pos := p1) (i := i) hN hv hd hcd).run pinsZ sZ σZ HZ (fun v H1 => v = .ref f ∧ H1 = HZ) IZ ⟨.ref f, hs, rfl, rfl⟩
  refine wpAny_Call_Name_kw (thn look fun u s1 ⟨v, H1, I1, r1, ev, eH⟩ => ?_)
  subst ev
  rw [eH] at I1
  obtain rfl : u = Value.ref f := r1
  have getf := I1.base.keep f _ hf hfn hfr (fun z => nomatch (show f ∈ ([] : List Addr) from z))
  refine PySem.W.callWith_F0 ⟨_, _, _, _, getf⟩ ?_
  have un : Un (frs X.stack) [] H HZ s.heap s1.heap := I1.base
  have run1 : codeAny (model X.prog X.w) (X.A.deeper (envOfC qg sg s.heap.objs.size g cdg)) (.call (.ref f) ⟨[], []⟩) (CR (L2.CX X.prog X.w) (envOfC qg sg s.heap.objs.size g cdg :: X.stack) X.prog X.w HZ s1 Q (WE W σZ)) s1 := by
    refine PySem.W.kla_callFunE hr.depth getf rfl L.co L.gen rfl (NdefX.codeO_at I1.hok hc) ?_
    rw [hbind]
    refine wpAny_pure (wpAny_newFunctionEnv (fun y hy => (L.own y hy).2) (fun y hy => absurd hy (by simp)) (fun h1 hns hsb => ⟨I1.nolimit.fresh _ hsb, ?_⟩) L.kind)
    have kp : ∀ b o, s1.heap.get? b = some o → h1.get? b = some o := fun b o z => hsb.extBut b o (Nat.ne_of_lt (Heap.lt_size z)) (Heap.get?_push_of_some _ z)
    have J := LamX.lam_start2 (A := X.A.deeper (envOfC qg sg s.heap.objs.size g cdg)) (outer := envOfC qg sg s.heap.objs.size g cdg :: X.stack) (E := WE W σZ) (f := f) (c' := c1) (tk := s1.toks + ([] : List (Str × Value)).length) I L I1.env0 hr.hd un hns kp
    refine PySem.W.kla_codeExpr (wpAny_mono ((hbody _ _ s1 HZ _ (hr.deeper _)).run [] _ _ HZ Q J ht) (fun v s' z => ?_) fun x s' z => z)
    obtain ⟨w', H', J', rv, q⟩ := z
    exact ⟨w', H', J'.os, J'.bare, J'.base, J'.hok, rv, q⟩
  refine wpAny_call (codeAny_mono run1 fun res s' z => ?_)
  cases res with
  | error x => exact passAt tk σZ pinsZ HZ s1 x s' I1 z
  | ok fl =>
    cases fl with
    | ret u => exact I1.after z
    | _ => exact False.elim z
end
end WL

/-! f(lambda: ..) -/
namespace WL
open PySem PySem.Spec PyProof.Rows L2
theorem thkB_ok {sc scope : Scope} {params : Arguments} (h : thkB sc params scope = true) : plainA params = true ∧ params.args = [] ∧ params.defaults = [] ∧ params.kw_defaults = [] ∧ LamX.LamS sc scope := by
  unfold thkB at h
  simp only [Bool.and_eq_true, List.isEmpty_iff] at h
  obtain ⟨⟨⟨⟨h1, h2⟩, h3⟩, h4⟩, h5⟩ := h
  exact ⟨h1, h2, h3, h4, LamX.lamS_by h5⟩
section
variable {G : Nm} {X : Cx} {Wx : WX}
theorem pe_constE {C : Cb} {e : Expr} {e0 : E} (h : constE e = some e0) : PE X e (TEm G X.K Wx (ev C e0)) ∧ noComp e = true := by
  unfold constE at h
  split at h
  · cases h
    refine ⟨?_, rfl⟩
    rw [ev_lst]
    refine pe_weak (pe_lst pa_nil) fun σ H Q q => ?_
    have q2 := te_lst (G := G) (X := X) (Wx := Wx) σ H Q q
    obtain ⟨r, f, hh, S, p⟩ := q2
    rw [evs_nil] at p
    exact p r H [] .refl S.heap rfl
  · cases h; exact ⟨by rw [ev_bl]; exact pe_weak pe_bl (te_c fun _ _ => rfl), rfl⟩
  · cases h; exact ⟨by rw [ev_str]; exact pe_weak pe_str (te_c fun _ _ => rfl), rfl⟩
  · cases h
theorem set_none {K : PySem.W.Frag} {r : List Addr} {f : F} {h : Hm} {σ : St} {H : Hp} {i : Nat} {v : Option V} (S : RelS G K r f h σ H) : RelS G K r (f.set i none) h (σ.set i v) H := by
  refine ⟨S.heap, fun j w hj => ?_, by simp [S.len]⟩
  by_cases e : j = i
  · subst e
    by_cases hl : j < f.length
    · rw [List.getElem?_set_self hl] at hj; cases hj
    · rw [List.getElem?_eq_none (by simpa using hl)] at hj; cases hj
  · rw [List.getElem?_set_ne (Ne.symm e)] at hj ⊢
    exact S.fr j w hj
end
section
variable {G : Nm} {T : Tb} {j : Nat} {C : Cb} {s : Sx} {X : Cx} {Wx : WX}
theorem pe_thk (O : Good G T (j + 2) C s X Wx) {g : Nat} {x : Str} {p lp pos : Pos} {params : Arguments} {body : Expr} {scope : Scope} {b : E} {Cl : Cb} (hml : s.ml = true) (hg : Gl X x) (hpn : plainN x = true) (hx : idxF x G.fns = some g) (hth : thkB s.sc params scope = true)
    (hbody : ∀ (A : Around) (outer : List Env) (st : Shared) (H : Hp) (En : XK) (f c1 : Addr), Room j (A.deeper (LamX.lamEnv X scope st.heap.objs.size f c1)) → PE (LamX.lamCx X A outer st H En scope f c1) body (TEm G X.K (fun cl d _ H' => En cl d H') (ev Cl b))) :
    PE X (.Call (.Name x p) [.Lambda params body scope lp] [] pos) (TEm G X.K Wx fun f h => runT (cbM T (j + 1)) g (fun h1 => ev Cl b f h1) h) := by
  obtain ⟨a1, a2, a3, a4, a5⟩ := thkB_ok hth
  have hat := idxF_get hx
  refine ⟨fun pins st σ H Q I q => ?_⟩
  obtain ⟨r, f, h, S, q⟩ := q
  dsimp only at q
  unfold runT at q
  rw [cbM_tb] at q
  split at q
  · rename_i tk htk
    obtain ⟨x', d, fd, hx', en, eq, F, hB, hT⟩ := O.sta.tks g tk htk
    rw [hat] at hx'
    cases hx'
    obtain ⟨oc, od, dV, kV, doc, pm0, an, cdv, ct, osl, efd, lk, hcd, hDf, _⟩ := F.ex
    have LS : LamX.LamS X.env.scope scope := by rw [O.eS]; exact a5
    have mk : MkOk G X.K X.mg X.base X.env.code (X.env.qual ++ "<lambda>") := by
      rcases O.mkr with z | z
      · exact z
      · rw [hml] at z; cases z
    obtain ⟨c, P, hcode, TB, hm, hu⟩ := mk
    -- the def's text
    unfold defB at hB
    simp only [Bool.and_eq_true, List.isEmpty_iff] at hB
    obtain ⟨⟨⟨b1, b2⟩, b3⟩, b4⟩ := hB
    have sc := scope_ok b4
    unfold tkOf at hT
    split at hT
    · rename_i y py e1 pa1 a pa2 pa3 pa4 xc pxc er s0 suite ph pt y2 py2 pr hbd
      split at hT
      · rename_i e0 iy c0 ie iy2 hc0 hiy hic hie hiy2
        split at hT
        · rename_i hcond
          simp only [Bool.and_eq_true, decide_eq_true_eq, Bool.not_eq_true', decide_eq_false_iff_not] at hcond
          obtain ⟨⟨⟨⟨⟨⟨⟨⟨⟨⟨⟨⟨g1, g2⟩, g3⟩, g4⟩, g5⟩, g6⟩, g7⟩, g8⟩, g9⟩, g10⟩, g11⟩, g12⟩, g13⟩ := hcond
          cases hT
          dsimp only at q
          have hmg := O.sta.glo g x hat
          refine wpAny_Call_Name_kw (ld_glob I hg hmg ?_ (plainN_ok hpn).1)
          refine PySem.W.callWith_K (h₀ := X.base) I.ok.mod.kin F.kp ?_ (by rfl) (by rfl)
          show wpAny _ _ (spliced ((false, eval (.Lambda params body scope lp) X.env) :: backTo pos (starEach [] X.env))) _ _ st
          refine Calls.spliced_cons (lam_mkT I TB hcode hm hu S.heap.tabs (def_nil a3 a4 _) (LS.has I.ok) fun fa c1 pm ctv H1 s1 I1 eN back T1 hf hfn hfr hco => ?_)
          refine Calls.spliced_nil ⟨I1.kIn, ?_⟩
          obtain ⟨x1, R1⟩ := S.heap.extN eN back T1
          have S1 := S.ext x1 R1
          have hbind : bindArgs (PySem.W.kla_fn "<lambda>" (X.env.qual ++ "<lambda>") params body scope (cloFrom X.env.cells scope.names []) pm (.ref c1) ctv) ⟨[], []⟩ = pure [] := by
            have z := bind_plain (fd := PySem.W.kla_fn "<lambda>" (X.env.qual ++ "<lambda>") params body scope (cloFrom X.env.cells scope.names []) pm (.ref c1) ctv) (ps := []) (us := []) a1 rfl (by show params.args.map (·.arg) = []; rw [a2]; rfl) List.nodup_nil rfl
            exact z
          have hps : parN d.params = [a] := g1
          have hnd : (parN d.params).Nodup := by rw [← sc.pre]; exact sc.nd.sublist (List.take_sublist _ _)
          have hB2 : Binds X.K fd [a] [] := by
            rw [← hps]
            exact F.bindsN fun kV doc pm an cdv ct us hl => bind_plain b1 rfl rfl hnd hl
          subst efd
          have N0 : (slotN d)[0]? = some a := by
            have z := sc.pre
            rw [hps] at z
            cases hN : slotN d with
            | nil => rw [hN] at z; cases z
            | cons n0 ns => rw [hN] at z; simp at z; simp [z]
          have nlen : 1 ≤ (slotN d).length := (List.getElem?_eq_some_iff.mp N0).1
          -- the end of the call
          have rc : codeAny (model X.prog X.w) X.A (.call (.ref (fA G X.K g)) ⟨[.ref fa], []⟩) (CR (L2.CX X.prog X.w) X.stack X.prog X.w H1 s1 Q fun _ _ _ => False) s1 := by
            refine LamX.run_ofS (N := slotN d) (ps := [a]) (us := [.ref fa]) (vs := [.ref fa]) lk hcd (by rw [← hps]; exact sc) O.room I1.env0 (hB2 s1 [.ref fa] I1.kIn rfl) (.cons rfl .nil) rfl fun hr1 => ?_
            rw [hbd]
            let Xg : Cx := cxOf (L2.CX X.prog X.w) X.prog X.w X.K X.mg X.base (slotN d) d.qual d.scope (fA G X.K g) cdv X.A X.stack s1 H1 fun _ _ _ => False
            have pe1 := pe_constE (G := G) (X := Xg) (Wx := Wno) (C := cbM T (j + 1)) hc0
            have yAt : Xg.N[iy]? = some y := idxS_get hiy
            have ps1 : PS Xg (.Assign [.Name y py] e1 pa1) (tAsg (TEm G X.K Wno (ev (cbM T (j + 1)) e0)) (gName iy)) :=
              ps_set sc.nd yAt (locB_ok g2) pe1.1 (by cases e1 <;> first | rfl | cases pe1.2) (.inl rfl)
            have ps3 : PS Xg (.Return (some (.Name y2 py2)) pr) (tRet (tVar iy2)) := by
              obtain ⟨db, cd, _⟩ := plainN_ok g10
              exact ps_ret (pe_var (idxS_get hiy2) (visB_ok g9) db cd)
            obtain ⟨dba, cda, _⟩ := plainN_ok g5
            have ps2 := ps_try_as (X := Xg) (x := xc) (n := er) (c := .ref (xA G X.K c0)) (i := ie) (body := [.Expr (.Call (.Name a pa2) [] [] pa3) pa4]) (b₀ := s0) (suite := suite) (np := pxc) (pos := pt) (pos' := ph) (Wout := fun _ _ _ _ => False)
              (tb := fun W D σZ HZ => σZ[0]? = some (some (.ref fa)) ∧ HZ c1 = some (LamX.CodeO c1 (X.env.qual ++ "<lambda>")) ∧ TEm G X.K (fun cl d _ H' => WE W σZ cl d H') (ev Cl b) σ HZ fun _ HY => D.nx σZ HY)
              (ts := fun ea cls dd D σZ HZ => ∃ e, cls = .ref (xA G X.K e) ∧ dd = none ∧ TXs G X.K ie ea (exec (xcC (cbM T (j + 1)) e) (seqS ((s0 :: suite).map (compXS G (sxOf G d) er 40)))) D σZ HZ)
              rfl rfl sc.nd (idxS_get hie) g8 ⟨glB_ok g7, (plainN_ok g6).1, .inl (O.sta.exg c0 xc (idxS_get hic))⟩ takes0
              (fun W pn xe tk _ => by
                have act := pe_actS (i := 0) (k := j) (p1 := pa2) (p2 := pa3) (tb := fun En => TEm G X.K (fun cl d _ H' => En cl d H') (ev Cl b)) I1 LS hf hfn hfr hbind tk hr1 (fun A outer st H En hr2 => hbody A outer st H En fa c1 hr2) N0 (visB_ok g4) dba cda
                exact pss_one (ps_expr act))
              (fun ea oe cls dd pn hz hfl => by
                refine ⟨fun pins2 s2 σ2 H2 D I2 q2 => ?_⟩
                obtain ⟨e, ec, ed, q2⟩ := q2
                subst ec ed
                have U : Suit G T (xcC (cbM T (j + 1)) e) (sxOf G d) Xg ie e ea oe er := ⟨rfl, sc.nd, rfl, rfl, hie, g8, O.sta, cbM_tb T (j + 1), rfl, hz, hfl, fun _ => rfl⟩
                exact (pssx_of (soundXS U 40) (s0 :: suite)).run pins2 s2 σ2 H2 D I2 q2)
            refine ⟨_, pss_cons ps1 (pss_cons ps2 (pss_one ps3)), ?_⟩
            have St : RelS G X.K r (List.replicate (slotN d).length none) h (L2.start (slotN d) [.ref fa]) H1 := by
              refine ⟨R1, fun i w hi => ?_, by simp [L2.start]; omega⟩
              rw [List.getElem?_replicate] at hi
              split at hi <;> cases hi
            have q' : PostG G X.K (relW G X.K) Wno [] r H1 ((ev (cbM T (j + 1)) e0 (List.replicate (slotN d).length none) h).bind fun w0 h0 => (match stV iy w0 (List.replicate (slotN d).length none) with
              | some f1 => (match ev Cl b f h0 with
                | .ok _ h1 => (match f1[iy2]? with | some (some w) => .ok w h1 | _ => .bad)
                | .exc e h1 => (match T.subX e c0 with
                  | some true => (match exec (xcC (cbM T (j + 1)) e) (seqS ((s0 :: suite).map (compXS G (sxOf G d) er 40))) (f1.set ie none) h1 with
                    | .nx f2 h2 => (match (f2.set ie none)[iy2]? with | some (some w) => .ok w h2 | _ => .bad)
                    | _ => .bad)
                  | _ => .bad)
                | .bad => .bad)
              | none => .bad)) Q := by
              cases z0 : ev (cbM T (j + 1)) e0 (List.replicate (slotN d).length none) h with
              | bad => rw [z0] at q; exact q.elim
              | exc e h1 =>
                exfalso
                unfold constE at hc0
                split at hc0
                · cases hc0; rw [ev_lst, evs_nil] at z0; simp [R.bind, alloc] at z0
                · cases hc0; rw [ev_bl] at z0; cases z0
                · cases hc0; rw [ev_str] at z0; cases z0
                · cases hc0
              | ok w0 h0 =>
                rw [z0] at q
                simp only [R.bind] at q ⊢
                cases z1 : stV iy w0 (List.replicate (slotN d).length none) with
                | none => rw [z1] at q; exact q.elim
                | some f1 =>
                  rw [z1] at q
                  simp only at q ⊢
                  cases z2 : ev Cl b f h0 with
                  | bad => rw [z2] at q; exact q.elim
                  | ok w1 h1 =>
                    rw [z2] at q
                    simp only at q ⊢
                    cases z3 : f1[iy2]? with
                    | none => rw [z3] at q; exact q.elim
                    | some ow =>
                      rw [z3] at q
                      cases ow with
                      | none => exact q.elim
                      | some w => exact fun r' H' v e' R' qv => q r' H' v (x1.trans e') R' qv
                  | exc e h1 =>
                    rw [z2] at q
                    simp only at q ⊢
                    cases z3 : T.subX e c0 with
                    | none => rw [z3] at q; exact q.elim
                    | some bb =>
                      rw [z3] at q
                      cases bb with
                      | false => exact q.elim
                      | true =>
                        simp only at q ⊢
                        cases z4 : exec (xcC (cbM T (j + 1)) e) (seqS ((s0 :: suite).map (compXS G (sxOf G d) er 40))) (f1.set ie none) h1 with
                        | nx f2 h2 =>
                          rw [z4] at q
                          simp only at q ⊢
                          cases z5 : (f2.set ie none)[iy2]? with
                          | none => rw [z5] at q; exact q.elim
                          | some ow =>
                            rw [z5] at q
                            cases ow with
                            | none => exact q.elim
                            | some w => exact fun r' H' v e' R' qv => q r' H' v (x1.trans e') R' qv
                        | _ => rw [z4] at q; exact q.elim
            refine ⟨r, _, h, St, (PostG.seq' (rel := relW G X.K) q').mono ?_⟩
            rintro v0 H2 ⟨r2, w0, h0, z0, e2, R2, q2, p2⟩
            have St2 := St.ext e2 R2
            have iel : ie < ((L2.start (slotN d) [.ref fa]).set iy (some v0)).length := by
              have z := (List.getElem?_eq_some_iff.mp (idxS_get hie)).1
              simp [L2.start]; omega
            cases z1 : stV iy w0 (List.replicate (slotN d).length none) with
            | none => rw [z1] at p2; exact p2.elim
            | some f1 =>
              rw [z1] at p2
              simp only at p2
              have ef : f1 = (List.replicate (slotN d).length none).set iy (some w0) := by
                unfold stV at z1
                split at z1
                · cases z1; rfl
                · cases z1
              have S2 : RelS G X.K r2 f1 h0 ((L2.start (slotN d) [.ref fa]).set iy (some v0)) H2 := by rw [ef]; exact St2.set q2
              refine ⟨?_, e2.ext c1 _ hco, r2, f, h0, S1.ext e2 R2, ?_⟩
              · rw [List.getElem?_set_ne g12]; simp [L2.start]
              · cases z2 : ev Cl b f h0 with
                | bad => rw [z2] at p2; exact p2.elim
                | ok w1 h1 =>
                  rw [z2] at p2
                  simp only at p2
                  intro r3 H3 u e3 R3 q3
                  cases z3 : f1[iy2]? with
                  | none => rw [z3] at p2; exact p2.elim
                  | some ow =>
                    rw [z3] at p2
                    cases ow with
                    | none => exact p2.elim
                    | some w =>
                      obtain ⟨v, k1, k2⟩ := (S2.ext e3 R3).fr iy2 w z3
                      exact ⟨v, k1, p2 r3 H3 v e3 R3 k2⟩
                | exc e h1 =>
                  rw [z2] at p2
                  simp only at p2
                  intro r3 H3 e3 R3
                  cases z3 : T.subX e c0 with
                  | none => rw [z3] at p2; exact p2.elim
                  | some bb =>
                    rw [z3] at p2
                    cases bb with
                    | false => exact p2.elim
                    | true =>
                      simp only at p2
                      refine ⟨true, O.sta.exm e c0 true z3 (List.getElem?_eq_some_iff.mp (idxS_get hic)).1, fun _ ea nea => ⟨e, rfl, rfl, ?_, r3, f1.set ie none, h1, set_none (S2.ext e3 R3), ?_⟩, fun z => by cases z⟩
                      · show (((L2.start (slotN d) [.ref fa]).set iy (some v0)).set ie (some (.ref ea)))[ie]? = _
                        rw [List.getElem?_set_self iel]
                      · cases z4 : exec (xcC (cbM T (j + 1)) e) (seqS ((s0 :: suite).map (compXS G (sxOf G d) er 40))) (f1.set ie none) h1 with
                        | nx f2 h2 =>
                          rw [z4] at p2
                          simp only at p2
                          intro r4 H4 σ4 e4 S4 hs4
                          cases z5 : (f2.set ie none)[iy2]? with
                          | none => rw [z5] at p2; exact p2.elim
                          | some ow =>
                            rw [z5] at p2
                            cases ow with
                            | none => exact p2.elim
                            | some w =>
                              obtain ⟨v, k1, k2⟩ := (set_none (i := ie) (v := none) S4).fr iy2 w z5
                              exact ⟨v, k1, p2 r4 H4 v (e3.trans e4) S4.heap k2⟩
                        | _ => rw [z4] at p2; exact p2.elim
          refine wpAny_call (codeAny_mono rc fun res s' z => ?_)
          cases res with
          | error e =>
            obtain ⟨_, _, _, _, _, _, _, _, _, _, _, _, z⟩ := z
            exact z.elim
          | ok fl =>
            cases fl with
            | ret u => exact I1.after z
            | _ => exact False.elim z
        · cases hT
      · cases hT
    · cases hT
  · exact q.elim
end
end WL

/-! every expression -/
namespace WL
open PySem PySem.Spec PyProof.Rows L2
section
variable {G : Nm} {T : Tb} {k : Nat} {C : Cb}
/-- what holds of an expression and its compiled form -/
structure SE (G : Nm) (C : Cb) (X : Cx) (Wx : WX) (e : Expr) (c : E) : Prop where
  v : PE X e (TEm G X.K Wx (ev C c))
  t : noIf e = true → PT X e (TTm G X.K Wx (ev C c))
theorem SE.plain {X : Cx} {Wx : WX} {e : Expr} {c : E} (h : plainT e = true) (p : PE X e (TEm G X.K Wx (ev C c))) : SE G C X Wx e c := ⟨p, fun _ => pt_of_pe h p⟩
theorem SE.bad {X : Cx} {Wx : WX} {e : Expr} : SE G C X Wx e .bad := ⟨by rw [ev_bad]; exact pe_bad, fun _ => by rw [ev_bad]; exact pt_bad⟩
variable {s : Sx} {X : Cx} {Wx : WX}
theorem ev_andE {a b : E} {l : List E} : andE (a :: b :: l) = .and a (andE (b :: l)) := rfl
theorem and_ok {ce : Expr → E} (hp : ∀ e, SE G C X Wx e (ce e)) {pos : Pos} : ∀ {es : List Expr}, es.all noIf = true → es ≠ [] → PE X (.BoolOp .And es pos) (TEm G X.K Wx (ev C (andE (es.map ce)))) ∧ PW X (.BoolOp .And es pos) (TTm G X.K Wx (ev C (andE (es.map ce))))
  | [], _, h => absurd rfl h
  | [a], hn, _ => by
    simp only [List.all_cons, Bool.and_eq_true] at hn
    exact ⟨pe_one (hp a).v, pw_and1 ((hp a).t hn.1)⟩
  | a :: b :: es, hn, _ => by
    have hn' := hn
    simp only [List.all_cons, Bool.and_eq_true] at hn'
    obtain ⟨h1, h2⟩ := and_ok hp (es := b :: es) (pos := pos) (by simp only [List.all_cons, Bool.and_eq_true]; exact hn'.2) (by simp)
    have e1 : andE ((a :: b :: es).map ce) = .and (ce a) (andE ((b :: es).map ce)) := rfl
    rw [e1, ev_and]
    exact ⟨pe_weak (pe_and (hp a).v h1) te_and, pw_weak (pw_and ((hp a).t hn'.1) h2) tt_and⟩
theorem or_ok {ce : Expr → E} (hp : ∀ e, SE G C X Wx e (ce e)) {pos : Pos} : ∀ {es : List Expr}, es.all noIf = true → es ≠ [] → PE X (.BoolOp .Or es pos) (TEm G X.K Wx (ev C (orE (es.map ce)))) ∧ PW X (.BoolOp .Or es pos) (TTm G X.K Wx (ev C (orE (es.map ce))))
  | [], _, h => absurd rfl h
  | [a], hn, _ => by
    simp only [List.all_cons, Bool.and_eq_true] at hn
    exact ⟨pe_one (hp a).v, pw_or1 ((hp a).t hn.1)⟩
  | a :: b :: es, hn, _ => by
    have hn' := hn
    simp only [List.all_cons, Bool.and_eq_true] at hn'
    obtain ⟨h1, h2⟩ := or_ok hp (es := b :: es) (pos := pos) (by simp only [List.all_cons, Bool.and_eq_true]; exact hn'.2) (by simp)
    have e1 : orE ((a :: b :: es).map ce) = .or (ce a) (orE ((b :: es).map ce)) := rfl
    rw [e1, ev_or]
    exact ⟨pe_weak (pe_or (hp a).v h1) te_or, pw_weak (pw_or ((hp a).t hn'.1) h2) tt_or⟩
/-- what is walked -/
theorem pi_ok (O : Good G T k C s X Wx) {ce : Expr → E} (hp : ∀ e, SE G C X Wx e (ce e)) (tg iter : Expr) : PI X tg iter (TIm G X.K Wx (evI C (compI ce s tg iter))) := by
  have pv : ∀ e, PE X e (TEm G X.K Wx (ev C (ce e))) := fun e => (hp e).v
  have ibad : PI X tg iter (TIm G X.K Wx (evI C .bad)) := ⟨fun _ _ _ _ _ _ q => by obtain ⟨_, _, _, _, q⟩ := q; exact q.elim⟩
  have gen : PI X tg iter (TIm G X.K Wx (evI C (.sq (ce iter)))) := pi_seqA (hp iter).v
  unfold compI
  split
  · rename_i x px args pc
    split
    · exact ibad
    · rename_i hc
      simp only [Bool.not_eq_true', Bool.not_eq_false, Bool.and_eq_true] at hc
      obtain ⟨⟨h1, h2⟩, h3⟩ := hc
      split
      · rename_i ex
        subst ex
        split
        · rename_i hl
          simp only [Bool.and_eq_true, decide_eq_true_eq] at hl
          exact pi_rngA (O.gl h2) (O.sta.free _ (by simp [bnames])) pv h3 hl.1 hl.2
        · exact ibad
      · split
        · rename_i ex
          subst ex
          split
          · rename_i a b elts kk tpos
            simp only [List.all_cons, Bool.and_eq_true] at h3
            exact pi_zipA' (O.gl h2) (O.sta.free _ (by simp [bnames])) h3.1 h3.2.1 (pv a) (pv b)
          · exact ibad
        · split
          · rename_i ex
            subst ex
            split
            · rename_i a elts kk tpos
              simp only [List.all_cons, Bool.and_eq_true] at h3
              exact pi_enuA (O.gl h2) (O.sta.free _ (by simp [bnames])) h3.1 (pv a)
            · exact ibad
          · exact gen
  · exact gen
theorem pts_ok {X : Cx} {ce : Expr → E} (hp : ∀ e, noIf e = true → PT X e (TTm G X.K Wno (ev C (ce e)))) : ∀ {ifs : List Expr}, ifs.length ≤ 1 → ifs.all noIf = true → PTs X ifs (TTm G X.K Wno (evC C (listE (ifs.map ce))))
  | [], _, _ => by
    rw [show listE (List.map ce []) = E.nil from rfl, evC_nil]
    exact ⟨fun pins st σ H Q I q => pts_nil.run pins st σ H Q I (tt_okb q)⟩
  | [c], _, hn => by
    simp only [List.all_cons, Bool.and_eq_true] at hn
    rw [show listE (List.map ce [c]) = E.cons (ce c) .nil from rfl, evC_e]
    exact pts_one (hp c hn.1)
  | _ :: _ :: _, h, _ => by simp at h
/-- a comprehension's block -/
theorem lc_ok (O : Good G T k C s X Wx) {n : Nat} {ce : Sx → Expr → E} (hp : ∀ (s : Sx) (X : Cx) (Wx : WX), Good G T k C s X Wx → ∀ e, SE G C X Wx e (ce s e)) {elt tg iter : Expr} {ifs : List Expr} {scope : Scope} {pos : Pos} :
    compL ce n s elt tg iter ifs scope = .bad ∨ ∃ own t it cond c, compL ce n s elt tg iter ifs scope = .lc own t it cond c ∧ inOwn t own ∧
      PE X (.ListComp elt [⟨tg, iter, ifs, 0⟩] scope pos) (tLc (TIm G X.K Wx (evI C it)) (TGm G X.K t) (TTm G X.K Wno (evC C cond)) (TEm G X.K Wno (ev C c)) own) ∧
      ∀ (i : Nat) (y : Str) (py spos : Pos), X.N[i]? = some y → X.env.scope.names.lookup y = some .local → swapsWith (.ListComp elt [⟨tg, iter, ifs, 0⟩] scope pos) (some (.Name y py)) spos.line X.env = pure true →
        PS X (.Assign [.Name y py] (.ListComp elt [⟨tg, iter, ifs, 0⟩] scope pos) spos) (tAsg (tLc (TIm G X.K Wx (evI C it)) (TGm G X.K t) (TTm G X.K Wno (evC C cond)) (TEm G X.K Wno (ev C c)) own) (gName i)) := by
  unfold compL
  split
  · exact .inl rfl
  · rename_i hc
    simp only [Bool.not_eq_true', Bool.not_eq_false, Bool.and_eq_true, decide_eq_true_eq] at hc
    obtain ⟨⟨⟨⟨h1, h2⟩, h3⟩, h4⟩, h5⟩ := hc
    have ho : inOwn (compT (blkX s scope) n tg) ((ownOf s.N scope).map (·.2)) := fun i hi => by
      have := (List.all_eq_true.mp h3) i hi
      exact List.contains_iff_mem.mp this
    have hbk : BlkOk X.N X.env.scope scope (ownOf s.N scope) := by rw [O.eN, O.eS]; exact blkOk_by h1
    have hg : ∀ (sh : Shared) (H : Hp) (Ca : Addr) (cl : List (Str × Addr)) (fp : List Addr), PG (X.blk sh H scope (compEnvC scope cl Ca X.env) fp) tg (TGm G X.K (compT (blkX s scope) n tg)) := fun sh H Ca cl fp => pgT (O.blk scope sh H Ca cl fp).toNmOk n tg
    have ht : ∀ (sh : Shared) (H : Hp) (Ca : Addr) (cl : List (Str × Addr)) (fp : List Addr), PTs (X.blk sh H scope (compEnvC scope cl Ca X.env) fp) ifs (TTm G X.K Wno (evC C (listE (ifs.map (ce (blkX s scope)))))) := fun sh H Ca cl fp => pts_ok (fun e hn => (hp _ _ _ (O.blk scope sh H Ca cl fp) e).t hn) h4 h5
    have he : ∀ (sh : Shared) (H : Hp) (Ca : Addr) (cl : List (Str × Addr)) (fp : List Addr), PE (X.blk sh H scope (compEnvC scope cl Ca X.env) fp) elt (TEm G X.K Wno (ev C (ce (blkX s scope) elt))) := fun sh H Ca cl fp => (hp _ _ _ (O.blk scope sh H Ca cl fp) elt).v
    have hN : X.N.Nodup := by rw [O.eN]; exact O.nd
    refine .inr ⟨_, _, _, _, _, rfl, ho, lc_read O.calm hN hbk ho h2 (pi_ok O (hp s X Wx O) tg iter) hg ht he, fun i y py spos hi hl hsw => ?_⟩
    exact ps_setLc O.calm hN hi hl hsw (pi_ok O (hp s X Wx O) tg iter) hbk hg ht he (foldSet h2 X.env)
theorem ev_lcM {own : List Nat} {t it cond c : E} : ev C (.lc own t it cond c) = mLc C own t it cond c fun ws h2 => alloc (.lst ws) h2 := ev_lc C
theorem ev_aggM {b : B} {own : List Nat} {t it cond c : E} : ev C (.agg b (.lc own t it cond c)) = mLc C own t it cond c fun ws h2 => bltL b ws h2 := ev_agg C
theorem nil_ok {ce : Expr → E} : ∀ {es : List Expr}, es = [] → ∀ σ H Q, TAm G X.K Wx (evs C (listE (es.map ce))) σ H Q → Q [] H := by
  rintro es rfl σ H Q q
  rw [show listE (List.map ce []) = E.nil from rfl, evs_nil] at q
  exact ta_nil σ H Q q
theorem clOf_own {y : Str} {d : Nat} (h : clOf G y = some (.own d)) : G.cls[d]? = some y := by
  unfold clOf at h
  split at h
  · cases h
  · split at h
    · cases h
    · split at h
      · cases h
      · split at h
        · cases h
        · split at h
          · cases h
          · cases z : idxS y G.cls with
            | none => rw [z] at h; cases h
            | some e => rw [z] at h; cases h; exact idxS_get z
theorem clOf_eq {y : Str} {c : Cl} (h : clOf G y = some c) (hc : ∀ d, c ≠ .own d) : y = clNm c := by
  unfold clOf at h
  split at h
  · cases h; assumption
  · split at h
    · cases h; assumption
    · split at h
      · cases h; assumption
      · split at h
        · cases h; assumption
        · split at h
          · cases h; assumption
          · cases z : idxS y G.cls with
            | none => rw [z] at h; cases h
            | some d => rw [z] at h; cases h; exact absurd rfl (hc d)
end
end WL

namespace WL
open PySem PySem.Spec PyProof.Rows L2
section
variable {G : Nm} {T : Tb} {k : Nat}
/-- the level k keeps what the machine says -/
def SndE (G : Nm) (T : Tb) (k : Nat) : Prop := ∀ (n : Nat) (C : Cb) (s : Sx) (X : Cx) (Wx : WX), Good G T k C s X Wx → ∀ e, SE G C X Wx e (compE G n s e)
/-- a lambda that a slot holds is called -/
theorem calv_cod {C : Cb} {s : Sx} {X : Cx} {Wx : WX} (O : Good G T k C s X Wx) {es : List Expr} {pos : Pos} {ms : F → Hm → R (List W)} (hs : es.all noStar = true) (ha : PA X es (TAm G X.K Wx ms)) (h0 : es = [] → ∀ σ H Q, TAm G X.K Wx ms σ H Q → Q [] H)
    (pins : List (Addr × Obj)) (st : Shared) (σ : L2.St) (H : Hp) (Q : VK) (r : List Addr) (f : F) (h : Hm) (np ns : Nat) (b : E) (a : Addr) (I : Inv X pins σ H st) (S : RelS G X.K r f h σ H) (qa : RV G X.K r H (.cod np ns b) (.ref a)) (p : PostG G X.K (relW G X.K) Wx σ r H ((ms f h).bind fun ws h1 => C.cods np ns b ws h1) Q) :
    wpAny (model X.prog X.w) X.A (callWith pos (.ref a) [] (backTo pos (starEach es X.env)) []) (EP X pins σ Q) X.xe st := by
  obtain ⟨a', L, c, ea, k1, k2, k3⟩ := qa
  cases ea
  rw [O.cD] at p
  have fnAt : ∀ {H1 : Hp} {s1 : Shared}, Inv X pins σ H1 s1 → H1 a = some (LamO a L c) → PySem.W.FnAt a s1.heap := fun {H1 s1} I1 z => by
    obtain ⟨pm, ctv, y⟩ := lamO_at I1.hok z
    exact ⟨_, _, _, _, y⟩
  have fin : ∀ (vs : List V) (us : List Value) (H1 : Hp) (s1 : Shared), Inv X pins σ H1 s1 → Vals vs us → (H1 a = some (LamO a L c) ∧ H1 c = some (LamX.CodeO c L.qual) ∧ spC G X.K T k np ns b vs H1 Q (WE Wx σ)) → wpAny (model X.prog X.w) X.A (call (.ref a) us) (EP X pins σ Q) X.xe s1 := by
    rintro vs us H1 s1 I1 rv ⟨z1, z2, z3⟩
    refine wpAny_call (codeAny_mono ((O.lev k (Nat.le_refl _)).cod L np ns b k3 X.A X.stack s1 H1 us vs Q (WE Wx σ) a c O.room I1.env0 z1 z2 rv z3) fun res s' z => ?_)
    cases res with
    | error e => exact passAt O.tk σ pins H1 s1 e s' I1 z
    | ok fl =>
      cases fl with
      | ret u => exact I1.after z
      | _ => exact False.elim z
  have q : TAm G X.K Wx ms σ H fun vs H1 => H1 a = some (LamO a L c) ∧ H1 c = some (LamX.CodeO c L.qual) ∧ spC G X.K T k np ns b vs H1 Q (WE Wx σ) := by
    refine ⟨r, f, h, S, (PostG.seq (rel := relA G X.K) p).mono ?_⟩
    rintro vs H1 ⟨r1, ws, h1, e1, R1, q1, p1⟩
    exact ⟨e1.ext _ _ k1, e1.ext _ _ k2, r1, h1, ws, R1, q1, post_any p1⟩
  cases es with
  | nil => exact PySem.W.callWith_F0 (fnAt I k1) (fin [] [] H st I .nil (h0 rfl σ H _ q))
  | cons e es =>
    simp only [List.all_cons, Bool.and_eq_true] at hs
    exact PySem.W.callWith_F (first := []) (fnAt I k1) (thn (ha.run pos pins st σ H _ I q) fun us s1 ⟨vs, H1, I1, r1, q1⟩ => ⟨fnAt I1 q1.1, fin vs us H1 s1 I1 r1 q1⟩) (star_cons hs.1 es) (star_any hs.2)
theorem soundE (low : ∀ j, j < k → SndE G T j) : SndE G T k := by
  intro n
  induction n with
  | zero => intro C s X Wx O e; exact SE.bad
  | succ n ih =>
    intro C s X Wx O e
    have pvLow := low
    have hp : ∀ e, SE G C X Wx e (compE G n s e) := ih C s X Wx O
    have pv : ∀ e, PE X e (TEm G X.K Wx (ev C (compE G n s e))) := fun e => (hp e).v
    have hu : X.A.units + 64 < cLine := O.room.units
    have hu1 : X.A.units + 1 < cLine := hu_of O.room
    cases e with
    | Name x p =>
      refine SE.plain rfl ?_
      simp only [compE]
      split
      · rw [ev_bad]; exact pe_bad
      · rename_i hpn
        simp only [Bool.not_eq_true', Bool.not_eq_false] at hpn
        obtain ⟨hdb, hcd, hnm⟩ := plainN_ok hpn
        split
        · rename_i hv
          split
          · rename_i i hi
            rw [ev_v]
            exact pe_weak (pe_var (by rw [O.eN]; exact idxS_get hi) (by rw [O.eS]; exact visB_ok hv) hdb hcd) te_var
          · rw [ev_bad]; exact pe_bad
        · split
          · rename_i hg
            split
            · rename_i i hi
              obtain ⟨t, ht⟩ := O.sta.con x i hi
              rw [ev_int]
              exact pe_weak (pe_glob (v := .int i) (O.gl hg) ht ⟨t, rfl⟩ hdb) (te_c fun _ _ => rfl)
            · split
              · rename_i g hgi
                rw [ev_fnv]
                exact pe_weak (pe_glob (v := .ref (fA G X.K g)) (O.gl hg) (O.sta.glo g x (idxF_get hgi)) rfl hdb) (te_c fun _ _ => ⟨(List.getElem?_eq_some_iff.mp (idxF_get hgi)).1, rfl⟩)
              · rw [ev_bad]; exact pe_bad
          · rw [ev_bad]; exact pe_bad
    | Constant c kk p =>
      refine SE.plain rfl ?_
      cases c with
      | none => simp only [compE]; rw [ev_non]; exact pe_weak pe_non (te_c fun _ _ => rfl)
      | bool b => simp only [compE]; rw [ev_bl]; exact pe_weak pe_bl (te_c fun _ _ => rfl)
      | int i => simp only [compE]; rw [ev_int]; exact pe_weak pe_int (te_c fun _ _ => rfl)
      | str x => simp only [compE]; rw [ev_str]; exact pe_weak pe_str (te_c fun _ _ => rfl)
      | _ => simp only [compE]; rw [ev_bad]; exact pe_bad
    | BinOp a o b p =>
      refine SE.plain rfl ?_
      simp only [compE]; rw [ev_bin]
      exact pe_bin (pv a) (pv b)
    | UnaryOp o a p =>
      cases o with
      | USub =>
        refine SE.plain rfl ?_
        simp only [compE]; rw [ev_neg]
        exact pe_neg (pv a)
      | Not =>
        simp only [compE]
        split
        · rename_i hn
          refine ⟨?_, fun _ => ?_⟩
          · rw [ev_not]; exact pe_weak (pe_not (pv a)) te_not
          · rw [ev_not]; exact pt_weak (pt_not ((hp a).t hn)) tt_not
        · exact SE.bad
      | _ => exact SE.bad
    | Compare a ops cs p =>
      rcases ops with _ | ⟨o, _ | ⟨o', _ | ⟨o'', ops⟩⟩⟩
      · exact SE.bad
      · rcases cs with _ | ⟨b, _ | ⟨c, cs⟩⟩
        · exact SE.bad
        · simp only [compE]
          split
          · exact SE.bad
          · rename_i hm
            simp only [Bool.not_eq_true] at hm
            exact ⟨by rw [ev_cmp]; exact pe_cmpA hu hm (pv a) (pv b), fun _ => by rw [ev_cmp]; exact pt_cmpA hu hm (pv a) (pv b)⟩
        · exact SE.bad
      · rcases cs with _ | ⟨b, _ | ⟨c, _ | ⟨d, cs⟩⟩⟩
        · exact SE.bad
        · exact SE.bad
        · simp only [compE]
          split
          · exact SE.bad
          · rename_i hm
            simp only [Bool.not_eq_true] at hm
            exact ⟨by rw [ev_chn]; exact pe_chnA hu hm (pv a) (pv b) (pv c), fun _ => by rw [ev_chn]; exact pt_chnA hu hm (pv a) (pv b) (pv c)⟩
        · exact SE.bad
      · exact SE.bad
    | BoolOp o es p =>
      cases o with
      | And =>
        simp only [compE]
        split
        · rename_i hn
          cases es with
          | nil => exact SE.bad
          | cons e es =>
            obtain ⟨h1, h2⟩ := and_ok hp (pos := p) hn (by simp)
            exact ⟨h1, fun _ => h2.pt⟩
        · exact SE.bad
      | Or =>
        simp only [compE]
        split
        · rename_i hn
          cases es with
          | nil => exact SE.bad
          | cons e es =>
            obtain ⟨h1, h2⟩ := or_ok hp (pos := p) hn (by simp)
            exact ⟨h1, fun _ => h2.pt⟩
        · exact SE.bad
    | IfExp c a b p =>
      simp only [compE]
      split
      · rename_i hn
        exact ⟨by rw [ev_ife]; exact pe_weak (pe_ifExp ((hp c).t hn) (pv a) (pv b)) te_if, fun h => by cases h⟩
      · exact SE.bad
    | Tuple es kk p =>
      refine SE.plain rfl ?_
      simp only [compE]
      split
      · rename_i hs
        rw [ev_tup]
        exact pe_weak (pe_tup (pa_all pv hs)) te_tup
      · rw [ev_bad]; exact pe_bad
    | List es p =>
      refine SE.plain rfl ?_
      simp only [compE]
      split
      · rename_i hs
        rw [ev_lst]
        exact pe_weak (pe_lst (pa_all pv hs)) te_lst
      · rw [ev_bad]; exact pe_bad
    | Dict ks vs p =>
      refine SE.plain rfl ?_
      cases ks with
      | nil =>
        cases vs with
        | nil =>
          simp only [compE]
          rw [ev_dnew]
          cases s.td with
          | true => exact pe_weak pe_dnewT te_dT
          | false => exact pe_weak pe_dnewK te_dK
        | cons _ _ => simp only [compE]; rw [ev_bad]; exact pe_bad
      | cons _ _ => simp only [compE]; rw [ev_bad]; exact pe_bad
    | Subscript a i p =>
      refine SE.plain rfl ?_
      by_cases hsl : ∃ lo hi p2, i = .Slice lo hi none p2
      · obtain ⟨lo, hi, p2, rfl⟩ := hsl
        simp only [compE]
        rw [ev_sli]
        refine pe_sliA (pv a) ?_ ?_
        · cases lo with
          | none => exact po_noneA
          | some e => exact po_someA (pv e)
        · cases hi with
          | none => exact po_noneA
          | some e => exact po_someA (pv e)
      · have e1 : compE G (n + 1) s (.Subscript a i p) = if noSlice i then .idx (compE G n s a) (compE G n s i) else if revIx i then .rev (compE G n s a) else .bad := by
          cases i with
          | Slice lo hi st p2 =>
            cases st with
            | none => exact absurd ⟨lo, hi, p2, rfl⟩ hsl
            | some st => rfl
          | _ => rfl
        rw [e1]
        split
        · rename_i hn
          rw [ev_idx]
          exact pe_idxA hu1 hn (pv a) (pv i)
        · split
          · rename_i hr
            obtain ⟨j, p1, p2, p3, rfl⟩ := revIx_eq hr
            rw [ev_rev]
            exact pe_revA (pv a)
          · rw [ev_bad]; exact pe_bad
    | ListComp elt gens scope p =>
      refine SE.plain rfl ?_
      rcases gens with _ | ⟨⟨tg, iter, ifs, isa⟩, _ | ⟨g2, gens⟩⟩
      · simp only [compE]; rw [ev_bad]; exact pe_bad
      · simp only [compE]
        split
        · rename_i hz
          subst hz
          rcases lc_ok O (ih C) (n := n) (elt := elt) (tg := tg) (iter := iter) (ifs := ifs) (scope := scope) (pos := p) with h | ⟨own, t, it, cond, c, h, ho, h2, _⟩
          · rw [h, ev_bad]; exact pe_bad
          · rw [h, ev_lcM]
            exact pe_weak h2 (te_lcA ho)
        · rw [ev_bad]; exact pe_bad
      · simp only [compE]; rw [ev_bad]; exact pe_bad
    | Call fn args kws p =>
      refine SE.plain rfl ?_
      cases kws with
      | cons kw kws =>
        have e1 : compE G (n + 1) s (.Call fn args (kw :: kws) p) = .bad := by cases fn <;> rfl
        rw [e1, ev_bad]; exact pe_bad
      | nil =>
        cases fn with
        | Name x px =>
          simp only [compE]
          split
          · rw [ev_bad]; exact pe_bad
          · rename_i hc
            simp only [Bool.not_eq_true', Bool.not_eq_false, Bool.and_eq_true] at hc
            obtain ⟨h1, h3⟩ := hc
            split
            · rename_i hv
              split
              · rename_i i0 e0 es0 hi
                rw [ev_calv]
                exact pe_calvF (O.lev k (Nat.le_refl _)) O.sta O.room O.tk (by rw [O.eN]; exact idxS_get hi) (by rw [O.eS]; exact visB_ok hv) h1 h3 (pa_all pv h3) nil_ok (fun pins st σ H Q r f h np ns b a I S qa p => calv_cod O h3 (pa_all pv h3) nil_ok pins st σ H Q r f h np ns b a I S qa p) O.cC
              · rw [ev_bad]; exact pe_bad
            split
            · rw [ev_bad]; exact pe_bad
            rename_i h2
            simp only [Bool.not_eq_true', Bool.not_eq_false] at h2
            split
            · rename_i g hg
              split
              · rename_i params body scope lp
                split
                · rename_i hth
                  simp only [Bool.and_eq_true] at hth
                  rw [ev_thk]
                  rcases O.cK with hK | ⟨j, hk, hK1, hK2, hK3, hK4⟩
                  · refine ⟨fun pins st σ H Q I q => ?_⟩
                    obtain ⟨r, f, h, S, q⟩ := q
                    dsimp only at q
                    rw [hK] at q
                    exact q.elim
                  · subst hk
                    rw [hK1]
                    refine pe_thk O hth.1 (O.gl h2) h1 hg hth.2 fun A outer st H En f c1 hr => ?_
                    have a5 := (thkB_ok hth.2).2.2.2.2
                    refine (low j (by omega) n (lowC C) ⟨s.N, scope, scope, s.td, false⟩ (LamX.lamCx X A outer st H En scope f c1) (fun cl d _ H' => En cl d H') ?_ body).v
                    refine ⟨⟨O.eN, O.nd, rfl, fun x hx => ?_, rfl⟩, hr, takes_of rfl rfl rfl rfl, O.sta, fun i hi => O.lev i (by omega), .inr rfl, O.cT, hK2, hK3, hK4, .inl fun _ _ _ => rfl⟩
                    exfalso
                    rcases locB_ok hx with z | z
                    · exact (a5.own _ (PySem.mem_of_lookup z)).1 rfl
                    · exact (a5.own _ (PySem.mem_of_lookup z)).2 rfl
                · rw [ev_bad]; exact pe_bad
              · rw [ev_cal, O.cC]
                exact pe_cal O.sta (O.lev k (Nat.le_refl _)) O.room O.tk (O.gl h2) h1 hg h3 (pa_all pv h3) nil_ok
            · split
              · rename_i c hc
                rw [ev_mk, O.cM]
                exact pe_mkA O.sta (fun j hj => O.lev j (by omega)) O.room O.tk (idxS_get hc) (O.gl h2) h1 h3 (pa_all pv h3) nil_ok
              · split
                · rename_i ex
                  subst ex
                  split
                  · rename_i a y py
                    split
                    · rename_i c hcl
                      split
                      · rename_i hy
                        simp only [Bool.and_eq_true] at hy
                        simp only [List.all_cons, Bool.and_eq_true] at h3
                        rw [ev_isi, O.cT]
                        by_cases hno' : ∀ d, c ≠ .own d
                        · have ey := clOf_eq hcl hno'
                          subst ey
                          exact pe_isiA O.sta hno' (O.gl h2) (O.gl hy.2) h3.1 (pv a)
                        · have hex : ∃ d, c = .own d := Classical.byContradiction fun z => hno' fun d e => z ⟨d, e⟩
                          obtain ⟨d, rfl⟩ := hex
                          exact pe_isiO O.sta (clOf_own hcl) (O.gl h2) (O.gl hy.2) hy.1 h3.1 (pv a)
                      · rw [ev_bad]; exact pe_bad
                    · rw [ev_bad]; exact pe_bad
                  · rw [ev_bad]; exact pe_bad
                · split
                  · rename_i b hb
                    obtain ⟨ebn, hbm⟩ := findN_eq hb
                    subst ebn
                    split
                    · rw [ev_bad]; exact pe_bad
                    · rename_i elt tg iter ifs isa scope pl
                      split
                      · split
                        · rename_i hz
                          subst hz
                          rcases lc_ok O (ih C) (n := n) (elt := elt) (tg := tg) (iter := iter) (ifs := ifs) (scope := scope) (pos := pl) with h | ⟨own, t, it, cond, c, h, ho, hpe, _⟩
                          · rw [h, show aggE b .bad = .bad from rfl, ev_bad]; exact pe_bad
                          · rw [h, show aggE b (.lc own t it cond c) = .agg b (.lc own t it cond c) from rfl, ev_aggM]
                            exact pe_weak (pe_bltC O.sta O.calm hbm (O.gl h2) h1 h3 (pa_cons hpe pa_nil (star_cons rfl []))) (te_agg ho)
                        · rw [ev_bad]; exact pe_bad
                      · rw [ev_blt]
                        exact pe_weak (pe_bltC O.sta O.calm hbm (O.gl h2) h1 h3 (pa_all pv h3)) te_blt
                    · rename_i hne _
                      rw [ev_blt]
                      cases args with
                      | nil => exact absurd rfl hne
                      | cons a as => exact pe_weak (pe_bltC O.sta O.calm hbm (O.gl h2) h1 h3 (pa_all pv h3)) te_blt
                  · rw [ev_bad]; exact pe_bad
        | Attribute o m apos =>
          simp only [compE]
          split
          · rw [ev_bad]; exact pe_bad
          · rename_i hc
            simp only [Bool.not_eq_true', Bool.not_eq_false, Bool.and_eq_true, decide_eq_true_eq] at hc
            obtain ⟨⟨⟨h1, h2⟩, h3⟩, h4⟩ := hc
            split
            · rename_i mi hmi
              rw [ev_mth, O.cC, O.cT]
              exact pe_mthA O.sta (O.lev k (Nat.le_refl _)) O.room O.tk (idxS_get hmi) h1 h2 h4 h3 (pv o) (pa_all pv h2) nil_ok
            · split
              · rename_i b hb
                obtain ⟨ebn, hbm⟩ := findN_eq hb
                subst ebn
                rw [ev_bm]
                exact pe_bmA hu1 hbm h1 h2 h4 h3 (pv o) (pa_all pv h2) nil_ok
              · rw [ev_bad]; exact pe_bad
        | _ => simp only [compE]; rw [ev_bad]; exact pe_bad
    | Attribute o x p =>
      refine SE.plain rfl ?_
      simp only [compE]
      split
      · rename_i hso
        split
        · rename_i m hm
          rw [ev_fld]
          exact pe_fldA O.sta (idxS_get hm) hso (pv o)
        · rw [ev_bad]; exact pe_bad
      · rw [ev_bad]; exact pe_bad
    | Lambda params body scope p =>
      refine SE.plain rfl ?_
      simp only [compE]
      split
      · rename_i hl
        simp only [Bool.and_eq_true] at hl
        rw [ev_lam]
        exact pe_lamA O hl.1 hl.2
      · rw [ev_bad]; exact pe_bad
    | _ => exact SE.bad
theorem soundAll : ∀ k, SndE G T k := fun k => Nat.strongRecOn k fun k low => soundE low
end
end WL

namespace WL
open PySem PySem.Spec PyProof.Rows L2
def isStarB (e : Expr) : Bool := match e with
  | .Starred .. => true
  | _ => false
theorem star_not {e : Expr} (h : noStar e = true) : isStarB e = false := by cases e <;> first | rfl | cases h
theorem star_nots : ∀ {es : List Expr}, es.all noStar = true → es.any isStarB = false
  | [], _ => rfl
  | e :: es, h => by
    simp only [List.all_cons, Bool.and_eq_true] at h
    rw [List.any_cons, star_not h.1, star_nots h.2]; rfl
def nmF (env : Env) (l : Nat) (e : Expr) : Option Str := match e with
  | .Name id pos => if env.kindOf id == some .local && pos.line == l then some id else none
  | _ => none
section
variable {env : Env} {pt p2 : Pos} {kt k2 : Nat} {ts vs : List Expr}
theorem swap_eq : swappedStores [.Tuple ts kt pt] (.Tuple vs k2 p2) env =
    (if (!(ts.length == 2 || ts.length == 3) || vs.length != ts.length || env.blockKind != .function) = true then pure none
    else if vs.any isStarB = true then pure none
    else if ((ts.filterMap (nmF env ((ts.head?.map (·.pos.line)).getD 0))).length != ts.length || (ts.filterMap (nmF env ((ts.head?.map (·.pos.line)).getD 0))).eraseDups.length != (ts.filterMap (nmF env ((ts.head?.map (·.pos.line)).getD 0))).length) = true then pure none
    else if vs.all (foldedForSure 8) = true then pure none
    else if vs.all (constantsAlone 8) = true then unsupported "assign.tuple-of-constant-expressions:order-of-the-stores"
    else pure (some (ts.filterMap (nmF env ((ts.head?.map (·.pos.line)).getD 0))))) := by
  unfold swappedStores
  rfl
/-- a name that is stored -/
theorem nmF_some {l : Nat} {e : Expr} {x : Str} (h : nmF env l e = some x) : (∃ p, e = .Name x p) ∧ env.kindOf x = some .local := by
  unfold nmF at h
  split at h
  · split at h
    · rename_i hc
      cases h
      simp only [Bool.and_eq_true, beq_iff_eq] at hc
      exact ⟨⟨_, rfl⟩, hc.1⟩
    · cases h
  · cases h
theorem fm_all {α β : Type} {f : α → Option β} : ∀ {l : List α}, (l.filterMap f).length = l.length → ∀ a ∈ l, ∃ b, f a = some b
  | [], _, a, h => by cases h
  | x :: l, hl, a, ha => by
    cases z : f x with
    | none =>
      rw [List.filterMap_cons_none z, List.length_cons] at hl
      have := List.length_filterMap_le f l
      omega
    | some b =>
      rw [List.filterMap_cons_some z, List.length_cons, List.length_cons] at hl
      rcases List.mem_cons.mp ha with rfl | ha
      · exact ⟨b, z⟩
      · exact fm_all (by omega) a ha
theorem swap_dec (hp : parOk vs = true) (hs : vs.all noStar = true) : swappedStores [.Tuple ts kt pt] (.Tuple vs k2 p2) env = pure none ∨
    ∃ names, swappedStores [.Tuple ts kt pt] (.Tuple vs k2 p2) env = pure (some names) ∧ (ts.length = 2 ∨ ts.length = 3) ∧ ∃ l, names = ts.filterMap (nmF env l) ∧ names.length = ts.length := by
  rw [swap_eq]
  split
  · exact .inl rfl
  · rename_i h1
    split
    · exact .inl rfl
    · split
      · exact .inl rfl
      · rename_i h3
        split
        · exact .inl rfl
        · rename_i h4
          split
          · rename_i h5
            exfalso
            unfold parOk at hp
            simp only [Bool.or_eq_true, Bool.not_eq_true'] at hp
            rcases hp with hp | hp
            · exact h4 hp
            · rw [h5] at hp; cases hp
          · right
            simp only [Bool.or_eq_true, bne_iff_ne, ne_eq, Bool.not_eq_true', not_or, Bool.not_eq_false, Decidable.not_not, beq_iff_eq] at h1 h3
            exact ⟨_, rfl, h1.1.1, _, rfl, h3.1⟩
end
section
variable {G : Nm} {X : Cx} {s : Sx} {Wx : WX}
/-- what the machine's end of a statement asks -/
def PostS (G : Nm) (K : PySem.W.Frag) (Wx : WX) (D : Ends) (r : List Addr) (H : Hp) (x : RS) : Prop := match x with
  | .nx f h => ∀ r' H' σ', Ext r H r' H' → RelS G K r' f h σ' H' → D.nx σ' H'
  | .rt w h => ∀ r' H' v, Ext r H r' H' → RelH G K r' h H' → RV G K r' H' w v → D.rt v H'
  | .bk f h => ∀ r' H' σ', Ext r H r' H' → RelS G K r' f h σ' H' → D.bk σ' H'
  | .ct f h => ∀ r' H' σ', Ext r H r' H' → RelS G K r' f h σ' H' → D.ct σ' H'
  | .ex c f h => ∀ r' H' σ', Ext r H r' H' → RelS G K r' f h σ' H' → Wx (.ref (xA G K c)) none σ' H'
  | .bad => False
abbrev TSm (G : Nm) (K : PySem.W.Frag) (Wx : WX) (m : F → Hm → RS) : TS := fun D σ H => ∃ r f h, RelS G K r f h σ H ∧ PostS G K Wx D r H (m f h)
theorem PostS.ext {K : PySem.W.Frag} {D : Ends} {r r' : List Addr} {H H' : Hp} {x : RS} (p : PostS G K Wx D r H x) (e : Ext r H r' H') : PostS G K Wx D r' H' x := by
  cases x with
  | nx f h => exact fun r2 H2 σ2 e2 S => p r2 H2 σ2 (e.trans e2) S
  | rt f h => exact fun r2 H2 σ2 e2 S => p r2 H2 σ2 (e.trans e2) S
  | bk f h => exact fun r2 H2 σ2 e2 S => p r2 H2 σ2 (e.trans e2) S
  | ct f h => exact fun r2 H2 σ2 e2 S => p r2 H2 σ2 (e.trans e2) S
  | ex c f h => exact fun r2 H2 σ2 e2 S => p r2 H2 σ2 (e.trans e2) S
  | bad => exact p
/-- an expression, then what is done with its value -/
theorem asS_seq {K : PySem.W.Frag} {α β : Type} {rel : List Addr → Hp → Hm → α → β → Prop} {D : Ends} {r : List Addr} {f : F} {h : Hm} {σ : St} {H : Hp} {x : R α} {k : α → Hm → RS} (S : RelS G K r f h σ H) (p : PostS G K Wx D r H (x.asS f k)) :
    PostG G K rel Wx σ r H x fun b H1 => ∃ r1 a h1, Ext r H r1 H1 ∧ RelH G K r1 h1 H1 ∧ rel r1 H1 h1 a b ∧ PostS G K Wx D r1 H1 (k a h1) := by
  cases x with
  | ok a h1 =>
    intro r' H' b e R q
    have p : PostS G K Wx D r H (k a h1) := p
    exact ⟨r', a, h1, e, R, q, p.ext e⟩
  | exc c h1 => exact fun r' H' e R => p r' H' σ e (S.ext e R)
  | bad => exact p
theorem ps_bad {st : Stmt} : PS X st (TSm G X.K Wx fun _ _ => .bad) := ⟨fun _ _ _ _ _ _ q => by obtain ⟨_, _, _, _, q⟩ := q; exact q.elim⟩
/-! ### several names at once -/
theorem names_bind : ∀ {ts : List Expr} {is : List Nat} {ws : List W} {f : F}, namesOf s ts = some is → bindTs (listE (ts.map (compT s 1))) ws f = stAll is ws f
  | [], is, ws, f, h => by
    cases h
    cases ws <;> rfl
  | t :: ts, is, ws, f, h => by
    cases t with
    | Name x p =>
      simp only [namesOf] at h
      split at h
      · rename_i hc
        split at h
        · rename_i i is' h1 h2
          cases h
          have e1 : compT s 1 (.Name x p) = .v i := by simp only [compT, hc, h1, if_pos]
          cases ws with
          | nil => rfl
          | cons w ws =>
            rw [List.map_cons, e1]
            show ((stV i w f).bind fun f => bindTs (listE (ts.map (compT s 1))) ws f) = (stV i w f).bind fun f => stAll is' ws f
            congr 1
            funext f
            exact names_bind h2
        · cases h
      · cases h
    | _ => cases h
theorem names_at : ∀ {ts : List Expr} {is : List Nat}, namesOf s ts = some is → ∀ (j : Nat) (x : Str) (p : Pos), ts[j]? = some (.Name x p) → ∃ i, is[j]? = some i ∧ s.N[i]? = some x
  | [], is, h, j, x, p, e => by simp at e
  | t :: ts, is, h, j, x, p, e => by
    cases t with
    | Name y q =>
      simp only [namesOf] at h
      split at h
      · split at h
        · rename_i i is' h1 h2
          cases h
          cases j with
          | zero =>
            simp at e
            exact ⟨i, rfl, by rw [← e.1]; exact idxS_get h1⟩
          | succ j =>
            obtain ⟨i2, h3, h4⟩ := names_at h2 j x p (by simpa using e)
            exact ⟨i2, by simpa using h3, h4⟩
        · cases h
      · cases h
    | _ => cases h
theorem names_len : ∀ {ts : List Expr} {is : List Nat}, namesOf s ts = some is → is.length = ts.length
  | [], is, h => by cases h; rfl
  | t :: ts, is, h => by
    cases t with
    | Name y q =>
      simp only [namesOf] at h
      split at h
      · split at h
        · rename_i i is' h1 h2
          cases h
          rw [List.length_cons, List.length_cons, names_len h2]
        · cases h
      · cases h
    | _ => cases h
end
end WL

/-! statements: each rule -/
namespace WL
open PySem PySem.Spec PyProof.Rows L2
section
variable {G : Nm} {X : Cx} {s : Sx} {Wx : WX}
theorem Vals.snocs {v : V} {vs : List V} {us : List Value} : Vals (v :: vs) us → ∃ u us', us = u :: us' ∧ RelV v u ∧ Vals vs us' := by
  intro h
  cases h with
  | cons p q => exact ⟨_, _, rfl, p, q⟩
theorem stAll_at : ∀ {is : List Nat} {ws : List W} {f f' : F}, stAll is ws f = some f' → ws.length = is.length
  | [], [], _, _, _ => rfl
  | [], _ :: _, _, _, h => by cases h
  | _ :: _, [], _, _, h => by cases h
  | i :: is, w :: ws, f, f', h => by
    simp only [stAll] at h
    cases z : stV i w f with
    | none => rw [z] at h; cases h
    | some f1 => rw [z] at h; rw [List.length_cons, List.length_cons, stAll_at h]
/-- slots stored one behind another -/
def setAll : List Nat → List V → St → St
  | i :: is, v :: vs, σ => setAll is vs (σ.set i (some v))
  | _, _, σ => σ
theorem stAll_rel {K : PySem.W.Frag} {r : List Addr} {h : Hm} {H : Hp} : ∀ {is : List Nat} {ws : List W} {vs : List V} {f f' : F} {σ : St}, RelS G K r f h σ H → RVs G K r H ws vs → stAll is ws f = some f' → RelS G K r f' h (setAll is vs σ) H
  | [], [], vs, f, f', σ, S, q, e => by
    cases e
    rw [show vs = [] from q]; exact S
  | [], _ :: _, _, _, _, _, _, _, e => by cases e
  | _ :: _, [], _, _, _, _, _, _, e => by cases e
  | i :: is, w :: ws, vs, f, f', σ, S, q, e => by
    obtain ⟨v, rest, rfl, q1, q2⟩ := q
    simp only [stAll, stV] at e
    split at e
    · have e : stAll is ws (f.set i (some w)) = some f' := e
      show RelS G K r f' h (setAll is rest (σ.set i (some v))) H
      exact stAll_rel (S.set q1) q2 e
    · cases e
theorem len2 {α : Type} : ∀ {l : List α}, l.length = 2 → ∃ a b, l = [a, b]
  | [a, b], _ => ⟨a, b, rfl⟩
  | [], h => by cases h
  | [_], h => by cases h
  | _ :: _ :: _ :: _, h => by simp at h
theorem len3 {α : Type} : ∀ {l : List α}, l.length = 3 → ∃ a b c, l = [a, b, c]
  | [a, b, c], _ => ⟨a, b, c, rfl⟩
  | [], h => by cases h
  | [_], h => by cases h
  | [_, _], h => by cases h
  | _ :: _ :: _ :: _ :: _, h => by simp at h
theorem ps_parA {ts vs : List Expr} {is : List Nat} {kt k2 : Nat} {pt p2 pos : Pos} {ms : F → Hm → R (List W)} (O : NmOk s X) (hts : ts.all noStar = true) (hvs : vs.all noStar = true) (hl : ts.length = vs.length) (hp : parOk vs = true) (hn : namesOf s ts = some is) (hd : ndupN is = true) (ha : PA X vs (TAm G X.K Wx ms)) (hlen : ∀ f h ws h', ms f h = .ok ws h' → ws.length = vs.length) (hsz : vs.length ≤ line) :
    PS X (.Assign [.Tuple ts kt pt] (.Tuple vs k2 p2) pos) (TSm G X.K Wx fun f h => (ms f h).asS f fun ws h1 => match stAll is ws f with | some f1 => .nx f1 h1 | none => .bad) := by
  rcases swap_dec (env := X.env) (ts := ts) (kt := kt) (pt := pt) (k2 := k2) (p2 := p2) hp hvs with hw | ⟨names, hw, h23, l, hnm, hnl⟩
  · -- the tuple is made and taken apart
    refine ps_weak (ps_asg (pe_tup ha) (pg_tup O.calm (pgs_of (G := G) (pgT O 1) hts) (ae_len hts) (ae_find hts)) rfl hw rfl) ?_
    rintro D σ H ⟨r, f, h, S, p⟩
    refine ⟨r, f, h, S, ?_⟩
    dsimp only at p
    cases z : ms f h with
    | exc c hx => rw [z] at p; exact fun r' H' e R => p r' H' σ e (S.ext e R)
    | bad => rw [z] at p; exact p
    | ok ws h1 =>
      rw [z] at p
      intro r1 H1 us e1 R1 q1
      have p : PostS G X.K Wx D r H (match stAll is ws f with | some f1 => .nx f1 h1 | none => .bad) := p
      have hwl := hlen f h ws h1 z
      refine ⟨by rw [q1.length, hwl]; exact hsz, fun pt hpt => ?_⟩
      cases z2 : stAll is ws f with
      | none => rw [z2] at p; exact p.elim
      | some f1 =>
        rw [z2] at p
        have e2 := Ext.new (r := r1) (ho := .tup us) hpt
        refine ⟨pt, us, rfl, SqT.of upd_same, by rw [q1.length, hwl, hl], r1, f, h1, ws, f1, (S.ext e1 R1).ext e2 (R1.aside hpt), q1.ext e2, by rw [names_bind hn]; exact z2, fun σ' S' _ => ?_⟩
        exact p r1 _ σ' (e1.trans e2) S'
  · -- stored from the right
    refine ⟨fun pins st σ H D I q => ?_⟩
    obtain ⟨r, f, h, S, p⟩ := q
    have hTA : TAm G X.K Wx ms σ H fun us H1 => ∃ r1 h1 ws f1, us.length = vs.length ∧ stAll is ws f = some f1 ∧ RelS G X.K r1 f h1 σ H1 ∧ RVs G X.K r1 H1 ws us ∧ ∀ σ', RelS G X.K r1 f1 h1 σ' H1 → D.nx σ' H1 := by
      refine ⟨r, f, h, S, ?_⟩
      dsimp only at p
      cases z : ms f h with
      | exc c hx => rw [z] at p; exact fun r' H' e R => p r' H' σ e (S.ext e R)
      | bad => rw [z] at p; exact p
      | ok ws h1 =>
        rw [z] at p
        intro r1 H1 us e1 R1 q1
        have p : PostS G X.K Wx D r H (match stAll is ws f with | some f1 => .nx f1 h1 | none => .bad) := p
        cases z2 : stAll is ws f with
        | none => rw [z2] at p; exact p.elim
        | some f1 =>
          rw [z2] at p
          exact ⟨r1, h1, ws, f1, by rw [q1.length, hlen f h ws h1 z], z2, S.ext e1 R1, q1, fun σ' S' => p r1 H1 σ' e1 S'⟩
    rw [exec_Assign_arm]
    refine wpAny_bind (wpAny_standAt ?_)
    rw [show swapsWithSole [.Tuple ts kt pt] (.Tuple vs k2 p2) pos.line X.env = pure false from rfl]
    refine wpAny_bind (wpAny_pure ?_)
    rw [if_neg (by decide)]
    refine wpAny_bind (Tuple_ (thn (ha.run _ pins st σ H _ I hTA) fun us s1 ⟨vs', H1, I1, r1, q1⟩ => ?_))
    obtain ⟨rr, h1, ws, f1, hul, hst, S1, qv, fin⟩ := q1
    have husl : us.length = ts.length := by rw [← r1.length, hul, hl]
    refine wpAny_newObj_type ?_ (by show us.toArray.size ≤ sizeLine; rw [List.size_toArray, husl, hl]; exact hsz)
    have I2 : Inv X pins σ H1 { s1 with heap := s1.heap.push { cls := .type "tuple", data := .seq us.toArray } } := I1.kept (t' := s1.toks) fun b o e => Heap.get?_push_of_some _ e
    rw [hw]
    refine wpAny_bind (wpAny_pure ?_)
    have hall := fm_all (by rw [← hnm]; exact hnl)
    have hN : X.N.Nodup := by rw [O.eN]; exact O.nd
    have loc : ∀ (j : Nat) (t : Expr), ts[j]? = some t → ∃ x p i, t = .Name x p ∧ nmF X.env l t = some x ∧ X.env.scope.names.lookup x = some .local ∧ is[j]? = some i ∧ X.N[i]? = some x := fun j t ht => by
      obtain ⟨x, hx⟩ := hall t (List.mem_of_getElem? ht)
      obtain ⟨⟨p, rfl⟩, hk⟩ := nmF_some hx
      obtain ⟨i, h3, h4⟩ := names_at hn j x p ht
      exact ⟨x, p, i, rfl, hx, hk, h3, by rw [O.eN]; exact h4⟩
    have fin' := fin _ (stAll_rel S1 qv hst)
    have isl := names_len hn
    rcases h23 with h2 | h3
    · have hv2 : vs'.length = 2 := by rw [hul, ← hl, h2]
      have hu2 : us.length = 2 := by rw [husl, h2]
      have hi2 : is.length = 2 := by rw [isl, h2]
      clear isl hul husl
      obtain ⟨t1, t2, rfl⟩ := len2 h2
      obtain ⟨i, j, rfl⟩ := len2 hi2
      obtain ⟨v1, v2, rfl⟩ := len2 hv2
      obtain ⟨u1, u2, rfl⟩ := len2 hu2
      · obtain ⟨x, px, i', rfl, n1, l1, e1, k1⟩ := loc 0 t1 rfl
        obtain ⟨y, py, j', rfl, n2, l2, e2, k2⟩ := loc 1 t2 rfl
        cases e1; cases e2
        have hnm' : names = [x, y] := by rw [hnm]; simp [List.filterMap, n1, n2]
        subst hnm'
        obtain ⟨_, _, e3, rv1, r2⟩ := Vals.snocs r1
        obtain ⟨_, _, e4, rv2, r3⟩ := Vals.snocs r2
        cases r3; cases e4; cases e3
        have hij : i ≠ j := by
          simp [ndupN] at hd
          exact hd
        show wpAny (model X.prog X.w) X.A (do rule "assign.swapped-stores"; let items ← unpackItems (.ref s1.heap.objs.size) 2 none; assignInOrder [fun v => bindName X.env y v, fun v => bindName X.env x v] items.reverse; pure Flow.next) _ _ _
        refine wpAny_bind (wpAny_rule (wpAny_bind (unpackItems_tuple (items := #[u1, u2]) (I.ok.hd O.calm) (IsTup.new s1.heap _) fun h' hx' => ?_)))
        have I3 := I2.kept (h' := h') (t' := s1.toks) fun b o e => hx' b o (Nat.ne_of_lt (Heap.lt_size e)) e
        show wpAny _ _ (assignInOrder [fun v => bindName X.env y v, fun v => bindName X.env x v] [u2, u1] >>= fun _ => pure Flow.next) _ _ _
        refine wpAny_bind (assignInOrder_cons (wpAny_bindName (store_ok I3 hN k2 (.inl l2) rv2 (fun s2 I4 => ?_) (.inr l2))))
        refine assignInOrder_cons (wpAny_bindName (store_ok I4 hN k1 (.inl l1) rv1 (fun s3 I5 => assignInOrder_nil (wpAny_pure ?_)) (.inr l1)))
        rw [List.set_comm _ _ (Ne.symm hij)] at I5
        exact ⟨_, H1, I5, fin'⟩
    · have hv2 : vs'.length = 3 := by rw [hul, ← hl, h3]
      have hu2 : us.length = 3 := by rw [husl, h3]
      have hi2 : is.length = 3 := by rw [isl, h3]
      clear isl hul husl
      obtain ⟨t1, t2, t3, rfl⟩ := len3 h3
      obtain ⟨i, j, m, rfl⟩ := len3 hi2
      obtain ⟨v1, v2, v3, rfl⟩ := len3 hv2
      obtain ⟨u1, u2, u3, rfl⟩ := len3 hu2
      · obtain ⟨x, px, i', rfl, n1, l1, e1, k1⟩ := loc 0 t1 rfl
        obtain ⟨y, py, j', rfl, n2, l2, e2, k2⟩ := loc 1 t2 rfl
        obtain ⟨z, pz, m', rfl, n3, l3, e3, k3⟩ := loc 2 t3 rfl
        cases e1; cases e2; cases e3
        have hnm' : names = [x, y, z] := by rw [hnm]; simp [List.filterMap, n1, n2, n3]
        subst hnm'
        obtain ⟨_, _, e3, rv1, r2⟩ := Vals.snocs r1
        obtain ⟨_, _, e4, rv2, r3⟩ := Vals.snocs r2
        obtain ⟨_, _, e5, rv3, r4⟩ := Vals.snocs r3
        cases r4; cases e5; cases e4; cases e3
        have hij : (¬ i = j ∧ ¬ i = m) ∧ ¬ j = m := by
          simp [ndupN] at hd
          exact hd
        show wpAny (model X.prog X.w) X.A (do rule "assign.swapped-stores"; let items ← unpackItems (.ref s1.heap.objs.size) 3 none; assignInOrder [fun v => bindName X.env z v, fun v => bindName X.env y v, fun v => bindName X.env x v] items.reverse; pure Flow.next) _ _ _
        refine wpAny_bind (wpAny_rule (wpAny_bind (unpackItems_tuple (items := #[u1, u2, u3]) (I.ok.hd O.calm) (IsTup.new s1.heap _) fun h' hx' => ?_)))
        have I3 := I2.kept (h' := h') (t' := s1.toks) fun b o e => hx' b o (Nat.ne_of_lt (Heap.lt_size e)) e
        show wpAny _ _ (assignInOrder [fun v => bindName X.env z v, fun v => bindName X.env y v, fun v => bindName X.env x v] [u3, u2, u1] >>= fun _ => pure Flow.next) _ _ _
        refine wpAny_bind (assignInOrder_cons (wpAny_bindName (store_ok I3 hN k3 (.inl l3) rv3 (fun s2 I4 => ?_) (.inr l3))))
        refine assignInOrder_cons (wpAny_bindName (store_ok I4 hN k2 (.inl l2) rv2 (fun s3 I5 => ?_) (.inr l2)))
        refine assignInOrder_cons (wpAny_bindName (store_ok I5 hN k1 (.inl l1) rv1 (fun s4 I6 => assignInOrder_nil (wpAny_pure ?_)) (.inr l1)))
        have e6 : ((σ.set m (some v3)).set j (some v2)).set i (some v1) = setAll [i, j, m] [v1, v2, v3] σ := by
          show _ = ((σ.set i (some v1)).set j (some v2)).set m (some v3)
          rw [List.set_comm _ _ (Ne.symm hij.2), List.set_comm _ _ (Ne.symm hij.1.2), List.set_comm _ _ (Ne.symm hij.1.1)]
        rw [e6] at I6
        exact ⟨_, H1, I6, fin'⟩
/-! ### subscripts stored -/
def rSetD : V → V → V → Hp → (Hp → Prop) → Prop := fun o i v H Q => ∃ a H', o = .ref a ∧ DPut H a i v H' ∧ Q H'
theorem set_dict (hu : X.A.units + 1 < cLine) : PSet X rSetD := by
  intro pins s σ H o i v ov iv u Q I ro ri rv h
  obtain ⟨a, H', rfl, g, q⟩ := h
  obtain rfl : ov = Value.ref a := ro
  exact d_setItem hu I g ri rv fun s' I' => ⟨H', I', q⟩
theorem PSet.or {t t' : TSet} (h : PSet X t) (h' : PSet X t') : PSet X fun o i v H Q => t o i v H Q ∨ t' o i v H Q := by
  intro pins s σ H o i v ov iv u Q I ro ri rv z
  rcases z with z | z
  · exact h pins s σ H o i v ov iv u Q I ro ri rv z
  · exact h' pins s σ H o i v ov iv u Q I ro ri rv z
theorem setW_ok {r : List Addr} {h h' : Hm} {H : Hp} {x y w : W} {v u z : V} {Q : Hp → Prop} (R : RelH G X.K r h H) (q1 : RV G X.K r H x v) (q2 : RV G X.K r H y u) (q3 : RV G X.K r H w z) (e : setW x y w h = some h') (fin : ∀ H', Ext r H r H' → RelH G X.K r h' H' → Q H') : rSetL v u z H Q ∨ rSetD v u z H Q := by
  cases x with
  | ref n =>
    obtain ⟨a, rfl, ha⟩ := q1
    cases y with
    | int k =>
      simp only [setW] at e
      cases z1 : h[n]? with
      | none => rw [z1] at e; cases e
      | some o =>
        rw [z1] at e
        cases o with
        | lst l =>
          obtain ⟨us, k1, k2⟩ := R.obj n a _ ha z1
          simp only at e
          cases z2 : ixN l.length k with
          | none => rw [z2] at e; cases e
          | some j =>
            rw [z2] at e; cases e
            refine .inl ⟨a, us, k, j, rfl, q2, k1, by rw [ixN_eq, k2.length]; exact z2, ?_⟩
            exact fin _ (Ext.put ha k1 trivial) (R.put ha k1 trivial ⟨_, upd_same, (k2.set q3 j).ext0 (Ext0.put k1 trivial)⟩)
        | dK l =>
          obtain ⟨kvs, k1, k2⟩ := R.obj n a _ ha z1
          simp only at e
          split at e
          · rename_i hl
            cases e
            rw [rv_int q2]
            refine .inr ⟨a, _, rfl, DPut.k (k := Sum.inl k) k1 (by rw [k2.length]; exact hl), ?_⟩
            exact fin _ (Ext.put ha k1 trivial) (R.put ha k1 trivial ⟨_, upd_same, (put_ok q3 k2).ext0 (Ext0.put k1 trivial)⟩)
          · cases e
        | dT _ => cases e
        | ins _ _ => cases e
    | tup ks =>
      simp only [setW] at e
      cases z1 : h[n]? with
      | none => simp only [z1] at e; cases e
      | some o =>
        cases o with
        | dT l =>
          cases z2 : intsOf ks with
          | none => simp only [z1, z2] at e; cases e
          | some is =>
            simp only [z1, z2] at e
            obtain ⟨kvs, k1, k2⟩ := R.obj n a _ ha z1
            obtain ⟨b, rfl, hb⟩ := tup_key q2 z2
            split at e
            · rename_i hl
              cases e
              refine .inr ⟨a, _, rfl, DPut.t k1 hb (by rw [k2.length]; exact hl), ?_⟩
              exact fin _ (Ext.put ha k1 trivial) (R.put ha k1 trivial ⟨_, upd_same, (putT_ok q3 k2).ext0 (Ext0.put k1 trivial)⟩)
            · cases e
        | _ => simp only [z1] at e; cases e
    | _ => cases e
  | _ => cases e
end
end WL

/-! loops, and every statement -/
namespace WL
open PySem PySem.Spec PyProof.Rows L2
/-- what is known of an own exception class -/
structure ExcF (G : Nm) (K : PySem.W.Frag) (mg : Str → Option Value) (c : Nat) (x : Str) : Prop where
  mg_ : mg x = some (.ref (xA G K c))
  exc : PySem.W.excIn K (xA G K c) He.veBase "ValueError.__new__" = true
  kp : PySem.W.keepIn K (.ref (xA G K c)) = true
  sub : PySem.W.subIn K (.ref (xA G K c)) (.type "BaseException") = some true
  ty : PySem.W.typeIn K (.ref (xA G K c)) = some (.type "type")
structure GoodS (G : Nm) (T : Tb) (k : Nat) (C : Cb) (s : Sx) (X : Cx) (Wx : WX) : Prop extends Good G T k C s X Wx where
  own : PassesOwn (model X.prog X.w) X.A X.env X.xe
  exs : ∀ (c : Nat) (x : Str), G.exs[c]? = some x → ExcF G X.K X.mg c x
section
variable {G : Nm} {T : Tb} {k : Nat} {X : Cx} {s : Sx} {Wx : WX} {e : Expr} {pos : Pos} {ma mc : F → Hm → R W} {mb mt me : F → Hm → RS}
theorem ts_exp : ∀ D σ H, TSm G X.K Wx (fun f h => (ma f h).asS f fun _ h1 => .nx f h1) D σ H → tDrop (TEm G X.K Wx ma) D σ H := by
  rintro D σ H ⟨r, f, h, S, p⟩
  refine ⟨r, f, h, S, (asS_seq (rel := relW G X.K) S p).mono ?_⟩
  rintro v H1 ⟨r1, x, h1, e1, R1, q1, p1⟩
  exact p1 r1 H1 σ .refl (S.ext e1 R1)
theorem ts_ret : ∀ D σ H, TSm G X.K Wx (fun f h => (ma f h).asS f fun w h1 => .rt w h1) D σ H → tRet (TEm G X.K Wx ma) D σ H := by
  rintro D σ H ⟨r, f, h, S, p⟩
  refine ⟨r, f, h, S, (asS_seq (rel := relW G X.K) S p).mono ?_⟩
  rintro v H1 ⟨r1, x, h1, e1, R1, q1, p1⟩
  exact p1 r1 H1 v .refl R1 q1
theorem ts_set {i : Nat} : ∀ D σ H, TSm G X.K Wx (fun f h => (ma f h).asS f fun w h1 => (match stV i w f with | some f1 => .nx f1 h1 | none => .bad)) D σ H → tAsg (TEm G X.K Wx ma) (gName i) D σ H := by
  rintro D σ H ⟨r, f, h, S, p⟩
  refine ⟨r, f, h, S, (asS_seq (rel := relW G X.K) S p).mono ?_⟩
  rintro v H1 ⟨r1, x, h1, e1, R1, q1, p1⟩
  unfold stV at p1
  split at p1
  · rename_i f1 hf
    split at hf
    · cases hf
      exact p1 r1 H1 _ .refl ((S.ext e1 R1).set q1)
    · cases hf
  · exact p1.elim
theorem ts_unp {t : E} : ∀ D σ H, TSm G X.K Wx (fun f h => (ma f h).asS f fun w h1 => (match bindT t w f with | some f1 => .nx f1 h1 | none => .bad)) D σ H → tAsg (TEm G X.K Wx ma) (TGm G X.K t) D σ H := by
  rintro D σ H ⟨r, f, h, S, p⟩
  refine ⟨r, f, h, S, (asS_seq (rel := relW G X.K) S p).mono ?_⟩
  rintro v H1 ⟨r1, x, h1, e1, R1, q1, p1⟩
  cases z : bindT t x f with
  | none => simp only [z] at p1; exact p1.elim
  | some f1 =>
    simp only [z] at p1
    exact ⟨r1, f, h1, x, f1, S.ext e1 R1, q1, z, fun σ' S' _ => p1 r1 H1 σ' .refl S'⟩
theorem ts_sub {mo mi : F → Hm → R W} : ∀ D σ H, TSm G X.K Wx (fun f h => (ma f h).asS f fun w h1 => (mo f h1).asS f fun x h2 => (mi f h2).asS f fun y h3 => (match setW x y w h3 with | some h4 => .nx f h4 | none => .bad)) D σ H →
    tAsg (TEm G X.K Wx ma) (gSub (TEm G X.K Wx mo) (TEm G X.K Wx mi) fun o i v H Q => rSetL o i v H Q ∨ rSetD o i v H Q) D σ H := by
  rintro D σ H ⟨r, f, h, S, p⟩
  refine ⟨r, f, h, S, (asS_seq (rel := relW G X.K) S p).mono ?_⟩
  rintro v H1 ⟨r1, w, h1, e1, R1, q1, p1⟩
  have S1 := S.ext e1 R1
  refine ⟨r1, f, h1, S1, (asS_seq (rel := relW G X.K) S1 p1).mono ?_⟩
  rintro o H2 ⟨r2, x, h2, e2, R2, q2, p2⟩
  have S2 := S1.ext e2 R2
  refine ⟨r2, f, h2, S2, (asS_seq (rel := relW G X.K) S2 p2).mono ?_⟩
  rintro u H3 ⟨r3, y, h3, e3, R3, q3, p3⟩
  cases z : setW x y w h3 with
  | none => simp only [z] at p3; exact p3.elim
  | some h4 =>
    simp only [z] at p3
    refine setW_ok R3 (q2.ext e3) q3 ((q1.ext e2).ext e3) z fun H4 e4 R4 => ?_
    exact p3 r3 H4 σ e4 ((S2.ext e3 R3).ext e4 R4)
theorem ts_aug {i : Nat} {o : Operator} {t : TIp} (ht : ∀ (x y : W) (v u : V) (r : List Addr) (H : Hp) (Q : VK), RV G X.K r H x v → RV G X.K r H y u → (∀ a b, o = .Add → x = .int a → y = .int b → Q (.int (a + b)) H) → (∀ a b, o = .Sub → x = .int a → y = .int b → Q (.int (a - b)) H) → ((o = .Add ∨ o = .Sub) ∧ (∃ a, x = .int a) ∧ ∃ b, y = .int b) → t v u H Q) :
    ∀ D σ H, TSm G X.K Wx (fun f h => match f[i]? with
    | some (some x) => (ma f h).asS f fun y h1 => (match o, x, y with
      | .Add, .int a, .int b => (match stV i (.int (a + b)) f with | some f1 => .nx f1 h1 | none => .bad)
      | .Sub, .int a, .int b => (match stV i (.int (a - b)) f with | some f1 => .nx f1 h1 | none => .bad)
      | _, _, _ => .bad)
    | _ => .bad) D σ H → tAug i (TEm G X.K Wx ma) t D σ H := by
  rintro D σ H ⟨r, f, h, S, p⟩
  dsimp only at p
  split at p
  · rename_i x hx
    obtain ⟨v, hv, q⟩ := S.fr i x hx
    refine ⟨v, hv, r, f, h, S, (asS_seq (rel := relW G X.K) S p).mono ?_⟩
    rintro u H1 ⟨r1, y, h1, e1, R1, q1, p1⟩
    have S1 := S.ext e1 R1
    have store : ∀ {c : Int}, PostS G X.K Wx D r1 H1 (match stV i (.int c) f with | some f1 => .nx f1 h1 | none => .bad) → D.nx (σ.set i (some (.int c))) H1 := fun {c} p => by
      unfold stV at p
      split at p
      · rename_i f1 hf
        split at hf
        · cases hf
          exact p r1 H1 _ .refl (S1.set (v := .int c) rfl)
        · cases hf
      · exact p.elim
    split at p1
    · exact ht _ _ v u r1 H1 _ (q.ext e1) q1 (fun a b _ ea eb => by cases ea; cases eb; exact store p1) (fun a b ho _ _ => by cases ho) ⟨.inl rfl, ⟨_, rfl⟩, ⟨_, rfl⟩⟩
    · exact ht _ _ v u r1 H1 _ (q.ext e1) q1 (fun a b ho _ _ => by cases ho) (fun a b _ ea eb => by cases ea; cases eb; exact store p1) ⟨.inr rfl, ⟨_, rfl⟩, ⟨_, rfl⟩⟩
    · exact p1.elim
  · exact p.elim
theorem ts_if : ∀ D σ H, TSm G X.K Wx (fun f h => (mc f h).asS f fun w h1 => (match w with
    | .bl true => mt f h1
    | .bl false => me f h1
    | _ => .bad)) D σ H → tIfS (TTm G X.K Wx mc) (TSm G X.K Wx mt) (TSm G X.K Wx me) D σ H := by
  rintro D σ H ⟨r, f, h, S, p⟩
  refine ⟨r, f, h, S, ?_⟩
  dsimp only at p ⊢
  cases z : mc f h with
  | exc c hx => rw [z] at p; exact fun r' H' e R => p r' H' σ e (S.ext e R)
  | bad => rw [z] at p; exact p
  | ok w h1 =>
    rw [z] at p
    cases w with
    | bl b =>
      intro r1 H1 b' e1 R1 q
      have q : b = b' := q
      subst q
      cases b with
      | true =>
        have p : PostS G X.K Wx D r H (mt f h1) := p
        exact ⟨r1, f, h1, S.ext e1 R1, p.ext e1⟩
      | false =>
        have p : PostS G X.K Wx D r H (me f h1) := p
        exact ⟨r1, f, h1, S.ext e1 R1, p.ext e1⟩
    | _ => exact p.elim
theorem ts_while : ∀ D σ H, TSm G X.K Wx (fun f h => whlL mc mb loops f h) D σ H → tWhile (TTm G X.K Wx mc) (TSm G X.K Wx mb) D σ H := by
  rintro D σ H ⟨r0, f, h, S, p⟩
  dsimp only at p
  generalize loops = n at p
  refine ⟨fun m σ' H' => ∃ r f h, Ext r0 H r H' ∧ RelS G X.K r f h σ' H' ∧ PostS G X.K Wx D r0 H (whlL mc mb m f h), ⟨n, r0, f, h, .refl, S, p⟩, ?_⟩
  rintro m σ1 H1 ⟨r1, f1, h1, e1, S1, p1⟩
  cases m with
  | zero => exact p1.elim
  | succ m =>
    refine ⟨r1, f1, h1, S1, ?_⟩
    simp only [whlL] at p1
    dsimp only
    cases z : mc f1 h1 with
    | exc c hx => rw [z] at p1; exact fun r' H' e R => p1 r' H' σ1 (e1.trans e) (S1.ext e R)
    | bad => rw [z] at p1; exact p1
    | ok w h2 =>
      rw [z] at p1
      cases w with
      | bl b =>
        intro r2 H2 b' e2 R2 q
        have q : b = b' := q
        subst q
        have S2 := S1.ext e2 R2
        cases b with
        | false => exact p1 r2 H2 σ1 (e1.trans e2) S2
        | true =>
          simp only [if_true]
          refine ⟨fun σ' H' => ∃ r f h, Ext r0 H r H' ∧ RelS G X.K r f h σ' H' ∧ PostS G X.K Wx D r0 H (whlL mc mb m f h), fun σ' H' q => ⟨m, Nat.lt_succ_self _, q⟩, r2, f1, h2, S2, ?_⟩
          simp only at p1
          cases zb : mb f1 h2 with
          | nx f3 h3 => rw [zb] at p1; exact fun r3 H3 σ3 e3 S3 => ⟨r3, f3, h3, (e1.trans e2).trans e3, S3, p1⟩
          | ct f3 h3 => rw [zb] at p1; exact fun r3 H3 σ3 e3 S3 => ⟨r3, f3, h3, (e1.trans e2).trans e3, S3, p1⟩
          | bk f3 h3 => rw [zb] at p1; exact fun r3 H3 σ3 e3 S3 => p1 r3 H3 σ3 ((e1.trans e2).trans e3) S3
          | rt w3 h3 => rw [zb] at p1; exact fun r3 H3 v3 e3 R3 q3 => p1 r3 H3 v3 ((e1.trans e2).trans e3) R3 q3
          | ex c f3 h3 => rw [zb] at p1; exact fun r3 H3 σ3 e3 S3 => p1 r3 H3 σ3 ((e1.trans e2).trans e3) S3
          | bad => rw [zb] at p1; exact p1
      | _ => exact p1.elim
theorem ts_for {C : Cb} {t it : E} : ∀ D σ H, TSm G X.K Wx (fun f h => (evI C it f h).asS f fun J h1 => (match J.len h1 with
    | some n => forL mb (bindT t) J n 0 f h1
    | none => .bad)) D σ H → tFor (TIm G X.K Wx (evI C it)) (TGm G X.K t) (TSm G X.K Wx mb) D σ H := by
  rintro D σ H0 ⟨r, f, h, S, p⟩
  refine ⟨r, f, h, S, (asS_seq (rel := relI G X.K) S p).mono ?_⟩
  rintro J' H ⟨r0, J, h1, e0, R0, qJ, p0⟩
  cases zn : J.len h1 with
  | none => simp only [zn] at p0; exact p0.elim
  | some n =>
    simp only [zn] at p0
    refine ⟨fun i m σ' H' => ∃ r f h, Ext r0 H r H' ∧ RelS G X.K r f h σ' H' ∧ PostS G X.K Wx D r0 H (forL mb (bindT t) J m i f h), ⟨n, r0, f, h1, .refl, S.ext e0 R0, p0⟩, ?_⟩
    rintro i m σ1 H1 ⟨r1, f1, h1, e1, S1, p1⟩
    have qJ1 := qJ.ext0 e1.toExt0
    cases m with
    | zero =>
      simp only [forL] at p1
      by_cases hs : J.stop i h1 = true
      · rw [if_pos hs] at p1
        exact .inl ⟨qJ1.stop S1.heap hs, p1 r1 H1 σ1 e1 S1⟩
      · rw [if_neg hs] at p1; exact p1.elim
    | succ m =>
      simp only [forL] at p1
      cases z : (J.item i h1).bind fun w => bindT t w f1 with
      | none => rw [z] at p1; exact p1.elim
      | some f2 =>
        rw [z] at p1
        simp only at p1
        cases z1 : J.item i h1 with
        | none => rw [z1] at z; cases z
        | some w =>
          rw [z1] at z
          have z : bindT t w f1 = some f2 := z
          obtain ⟨hgo, hy⟩ := qJ1.go S1.heap z1
          refine .inr ⟨hgo, fun σ' H' => ∃ r f h, Ext r0 H r H' ∧ RelS G X.K r f h σ' H' ∧ PostS G X.K Wx D r0 H (forL mb (bindT t) J m (i + 1) f h), fun σ' H' q => ⟨m, Nat.lt_succ_self _, q⟩, fun x H2 y => ?_⟩
          obtain ⟨e2, R2, q2, _⟩ := hy x H2 y
          refine ⟨r1, f1, h1, w, f2, S1.ext e2 R2, q2, z, fun σ2 S2 _ => ⟨r1, f2, h1, S2, ?_⟩⟩
          have e12 := e1.trans e2
          cases zb : mb f2 h1 with
          | nx f3 h3 => rw [zb] at p1; exact fun r3 H3 σ3 e3 S3 => ⟨r3, f3, h3, e12.trans e3, S3, p1⟩
          | ct f3 h3 => rw [zb] at p1; exact fun r3 H3 σ3 e3 S3 => ⟨r3, f3, h3, e12.trans e3, S3, p1⟩
          | bk f3 h3 => rw [zb] at p1; exact fun r3 H3 σ3 e3 S3 => p1 r3 H3 σ3 (e12.trans e3) S3
          | rt w3 h3 => rw [zb] at p1; exact fun r3 H3 v3 e3 R3 q3 => p1 r3 H3 v3 (e12.trans e3) R3 q3
          | ex c f3 h3 => rw [zb] at p1; exact fun r3 H3 σ3 e3 S3 => p1 r3 H3 σ3 (e12.trans e3) S3
          | bad => rw [zb] at p1; exact p1
/-! ### blocks -/
theorem pss_of {C : Cb} {cs : Stmt → S} (hp : ∀ st, PS X st (TSm G X.K Wx (exec C (cs st)))) : ∀ (sts : List Stmt), PSs X sts (TSm G X.K Wx (exec C (seqS (sts.map cs))))
  | [] => pss_weak pss_nil fun D σ H ⟨r, f, h, S, p⟩ => by
      have p : PostS G X.K Wx D r H (.nx f h) := p
      exact p r H σ .refl S
  | st :: sts => by
    refine pss_weak (pss_cons (hp st) (pss_of hp sts)) ?_
    rintro D σ H ⟨r, f, h, S, p⟩
    have p : PostS G X.K Wx D r H (match exec C (cs st) f h with
      | .nx f1 h1 => exec C (seqS (sts.map cs)) f1 h1
      | x => x) := p
    refine ⟨r, f, h, S, ?_⟩
    cases z : exec C (cs st) f h with
    | nx f1 h1 => rw [z] at p; exact fun r1 H1 σ1 e1 S1 => ⟨r1, f1, h1, S1, p.ext e1⟩
    | rt w h1 => rw [z] at p; exact p
    | bk f1 h1 => rw [z] at p; exact p
    | ct f1 h1 => rw [z] at p; exact p
    | ex c f1 h1 => rw [z] at p; exact p
    | bad => rw [z] at p; exact p
end
end WL

namespace WL
open PySem PySem.Spec PyProof.Rows L2
section
variable {G : Nm} {T : Tb} {k : Nat}
theorem swap_no {e : Expr} (h : noComp e = true) (t : Option Expr) (l : Nat) (env : Env) : swapsWith e t l env = pure false := by
  cases e <;> first | rfl | cases h
theorem swapS_no {e t : Expr} (h : noComp e = true) (l : Nat) (env : Env) : swapsWithSole [t] e l env = pure false := swap_no h (some t) l env
theorem swap_tgt {e t : Expr} (l : Nat) (env : Env) (h : ∀ x p, t ≠ .Name x p) : swapsWith e (some t) l env = pure false := by
  cases e <;> first | rfl | (cases t <;> first | rfl | exact absurd rfl (h _ _))
theorem swapped_no {ts : List Expr} {kt : Nat} {pt : Pos} {e : Expr} {env : Env} (h : ∀ vs k p, e ≠ .Tuple vs k p) : swappedStores [.Tuple ts kt pt] e env = pure none := by
  cases e <;> first | rfl | exact absurd rfl (h _ _ _)
theorem exec_bad (C : Cb) : exec C .bad = fun _ _ => .bad := by funext f h; rfl
theorem assign_sub {o i : Expr} {p : Pos} {env : Env} (h : noSlice i = true) : ∀ v, assign (.Subscript o i p) env v = (do let ov ← holding [v] (eval o env); let iv ← holding [v, ov] (eval i env); standAt p; holding [v, ov, iv] (setItem ov iv v); release [v, ov, iv] []) := by
  intro v
  cases i <;> first | rfl | cases h
theorem lc_swap {elt : Expr} {gs : List Comprehension} {scope : Scope} {p py : Pos} {y : Str} {l : Nat} {env : Env} : ∃ b, swapsWith (.ListComp elt gs scope p) (some (.Name y py)) l env = pure b ∧ (b = true → env.kindOf y = some .local) := by
  refine ⟨_, rfl, fun h => ?_⟩
  simp only [Bool.and_eq_true, beq_iff_eq] at h
  exact h.1.1.2
theorem no_ip {X : Cx} {o : Operator} : PIp X o (fun _ _ _ _ => False) := fun _ _ _ _ _ _ _ _ _ _ _ _ h => h.elim
theorem soundS {C : Cb} : ∀ (n : Nat) (s : Sx) (X : Cx) (Wx : WX), GoodS G T k C s X Wx → ∀ st, PS X st (TSm G X.K Wx (exec C (compS G n s st)))
  | 0, s, X, Wx, O, st => ps_bad
  | n + 1, s, X, Wx, O, st => by
    have ih : ∀ st, PS X st (TSm G X.K Wx (exec C (compS G n s st))) := soundS n s X Wx O
    have ihs := fun sts => pss_of ih sts
    have se : ∀ e, SE G C X Wx e (compE G n s e) := soundAll k n C s X Wx O.toGood
    have pv : ∀ e, PE X e (TEm G X.K Wx (ev C (compE G n s e))) := fun e => (se e).v
    have hN : X.N.Nodup := by rw [O.eN]; exact O.nd
    have hu1 : X.A.units + 1 < cLine := hu_of O.room
    cases st with
    | Pass p => exact ps_weak ps_pass fun D σ H ⟨r, f, h, S, p⟩ => p r H σ .refl S
    | Break p => exact ps_weak ps_break fun D σ H ⟨r, f, h, S, p⟩ => p r H σ .refl S
    | Continue p => exact ps_weak ps_continue fun D σ H ⟨r, f, h, S, p⟩ => p r H σ .refl S
    | Expr e p =>
      simp only [compS]
      split
      · rename_i hn
        exact ps_weak (ps_expr (pv e) (swap_no hn _ _ _)) ts_exp
      · exact ps_bad
    | Return v p =>
      cases v with
      | none =>
        refine ps_weak ps_retN ?_
        rintro D σ H ⟨r, f, h, S, p⟩
        have p : PostS G X.K Wx D r H (.rt .non h) := p
        exact p r H .non .refl S.heap rfl
      | some e => exact ps_weak (ps_ret (pv e)) ts_ret
    | Assign ts e p =>
      rcases ts with _ | ⟨t, _ | ⟨t2, ts⟩⟩
      · exact ps_bad
      · cases t with
        | Name x px =>
          simp only [compS]
          split
          · rename_i hc
            simp only [Bool.and_eq_true] at hc
            obtain ⟨k1, k2⟩ := O.tgt x hc.1
            split
            · rename_i i hi
              have hat : X.N[i]? = some x := by rw [O.eN]; exact idxS_get hi
              by_cases hn : noComp e = true
              · exact ps_weak (ps_set hN hat k1 (pv e) (swap_no hn _ _ _) k2) ts_set
              · cases e with
                | ListComp elt gens scope pl =>
                  obtain ⟨b, hb, hb2⟩ := lc_swap (elt := elt) (gs := gens) (scope := scope) (p := pl) (py := px) (y := x) (l := p.line) (env := X.env)
                  cases b with
                  | false => exact ps_weak (ps_set hN hat k1 (pv _) hb k2) ts_set
                  | true =>
                    cases n with
                    | zero => exact ps_weak (t := fun _ _ _ => False) ⟨fun _ _ _ _ _ _ h => h.elim⟩ (fun D σ H ⟨r, f, h, S, p⟩ => p)
                    | succ n =>
                      rcases gens with _ | ⟨⟨tg, iter, ifs, isa⟩, _ | ⟨g2, gens⟩⟩
                      · exact ps_weak (t := fun _ _ _ => False) ⟨fun _ _ _ _ _ _ h => h.elim⟩ (fun D σ H ⟨r, f, h, S, p⟩ => p)
                      · simp only [compE]
                        split
                        · rename_i hz
                          subst hz
                          rcases lc_ok O.toGood (n := n) (soundAll k n C) (elt := elt) (tg := tg) (iter := iter) (ifs := ifs) (scope := scope) (pos := pl) with h | ⟨own, t, it, cond, c, h, ho, _, hset⟩
                          · rw [h]
                            exact ps_weak (t := fun _ _ _ => False) ⟨fun _ _ _ _ _ _ h => h.elim⟩ (fun D σ H ⟨r, f, h, S, p⟩ => p)
                          · rw [h]
                            refine ps_weak (hset i x px p hat (hb2 rfl) hb) fun D σ H q => ?_
                            have q2 := ts_set (G := G) (X := X) (Wx := Wx) (ma := ev C (.lc own t it cond c)) (i := i) D σ H q
                            rw [ev_lcM] at q2
                            exact te_lcA ho σ H _ q2
                        · exact ps_weak (t := fun _ _ _ => False) ⟨fun _ _ _ _ _ _ h => h.elim⟩ (fun D σ H ⟨r, f, h, S, p⟩ => p)
                      · exact ps_weak (t := fun _ _ _ => False) ⟨fun _ _ _ _ _ _ h => h.elim⟩ (fun D σ H ⟨r, f, h, S, p⟩ => p)
                | SetComp _ _ _ _ =>
                  cases n <;> exact ps_weak (t := fun _ _ _ => False) ⟨fun _ _ _ _ _ _ h => h.elim⟩ (fun D σ H ⟨r, f, h, S, p⟩ => p)
                | DictComp _ _ _ _ _ =>
                  cases n <;> exact ps_weak (t := fun _ _ _ => False) ⟨fun _ _ _ _ _ _ h => h.elim⟩ (fun D σ H ⟨r, f, h, S, p⟩ => p)
                | _ => exact absurd rfl hn
            · exact ps_bad
          · exact ps_bad
        | Tuple tl kt pt =>
          by_cases ht : ∃ vs k2 p2, e = .Tuple vs k2 p2
          · obtain ⟨vs, k2, p2, rfl⟩ := ht
            simp only [compS]
            split
            · rename_i hc
              simp only [Bool.and_eq_true, decide_eq_true_eq] at hc
              obtain ⟨⟨⟨⟨h1, h2⟩, h3⟩, h4⟩, h5⟩ := hc
              split
              · rename_i is hi
                split
                · rename_i hd
                  have hlen : ∀ f h ws h', evs C (listE (vs.map (compE G n s))) f h = .ok ws h' → ws.length = vs.length := fun f h ws h' z => by rw [evs_len z, List.length_map]
                  exact ps_parA O.toNmOk h1 h2 h3 h4 hi hd (pa_all pv h2) hlen (Nat.le_trans (Nat.le_of_lt h5) (by decide))
                · exact ps_bad
              · exact ps_bad
            · exact ps_bad
          · have ht' : ∀ vs k p, e ≠ .Tuple vs k p := fun vs k p z => ht ⟨vs, k, p, z⟩
            have e1 : compS G (n + 1) s (.Assign [.Tuple tl kt pt] e p) = if tl.all noStar && noComp e then .unp (.tup (listE (tl.map (compT s n)))) (compE G n s e) else .bad := by
              cases e <;> first | rfl | exact absurd rfl (ht' _ _ _)
            rw [e1]
            split
            · rename_i hc
              simp only [Bool.and_eq_true] at hc
              have e2 : .tup (listE (tl.map (compT s n))) = compT s (n + 1) (.Tuple tl kt pt) := by simp only [compT, hc.1, if_pos]
              rw [e2]
              exact ps_weak (ps_asg (pv e) (pgT O.toNmOk (n + 1) _) (swapS_no hc.2 _ _) (swapped_no ht') rfl) ts_unp
            · exact ps_bad
        | Subscript o i pi =>
          simp only [compS]
          split
          · rename_i hc
            simp only [Bool.and_eq_true] at hc
            exact ps_weak (ps_asg (pv e) (pg_sub (pv o) (pv i) (PSet.or set_list (set_dict hu1)) (assign_sub hc.1)) (swapS_no hc.2 _ _) rfl rfl) ts_sub
          · exact ps_bad
        | Attribute o x px =>
          simp only [compS]
          split
          · rename_i m hm
            refine ps_weak (ps_fldA (C := C) O.sta (idxS_get hm) (pv o) (pv e) (swap_tgt _ _ (fun y q => by intro z; cases z))) ?_
            rintro D σ H ⟨r, f, h, S, p⟩
            have p : PostS G X.K Wx D r H ((ev C (compE G n s e) f h).asS f fun w h1 => (ev C (compE G n s o) f h1).asS f fun y h2 => (match y with
              | .ref a => (match h2[a]? with
                | some (.ins c fs) => if fs.length < 1000 then .nx f (h2.set a (.ins c (putN m w fs))) else .bad
                | _ => .bad)
              | _ => .bad)) := p
            refine ⟨r, f, h, S, ?_⟩
            cases z : ev C (compE G n s e) f h with
            | bad => rw [z] at p; exact p.elim
            | exc c h1 => rw [z] at p; exact p
            | ok w h1 =>
              rw [z] at p
              simp only
              have p : PostS G X.K Wx D r H ((ev C (compE G n s o) f h1).asS f fun y h2 => (match y with
                | .ref a => (match h2[a]? with
                  | some (.ins c fs) => if fs.length < 1000 then .nx f (h2.set a (.ins c (putN m w fs))) else .bad
                  | _ => .bad)
                | _ => .bad)) := p
              cases z2 : ev C (compE G n s o) f h1 with
              | bad => rw [z2] at p; exact p.elim
              | exc c h2 => rw [z2] at p; exact p
              | ok y h2 =>
                rw [z2] at p
                cases y with
                | ref a =>
                  simp only
                  have p : PostS G X.K Wx D r H (match h2[a]? with
                    | some (.ins c fs) => if fs.length < 1000 then .nx f (h2.set a (.ins c (putN m w fs))) else .bad
                    | _ => .bad) := p
                  cases z3 : h2[a]? with
                  | none => rw [z3] at p; exact p.elim
                  | some ob =>
                    rw [z3] at p
                    cases ob with
                    | ins c fs =>
                      simp only at p ⊢
                      by_cases hl : fs.length < 1000
                      · rw [if_pos hl] at p; exact ⟨hl, p⟩
                      · rw [if_neg hl] at p; exact p.elim
                    | _ => exact p.elim
                | _ => exact p.elim
          · exact ps_bad
        | _ => exact ps_bad
      · have e1 : compS G (n + 1) s (.Assign (t :: t2 :: ts) e p) = .bad := by cases t <;> rfl
        rw [e1]; exact ps_bad
    | AugAssign t o e p =>
      cases t with
      | Name x px =>
        simp only [compS]
        split
        · rename_i hc
          simp only [Bool.and_eq_true] at hc
          obtain ⟨k1, k2⟩ := O.tgt x hc.1
          split
          · rename_i i hi
            have hat : X.N[i]? = some x := by rw [O.eN]; exact idxS_get hi
            by_cases ho : o = .Add
            · subst ho
              refine ps_weak (ps_aug hN hat k1 (pv e) ip_add k2) (ts_aug (o := .Add) fun x y v u r H Q q1 q2 hA hS hk => ?_)
              obtain ⟨_, ⟨a, rfl⟩, ⟨b, rfl⟩⟩ := hk
              exact ⟨a, b, q1, q2, hA a b rfl rfl rfl⟩
            · by_cases ho2 : o = .Sub
              · subst ho2
                refine ps_weak (ps_aug hN hat k1 (pv e) ip_sub k2) (ts_aug (o := .Sub) fun x y v u r H Q q1 q2 hA hS hk => ?_)
                obtain ⟨_, ⟨a, rfl⟩, ⟨b, rfl⟩⟩ := hk
                exact ⟨a, b, q1, q2, hS a b rfl rfl rfl⟩
              · exact ps_weak (ps_aug hN hat k1 (pv e) no_ip k2) (ts_aug (o := o) fun x y v u r H Q q1 q2 hA hS hk => hk.1.elim ho ho2)
          · exact ps_bad
        · exact ps_bad
      | _ => exact ps_bad
    | If c a b p =>
      simp only [compS]
      split
      · exact ps_bad
      · rename_i hn
        simp only [Bool.not_eq_true', Bool.not_eq_false] at hn
        exact ps_weak (ps_if ((se c).t hn) (ihs a) (ihs b)) ts_if
    | While c b oe p =>
      cases oe with
      | nil =>
        simp only [compS]
        split
        · exact ps_bad
        · rename_i hn
          simp only [Bool.not_eq_true', Bool.not_eq_false] at hn
          exact ps_weak (ps_while O.own ((se c).t hn) (ihs b)) ts_while
      | cons _ _ => exact ps_bad
    | For tg it b oe p =>
      cases oe with
      | nil =>
        simp only [compS]
        split
        · rename_i hn
          exact ps_weak (ps_for O.own O.calm (pi_ok O.toGood se tg it) (pgT O.toNmOk n tg) (ihs b) (foldSet hn X.env)) ts_for
        · exact ps_bad
      | cons _ _ => exact ps_bad
    | Raise v cs p =>
      cases cs with
      | some _ => exact ps_bad
      | none =>
        simp only [compS]
        split
        · rename_i x hv
          obtain ⟨px, m, j, p2, pc, rfl⟩ := raiseOf_eq hv
          split
          · rename_i hc
            simp only [Bool.and_eq_true] at hc
            split
            · rename_i c hi
              have E := O.exs c x (idxS_get hi)
              refine ps_weak (ps_raise O.calm O.tk (pmk_own PySem.F.excBase_ValueError E.exc E.mg_ E.kp (raises_own E.sub E.ty) (O.gl hc.2) (plainN_ok hc.1).1)) ?_
              rintro D σ H ⟨r, f, h, S, p⟩
              have p : PostS G X.K Wx D r H (.ex c f h) := p
              exact p r H σ .refl S
            · exact ps_bad
          · exact ps_bad
        · exact ps_bad
    | _ => exact ps_bad
end
end WL

/-! tables off the text; every def at every level -/
namespace WL
open PySem PySem.Spec PyProof.Rows L2
/-! ### the defs of a program -/
def docD (b : List Stmt) : List Stmt := b
def metD (c : Str) (s : Stmt) : Option He.DefD := match s with
  | .FunctionDef n a b _ _ _ sc _ _ _ => some ⟨(c, some n), n, c ++ "." ++ n, a, b, sc, [], []⟩
  | _ => none
def defD (s : Stmt) : List He.DefD := match s with
  | .FunctionDef n a b _ _ _ sc _ _ _ => [⟨(n, none), n, n, a, b, sc, [], []⟩]
  | .ClassDef c _ _ b _ _ _ _ _ _ _ => b.filterMap (metD c)
  | _ => []
/-! ### the names of a program -/
def exStep (acc : List Str) (s : Stmt) : List Str := match s with
  | .ClassDef c [.Name b _] _ _ _ _ _ _ _ _ _ => if decide (b = "ValueError") || acc.any (fun y => decide (y = b)) then acc ++ [c] else acc
  | _ => acc
def exsOf (b : List Stmt) : List Str := b.foldl exStep []
def clsOf (b : List Stmt) : List Str := b.filterMap fun s => match s with
  | .ClassDef c _ _ _ _ _ _ _ _ _ _ => if (exsOf b).any (fun y => decide (y = c)) then none else some c
  | _ => none
def conOf (b : List Stmt) : List (Str × Int) := b.filterMap fun s => match s with
  | .Assign [.Name x _] (.Constant (.int i) _ _) _ => some (x, i)
  | _ => none
/-- fields: self.x = .. in a method -/
def fldS (st : Stmt) : Option Str := match st with
  | .Assign [.Attribute (.Name _ _) f _] _ _ => some f
  | _ => none
def fldOf (b : List Stmt) : List Str := dedS ((b.flatMap defD).flatMap fun d => match d.at_.2 with
  | some _ => d.body.filterMap fldS
  | none => []) []
/-- whether a lambda stands in an expression, in a statement -/
def lamE : Nat → Expr → Bool
  | 0, _ => false
  | n + 1, e => match e with
    | .Lambda _ _ _ _ => true
    | .BoolOp _ es _ => es.any (lamE n)
    | .BinOp a _ b _ => lamE n a || lamE n b
    | .UnaryOp _ a _ => lamE n a
    | .IfExp a b c _ => lamE n a || lamE n b || lamE n c
    | .Compare a _ bs _ => lamE n a || bs.any (lamE n)
    | .Call f as _ _ => lamE n f || as.any (lamE n)
    | .List es _ => es.any (lamE n)
    | .Tuple es _ _ => es.any (lamE n)
    | _ => false
def lamS : Nat → Stmt → Bool
  | 0, _ => false
  | n + 1, st => match st with
    | .Return v _ => (optL v).any (lamE n)
    | .Assign _ v _ => lamE n v
    | .For _ it b _ _ => lamE n it || b.any (lamS n)
    | .While c b _ _ => lamE n c || b.any (lamS n)
    | .If c a b _ => lamE n c || a.any (lamS n) || b.any (lamS n)
    | .Expr e _ => lamE n e
    | _ => false
/-- a lambda's qualified name -/
def lamQ (q : Str) : Str := q ++ ".<locals>." ++ "<lambda>"
def mkrOf (b : List Stmt) : List ((Str × Option Str) × Str) := (b.flatMap defD).filterMap fun d => if d.body.any (lamS 40) then some (d.at_, lamQ d.qual) else none
def nmOf (b : List Stmt) (tds : List Str) : Nm := ⟨(b.flatMap defD).map (·.at_), clsOf b, exsOf b, fldOf b, dedS ((b.flatMap defD).filterMap fun d => d.at_.2) [], conOf b, mkrOf b, tds⟩
def topN (s : Stmt) : Option Str := match s with
  | .FunctionDef n _ _ _ _ _ _ _ _ _ => some n
  | .ClassDef n _ _ _ _ _ _ _ _ _ _ => some n
  | .Assign [.Name x _] _ _ => if x = "__name__" then none else some x
  | _ => none
def looseN (b : List Stmt) : List Str := (b.filterMap topN).filter (fun x : Str => !(decide (x = ("law" : Str)))) ++ [("__name__" : Str)]
end WL

namespace WL
open PySem PySem.Spec PyProof.Rows L2
/-! ### the machine's tables off the text -/
def idxM (c m : Str) : List (Str × Option Str) → Option Nat
  | [] => none
  | (x, some y) :: r => if x = c ∧ y = m then some 0 else (idxM c m r).map (· + 1)
  | (_, none) :: r => (idxM c m r).map (· + 1)
theorem idxM_get {c m : Str} : ∀ {l : List (Str × Option Str)} {g : Nat}, idxM c m l = some g → l[g]? = some (c, some m)
  | [], _, h => by cases h
  | (x, some y) :: r, g, h => by
    unfold idxM at h
    split at h
    · rename_i e
      cases h
      rw [e.1, e.2]; rfl
    · cases z : idxM c m r with
      | none => rw [z] at h; cases h
      | some k => rw [z] at h; cases h; simpa using idxM_get z
  | (x, none) :: r, g, h => by
    unfold idxM at h
    cases z : idxM c m r with
    | none => rw [z] at h; cases h
    | some k => rw [z] at h; cases h; simpa using idxM_get z
def baseC (b : List Stmt) (c : Str) : Option Str := b.findSome? fun s => match s with
  | .ClassDef x [.Name y _] _ _ _ _ _ _ _ _ _ => if x = c then some y else none
  | _ => none
def isSub (b : List Stmt) : Nat → Str → Str → Bool
  | 0, _, _ => false
  | n + 1, c, d => if c = d then true else match baseC b c with
    | some y => isSub b n y d
    | none => false
def tbOf (b : List Stmt) (G : Nm) (ds : List He.DefD) : Tb where
  fns := ds.map (fnI G)
  init := G.cls.map fun c => idxM c "__init__" G.fns
  met := G.cls.map fun c => G.mets.map fun m => idxM c m G.fns
  sub := G.cls.map fun c => G.cls.map fun d => isSub b 8 c d
  xsub := G.exs.map fun c => (G.exs.map fun d => isSub b 8 c d) ++ [true]
  tks := ds.map (tkOf G)
/-! ### what is known behind the top -/
def clTB (K : PySem.W.Frag) (C : Addr) : Bool := He.eqO (PySem.W.findIn K (.ref C) "__class__") (some (some (.builtin "object.__class__"))) && (He.eqO (PySem.W.specialIn K (.builtin "object.__class__") "__get__") (some (some (.builtin "getset_descriptor.__get__"))) &&
  (decide (PySem.W.takesIn K (.builtin "object.__class__") = some true) && decide (PySem.W.mroIn K C (.type "object") = some true)))
theorem clTB_ok {K : PySem.W.Frag} {C : Addr} (h : clTB K C = true) : ClT K C := by
  obtain ⟨h1, h⟩ := He.ba h
  obtain ⟨h2, h⟩ := He.ba h
  obtain ⟨h3, h4⟩ := He.ba h
  exact ⟨He.eqO_ok h1, He.eqO_ok h2, of_decide_eq_true h3, of_decide_eq_true h4⟩
def mk0B (K : PySem.W.Frag) (C : Addr) : Bool := PySem.W.makesIn K C && (He.eqO (PySem.W.findIn K (.ref C) "__init__") (some (some (.builtin "object.__init__"))) && PySem.W.keepIn K (.ref C))
theorem mk0B_ok {K : PySem.W.Frag} {C : Addr} (h : mk0B K C = true) : Mk0 K C := by
  obtain ⟨h1, h⟩ := He.ba h
  obtain ⟨h2, h3⟩ := He.ba h
  exact ⟨h1, He.eqO_ok h2, h3⟩
def excB (K : PySem.W.Frag) (D : Addr) : Bool := He.eqO (PySem.W.findIn K (.ref D) "__getattribute__") (some (some (.builtin "BaseException.__getattribute__"))) && (He.eqO (PySem.W.findIn K (.ref D) "__getattr__") (some none) &&
  (decide (PySem.W.subIn K (.ref D) (.type "BaseException") = some true) && (PySem.W.hasDictIn K D && clTB K D)))
theorem excB_ok {K : PySem.W.Frag} {D : Addr} (h : excB K D = true) : ExcC K D := by
  obtain ⟨h1, h⟩ := He.ba h
  obtain ⟨h2, h⟩ := He.ba h
  obtain ⟨h3, h⟩ := He.ba h
  obtain ⟨h4, h5⟩ := He.ba h
  obtain ⟨k1, k2, k3, k4⟩ := clTB_ok h5
  exact ⟨He.eqO_ok h1, He.eqO_ok h2, of_decide_eq_true h3, h4, k1, k2, k3, k4⟩
/-- the heap's part is as the tables say -/
def exB (G : Nm) (T : Tb) (K : PySem.W.Frag) : Bool :=
  ((List.range G.cls.length).all fun c => clTB K (cA G K c) && (PySem.W.keepIn K (.ref (cA G K c)) && ((match T.init[c]? with | some none => mk0B K (cA G K c) | _ => true) &&
    (List.range G.cls.length).all fun d => decide (PySem.W.kitOne K (.ref (cA G K c)) (.ref (cA G K d)) = some (T.subB c d))))) &&
  ((List.range T.xsub.length).all fun e => excB K (xA G K e) && (List.range (G.exs.length + 1)).all fun d => match T.subX e d with
    | none => true
    | some b => decide (PySem.W.kitOne K (.ref (xA G K e)) (xV G K d) = some b) && (!decide (d < G.exs.length) || decide (PySem.W.exmOne K (.ref (xA G K e)) (.ref (xA G K d)) = some b))) &&
  (G.mkrs.all fun p => G.mkrs.all fun q => !decide ((He.cT K p.1).2 = (He.cT K q.1).2) || decide (p.2 = q.2))
/-- the tables are in order -/
def ordB (G : Nm) (T : Tb) (ds : List He.DefD) : Bool := ds.all defB && ndS G.flds && (G.mets.all fun m => !(G.flds.any fun f => decide (f = m))) && (T.xsub.all fun l => decide (l.length ≤ G.exs.length + 1)) &&
  ((List.range ds.length).all fun g => match (T.tks[g]?).join, ds[g]? with
    | some _, some d => d.at_.2.isNone && decide (d.name = d.at_.1) && decide (d.qual = d.at_.1)
    | _, _ => true) && ndS (G.mkrs.map fun p => p.2) && ds.all fun d => !(G.mkrs.any fun p => decide (p.1 = d.at_)) || G.mkrs.any fun p => decide (p.1 = d.at_) && decide (p.2 = lamQ d.qual)
def faOf (G : Nm) (T : Tb) : List He.Fa :=
  (G.fns.filterMap fun p => match p.2 with | none => some (He.Fa.glo p.1) | some _ => none) ++ bnames.map He.Fa.free ++ G.consts.map (fun p => He.Fa.int p.1 p.2) ++ (G.exs.flatMap fun x => [He.Fa.glo x, He.Fa.exc x]) ++
  (G.cls.flatMap fun x => [He.Fa.glo x, He.Fa.cls x] ++ G.flds.map fun f => He.Fa.noat x f) ++
  ((List.range G.cls.length).flatMap fun c => match G.cls[c]? with
    | none => []
    | some x => (match T.init[c]? with | some (some _) => [He.Fa.mkr x] | _ => []) ++ G.mets.flatMap fun m => if (idxM x m G.fns).isSome then [He.Fa.meth x m] else [])
/-- what is known of a program's defs -/
structure Stat (G : Nm) (T : Tb) (ds : List He.DefD) (K : PySem.W.Frag) (mg : Str → Option Value) : Prop where
  eF : G.fns = ds.map (·.at_)
  eT : T.fns = ds.map (fnI G)
  ok : ds.all defB = true
  defs : ∀ d ∈ ds, ∃ fd, FunD K d.name d.qual d.params d.body d.scope [] [] (He.fAd K d.at_) fd
  sta : Sta G T K mg
  exs : ∀ (c : Nat) (x : Str), G.exs[c]? = some x → ExcF G K mg c x
  mkq : ∀ d ∈ ds, (G.mkrs.any fun p => decide (p.1 = d.at_)) = true → (d.at_, lamQ d.qual) ∈ G.mkrs
  mkn : (G.mkrs.map fun p => p.2).Nodup
  mki : ∀ p ∈ tabL G K, ∀ q ∈ tabL G K, p.1 = q.1 → p.2 = q.2
section
variable {G : Nm} {T : Tb} {ds : List He.DefD} {K : PySem.W.Frag} {mg : Str → Option Value} {P : Program} {w : World}
theorem fA_eq (S : Stat G T ds K mg) {g : Nat} {d : He.DefD} (h : ds[g]? = some d) : fA G K g = He.fAd K d.at_ := by
  unfold fA
  rw [S.eF, List.getElem?_map, h]; rfl
theorem start_rel {K : PySem.W.Frag} {r : List Addr} {h : Hm} {H : Hp} (R : RelH G K r h H) : ∀ {ws : List W} {vs : List V} (n : Nat), RVs G K r H ws vs → RelS G K r (ws.map some ++ List.replicate n none) h (vs.map some ++ List.replicate n none) H := by
  intro ws vs n q
  refine ⟨R, fun i w hi => ?_, by simp [q.length]⟩
  by_cases hl : i < ws.length
  · rw [List.getElem?_append_left (by simpa using hl), List.getElem?_map] at hi
    cases z : ws[i]? with
    | none => rw [z] at hi; cases hi
    | some u =>
      rw [z] at hi
      simp at hi; subst hi
      obtain ⟨v, h1, h2⟩ := q.get z
      exact ⟨v, by rw [List.getElem?_append_left (by simp [q.length]; exact hl), List.getElem?_map, h1]; rfl, h2⟩
  · rw [List.getElem?_append_right (by simp; omega)] at hi
    rw [List.getElem?_replicate] at hi
    split at hi
    · cases hi
    · cases hi
theorem cK_ok (T : Tb) : ∀ k, (∀ g th h, (cbM T k).thkc g th h = .bad) ∨ ∃ j, k = j + 2 ∧ (cbM T k).thkc = runT (cbM T (j + 1)) ∧ (cbM T k).lcall = callM T j ∧ (cbM T k).lmake = mkM T j ∧ (cbM T k).lcods = codM T j
  | 0 => .inl fun _ _ _ => rfl
  | 1 => .inl fun g th h => by
    show (if 0 = 0 then R.bad else runT (cbM T 0) g th h) = .bad
    exact if_pos rfl
  | k + 2 => .inr ⟨k, rfl, thkc_eq T k, rfl, rfl, rfl⟩
/-- the tables of this base -/
def TabsB (G : Nm) (K : PySem.W.Frag) (mg : Str → Option Value) (base : Heap) : Prop := ∀ p ∈ G.mkrs, LamX.TabB base mg (He.cT K p.1).1 (He.cT K p.1).2
theorem mkr_ok (S : Stat G T ds K mg) {base : Heap} (B : TabsB G K mg base) {d : He.DefD} (hd : d ∈ ds) {fd : FuncData} (F : FunD K d.name d.qual d.params d.body d.scope [] [] (He.fAd K d.at_) fd) {f : Addr} {cdv : Value} {n : Nat} (hc : fd.code = cdv) :
    MkOk G K mg base (envOfC d.qual d.scope n f cdv).code ((envOfC d.qual d.scope n f cdv).qual ++ "<lambda>") ∨ (sxOf G d).ml = false := by
  have eq : (envOfC d.qual d.scope n f cdv).qual ++ "<lambda>" = lamQ d.qual := rfl
  have ecd : (envOfC d.qual d.scope n f cdv).code = cdv := rfl
  rw [eq, ecd]
  cases z : (G.mkrs.any fun p => decide (p.1 = d.at_)) with
  | false => exact .inr z
  | true =>
    have hm := S.mkq d hd z
    obtain ⟨oc, od, dV, kV, doc, pm, an, cdv2, ct, osl, efd, lk, hcd, _, _⟩ := F.ex
    obtain ⟨c, ec⟩ := He.codeIn_ref hcd
    have e1 : fd.code = .ref c := by rw [efd]; exact ec
    have e2 : He.codeOf K d.at_ = c := He.codeOf_eq lk e1
    have mem : ((He.cT K d.at_).2, lamQ d.qual) ∈ tabL G K := List.mem_map_of_mem (f := fun p : (Str × Option Str) × Str => ((He.cT K p.1).2, p.2)) hm
    have un : ∀ p ∈ tabL G K, p.1 = (He.cT K d.at_).2 → p.2 = lamQ d.qual := fun p hp e => S.mki p hp ((He.cT K d.at_).2, lamQ d.qual) mem e
    refine .inl ⟨c, (He.cT K d.at_).2, ?_, ?_, mem, un⟩
    · rw [← hc]; exact e1
    · have z2 := B _ hm
      have e3 : (He.cT K d.at_).1 = c := e2
      rw [e3] at z2
      exact z2
/-- a def at a level, given the levels below -/
theorem lev_at (S : Stat G T ds K mg) (k : Nat) (base : Heap) (B : TabsB G K mg base) (lo : ∀ j, j < k → Lev G T P w K mg base j) {g : Nat} {d : He.DefD} (zd : ds[g]? = some d) {fd : FuncData} (F : FunD K d.name d.qual d.params d.body d.scope [] [] (He.fAd K d.at_) fd) :
    Binds K fd (parN d.params) [] ∧ FnOk P w K mg base (L2.CX P w) k (He.fAd K d.at_) fd (parN d.params) (spM G K T k g) := by
  have hb := List.all_eq_true.mp S.ok d (List.mem_of_getElem? zd)
  unfold defB at hb
  simp only [Bool.and_eq_true] at hb
  obtain ⟨⟨⟨h1, h2⟩, h3⟩, h4⟩ := hb
  have sc := scope_ok h4
  have hnd : (parN d.params).Nodup := by rw [← sc.pre]; exact sc.nd.sublist (List.take_sublist _ _)
  have hB : Binds K fd (parN d.params) [] := F.bindsN fun kV doc pm an cdv ct us hl => bind_plain h1 rfl rfl hnd hl
  refine ⟨hB, ?_⟩
  have hT : T.fns[g]? = some (fnI G d) := by rw [S.eT, List.getElem?_map, zd]; rfl
  have hlen : ∀ k vs H Q E, spM G K T k g vs H Q E → vs.length = (parN d.params).length := by
    rintro k vs H Q E ⟨r, h, ws, R, q, p⟩
    rw [q.length]
    cases k with
    | zero => exact p.elim
    | succ k =>
      rw [callM_succ] at p
      unfold runF at p
      rw [cbM_tb, hT] at p
      by_cases e : ws.length = (fnI G d).np
      · exact e
      · simp only [if_neg e] at p; exact p.elim
  cases k with
  | zero => exact ⟨hlen 0, fun A outer s H args us vs Q E hr he hb hv hs => by obtain ⟨_, _, _, _, _, p⟩ := hs; exact p.elim⟩
  | succ k =>
    obtain ⟨oc, od, dV, kV, doc, pm, an, cdv, ct, osl, efd, lk, hcd, _, _⟩ := F.ex
    have hcode : fd.code = cdv := by rw [efd]
    have mk := fun n => mkr_ok S B (List.mem_of_getElem? zd) F (f := He.fAd K d.at_) (n := n) hcode
    subst efd
    refine fn_of lk hcd sc (hlen (k + 1)) fun A outer s H vs Q E hr hsp => ?_
    refine ⟨TSm G K (fun c dd _ H' => E c dd H') (exec (cbM T k) (seqS (d.body.map (compS G 40 (sxOf G d))))), ?_, ?_⟩
    · refine pss_of (X := cxOf (L2.CX P w) P w K mg base (slotN d) d.qual d.scope (He.fAd K d.at_) cdv A outer s H E) (fun st => soundS (T := T) (k := k) 40 (sxOf G d) _ _ ?_ st) d.body
      refine ⟨⟨⟨rfl, sc.nd, rfl, fun x hx => ⟨locB_ok hx, .inl rfl⟩, rfl⟩, hr, takes_of rfl rfl rfl rfl, S.sta, fun j hj => lo j (by omega), mk _, cbM_tb T k, rfl, rfl, rfl, ?_⟩, passes_of rfl, S.exs⟩
      exact cK_ok T k
    · obtain ⟨r, h, ws, R, q, p⟩ := hsp
      rw [callM_succ] at p
      unfold runF at p
      rw [cbM_tb, hT] at p
      by_cases e : ws.length = (fnI G d).np
      · simp only [if_pos e] at p
        refine ⟨r, ws.map some ++ List.replicate ((fnI G d).ns - ws.length) none, h, ?_, ?_⟩
        · have := start_rel R ((slotN d).length - vs.length) q
          unfold L2.start
          rw [show (fnI G d).ns - ws.length = (slotN d).length - vs.length by rw [q.length]; rfl]
          exact this
        · have p : PostG G K (relW G K) (fun c d _ H' => E c d H') [] r H (match exec (cbM T k) (seqS (d.body.map (compS G 40 (sxOf G d)))) (ws.map some ++ List.replicate ((fnI G d).ns - ws.length) none) h with
            | .rt w h1 => .ok w h1
            | .nx _ h1 => .ok .non h1
            | .ex c _ h1 => .exc c h1
            | _ => .bad) Q := p
          cases z : exec (cbM T k) (seqS (d.body.map (compS G 40 (sxOf G d)))) (ws.map some ++ List.replicate ((fnI G d).ns - ws.length) none) h with
          | nx f1 h1 => rw [z] at p; exact fun r' H' σ' e' S' => p r' H' .non e' S'.heap rfl
          | rt w1 h1 => rw [z] at p; exact fun r' H' v' e' R' q' => p r' H' v' e' R' q'
          | bk f1 h1 => rw [z] at p; exact p.elim
          | ct f1 h1 => rw [z] at p; exact p.elim
          | ex c f1 h1 => rw [z] at p; exact fun r' H' σ' e' S' => p r' H' e' S'.heap
          | bad => rw [z] at p; exact p.elim
      · simp only [if_neg e] at p; exact p.elim
/-- a lambda at a level -/
theorem lev_cod (S : Stat G T ds K mg) (k : Nat) (base : Heap) (lo : ∀ j, j < k → Lev G T P w K mg base j) (L : LamT) (np ns : Nat) (b : E) (ok : CodOk G L np ns b) (A : Around) (outer : List Env) (st : Shared) (H : Hp) (us : List Value) (vs : List V) (Q : VK) (En : XK) (a c : Addr) (hr : Room k A) (e0 : Env0 P w K mg base A outer st H)
    (ha : H a = some (LamO a L c)) (hc : H c = some (LamX.CodeO c L.qual)) (rv : Vals vs us) (hsp : spC G K T k np ns b vs H Q En) : codeAny (model P w) A (.call (.ref a) ⟨us, []⟩) (CR (L2.CX P w) outer P w H st Q En) st := by
  obtain ⟨r, h, ws, R, q, p⟩ := hsp
  cases k with
  | zero => exact p.elim
  | succ k =>
    rw [codM_succ] at p
    unfold runL at p
    by_cases e : ws.length = np
    · rw [if_pos e] at p
      obtain ⟨h1, h2, h3, h4, h5⟩ := lamB_ok ok.ok
      obtain ⟨n, eb⟩ := ok.b
      refine cod_run ok hr e0 ha hc rv (by rw [q.length, e]) fun F f1 f2 f3 f4 => ?_
      have O : Good G T k (cbM T k) (sxL L.params L.scope L.body) (NdefX.ncx (L2.CX P w) P w K mg base (sxL L.params L.scope L.body).N F a A outer st H En) (fun c d _ H' => En c d H') := by
        refine ⟨⟨rfl, h4.nd, f2, fun x hx => ?_, rfl⟩, hr.deeper _, takes_of rfl rfl rfl rfl, S.sta, fun j hj => lo j (by omega), .inr rfl, cbM_tb T k, rfl, rfl, rfl, ?_⟩
        · have hl : L.scope.names.lookup x = some .local := by
            rcases locB_ok hx with z | z
            · exact z
            · exact absurd rfl (h5 _ (PySem.mem_of_lookup z))
          have hl2 : (NdefX.ncx (L2.CX P w) P w K mg base (sxL L.params L.scope L.body).N F a A outer st H En).env.scope.names.lookup x = some .local := by
            show F.scope.names.lookup x = _
            rw [f2]; exact hl
          exact ⟨.inl hl2, .inr hl2⟩
        · exact cK_ok T k
      have pe := (soundAll k n (cbM T k) _ _ _ O L.body).v
      refine pe_weak pe ?_
      rintro σ H' Q' ⟨e1, e2, e3⟩
      subst e1 e2 e3
      refine ⟨r, ws.map some ++ List.replicate (ns - ws.length) none, h, ?_, ?_⟩
      · have z := start_rel R ((sxL L.params L.scope L.body).N.length - vs.length) q
        have ez : NdefX.startF (sxL L.params L.scope L.body).N vs [] = vs.map some ++ List.replicate ((sxL L.params L.scope L.body).N.length - vs.length) none := by
          unfold NdefX.startF; simp
        rw [ez, ok.ns, show ws.length = vs.length from q.length.symm]
        exact z
      · rw [← eb]
        cases z : ev (cbM T k) b (ws.map some ++ List.replicate (ns - ws.length) none) h with
        | ok w1 h1 => rw [z] at p; exact p
        | exc c1 h1 => rw [z] at p; exact p
        | bad => rw [z] at p; exact p
    · rw [if_neg e] at p; exact p.elim
theorem lev_ok (S : Stat G T ds K mg) (base : Heap) (B : TabsB G K mg base) : ∀ (k : Nat), Lev G T P w K mg base k := fun k => Nat.strongRecOn k fun k lo => by
  refine ⟨fun g p hg => ?_, fun L np ns b ok A outer st H us vs Q En a c hr e0 ha hc rv hsp => lev_cod S k base lo L np ns b ok A outer st H us vs Q En a c hr e0 ha hc rv hsp⟩
  rw [S.eF, List.getElem?_map] at hg
  cases zd : ds[g]? with
  | none => rw [zd] at hg; cases hg
  | some d =>
    obtain ⟨fd, F⟩ := S.defs d (List.mem_of_getElem? zd)
    obtain ⟨h1, h2⟩ := lev_at S k base B lo zd F
    exact ⟨fd, _, h1, by rw [fA_eq S zd]; exact h2⟩
theorem lev_fn (S : Stat G T ds K mg) (base : Heap) (B : TabsB G K mg base) (k : Nat) {g : Nat} {d : He.DefD} (zd : ds[g]? = some d) {fd : FuncData} (F : FunD K d.name d.qual d.params d.body d.scope [] [] (He.fAd K d.at_) fd) :
    FnOk P w K mg base (L2.CX P w) k (He.fAd K d.at_) fd (parN d.params) (spM G K T k g) := (lev_at S k base B (fun j _ => lev_ok S base B j) zd F).2
theorem fn_noexc {base : Heap} {k : Nat} {f : Addr} {fd : FuncData} {ps : List Str} {sp : Sp} (F : FnOk P w K mg base (L2.CX P w) k f fd ps sp) : FnOk P w K mg base CX0 k f fd ps (fun vs H Q _ => sp vs H Q fun _ _ _ => False) := by
  refine ⟨fun vs H Q _ q => F.len vs H Q _ q, fun A outer s H args us vs Q E hr he hb hv hs => ?_⟩
  refine codeAny_mono (F.run A outer s H args us vs Q _ hr he hb hv hs) fun r s' h => ?_
  cases r with
  | ok fl => cases fl <;> exact h
  | error e =>
    obtain ⟨_, _, _, _, _, _, _, _, _, _, _, _, z⟩ := h
    exact z.elim
end
end WL

namespace WL
open PySem PySem.Spec PyProof.Rows L2
theorem all_range {n : Nat} {f : Nat → Bool} (h : (List.range n).all f = true) {i : Nat} (hi : i < n) : f i = true := List.all_eq_true.mp h i (List.mem_range.mpr hi)
theorem subX_lt {T : Tb} {e d : Nat} {b : Bool} (h : T.subX e d = some b) : e < T.xsub.length ∧ ∃ l, T.xsub[e]? = some l ∧ d < l.length := by
  unfold Tb.subX at h
  cases z : T.xsub[e]? with
  | none => rw [z] at h; cases h
  | some l =>
    rw [z] at h
    exact ⟨(List.getElem?_eq_some_iff.mp z).1, l, rfl, (List.getElem?_eq_some_iff.mp (show l[d]? = some b from h)).1⟩
theorem stat_of {b : List Stmt} {G : Nm} {T : Tb} {ds : List He.DefD} {w : World} {K : PySem.W.Frag} {h : Heap} {mg : Str → Option Value} (X : K.In h) (Gn : h.Ns mainGlobals mg) (eF : G.fns = ds.map (·.at_)) (eT : T = tbOf b G ds) (ord : ordB G T ds = true)
    (c : He.SaysX (faOf G T) ds [] (G.mkrs.map (·.1)) (exB G T) w h K) : Stat G T ds K mg := by
  have cd : He.SaysD (faOf G T) ds K := congrArg (fun z : He.AlT => z.1) c.t
  unfold ordB at ord
  simp only [Bool.and_eq_true] at ord
  obtain ⟨⟨⟨⟨⟨⟨ok, o1⟩, o2⟩, o3⟩, o4⟩, o5⟩, o6⟩ := ord
  have ex := c.more
  unfold exB at ex
  simp only [Bool.and_eq_true] at ex
  obtain ⟨⟨x1, x2⟩, x3⟩ := ex
  have fct : ∀ f ∈ faOf G T, f.ok K = true := fun f hf => cd.facts hf
  have hdef : ∀ d ∈ ds, ∃ fd, FunD K d.name d.qual d.params d.body d.scope [] [] (He.fAd K d.at_) fd := fun d hd => by
    obtain ⟨fd, F⟩ := cd.defs hd
    have hb := List.all_eq_true.mp ok d hd
    unfold defB at hb
    simp only [Bool.and_eq_true, List.isEmpty_iff] at hb
    have e1 : d.dvs K = [] := by unfold He.DefD.dvs; rw [hb.1.1.2]; rfl
    have e2 : d.kws K = [] := by unfold He.DefD.kws; rw [hb.1.2]; rfl
    rw [e1, e2] at F
    exact ⟨fd, F⟩
  have fAeq : ∀ (g : Nat) (p : Str × Option Str), G.fns[g]? = some p → fA G K g = He.fAd K p := fun g p hg => by unfold fA; rw [hg]
  have cAeq : ∀ (g : Nat) (p : Str), G.cls[g]? = some p → cA G K g = He.ga K p := fun g p hg => by unfold cA; rw [hg]
  have xAeq : ∀ (g : Nat) (p : Str), G.exs[g]? = some p → xA G K g = He.ga K p := fun g p hg => by unfold xA; rw [hg]
  have dAt : ∀ (g : Nat) (p : Str × Option Str), G.fns[g]? = some p → ∃ d, ds[g]? = some d ∧ d.at_ = p := fun g p hg => by
    rw [eF, List.getElem?_map] at hg
    cases zd : ds[g]? with
    | none => rw [zd] at hg; cases hg
    | some d => rw [zd] at hg; exact ⟨d, rfl, Option.some.inj hg⟩
  have fnsT : T.fns = ds.map (fnI G) := by rw [eT]; rfl
  have iniT : T.init = G.cls.map fun c => idxM c "__init__" G.fns := by rw [eT]; rfl
  have metT : T.met = G.cls.map fun c => G.mets.map fun m => idxM c m G.fns := by rw [eT]; rfl
  have tksT : T.tks = ds.map (tkOf G) := by rw [eT]; rfl
  -- where the facts of a class stand
  have mC : ∀ (x : Str), x ∈ G.cls → (He.Fa.glo x).ok K = true ∧ (He.Fa.cls x).ok K = true ∧ ∀ f ∈ G.flds, (He.Fa.noat x f).ok K = true := fun x hx => by
    have mem : ∀ f ∈ ([He.Fa.glo x, He.Fa.cls x] ++ G.flds.map fun f => He.Fa.noat x f), f ∈ faOf G T := fun f hf => by
      unfold faOf
      exact List.mem_append_left _ (List.mem_append_right _ (List.mem_flatMap.mpr ⟨x, hx, hf⟩))
    exact ⟨fct _ (mem _ (by simp)), fct _ (mem _ (by simp)), fun f hf => fct _ (mem _ (List.mem_append_right _ (List.mem_map.mpr ⟨f, hf, rfl⟩)))⟩
  have mM : ∀ (c : Nat) (x : Str), G.cls[c]? = some x → (∀ i, T.init[c]? = some (some i) → (He.Fa.mkr x).ok K = true) ∧ ∀ m ∈ G.mets, (idxM x m G.fns).isSome = true → (He.Fa.meth x m).ok K = true := fun c x hx => by
    have hc : c < G.cls.length := (List.getElem?_eq_some_iff.mp hx).1
    have mem : ∀ f ∈ (match T.init[c]? with | some (some _) => [He.Fa.mkr x] | _ => []) ++ G.mets.flatMap (fun m => if (idxM x m G.fns).isSome then [He.Fa.meth x m] else []), f ∈ faOf G T := fun f hf => by
      unfold faOf
      refine List.mem_append_right _ (List.mem_flatMap.mpr ⟨c, List.mem_range.mpr hc, ?_⟩)
      rw [hx]; exact hf
    refine ⟨fun i hi => fct _ (mem _ (List.mem_append_left _ (by rw [hi]; simp))), fun m hm hs => fct _ (mem _ (List.mem_append_right _ (List.mem_flatMap.mpr ⟨m, hm, ?_⟩)))⟩
    rw [if_pos hs]; simp
  have sub1 : ∀ (e d : Nat) (b : Bool), T.subX e d = some b → excB K (xA G K e) = true ∧ PySem.W.kitOne K (.ref (xA G K e)) (xV G K d) = some b ∧ (d < G.exs.length → PySem.W.exmOne K (.ref (xA G K e)) (.ref (xA G K d)) = some b) := fun e d b z => by
    obtain ⟨he, l, hl, hd⟩ := subX_lt z
    have hd2 : d < G.exs.length + 1 := Nat.lt_of_lt_of_le hd (of_decide_eq_true (List.all_eq_true.mp o3 l (List.mem_of_getElem? hl)))
    obtain ⟨y1, y2⟩ := He.ba (all_range x2 he)
    have y3 := all_range y2 hd2
    rw [z] at y3
    obtain ⟨y4, y5⟩ := He.ba y3
    refine ⟨y1, of_decide_eq_true y4, fun hlt => ?_⟩
    rw [decide_eq_true hlt] at y5
    exact of_decide_eq_true (by simpa using y5)
  refine ⟨eF, fnsT, ok, hdef, ?_, fun e x hx => ?_, fun d hd hm => ?_, ndS_ok o5, fun p hp q hq e => ?_⟩
  · refine ⟨fun g x hg => ?_, fun g p hg => ?_, fun x hx => ?_, fun x i hx => ?_, fun c x hx => ?_, fun c k f hc hf => ?_, fun c m g mn hg hm => ?_, fun c i hi => ?_, fun c hi => ?_, fun c d hc hd => ?_, ndS_ok o1, fun m k x hm hf => ?_, fun e c b z hc => (sub1 e c b z).2.2 hc, fun e d b z => (sub1 e d b z).2.1, fun e d b z => excB_ok (sub1 e d b z).1, fun c x hx => ?_, fun g p hg => ?_, fun g tk hg => ?_⟩
    · rw [fAeq g _ hg]
      refine He.glo_ok X Gn (fct (.glo x) ?_)
      unfold faOf
      exact List.mem_append_left _ (List.mem_append_left _ (List.mem_append_left _ (List.mem_append_left _ (List.mem_append_left _ (List.mem_filterMap.mpr ⟨(x, none), List.mem_of_getElem? hg, rfl⟩)))))
    · rw [fAeq g _ hg]
      obtain ⟨d, zd, ed⟩ := dAt g p hg
      obtain ⟨fd, F⟩ := hdef d (List.mem_of_getElem? zd)
      rw [← ed]; exact F.kp
    · refine He.free_ok X Gn (fct (.free x) ?_)
      unfold faOf
      exact List.mem_append_left _ (List.mem_append_left _ (List.mem_append_left _ (List.mem_append_left _ (List.mem_append_right _ (List.mem_map.mpr ⟨x, hx, rfl⟩)))))
    · refine He.int_ok X Gn (fct (.int x i) ?_)
      unfold faOf
      exact List.mem_append_left _ (List.mem_append_left _ (List.mem_append_left _ (List.mem_append_right _ (List.mem_map.mpr ⟨(x, i), PySem.mem_of_lookup hx, rfl⟩))))
    · have hc : c < G.cls.length := (List.getElem?_eq_some_iff.mp hx).1
      obtain ⟨f1, f2, f3⟩ := mC x (List.mem_of_getElem? hx)
      obtain ⟨y1, y2⟩ := He.ba (all_range x1 hc)
      obtain ⟨y3, y4⟩ := He.ba y2
      rw [cAeq c x hx] at y1 y3 ⊢
      exact ⟨He.glo_ok X Gn f1, He.cls_ok f2, clTB_ok y1, y3⟩
    · have hx : G.cls[c]? = some G.cls[c] := List.getElem?_eq_getElem hc
      rw [cAeq c _ hx]
      exact He.noat_ok ((mC _ (List.mem_of_getElem? hx)).2.2 f (List.mem_of_getElem? hf))
    · unfold Tb.metI at hg
      rw [metT, List.getElem?_map] at hg
      cases hx : G.cls[c]? with
      | none => rw [hx] at hg; cases hg
      | some x =>
        rw [hx] at hg
        simp only [Option.map_some, Option.bind_some, List.getElem?_map, hm] at hg
        have hg : idxM x mn G.fns = some g := by simpa using hg
        have hat := idxM_get hg
        have f1 := (mM c x hx).2 mn (List.mem_of_getElem? hm) (by rw [hg]; rfl)
        rw [cAeq c x hx, fAeq g _ hat]
        exact ⟨He.meth_ok f1, (List.getElem?_eq_some_iff.mp hx).1, (List.getElem?_eq_some_iff.mp hat).1⟩
    · have hi2 := hi
      rw [iniT, List.getElem?_map] at hi2
      cases hx : G.cls[c]? with
      | none => rw [hx] at hi2; cases hi2
      | some x =>
        rw [hx] at hi2
        have hg : idxM x "__init__" G.fns = some i := Option.some.inj hi2
        have hat := idxM_get hg
        have f1 := (mM c x hx).1 i hi
        rw [cAeq c x hx, fAeq i _ hat]
        exact ⟨He.mkr_ok f1, (List.getElem?_eq_some_iff.mp hat).1⟩
    · have hc : c < G.cls.length := by
        have z := (List.getElem?_eq_some_iff.mp hi).1
        rw [iniT, List.length_map] at z
        exact z
      obtain ⟨y1, y2⟩ := He.ba (all_range x1 hc)
      obtain ⟨y3, y4⟩ := He.ba y2
      obtain ⟨y5, y6⟩ := He.ba y4
      rw [hi] at y5
      exact mk0B_ok y5
    · obtain ⟨y1, y2⟩ := He.ba (all_range x1 hc)
      obtain ⟨y3, y4⟩ := He.ba y2
      obtain ⟨y5, y6⟩ := He.ba y4
      exact of_decide_eq_true (all_range y6 hd)
    · have z := List.all_eq_true.mp o2 x (List.mem_of_getElem? hm)
      rw [show (G.flds.any fun f => decide (f = x)) = true from List.any_eq_true.mpr ⟨x, List.mem_of_getElem? hf, by simp⟩] at z
      cases z
    · rw [xAeq c x hx]
      refine He.glo_ok X Gn (fct _ ?_)
      unfold faOf
      exact List.mem_append_left _ (List.mem_append_left _ (List.mem_append_right _ (List.mem_flatMap.mpr ⟨x, List.mem_of_getElem? hx, by simp⟩)))
    · obtain ⟨d, zd, ed⟩ := dAt g p hg
      obtain ⟨fd, F⟩ := hdef d (List.mem_of_getElem? zd)
      refine ⟨d, fd, ed, ?_, List.all_eq_true.mp ok d (List.mem_of_getElem? zd), by rw [fnsT, List.getElem?_map, zd]; rfl⟩
      rw [fAeq g p hg, ← ed]; exact F
    · rw [tksT, List.getElem?_map] at hg
      cases zd : ds[g]? with
      | none => rw [zd] at hg; cases hg
      | some d =>
        rw [zd] at hg
        have hk : tkOf G d = some tk := Option.some.inj hg
        have hgl : g < ds.length := (List.getElem?_eq_some_iff.mp zd).1
        have z := all_range o4 hgl
        have e1 : (T.tks[g]?).join = some tk := by rw [tksT, List.getElem?_map, zd]; simp [hk]
        rw [e1, zd] at z
        simp only [Bool.and_eq_true, decide_eq_true_eq, Option.isNone_iff_eq_none] at z
        obtain ⟨fd, F⟩ := hdef d (List.mem_of_getElem? zd)
        have hat : G.fns[g]? = some (d.at_.1, none) := by
          rw [eF, List.getElem?_map, zd]
          show some d.at_ = _
          rw [← z.1.1]
        refine ⟨d.at_.1, d, fd, hat, z.1.2, z.2, ?_, List.all_eq_true.mp ok d (List.mem_of_getElem? zd), hk⟩
        have ea : fA G K g = He.fAd K d.at_ := by unfold fA; rw [eF, List.getElem?_map, zd]; rfl
        rw [ea]; exact F
  · have hm : x ∈ G.exs := List.mem_of_getElem? hx
    have mem : ∀ f ∈ [He.Fa.glo x, He.Fa.exc x], f ∈ faOf G T := fun f hf => by
      unfold faOf
      exact List.mem_append_left _ (List.mem_append_left _ (List.mem_append_right _ (List.mem_flatMap.mpr ⟨x, hm, hf⟩)))
    have f1 : (He.Fa.glo x).ok K = true := fct _ (mem _ (by simp))
    have f2 : (He.Fa.exc x).ok K = true := fct _ (mem _ (by simp))
    obtain ⟨k1, k2, k3, k4⟩ := He.exc_ok f2
    rw [← xAeq e x hx] at k1 k2 k3 k4
    exact ⟨by rw [xAeq e x hx]; exact He.glo_ok X Gn f1, k1, k2, k3, k4⟩
  · have z := List.all_eq_true.mp o6 d hd
    rw [hm] at z
    obtain ⟨p, hp, z2⟩ := List.any_eq_true.mp (show (G.mkrs.any fun p => decide (p.1 = d.at_) && decide (p.2 = lamQ d.qual)) = true by simpa using z)
    simp only [Bool.and_eq_true, decide_eq_true_eq] at z2
    have e : p = (d.at_, lamQ d.qual) := Prod.ext z2.1 z2.2
    rw [← e]; exact hp
  · obtain ⟨p0, hp0, rfl⟩ := List.mem_map.mp hp
    obtain ⟨q0, hq0, rfl⟩ := List.mem_map.mp hq
    have z := List.all_eq_true.mp (List.all_eq_true.mp x3 p0 hp0) q0 hq0
    have e : (He.cT K p0.1).2 = (He.cT K q0.1).2 := e
    rw [decide_eq_true e] at z
    exact of_decide_eq_true (by simpa using z)
/-- the law's def, from the machine's run: no lambda is made -/
theorem law_sp {G : Nm} {T : Tb} {K : PySem.W.Frag} {k g n : Nat} (nt : G.mkrs = []) (run : ∀ ns : List Int, ns.length ≤ n → ∃ h, callM T k g [.scr ns] [] = .ok (.bl true) h) (H : Hp) (a : Addr) (ns : List Int) (hl : ns.length ≤ n) (hO : Only H) (hS : SqL K H a (ns.map V.int)) :
    (fun vs H Q (_ : XK) => spM G K T k g vs H Q fun _ _ _ => False) [.ref a] H (fun v _ => v = .bl true) fun _ _ _ => False := by
  obtain ⟨h, e⟩ := run ns hl
  have q : RV G K [] H (.scr ns) (.ref a) := by
    refine ⟨a, rfl, ?_⟩
    rcases hS with (hS | ⟨o, hS⟩) | hS
    · rcases hO a with z | ⟨o, xs, z⟩
      · rw [hS] at z; cases z
      · rw [hS] at z; cases z
    · exact .inl ⟨o, hS⟩
    · exact .inr hS
  have tb : LamX.Tabs (tabL G K) H := fun p hp => by unfold tabL at hp; rw [nt] at hp; cases hp
  refine ⟨[], [], [.scr ns], ⟨rfl, fun i j a h => by simp at h, fun n a o h => by simp at h, tb⟩, ⟨_, _, rfl, q, rfl⟩, ?_⟩
  rw [e]
  intro r' H' v e' R' qv
  exact qv
/-- .. with lambdas -/
theorem law_spT {G : Nm} {T : Tb} {K : PySem.W.Frag} {k g n : Nat} (run : ∀ ns : List Int, ns.length ≤ n → (∃ h, callM T k g [.scr ns] [] = .ok (.bl true) h) ∧ ∃ h, callM T k g [.ref 0] [.lst (ns.map W.int)] = .ok (.bl true) h) (H : Hp) (a : Addr) (ns : List Int) (hl : ns.length ≤ n)
    (hT : ∀ p ∈ (G.mkrs.map fun p => He.cT K p.1), H p.2 = some (.tbl #[])) (hS : SqL K H a (ns.map V.int)) :
    (fun vs H Q (_ : XK) => spM G K T k g vs H Q fun _ _ _ => False) [.ref a] H (fun v _ => v = .bl true) fun _ _ _ => False := by
  obtain ⟨⟨h1, e1⟩, ⟨h2, e2⟩⟩ := run ns hl
  have tb : LamX.Tabs (tabL G K) H := fun p hp => by
    obtain ⟨p0, hp0, rfl⟩ := List.mem_map.mp hp
    exact LamX.TabS.nil (hT _ (List.mem_map.mpr ⟨p0, hp0, rfl⟩))
  have scr : RV G K [] H (.scr ns) (.ref a) → (fun vs H Q (_ : XK) => spM G K T k g vs H Q fun _ _ _ => False) [.ref a] H (fun v _ => v = .bl true) fun _ _ _ => False := fun q => by
    refine ⟨[], [], [.scr ns], ⟨rfl, fun i j a h => by simp at h, fun n a o h => by simp at h, tb⟩, ⟨_, _, rfl, q, rfl⟩, ?_⟩
    rw [e1]
    intro r' H' v e' R' qv
    exact qv
  rcases hS with (hS | ⟨o, hS⟩) | hS
  · refine ⟨[a], [.lst (ns.map W.int)], [.ref 0], ⟨rfl, fun i j b hi hj => ?_, fun n b o hn ho => ?_, tb⟩, ⟨_, _, rfl, ⟨a, rfl, rfl⟩, rfl⟩, ?_⟩
    · cases i with
      | zero =>
        cases j with
        | zero => rfl
        | succ j => simp at hj
      | succ i => simp at hi
    · cases n with
      | zero =>
        simp at hn ho
        subst hn ho
        exact ⟨_, hS, RVs.ints ns⟩
      | succ n => simp at hn
    · rw [e2]
      intro r' H' v e' R' qv
      exact qv
  · exact scr ⟨a, rfl, .inl ⟨o, hS⟩⟩
  · exact scr ⟨a, rfl, .inr hS⟩
/-- the walk of a law whose defs make lambdas -/
theorem walk_T {l : PySem.W.OpenLaw} {n k : Nat} {q : Program} {loose : List Str} {XP : (Str → Option Value) → Heap → Prop} {YP : World → Heap → Prop} {d : DefRec} {x : Str} (hn : l.most = some n) (hn2 : n ≤ sizeLine) (hdf : d.params.defaults = []) (hr : Room k callerA)
    (F : ∀ (w : World) (mg : Str → Option Value) (fa : Addr) (h : Heap), YP w h → h.Ns mainGlobals mg → mg d.name = some (.ref fa) →
      ∃ (K : PySem.W.Frag) (fd : FuncData) (cs : List (Addr × Addr)) (sp : Sp), K.In h ∧ (∀ p ∈ cs, h.get? p.2 = some { cls := .none, data := .fields #[] }) ∧ (∀ p ∈ cs, K.lookup p.2 = none) ∧ (∀ p ∈ cs, PySem.W.CodeHd h p.1 p.2) ∧ (∀ (s : Shared) (u : Value), BindsTo s fd ⟨[u], []⟩ [(x, u)]) ∧
        (∀ (H : Hp) (a : Addr) (ns : List Int), ns.length ≤ n → (∀ p ∈ cs, H p.2 = some (.tbl #[])) → SqL K H a (ns.map V.int) → sp [.ref a] H (fun v _ => v = .bl true) fun _ _ _ => False) ∧
        ∀ base : Heap, K.In base → base.Ns mainGlobals mg → (∀ p ∈ cs, LamX.TabB base mg p.1 p.2) → FnOk l.prog w K mg base L2.CX0 k fa fd [x] sp) :
    PySem.W.WalkO q loose XP YP l.row.toRowW d [] (fun f vs => PySem.call f vs) := by
  refine Att.attach_call hn hdf fun w s0 s1 mg mb fa o pm cd doc a vs ns G Y ho hd hcd hmg hobj hints hlen hg => ?_
  obtain ⟨K, fd, cs, sp, KX, h1, h2, h3, hb, hsp, hF⟩ := F w mg fa _ Y G.T.g hmg
  exact LamX.law_callTs KX G.T.g G.T.b G.T.builtins G.T.nolimit hg h1 h2 h3 G.T.bmain hobj hints (Nat.le_trans hlen hn2) hr hF hb (fun H hH hS => hsp H a ns hlen hH hS) fun H e s' z => z
end WL

/-! the machine runs alike in a larger heap, its objects elsewhere; what else is there stays -/
namespace WL
open PySem
mutual
def RW (q : List Nat) : W → W → Prop
  | .non, v => v = .non
  | .bl b, v => v = .bl b
  | .int i, v => v = .int i
  | .str x, v => v = .str x
  | .tup l, v => ∃ vs, v = .tup vs ∧ RWs q l vs
  | .ref n, v => ∃ a, v = .ref a ∧ q[n]? = some a
  | .scr l, v => v = .scr l
  | .fn f, v => v = .fn f
  | .cod a b c, v => v = .cod a b c
def RWs (q : List Nat) : List W → List W → Prop
  | [], vs => vs = []
  | w :: ws, vs => ∃ v rest, vs = v :: rest ∧ RW q w v ∧ RWs q ws rest
end
def RWk {κ : Type} (q : List Nat) : List (κ × W) → List (κ × W) → Prop
  | [], vs => vs = []
  | (k, w) :: ws, vs => ∃ v rest, vs = (k, v) :: rest ∧ RW q w v ∧ RWk q ws rest
def ROw (q : List Nat) : O → O → Prop
  | .lst l, o => ∃ l', o = .lst l' ∧ RWs q l l'
  | .dK l, o => ∃ l', o = .dK l' ∧ RWk q l l'
  | .dT l, o => ∃ l', o = .dT l' ∧ RWk q l l'
  | .ins c fs, o => ∃ l', o = .ins c l' ∧ RWk q fs l'
structure Sim (q : List Nat) (h1 h2 : Hm) : Prop where
  len : q.length = h1.length
  inj : ∀ (i j a : Nat), q[i]? = some a → q[j]? = some a → i = j
  obj : ∀ (n a : Nat) (o : O), q[n]? = some a → h1[n]? = some o → ∃ o', h2[a]? = some o' ∧ ROw q o o'
/-- what was, is -/
structure Gro (q : List Nat) (h2 : Hm) (q' : List Nat) (h2' : Hm) : Prop where
  rho : ∀ (n a : Nat), q[n]? = some a → q'[n]? = some a
  fresh : ∀ (n a : Nat), q'[n]? = some a → (∃ m : Nat, q[m]? = some a) ∨ h2.length ≤ a
  keep : ∀ a : Nat, (∀ n : Nat, q[n]? ≠ some a) → a < h2.length → h2'[a]? = h2[a]?
  len : h2.length ≤ h2'.length
def RF (q : List Nat) (f g : F) : Prop := f.length = g.length ∧ ∀ (i : Nat) (w : W), f[i]? = some (some w) → ∃ v, g[i]? = some (some v) ∧ RW q w v
section
variable {q q' q'' : List Nat} {h1 h2 h1' h2' h2'' : Hm}
theorem Gro.refl : Gro q h2 q h2 := ⟨fun _ _ h => h, fun n _ h => .inl ⟨n, h⟩, fun _ _ _ => rfl, Nat.le_refl _⟩
theorem Gro.trans (a : Gro q h2 q' h2') (b : Gro q' h2' q'' h2'') : Gro q h2 q'' h2'' := by
  refine ⟨fun n x h => b.rho n x (a.rho n x h), fun n x h => ?_, fun x hn hl => ?_, Nat.le_trans a.len b.len⟩
  · rcases b.fresh n x h with ⟨m, hm⟩ | z
    · exact a.fresh m x hm
    · exact .inr (Nat.le_trans a.len z)
  · rw [b.keep x (fun n z => ?_) (Nat.lt_of_lt_of_le hl a.len), a.keep x hn hl]
    rcases a.fresh n x z with ⟨m, hm⟩ | y
    · exact hn m hm
    · omega
mutual
theorem RW.ext (e : ∀ (n a : Nat), q[n]? = some a → q'[n]? = some a) : ∀ {w v : W}, RW q w v → RW q' w v
  | .non, _, h => h
  | .bl _, _, h => h
  | .int _, _, h => h
  | .str _, _, h => h
  | .scr _, _, h => h
  | .fn _, _, h => h
  | .cod _ _ _, _, h => h
  | .tup l, _, h => by obtain ⟨vs, h1, h2⟩ := h; exact ⟨vs, h1, RWs.ext e h2⟩
  | .ref n, _, h => by obtain ⟨a, h1, h2⟩ := h; exact ⟨a, h1, e n a h2⟩
theorem RWs.ext (e : ∀ (n a : Nat), q[n]? = some a → q'[n]? = some a) : ∀ {w v : List W}, RWs q w v → RWs q' w v
  | [], _, h => h
  | w :: ws, _, h => by obtain ⟨v, rest, h1, h2, h3⟩ := h; exact ⟨v, rest, h1, RW.ext e h2, RWs.ext e h3⟩
end
theorem RWk.ext {κ : Type} (e : ∀ (n a : Nat), q[n]? = some a → q'[n]? = some a) : ∀ {w v : List (κ × W)}, RWk q w v → RWk q' w v
  | [], _, h => h
  | (k, w) :: ws, _, h => by obtain ⟨v, rest, h1, h2, h3⟩ := h; exact ⟨v, rest, h1, RW.ext e h2, RWk.ext e h3⟩
theorem ROw.ext (e : ∀ (n a : Nat), q[n]? = some a → q'[n]? = some a) : ∀ {o o' : O}, ROw q o o' → ROw q' o o'
  | .lst _, _, h => by obtain ⟨l, h1, h2⟩ := h; exact ⟨l, h1, h2.ext e⟩
  | .dK _, _, h => by obtain ⟨l, h1, h2⟩ := h; exact ⟨l, h1, h2.ext e⟩
  | .dT _, _, h => by obtain ⟨l, h1, h2⟩ := h; exact ⟨l, h1, h2.ext e⟩
  | .ins _ _, _, h => by obtain ⟨l, h1, h2⟩ := h; exact ⟨l, h1, h2.ext e⟩
theorem RWs.length : ∀ {ws vs : List W}, RWs q ws vs → vs.length = ws.length
  | [], _, h => by rw [show _ = [] from h]
  | w :: ws, _, h => by obtain ⟨v, rest, rfl, _, h3⟩ := h; rw [List.length_cons, List.length_cons, RWs.length h3]
theorem RWk.length {κ : Type} : ∀ {ws vs : List (κ × W)}, RWk q ws vs → vs.length = ws.length
  | [], _, h => by rw [show _ = [] from h]
  | (k, w) :: ws, _, h => by obtain ⟨v, rest, rfl, _, h3⟩ := h; rw [List.length_cons, List.length_cons, RWk.length h3]
theorem RWk.keys {κ : Type} : ∀ {ws vs : List (κ × W)}, RWk q ws vs → vs.map (·.1) = ws.map (·.1)
  | [], _, h => by rw [show _ = [] from h]
  | (k, w) :: ws, _, h => by obtain ⟨v, rest, rfl, _, h3⟩ := h; simp [RWk.keys h3]
theorem RWs.app : ∀ {ws ws' vs vs' : List W}, RWs q ws vs → RWs q ws' vs' → RWs q (ws ++ ws') (vs ++ vs')
  | [], _, _, _, h, h' => by rw [show _ = [] from h]; exact h'
  | w :: ws, _, _, _, h, h' => by obtain ⟨v, rest, rfl, h2, h3⟩ := h; exact ⟨v, rest ++ _, rfl, h2, RWs.app h3 h'⟩
theorem RWk.app {κ : Type} : ∀ {ws ws' vs vs' : List (κ × W)}, RWk q ws vs → RWk q ws' vs' → RWk q (ws ++ ws') (vs ++ vs')
  | [], _, _, _, h, h' => by rw [show _ = [] from h]; exact h'
  | (k, w) :: ws, _, _, _, h, h' => by obtain ⟨v, rest, rfl, h2, h3⟩ := h; exact ⟨v, rest ++ _, rfl, h2, RWk.app h3 h'⟩
theorem RWs.snoc {ws vs : List W} {w v : W} (h : RWs q ws vs) (hw : RW q w v) : RWs q (ws ++ [w]) (vs ++ [v]) := h.app ⟨v, [], rfl, hw, rfl⟩
theorem RWs.get : ∀ {ws vs : List W} {i : Nat} {w : W}, RWs q ws vs → ws[i]? = some w → ∃ v, vs[i]? = some v ∧ RW q w v
  | [], _, _, _, _, e => by simp at e
  | x :: ws, _, 0, w, h, e => by
    obtain ⟨v, rest, rfl, h2, h3⟩ := h
    simp at e; subst e
    exact ⟨v, rfl, h2⟩
  | x :: ws, _, i + 1, w, h, e => by
    obtain ⟨v, rest, rfl, h2, h3⟩ := h
    obtain ⟨u, h4, h5⟩ := RWs.get (i := i) (w := w) h3 (by simpa using e)
    exact ⟨u, by simpa using h4, h5⟩
theorem RWs.set {w v : W} (hw : RW q w v) : ∀ {ws vs : List W} (i : Nat), RWs q ws vs → RWs q (ws.set i w) (vs.set i v)
  | [], _, _, h => by rw [show _ = [] from h]; rfl
  | x :: ws, _, 0, h => by obtain ⟨u, rest, rfl, h2, h3⟩ := h; exact ⟨v, rest, rfl, hw, h3⟩
  | x :: ws, _, i + 1, h => by obtain ⟨u, rest, rfl, h2, h3⟩ := h; exact ⟨u, rest.set i v, rfl, h2, RWs.set hw i h3⟩
theorem RWs.take : ∀ {ws vs : List W} (n : Nat), RWs q ws vs → RWs q (ws.take n) (vs.take n)
  | [], _, n, h => by rw [show _ = [] from h]; simp; rfl
  | x :: ws, _, 0, h => by simp; rfl
  | x :: ws, _, n + 1, h => by obtain ⟨u, rest, rfl, h2, h3⟩ := h; exact ⟨u, rest.take n, rfl, h2, RWs.take n h3⟩
theorem RWs.drop : ∀ {ws vs : List W} (n : Nat), RWs q ws vs → RWs q (ws.drop n) (vs.drop n)
  | [], _, n, h => by rw [show _ = [] from h]; simp; rfl
  | x :: ws, _, 0, h => h
  | x :: ws, _, n + 1, h => by obtain ⟨u, rest, rfl, h2, h3⟩ := h; exact RWs.drop n h3
theorem RWs.reverse : ∀ {ws vs : List W}, RWs q ws vs → RWs q ws.reverse vs.reverse
  | [], _, h => by rw [show _ = [] from h]; rfl
  | w :: ws, _, h => by
    obtain ⟨v, rest, rfl, h2, h3⟩ := h
    rw [List.reverse_cons, List.reverse_cons]; exact (RWs.reverse h3).snoc h2
theorem RWs.rep {l vs : List W} (h : RWs q l vs) : ∀ n : Nat, RWs q (List.replicate n l).flatten (List.replicate n vs).flatten
  | 0 => rfl
  | n + 1 => by rw [List.replicate_succ, List.replicate_succ, List.flatten_cons, List.flatten_cons]; exact h.app (RWs.rep h n)
theorem RWs.ints : ∀ (ns : List Int), RWs q (ns.map W.int) (ns.map W.int)
  | [] => rfl
  | n :: ns => ⟨_, _, rfl, rfl, RWs.ints ns⟩
/-- flat values are the same -/
theorem RW.flat {w v : W} (h : RW q w v) (e : flat w = true) : v = w := by
  cases w <;> first | exact h | cases e
theorem RWs.flat : ∀ {ws vs : List W}, RWs q ws vs → ws.all WL.flat = true → vs = ws
  | [], _, h, _ => h
  | w :: ws, _, h, e => by
    obtain ⟨v, rest, rfl, h2, h3⟩ := h
    simp only [List.all_cons, Bool.and_eq_true] at e
    rw [h2.flat e.1, RWs.flat h3 e.2]
theorem ints_flat : ∀ {ws : List W} {ns : List Int}, intsOf ws = some ns → ws.all flat = true
  | [], _, _ => rfl
  | w :: ws, ns, h => by
    cases w with
    | int i =>
      simp only [intsOf] at h
      cases z : intsOf ws with
      | none => rw [z] at h; cases h
      | some l => rw [List.all_cons, ints_flat z]; rfl
    | _ => cases h
theorem bls_flat : ∀ {ws : List W} {ns : List Bool}, bls ws = some ns → ws.all flat = true
  | [], _, _ => rfl
  | w :: ws, ns, h => by
    cases w with
    | bl i =>
      simp only [bls] at h
      cases z : bls ws with
      | none => rw [z] at h; cases h
      | some l => rw [List.all_cons, bls_flat z]; rfl
    | _ => cases h
theorem RWs.ofInts {ws vs : List W} {ns : List Int} (h : RWs q ws vs) (e : intsOf ws = some ns) : vs = ws := h.flat (ints_flat e)
theorem RWs.ofBls {ws vs : List W} {ns : List Bool} (h : RWs q ws vs) (e : bls ws = some ns) : vs = ws := h.flat (bls_flat e)
theorem look_loc {κ : Type} [DecidableEq κ] : ∀ {l l' : List (κ × W)} (k : κ), RWk q l l' → match look l k with
    | some w => ∃ v, look l' k = some v ∧ RW q w v
    | none => look l' k = none
  | [], _, k, h => by rw [show _ = [] from h]; rfl
  | (j, w) :: l, _, k, h => by
    obtain ⟨v, rest, rfl, h2, h3⟩ := h
    by_cases e : j = k
    · have e1 : look ((j, w) :: l) k = some w := by simp [look, e]
      have e2 : look ((j, v) :: rest) k = some v := by simp [look, e]
      rw [e1]; exact ⟨v, e2, h2⟩
    · have e1 : look ((j, w) :: l) k = look l k := by simp [look, e]
      have e2 : look ((j, v) :: rest) k = look rest k := by simp [look, e]
      rw [e1, e2]; exact look_loc k h3
theorem any_key {κ : Type} [DecidableEq κ] : ∀ {l l' : List (κ × W)} (k : κ), RWk q l l' → (l'.any fun p => decide (p.1 = k)) = l.any fun p => decide (p.1 = k)
  | [], _, k, h => by rw [show _ = [] from h]
  | (j, w) :: l, _, k, h => by
    obtain ⟨v, rest, rfl, h2, h3⟩ := h
    rw [List.any_cons, List.any_cons, any_key k h3]
theorem map_key {κ : Type} [DecidableEq κ] {w v : W} (hw : RW q w v) : ∀ {l l' : List (κ × W)} (k : κ), RWk q l l' → RWk q (l.map fun p => if p.1 = k then (p.1, w) else p) (l'.map fun p => if p.1 = k then (p.1, v) else p)
  | [], _, k, h => by rw [show _ = [] from h]; rfl
  | (j, u) :: l, _, k, h => by
    obtain ⟨x, rest, rfl, h2, h3⟩ := h
    by_cases e : j = k
    · simp only [List.map_cons, if_pos e]; exact ⟨v, _, rfl, hw, map_key hw k h3⟩
    · simp only [List.map_cons, if_neg e]; exact ⟨x, _, rfl, h2, map_key hw k h3⟩
theorem put_loc {κ : Type} [DecidableEq κ] {w v : W} {l l' : List (κ × W)} (k : κ) (hw : RW q w v) (h : RWk q l l') : RWk q (put l k w) (put l' k v) := by
  unfold put
  rw [any_key k h]
  split
  · exact map_key hw k h
  · exact h.app ⟨v, [], rfl, hw, rfl⟩
theorem putN_loc {w v : W} (k : Nat) (hw : RW q w v) : ∀ {l l' : List (Nat × W)}, RWk q l l' → RWk q (putN k w l) (putN k v l')
  | [], _, h => by rw [show _ = [] from h]; exact ⟨v, [], rfl, hw, rfl⟩
  | (j, u) :: l, _, h => by
    obtain ⟨x, rest, rfl, h2, h3⟩ := h
    by_cases e : j = k
    · simp only [putN, if_pos e]; exact ⟨v, rest, rfl, hw, h3⟩
    · simp only [putN, if_neg e]; exact ⟨x, _, rfl, h2, putN_loc k hw h3⟩
theorem atI_loc {l l' : List W} {i : Int} {w : W} (h : RWs q l l') (e : atI l i = some w) : ∃ v, atI l' i = some v ∧ RW q w v := by
  unfold atI at e ⊢
  rw [h.length]
  cases z : ixN l.length i with
  | none => rw [z] at e; cases e
  | some j => rw [z] at e; exact h.get e
theorem cut_loc {l l' : List W} (lo hi : Option Int) (h : RWs q l l') : RWs q (cutW l lo hi) (cutW l' lo hi) := by
  unfold cutW
  rw [h.length]
  exact (h.drop _).take _
theorem lst_loc (S : Sim q h1 h2) {w v : W} {l : List W} (h : RW q w v) (e : lstOf w h1 = some l) : ∃ l', lstOf v h2 = some l' ∧ RWs q l l' := by
  cases w with
  | ref n =>
    obtain ⟨a, rfl, ha⟩ := h
    simp only [lstOf] at e
    cases z : h1[n]? with
    | none => rw [z] at e; cases e
    | some o =>
      rw [z] at e
      cases o with
      | lst xs =>
        cases e
        obtain ⟨o', k1, l', rfl, k3⟩ := S.obj n a _ ha z
        exact ⟨l', by simp only [lstOf, k1], k3⟩
      | _ => cases e
  | scr ns =>
    have h : v = .scr ns := h
    subst h
    cases e
    exact ⟨_, rfl, RWs.ints ns⟩
  | _ => cases e
theorem seq_loc (S : Sim q h1 h2) {w v : W} {l : List W} (h : RW q w v) (e : seqOf w h1 = some l) : ∃ l', seqOf v h2 = some l' ∧ RWs q l l' := by
  cases w with
  | tup ws =>
    obtain ⟨vs, rfl, h2⟩ := h
    cases e
    exact ⟨vs, rfl, h2⟩
  | ref n =>
    obtain ⟨l', k1, k2⟩ := lst_loc S h e
    obtain ⟨a, rfl, ha⟩ := h
    exact ⟨l', k1, k2⟩
  | scr ns =>
    obtain ⟨l', k1, k2⟩ := lst_loc S h e
    have h : v = .scr ns := h
    subst h
    exact ⟨l', k1, k2⟩
  | _ => cases e
theorem allO_loc {n : Nat} (ih : ∀ w v d, RW q w v → toD n h1 w = some d → toD n h2 v = some d) : ∀ {ws vs : List W} {ds : List PyData}, RWs q ws vs → toDs n h1 ws = some ds → toDs n h2 vs = some ds
  | [], _, ds, h, e => by rw [show _ = [] from h]; exact e
  | w :: ws, _, ds, h, e => by
    obtain ⟨v, rest, rfl, h2, h3⟩ := h
    rw [toDs_cons] at e ⊢
    cases z : toD n h1 w with
    | none => rw [z] at e; cases e
    | some d =>
      rw [z] at e
      rw [ih w v d h2 z]
      cases z2 : toDs n h1 ws with
      | none => rw [z2] at e; cases e
      | some ds' =>
        rw [z2] at e
        rw [allO_loc ih h3 z2]
        exact e
theorem toD_loc (S : Sim q h1 h2) : ∀ (n : Nat) (w v : W) (d : PyData), RW q w v → toD n h1 w = some d → toD n h2 v = some d
  | 0, _, _, _, _, e => by cases e
  | n + 1, w, v, d, h, e => by
    have ih := toD_loc S n
    cases w with
    | tup l =>
      obtain ⟨vs, rfl, h3⟩ := h
      rw [toD_tup] at e ⊢
      cases z : toDs n h1 l with
      | none => rw [z] at e; cases e
      | some ds => rw [z] at e; rw [allO_loc ih h3 z]; exact e
    | ref a =>
      obtain ⟨b, rfl, hb⟩ := h
      rw [toD_ref] at e ⊢
      cases z : h1[a]? with
      | none => rw [z] at e; cases e
      | some o =>
        rw [z] at e
        cases o with
        | lst l =>
          obtain ⟨o', k1, l', rfl, k3⟩ := S.obj a b _ hb z
          rw [k1]
          simp only at e ⊢
          cases z2 : toDs n h1 l with
          | none => rw [z2] at e; cases e
          | some ds => rw [z2] at e; rw [allO_loc ih k3 z2]; exact e
        | _ => cases e
    | fn f => cases e
    | cod _ _ _ => cases e
    | non => have h : v = _ := h; subst h; exact e
    | bl _ => have h : v = _ := h; subst h; exact e
    | int _ => have h : v = _ := h; subst h; exact e
    | str _ => have h : v = _ := h; subst h; exact e
    | scr _ => have h : v = _ := h; subst h; exact e
theorem eqW_loc (S : Sim q h1 h2) {x y v u : W} {b : Bool} (hx : RW q x v) (hy : RW q y u) (e : eqW x y h1 = some b) : eqW v u h2 = some b := by
  unfold eqW at e ⊢
  cases z1 : toD deep h1 x with
  | none => rw [z1] at e; cases e
  | some d =>
    cases z2 : toD deep h1 y with
    | none => rw [z1, z2] at e; cases e
    | some d2 => rw [z1, z2] at e; rw [toD_loc S _ _ _ _ hx z1, toD_loc S _ _ _ _ hy z2]; exact e
theorem isNon_loc {x v : W} (h : RW q x v) : isNon v = isNon x := by
  cases x with
  | tup l => obtain ⟨vs, rfl, _⟩ := h; rfl
  | ref n => obtain ⟨a, rfl, _⟩ := h; rfl
  | _ => have h : v = _ := h; subst h; rfl
theorem cmpW_loc (S : Sim q h1 h2) {o : CmpOp} {x y v u : W} {b : Bool} (hx : RW q x v) (hy : RW q y u) (e : cmpW o x y h1 = some b) : cmpW o v u h2 = some b := by
  cases o with
  | Eq => exact eqW_loc S hx hy e
  | NotEq =>
    simp only [cmpW] at e ⊢
    cases z : eqW x y h1 with
    | none => rw [z] at e; cases e
    | some c => rw [z] at e; rw [eqW_loc S hx hy z]; exact e
  | Lt => cases x <;> first | (cases e; done) | (cases y <;> first | (cases e; done) | (cases hx; cases hy; exact e))
  | LtE => cases x <;> first | (cases e; done) | (cases y <;> first | (cases e; done) | (cases hx; cases hy; exact e))
  | Gt => cases x <;> first | (cases e; done) | (cases y <;> first | (cases e; done) | (cases hx; cases hy; exact e))
  | GtE => cases x <;> first | (cases e; done) | (cases y <;> first | (cases e; done) | (cases hx; cases hy; exact e))
  | Is =>
    simp only [cmpW] at e ⊢
    split at e
    · have hx : v = _ := hx
      have hy : u = _ := hy
      subst hx hy; exact e
    · have hy : u = .non := hy
      subst hy
      have z := isNon_loc hx
      cases v <;> first | (simp only; rw [z]; exact e) | exact (by rw [z]; exact e)
    · cases e
  | IsNot =>
    simp only [cmpW] at e ⊢
    split at e
    · have hx : v = _ := hx
      have hy : u = _ := hy
      subst hx hy; exact e
    · have hy : u = .non := hy
      subst hy
      have z := isNon_loc hx
      cases v <;> first | (simp only; rw [z]; exact e) | exact (by rw [z]; exact e)
    · cases e
  | In =>
    simp only [cmpW] at e ⊢
    cases z : seqOf y h1 with
    | none => rw [z] at e; cases e
    | some l =>
      rw [z] at e
      simp only at e
      split at e
      · rename_i hc
        have hc' := Bool.and_eq_true_iff.mp hc
        obtain ⟨l', k1, k2⟩ := seq_loc S hy z
        rw [k1, k2.flat hc'.2, hx.flat hc'.1]
        simp only
        rw [if_pos hc]; exact e
      · cases e
  | NotIn =>
    simp only [cmpW] at e ⊢
    cases z : seqOf y h1 with
    | none => rw [z] at e; cases e
    | some l =>
      rw [z] at e
      simp only at e
      split at e
      · rename_i hc
        have hc' := Bool.and_eq_true_iff.mp hc
        obtain ⟨l', k1, k2⟩ := seq_loc S hy z
        rw [k1, k2.flat hc'.2, hx.flat hc'.1]
        simp only
        rw [if_pos hc]; exact e
      · cases e
theorem idxW_loc (S : Sim q h1 h2) {x i v u w : W} (hx : RW q x v) (hi : RW q i u) (e : idxW x i h1 = some w) : ∃ z, idxW v u h2 = some z ∧ RW q w z := by
  cases x with
  | ref n =>
    obtain ⟨a, rfl, ha⟩ := hx
    cases i with
    | int k =>
      have hi : u = _ := hi
      subst hi
      simp only [idxW] at e ⊢
      cases z : h1[n]? with
      | none => rw [z] at e; cases e
      | some o =>
        rw [z] at e
        cases o with
        | lst l =>
          obtain ⟨o', k1, l', rfl, k3⟩ := S.obj n a _ ha z
          rw [k1]; exact atI_loc k3 e
        | dK l =>
          obtain ⟨o', k1, l', rfl, k3⟩ := S.obj n a _ ha z
          rw [k1]
          have k4 := look_loc k k3
          simp only at e
          rw [e] at k4
          exact k4
        | _ => cases e
    | tup ks =>
      obtain ⟨us, rfl, hu⟩ := hi
      simp only [idxW] at e ⊢
      cases z : h1[n]? with
      | none => simp only [z] at e; cases e
      | some o =>
        cases o with
        | dT l =>
          cases z2 : intsOf ks with
          | none => simp only [z, z2] at e; cases e
          | some is =>
            simp only [z, z2] at e
            obtain ⟨o', k1, l', rfl, k3⟩ := S.obj n a _ ha z
            rw [hu.ofInts z2, k1, z2]
            have k4 := look_loc is k3
            rw [e] at k4
            exact k4
        | _ => simp only [z] at e; cases e
    | _ => cases e
  | tup l =>
    obtain ⟨vs, rfl, hv⟩ := hx
    cases i with
    | int k =>
      have hi : u = _ := hi
      subst hi
      exact atI_loc hv e
    | _ => cases e
  | scr l =>
    have hx : v = _ := hx
    subst hx
    cases i with
    | int k =>
      have hi : u = _ := hi
      subst hi
      exact atI_loc (RWs.ints l) e
    | _ => cases e
  | _ => cases e
end
end WL

namespace WL
open PySem
/-- y does in the larger heap what x does -/
def Loc {α β : Type} (rel : List Nat → α → β → Prop) (q : List Nat) (h2 : Hm) (x : R α) (y : R β) : Prop := match x with
  | .ok a h1' => ∃ q' b h2', y = .ok b h2' ∧ Gro q h2 q' h2' ∧ Sim q' h1' h2' ∧ rel q' a b
  | .exc c h1' => ∃ q' h2', y = .exc c h2' ∧ Gro q h2 q' h2' ∧ Sim q' h1' h2'
  | .bad => True
abbrev LocW := Loc RW
abbrev LocL := Loc RWs
section
variable {q q' : List Nat} {h1 h2 h1' h2' : Hm} {α β γ δ : Type}
theorem Loc.bad {rel : List Nat → α → β → Prop} {y : R β} : Loc rel q h2 .bad y := True.intro
theorem Loc.pre {rel : List Nat → α → β → Prop} {x : R α} {y : R β} (g : Gro q h2 q' h2') (h : Loc rel q' h2' x y) : Loc rel q h2 x y := by
  cases x with
  | ok a h => obtain ⟨q2, b, h3, e, g2, s, r⟩ := h; exact ⟨q2, b, h3, e, g.trans g2, s, r⟩
  | exc c h => obtain ⟨q2, h3, e, g2, s⟩ := h; exact ⟨q2, h3, e, g.trans g2, s⟩
  | bad => trivial
theorem Loc.bind {rel : List Nat → α → β → Prop} {rel' : List Nat → γ → δ → Prop} {x : R α} {y : R β} {f : α → Hm → R γ} {g : β → Hm → R δ} (h : Loc rel q h2 x y)
    (hf : ∀ q' a b k1 k2, Gro q h2 q' k2 → Sim q' k1 k2 → rel q' a b → Loc rel' q' k2 (f a k1) (g b k2)) : Loc rel' q h2 (x.bind f) (y.bind g) := by
  cases x with
  | ok a k1 =>
    obtain ⟨q2, b, k2, rfl, g2, s, r⟩ := h
    exact (hf q2 a b k1 k2 g2 s r).pre g2
  | exc c k1 => obtain ⟨q2, k2, rfl, g2, s⟩ := h; exact ⟨q2, k2, rfl, g2, s⟩
  | bad => trivial
theorem Loc.ok {rel : List Nat → α → β → Prop} {a : α} {b : β} (S : Sim q h1 h2) (h : rel q a b) : Loc rel q h2 (.ok a h1) (.ok b h2) := ⟨q, b, h2, rfl, .refl, S, h⟩
theorem snoc_get {p i a : Nat} (hi : (q ++ [p])[i]? = some a) : q[i]? = some a ∨ (i = q.length ∧ a = p) := by
  by_cases hl : i < q.length
  · rw [List.getElem?_append_left hl] at hi; exact .inl hi
  · rw [List.getElem?_append_right (Nat.le_of_not_lt hl)] at hi
    have : i - q.length = 0 := by
      have := (List.getElem?_eq_some_iff.mp hi).1
      simp at this; omega
    rw [this] at hi
    simp at hi
    exact .inr ⟨by omega, hi.symm⟩
theorem sim_lt (S : Sim q h1 h2) {n a : Nat} (h : q[n]? = some a) : n < h1.length ∧ a < h2.length := by
  have hn : n < h1.length := S.len ▸ (List.getElem?_eq_some_iff.mp h).1
  obtain ⟨o', k, _⟩ := S.obj n a _ h (List.getElem?_eq_getElem hn)
  exact ⟨hn, (List.getElem?_eq_some_iff.mp k).1⟩
theorem app_rho {p : Nat} : ∀ (n a : Nat), q[n]? = some a → (q ++ [p])[n]? = some a := fun n a h => by
  rw [List.getElem?_append_left (List.getElem?_eq_some_iff.mp h).1]; exact h
theorem sim_alloc (S : Sim q h1 h2) {o o' : O} (ro : ROw q o o') : Gro q h2 (q ++ [h2.length]) (h2 ++ [o']) ∧ Sim (q ++ [h2.length]) (h1 ++ [o]) (h2 ++ [o']) := by
  refine ⟨⟨app_rho, fun n a h => ?_, fun a _ hl => by rw [List.getElem?_append_left hl], by simp⟩, ⟨by simp [S.len], fun i j a hi hj => ?_, fun n a ob hn ho => ?_⟩⟩
  · rcases snoc_get h with h | ⟨_, rfl⟩
    · exact .inl ⟨n, h⟩
    · exact .inr (Nat.le_refl _)
  · rcases snoc_get hi with hi | ⟨ei, ea⟩ <;> rcases snoc_get hj with hj | ⟨ej, ea'⟩
    · exact S.inj i j a hi hj
    · have := (sim_lt S hi).2; omega
    · have := (sim_lt S hj).2; omega
    · rw [ei, ej]
  · rcases snoc_get hn with hn | ⟨en, ea⟩
    · obtain ⟨l1, l2⟩ := sim_lt S hn
      rw [List.getElem?_append_left l1] at ho
      obtain ⟨o2, k1, k2⟩ := S.obj n a ob hn ho
      exact ⟨o2, by rw [List.getElem?_append_left l2]; exact k1, k2.ext app_rho⟩
    · rw [en, S.len, List.getElem?_append_right (Nat.le_refl _)] at ho
      simp at ho
      subst ho ea
      exact ⟨o', by rw [List.getElem?_append_right (Nat.le_refl _)]; simp, ro.ext app_rho⟩
theorem Loc.alloc (S : Sim q h1 h2) {o o' : O} (ro : ROw q o o') : LocW q h2 (WL.alloc o h1) (WL.alloc o' h2) := by
  obtain ⟨g, s⟩ := sim_alloc S ro
  refine ⟨_, _, _, rfl, g, s, h2.length, rfl, ?_⟩
  rw [← S.len, List.getElem?_append_right (Nat.le_refl _)]; simp
theorem sim_put (S : Sim q h1 h2) {n a : Nat} {o o' : O} (hn : q[n]? = some a) (ro : ROw q o o') : Gro q h2 q (h2.set a o') ∧ Sim q (h1.set n o) (h2.set a o') := by
  obtain ⟨l1, l2⟩ := sim_lt S hn
  refine ⟨⟨fun _ _ h => h, fun m b h => .inl ⟨m, h⟩, fun b hb hl => ?_, by simp⟩, ⟨by simp [S.len], S.inj, fun m b ob hm ho => ?_⟩⟩
  · rw [List.getElem?_set_ne]
    intro e; exact hb n (e ▸ hn)
  · by_cases e : m = n
    · subst e
      rw [hn] at hm; cases hm
      rw [List.getElem?_set_self l1] at ho
      cases ho
      exact ⟨o', by rw [List.getElem?_set_self l2], ro⟩
    · rw [List.getElem?_set_ne (Ne.symm e)] at ho
      obtain ⟨o2, k1, k2⟩ := S.obj m b ob hm ho
      refine ⟨o2, ?_, k2⟩
      rw [List.getElem?_set_ne]; exact k1
      intro z; exact e (S.inj m n b hm (z ▸ hn))
theorem Loc.put (S : Sim q h1 h2) {n a : Nat} {o o' : O} (hn : q[n]? = some a) (ro : ROw q o o') : LocW q h2 (.ok .non (h1.set n o)) (.ok .non (h2.set a o')) := by
  obtain ⟨g, s⟩ := sim_put S hn ro
  exact ⟨_, _, _, rfl, g, s, rfl⟩
theorem rw_int {v : W} {i : Int} (h : RW q (.int i) v) : v = .int i := h
/-! ### steps -/
theorem binW_loc (S : Sim q h1 h2) {o : Operator} {x y v u : W} (hx : RW q x v) (hy : RW q y u) : LocW q h2 (binW o x y h1) (binW o v u h2) := by
  unfold binW
  split
  all_goals try (rw [rw_int hx, rw_int hy]; simp only; first | exact Loc.ok S rfl | (split <;> first | exact Loc.ok S rfl | trivial))
  · obtain ⟨a, rfl, ha⟩ := hx
    obtain ⟨b, rfl, hb⟩ := hy
    simp only
    split
    · rename_i xs ys z1 z2
      obtain ⟨o1, k1, l1, rfl, k3⟩ := S.obj _ a _ ha z1
      obtain ⟨o2, k4, l2, rfl, k6⟩ := S.obj _ b _ hb z2
      rw [k1, k4]
      simp only
      rw [k3.length, k6.length]
      split
      · exact Loc.alloc S ⟨_, rfl, k3.app k6⟩
      · trivial
    · trivial
  · obtain ⟨a, rfl, ha⟩ := hx
    rw [rw_int hy]
    simp only
    split
    · rename_i xs z1
      obtain ⟨o1, k1, l1, rfl, k3⟩ := S.obj _ a _ ha z1
      rw [k1]
      simp only
      rw [k3.length]
      split
      · exact Loc.alloc S ⟨_, rfl, k3.rep _⟩
      · trivial
    · trivial
  · trivial
theorem sliW_loc (S : Sim q h1 h2) {x v : W} {lo hi : Option Int} (hx : RW q x v) : LocW q h2 (sliW x lo hi h1) (sliW v lo hi h2) := by
  have lst : ∀ (z : W) (y : W), RW q z y → (∀ l, z ≠ .tup l) → LocW q h2 (match lstOf z h1 with | some l => alloc (.lst (cutW l lo hi)) h1 | none => .bad) (match lstOf y h2 with | some l => alloc (.lst (cutW l lo hi)) h2 | none => .bad) := fun z y hz _ => by
    cases e : lstOf z h1 with
    | none => trivial
    | some l =>
      obtain ⟨l', k1, k2⟩ := lst_loc S hz e
      rw [k1]
      exact Loc.alloc S ⟨_, rfl, cut_loc lo hi k2⟩
  cases x with
  | tup l =>
    obtain ⟨vs, rfl, hv⟩ := hx
    simp only [sliW]
    rw [hv.length]
    split
    · trivial
    · exact Loc.ok S ⟨_, rfl, cut_loc lo hi hv⟩
  | ref n =>
    have z := lst _ v hx (fun l => by intro z; cases z)
    obtain ⟨a, rfl, ha⟩ := hx
    exact z
  | _ => have z := lst _ v hx (fun l => by intro z; cases z)
         have hx : v = _ := hx
         subst hx
         exact z
theorem bltL_loc (S : Sim q h1 h2) {b : B} {l l' : List W} (hl : RWs q l l') : LocW q h2 (bltL b l h1) (bltL b l' h2) := by
  cases b with
  | len => simp only [bltL]; rw [hl.length]; exact Loc.ok S rfl
  | sum =>
    simp only [bltL]
    cases z : intsOf l with
    | none => trivial
    | some ns => rw [hl.ofInts z, z]; exact Loc.ok S rfl
  | all =>
    simp only [bltL]
    cases z : bls l with
    | none => trivial
    | some ns => rw [hl.ofBls z, z]; exact Loc.ok S rfl
  | any =>
    simp only [bltL]
    cases z : bls l with
    | none => trivial
    | some ns => rw [hl.ofBls z, z]; exact Loc.ok S rfl
  | sorted =>
    simp only [bltL]
    cases z : intsOf l with
    | none => trivial
    | some ns => rw [hl.ofInts z, z]; exact Loc.alloc S ⟨_, rfl, RWs.ints _⟩
  | max =>
    simp only [bltL]
    cases z : intsOf l with
    | none => trivial
    | some ns =>
      rw [hl.ofInts z, z]
      cases ns with
      | nil => trivial
      | cons n ns => exact Loc.ok S rfl
  | list => exact Loc.alloc S ⟨_, rfl, hl⟩
  | abs => trivial
  | min => trivial
  | tuple => trivial
  | set => trivial
theorem one_loc {w : W} {vs : List W} (h : RWs q [w] vs) : ∃ v, vs = [v] ∧ RW q w v := by
  obtain ⟨v, rest, rfl, h1, h2⟩ := h
  exact ⟨v, by rw [show rest = [] from h2], h1⟩
theorem two_loc {w w' : W} {vs : List W} (h : RWs q [w, w'] vs) : ∃ v v', vs = [v, v'] ∧ RW q w v ∧ RW q w' v' := by
  obtain ⟨v, rest, rfl, h1, v2, rest2, rfl, h2, h3⟩ := h
  exact ⟨v, v2, by rw [show rest2 = [] from h3], h1, h2⟩
theorem bltW_loc (S : Sim q h1 h2) {b : B} {l l' : List W} (hl : RWs q l l') : LocW q h2 (bltW b l h1) (bltW b l' h2) := by
  have refL : ∀ {n a : Nat} {b : B}, q[n]? = some a → LocW q h2 (match h1[n]? with | some (.lst l) => bltL b l h1 | _ => .bad) (match h2[a]? with | some (.lst l) => bltL b l h2 | _ => .bad) := fun {n a b} ha => by
    cases z : h1[n]? with
    | none => trivial
    | some o =>
      cases o with
      | lst xs =>
        obtain ⟨o1, k1, l1, rfl, k3⟩ := S.obj _ a _ ha z
        rw [k1]; exact bltL_loc S k3
      | _ => trivial
  unfold bltW
  split
  · obtain ⟨v, rfl, k⟩ := one_loc hl; rw [rw_int k]; exact Loc.ok S rfl
  · obtain ⟨v, v2, rfl, k, k2⟩ := two_loc hl; rw [rw_int k, rw_int k2]; exact Loc.ok S rfl
  · obtain ⟨v, v2, rfl, k, k2⟩ := two_loc hl; rw [rw_int k, rw_int k2]; exact Loc.ok S rfl
  · obtain ⟨v, rfl, k⟩ := one_loc hl
    split
    · rename_i w l z
      obtain ⟨l2, k1, k2⟩ := seq_loc S k z
      simp only [k1]
      rw [k2.length]; exact Loc.ok S rfl
    · trivial
  · obtain ⟨v, rfl, k⟩ := one_loc hl
    split
    · rename_i w l z
      obtain ⟨l2, k1, k2⟩ := seq_loc S k z
      simp only [k1]
      exact Loc.alloc S ⟨_, rfl, k2⟩
    · trivial
  · obtain ⟨v, rfl, k⟩ := one_loc hl
    split
    · rename_i w l z
      obtain ⟨l2, k1, k2⟩ := lst_loc S k z
      simp only [k1]
      exact Loc.ok S ⟨_, rfl, k2⟩
    · trivial
  · obtain ⟨v, rfl, k⟩ := one_loc hl
    obtain ⟨a, rfl, ha⟩ := k
    simp only
    split
    · rename_i l z
      obtain ⟨o1, k1, l1, rfl, k3⟩ := S.obj _ a _ ha z
      rw [k1]; exact bltL_loc S k3
    · rename_i l z
      obtain ⟨o1, k1, l1, rfl, k3⟩ := S.obj _ a _ ha z
      rw [k1]
      simp only
      rw [k3.keys]
      exact Loc.alloc S ⟨_, rfl, RWs.ints _⟩
    · trivial
  · rename_i n h1' h2' h3' h4'
    obtain ⟨v, rfl, k⟩ := one_loc hl
    obtain ⟨a, rfl, ha⟩ := k
    cases b with
    | len => exact (h1' rfl).elim
    | list => exact (h2' rfl).elim
    | tuple => exact (h3' rfl).elim
    | sorted => exact (h4' rfl).elim
    | _ => exact refL ha
  · trivial
theorem ty_loc (S : Sim q h1 h2) {m : BM} {x v : W} (hx : RW q x v) (e : bmTy m x h1 = true) : bmTy m v h2 = true := by
  have lst : isLstW x h1 = true → isLstW v h2 = true := fun e => by
    cases x with
    | ref n =>
      obtain ⟨a, rfl, ha⟩ := hx
      simp only [isLstW] at e ⊢
      cases z : h1[n]? with
      | none => rw [z] at e; cases e
      | some o =>
        rw [z] at e
        cases o with
        | lst l =>
          obtain ⟨o1, k1, l1, rfl, k3⟩ := S.obj _ a _ ha z
          rw [k1]
        | _ => cases e
    | _ => cases e
  cases m with
  | get =>
    cases x with
    | ref n =>
      obtain ⟨a, rfl, ha⟩ := hx
      simp only [bmTy, isDicW] at e ⊢
      cases z : h1[n]? with
      | none => rw [z] at e; cases e
      | some o =>
        rw [z] at e
        cases o with
        | dK l =>
          obtain ⟨o1, k1, l1, rfl, k3⟩ := S.obj _ a _ ha z
          rw [k1]
        | dT l =>
          obtain ⟨o1, k1, l1, rfl, k3⟩ := S.obj _ a _ ha z
          rw [k1]
        | _ => cases e
    | _ => cases e
  | _ => exact lst e
theorem bmW_loc (S : Sim q h1 h2) {m : BM} {x v : W} {l l' : List W} (hx : RW q x v) (hl : RWs q l l') : LocW q h2 (bmW m x l h1) (bmW m v l' h2) := by
  unfold bmW
  split
  · obtain ⟨a, rfl, ha⟩ := hx
    obtain ⟨u, rfl, k⟩ := one_loc hl
    split
    · rename_i xs z
      obtain ⟨o1, k1, l1, rfl, k3⟩ := S.obj _ a _ ha z
      simp only [k1]
      rw [k3.length]
      split
      · exact Loc.put S ha ⟨_, rfl, k3.snoc k⟩
      · trivial
    · trivial
  · obtain ⟨a, rfl, ha⟩ := hx
    obtain ⟨u, rfl, k⟩ := one_loc hl
    obtain ⟨b, rfl, hb⟩ := k
    split
    · rename_i xs ys z z2
      obtain ⟨o1, k1, l1, rfl, k3⟩ := S.obj _ a _ ha z
      obtain ⟨o2, k4, l2, rfl, k6⟩ := S.obj _ b _ hb z2
      simp only [k1, k4]
      rw [k3.length, k6.length]
      split
      · exact Loc.put S ha ⟨_, rfl, k3.app k6⟩
      · trivial
    · trivial
  · obtain ⟨a, rfl, ha⟩ := hx
    have hl : l' = [] := hl
    subst hl
    split
    · rename_i xs z
      obtain ⟨o1, k1, l1, rfl, k3⟩ := S.obj _ a _ ha z
      simp only [k1]
      exact Loc.put S ha ⟨_, rfl, rfl⟩
    · trivial
  · obtain ⟨a, rfl, ha⟩ := hx
    obtain ⟨u, rfl, k⟩ := one_loc hl
    rw [rw_int k]
    split
    · rename_i xs z
      obtain ⟨o1, k1, l1, rfl, k3⟩ := S.obj _ a _ ha z
      simp only [k1]
      cases z2 : intsOf xs with
      | none => trivial
      | some ns => rw [k3.ofInts z2, z2]; exact Loc.ok S rfl
    · trivial
  · obtain ⟨a, rfl, ha⟩ := hx
    obtain ⟨u, rfl, k⟩ := one_loc hl
    rw [rw_int k]
    split
    · rename_i xs z
      obtain ⟨o1, k1, l1, rfl, k3⟩ := S.obj _ a _ ha z
      simp only [k1]
      cases z2 : intsOf xs with
      | none => trivial
      | some ns =>
        rw [k3.ofInts z2, z2]
        simp only [Option.bind_some]
        split
        · exact Loc.put S ha ⟨_, rfl, RWs.ints _⟩
        · trivial
    · trivial
  · obtain ⟨a, rfl, ha⟩ := hx
    obtain ⟨u, u2, rfl, k, k'⟩ := two_loc hl
    rw [rw_int k]
    split
    · rename_i xs z
      obtain ⟨o1, k1, l1, rfl, k3⟩ := S.obj _ a _ ha z
      simp only [k1]
      rw [k3.length]
      split
      · exact Loc.put S ha ⟨_, rfl, ((k3.take _).snoc k').app (k3.drop _)⟩
      · trivial
    · trivial
  · obtain ⟨a, rfl, ha⟩ := hx
    have hl : l' = [] := hl
    subst hl
    split
    · rename_i xs z
      obtain ⟨o1, k1, l1, rfl, k3⟩ := S.obj _ a _ ha z
      simp only [k1]
      rw [k3.length]
      cases z2 : xs[xs.length - 1]? with
      | none => trivial
      | some w =>
        obtain ⟨v, k4, k5⟩ := k3.get z2
        rw [k4]
        have kd : RWs q xs.dropLast l1.dropLast := by rw [List.dropLast_eq_take, List.dropLast_eq_take, k3.length]; exact k3.take _
        obtain ⟨g, s⟩ := sim_put (o := .lst xs.dropLast) (o' := .lst l1.dropLast) S ha ⟨_, rfl, kd⟩
        exact ⟨_, _, _, rfl, g, s, k5⟩
    · trivial
  · rename_i n kk d
    obtain ⟨a, rfl, ha⟩ := hx
    obtain ⟨u, u2, rfl, k, k'⟩ := two_loc hl
    rw [rw_int k]
    split
    · rename_i t z
      obtain ⟨o1, k1, l1, rfl, k3⟩ := S.obj _ a _ ha z
      simp only [k1]
      have k4 := look_loc kk k3
      cases z2 : look t kk with
      | none => rw [z2] at k4; rw [k4]; exact Loc.ok S k'
      | some w => rw [z2] at k4; obtain ⟨v, k5, k6⟩ := k4; rw [k5]; exact Loc.ok S k6
    · trivial
  · obtain ⟨a, rfl, ha⟩ := hx
    obtain ⟨u, u2, rfl, k, k'⟩ := two_loc hl
    obtain ⟨us, rfl, ku⟩ := k
    split
    · rename_i ks d t is z z2
      obtain ⟨o1, k1, l1, rfl, k3⟩ := S.obj _ a _ ha z
      rw [ku.ofInts z2]
      simp only [k1, z2]
      have k4 := look_loc is k3
      cases z3 : look t is with
      | none => rw [z3] at k4; rw [k4]; exact Loc.ok S k'
      | some w => rw [z3] at k4; obtain ⟨v, k5, k6⟩ := k4; rw [k5]; exact Loc.ok S k6
    · trivial
  · trivial
theorem setW_loc (S : Sim q h1 h2) {x i w v u z : W} {k1 : Hm} (hx : RW q x v) (hi : RW q i u) (hw : RW q w z) (e : setW x i w h1 = some k1) : ∃ k2, setW v u z h2 = some k2 ∧ Gro q h2 q k2 ∧ Sim q k1 k2 := by
  cases x with
  | ref n =>
    obtain ⟨a, rfl, ha⟩ := hx
    cases i with
    | int k =>
      rw [rw_int hi]
      simp only [setW] at e ⊢
      cases z1 : h1[n]? with
      | none => rw [z1] at e; cases e
      | some o =>
        rw [z1] at e
        obtain ⟨o1, j1, ro⟩ := S.obj _ a _ ha z1
        cases o with
        | lst l =>
          obtain ⟨l1, rfl, j3⟩ := ro
          rw [j1]
          simp only at e ⊢
          rw [j3.length]
          cases z2 : ixN l.length k with
          | none => rw [z2] at e; cases e
          | some j =>
            rw [z2] at e; cases e
            exact ⟨_, rfl, sim_put S ha ⟨_, rfl, j3.set hw j⟩⟩
        | dK l =>
          obtain ⟨l1, rfl, j3⟩ := ro
          rw [j1]
          simp only at e ⊢
          rw [j3.length]
          split at e
          · rename_i hl
            cases e
            rw [if_pos hl]
            exact ⟨_, rfl, sim_put S ha ⟨_, rfl, put_loc k hw j3⟩⟩
          · cases e
        | _ => cases e
    | tup ks =>
      obtain ⟨us, rfl, ku⟩ := hi
      simp only [setW] at e ⊢
      cases z1 : h1[n]? with
      | none => simp only [z1] at e; cases e
      | some o =>
        cases o with
        | dT l =>
          cases z2 : intsOf ks with
          | none => simp only [z1, z2] at e; cases e
          | some is =>
            simp only [z1, z2] at e
            obtain ⟨o1, j1, l1, rfl, j3⟩ := S.obj _ a _ ha z1
            rw [ku.ofInts z2, j1, z2]
            simp only
            rw [j3.length]
            split at e
            · rename_i hl
              cases e
              rw [if_pos hl]
              exact ⟨_, rfl, sim_put S ha ⟨_, rfl, put_loc is hw j3⟩⟩
            · cases e
        | _ => simp only [z1] at e; cases e
    | _ => cases e
  | _ => cases e
theorem isiW_loc (S : Sim q h1 h2) {T : Tb} {c : Cl} {x v : W} {b : Bool} (hx : RW q x v) (e : isiW T x c h1 = some b) : isiW T v c h2 = some b := by
  cases x with
  | ref n =>
    obtain ⟨a, rfl, ha⟩ := hx
    cases z1 : h1[n]? with
    | none => cases c <;> simp [isiW, z1] at e
    | some o =>
      obtain ⟨o1, j1, ro⟩ := S.obj _ a _ ha z1
      cases o <;> (obtain ⟨l1, rfl, j3⟩ := ro; cases c <;> (simp only [isiW, z1, j1] at e ⊢; exact e))
  | tup l =>
    obtain ⟨vs, rfl, _⟩ := hx
    cases c <;> exact e
  | _ => have hx : v = _ := hx
         subst hx
         cases c <;> exact e
end
end WL

namespace WL
open PySem
section
variable {q q' : List Nat} {h1 h2 h1' h2' : Hm}
theorem RF.ext {f g : F} (e : ∀ (n a : Nat), q[n]? = some a → q'[n]? = some a) (h : RF q f g) : RF q' f g := ⟨h.1, fun i w hi => let ⟨v, k1, k2⟩ := h.2 i w hi; ⟨v, k1, k2.ext e⟩⟩
theorem RF.set {f g : F} {i : Nat} {w v : W} (h : RF q f g) (hw : RW q w v) : RF q (f.set i (some w)) (g.set i (some v)) := by
  refine ⟨by simp [h.1], fun j u hj => ?_⟩
  by_cases e : j = i
  · subst e
    by_cases hl : j < f.length
    · rw [List.getElem?_set_self hl] at hj
      cases hj
      exact ⟨v, by rw [List.getElem?_set_self (h.1 ▸ hl)], hw⟩
    · rw [List.getElem?_eq_none (by simpa using hl)] at hj; cases hj
  · rw [List.getElem?_set_ne (Ne.symm e)] at hj ⊢; exact h.2 j u hj
theorem RF.setN {f g : F} {i : Nat} (h : RF q f g) : RF q (f.set i none) (g.set i none) := by
  refine ⟨by simp [h.1], fun j u hj => ?_⟩
  by_cases e : j = i
  · subst e
    by_cases hl : j < f.length
    · rw [List.getElem?_set_self hl] at hj; cases hj
    · rw [List.getElem?_eq_none (by simpa using hl)] at hj; cases hj
  · rw [List.getElem?_set_ne (Ne.symm e)] at hj ⊢; exact h.2 j u hj
theorem RF.wipe {f g : F} (h : RF q f g) : ∀ vs : List Nat, RF q (WL.wipe f vs) (WL.wipe g vs)
  | [] => h
  | v :: vs => (RF.wipe h vs).setN
theorem RF.start {ws vs : List W} (h : RWs q ws vs) (n : Nat) : RF q (ws.map some ++ List.replicate n none) (vs.map some ++ List.replicate n none) := by
  refine ⟨by simp [h.length], fun i w hi => ?_⟩
  by_cases hl : i < ws.length
  · rw [List.getElem?_append_left (by simpa using hl), List.getElem?_map] at hi
    cases z : ws[i]? with
    | none => rw [z] at hi; cases hi
    | some u =>
      rw [z] at hi
      simp at hi; subst hi
      obtain ⟨v, k1, k2⟩ := h.get z
      exact ⟨v, by rw [List.getElem?_append_left (by simp [h.length]; exact hl), List.getElem?_map, k1]; rfl, k2⟩
  · rw [List.getElem?_append_right (by simp; omega), List.getElem?_replicate] at hi
    split at hi <;> cases hi
theorem stV_loc {f g f' : F} {i : Nat} {w v : W} (h : RF q f g) (hw : RW q w v) (e : stV i w f = some f') : ∃ g', stV i v g = some g' ∧ RF q f' g' := by
  unfold stV at e ⊢
  split at e
  · rename_i hl
    cases e
    rw [if_pos (h.1 ▸ hl)]
    exact ⟨_, rfl, h.set hw⟩
  · cases e
mutual
theorem bindT_loc : ∀ (t : E) {w v : W} {f g f' : F}, RF q f g → RW q w v → bindT t w f = some f' → ∃ g', bindT t v g = some g' ∧ RF q f' g'
  | .v i, w, v, f, g, f', h, hw, e => stV_loc h hw e
  | .tup l, w, v, f, g, f', h, hw, e => by
    cases w with
    | tup ws =>
      obtain ⟨vs, rfl, hv⟩ := hw
      exact bindTs_loc l h hv e
    | _ => cases e
  | .bad, _, _, _, _, _, _, _, e => by cases e
  | .nil, _, _, _, _, _, _, _, e => by cases e
  | .cons _ _, _, _, _, _, _, _, _, e => by cases e
  | .non, _, _, _, _, _, _, _, e => by cases e
  | .bl _, _, _, _, _, _, _, _, e => by cases e
  | .int _, _, _, _, _, _, _, _, e => by cases e
  | .str _, _, _, _, _, _, _, _, e => by cases e
  | .fnv _, _, _, _, _, _, _, _, e => by cases e
  | .bin _ _ _, _, _, _, _, _, _, _, e => by cases e
  | .neg _, _, _, _, _, _, _, _, e => by cases e
  | .cmp _ _ _, _, _, _, _, _, _, _, e => by cases e
  | .chn _ _ _ _ _, _, _, _, _, _, _, _, e => by cases e
  | .and _ _, _, _, _, _, _, _, _, e => by cases e
  | .or _ _, _, _, _, _, _, _, _, e => by cases e
  | .not _, _, _, _, _, _, _, _, e => by cases e
  | .ife _ _ _, _, _, _, _, _, _, _, e => by cases e
  | .lst _, _, _, _, _, _, _, _, e => by cases e
  | .dnew _, _, _, _, _, _, _, _, e => by cases e
  | .idx _ _, _, _, _, _, _, _, _, e => by cases e
  | .sli _ _ _, _, _, _, _, _, _, _, e => by cases e
  | .cal _ _, _, _, _, _, _, _, _, e => by cases e
  | .mk _ _, _, _, _, _, _, _, _, e => by cases e
  | .mth _ _ _, _, _, _, _, _, _, _, e => by cases e
  | .blt _ _, _, _, _, _, _, _, _, e => by cases e
  | .bm _ _ _, _, _, _, _, _, _, _, e => by cases e
  | .fld _ _, _, _, _, _, _, _, _, e => by cases e
  | .isi _ _, _, _, _, _, _, _, _, e => by cases e
  | .isx _, _, _, _, _, _, _, _, e => by cases e
  | .lc _ _ _ _ _, _, _, _, _, _, _, _, e => by cases e
  | .agg _ _, _, _, _, _, _, _, _, e => by cases e
  | .rng _, _, _, _, _, _, _, _, e => by cases e
  | .zip _ _, _, _, _, _, _, _, _, e => by cases e
  | .enu _, _, _, _, _, _, _, _, e => by cases e
  | .sq _, _, _, _, _, _, _, _, e => by cases e
  | .rev _, _, _, _, _, _, _, _, e => by cases e
  | .calv _ _, _, _, _, _, _, _, _, e => by cases e
  | .lam _ _ _, _, _, _, _, _, _, _, e => by cases e
  | .thk _ _, _, _, _, _, _, _, _, e => by cases e
theorem bindTs_loc : ∀ (t : E) {w v : List W} {f g f' : F}, RF q f g → RWs q w v → bindTs t w f = some f' → ∃ g', bindTs t v g = some g' ∧ RF q f' g'
  | .nil, w, v, f, g, f', h, hw, e => by
    cases w with
    | nil =>
      have hw : v = [] := hw
      subst hw
      cases e
      exact ⟨g, rfl, h⟩
    | cons _ _ => cases e
  | .cons a r, w, v, f, g, f', h, hw, e => by
    cases w with
    | nil => cases e
    | cons w ws =>
      obtain ⟨u, us, rfl, k1, k2⟩ := hw
      have e : ((bindT a w f).bind fun f => bindTs r ws f) = some f' := e
      cases z : bindT a w f with
      | none => rw [z] at e; cases e
      | some f1 =>
        rw [z] at e
        obtain ⟨g1, j1, j2⟩ := bindT_loc a h k1 z
        obtain ⟨g2, j3, j4⟩ := bindTs_loc r j2 k2 e
        refine ⟨g2, ?_, j4⟩
        show ((bindT a u g).bind fun f => bindTs r us f) = some g2
        rw [j1]; exact j3
  | .v _, _, _, _, _, _, _, _, e => by cases e
  | .tup _, _, _, _, _, _, _, _, e => by cases e
  | .bad, _, _, _, _, _, _, _, e => by cases e
  | .non, _, _, _, _, _, _, _, e => by cases e
  | .bl _, _, _, _, _, _, _, _, e => by cases e
  | .int _, _, _, _, _, _, _, _, e => by cases e
  | .str _, _, _, _, _, _, _, _, e => by cases e
  | .fnv _, _, _, _, _, _, _, _, e => by cases e
  | .bin _ _ _, _, _, _, _, _, _, _, e => by cases e
  | .neg _, _, _, _, _, _, _, _, e => by cases e
  | .cmp _ _ _, _, _, _, _, _, _, _, e => by cases e
  | .chn _ _ _ _ _, _, _, _, _, _, _, _, e => by cases e
  | .and _ _, _, _, _, _, _, _, _, e => by cases e
  | .or _ _, _, _, _, _, _, _, _, e => by cases e
  | .not _, _, _, _, _, _, _, _, e => by cases e
  | .ife _ _ _, _, _, _, _, _, _, _, e => by cases e
  | .lst _, _, _, _, _, _, _, _, e => by cases e
  | .dnew _, _, _, _, _, _, _, _, e => by cases e
  | .idx _ _, _, _, _, _, _, _, _, e => by cases e
  | .sli _ _ _, _, _, _, _, _, _, _, e => by cases e
  | .cal _ _, _, _, _, _, _, _, _, e => by cases e
  | .mk _ _, _, _, _, _, _, _, _, e => by cases e
  | .mth _ _ _, _, _, _, _, _, _, _, e => by cases e
  | .blt _ _, _, _, _, _, _, _, _, e => by cases e
  | .bm _ _ _, _, _, _, _, _, _, _, e => by cases e
  | .fld _ _, _, _, _, _, _, _, _, e => by cases e
  | .isi _ _, _, _, _, _, _, _, _, e => by cases e
  | .isx _, _, _, _, _, _, _, _, e => by cases e
  | .lc _ _ _ _ _, _, _, _, _, _, _, _, e => by cases e
  | .agg _ _, _, _, _, _, _, _, _, e => by cases e
  | .rng _, _, _, _, _, _, _, _, e => by cases e
  | .zip _ _, _, _, _, _, _, _, _, e => by cases e
  | .enu _, _, _, _, _, _, _, _, e => by cases e
  | .sq _, _, _, _, _, _, _, _, e => by cases e
  | .rev _, _, _, _, _, _, _, _, e => by cases e
  | .calv _ _, _, _, _, _, _, _, _, e => by cases e
  | .lam _ _ _, _, _, _, _, _, _, _, e => by cases e
  | .thk _ _, _, _, _, _, _, _, _, e => by cases e
end
/-! ### what is walked -/
def RIt (q : List Nat) : It → It → Prop
  | .seq w, J => ∃ v, J = .seq v ∧ RW q w v
  | .rng lo c n, J => J = .rng lo c n
  | .zip a b, J => ∃ v u, J = .zip v u ∧ RW q a v ∧ RW q b u
  | .enu a, J => ∃ v, J = .enu v ∧ RW q a v
theorem RIt.ext (e : ∀ (n a : Nat), q[n]? = some a → q'[n]? = some a) : ∀ {J J' : It}, RIt q J J' → RIt q' J J'
  | .seq w, _, h => by obtain ⟨v, h1, h2⟩ := h; exact ⟨v, h1, h2.ext e⟩
  | .rng _ _ _, _, h => h
  | .zip a b, _, h => by obtain ⟨v, u, h1, h2, h3⟩ := h; exact ⟨v, u, h1, h2.ext e, h3.ext e⟩
  | .enu a, _, h => by obtain ⟨v, h1, h2⟩ := h; exact ⟨v, h1, h2.ext e⟩
theorem len_loc (S : Sim q h1 h2) {J J' : It} {n : Nat} (h : RIt q J J') (e : J.len h1 = some n) : J'.len h2 = some n := by
  cases J with
  | seq w =>
    obtain ⟨v, rfl, hv⟩ := h
    simp only [It.len] at e ⊢
    cases z : seqOf w h1 with
    | none => rw [z] at e; cases e
    | some l => obtain ⟨l', k1, k2⟩ := seq_loc S hv z; rw [z] at e; rw [k1]; simp only [Option.map_some, k2.length] at e ⊢; exact e
  | rng lo c m => have h : J' = _ := h; subst h; exact e
  | zip a b =>
    obtain ⟨v, u, rfl, hv, hu⟩ := h
    simp only [It.len] at e ⊢
    cases z : lstOf a h1 with
    | none => rw [z] at e; cases e
    | some l =>
      cases z2 : lstOf b h1 with
      | none => rw [z, z2] at e; cases e
      | some m =>
        obtain ⟨l', k1, k2⟩ := lst_loc S hv z
        obtain ⟨m', k3, k4⟩ := lst_loc S hu z2
        rw [z, z2] at e; rw [k1, k3]
        simp only [Option.bind_some, Option.map_some, k2.length, k4.length] at e ⊢; exact e
  | enu a =>
    obtain ⟨v, rfl, hv⟩ := h
    simp only [It.len] at e ⊢
    cases z : lstOf a h1 with
    | none => rw [z] at e; cases e
    | some l => obtain ⟨l', k1, k2⟩ := lst_loc S hv z; rw [z] at e; rw [k1]; simp only [Option.map_some, k2.length] at e ⊢; exact e
theorem stop_loc (S : Sim q h1 h2) {J J' : It} {i : Nat} (h : RIt q J J') (e : J.stop i h1 = true) : J'.stop i h2 = true := by
  unfold It.stop at e ⊢
  cases z : J.len h1 with
  | none => rw [z] at e; cases e
  | some n => rw [z] at e; rw [len_loc S h z]; exact e
theorem item_loc (S : Sim q h1 h2) {J J' : It} {i : Nat} {w : W} (h : RIt q J J') (e : J.item i h1 = some w) : ∃ v, J'.item i h2 = some v ∧ RW q w v := by
  cases J with
  | seq x =>
    obtain ⟨v, rfl, hv⟩ := h
    simp only [It.item] at e ⊢
    cases z : seqOf x h1 with
    | none => rw [z] at e; cases e
    | some l => obtain ⟨l', k1, k2⟩ := seq_loc S hv z; rw [z] at e; rw [k1]; exact k2.get e
  | rng lo c m =>
    have h : J' = _ := h; subst h
    simp only [It.item] at e ⊢
    split at e
    · rename_i hl; cases e; rw [if_pos hl]; exact ⟨_, rfl, rfl⟩
    · cases e
  | zip a b =>
    obtain ⟨v, u, rfl, hv, hu⟩ := h
    simp only [It.item] at e ⊢
    cases z : lstOf a h1 with
    | none => rw [z] at e; cases e
    | some l =>
      cases z2 : lstOf b h1 with
      | none => rw [z, z2] at e; cases e
      | some m =>
        obtain ⟨l', k1, k2⟩ := lst_loc S hv z
        obtain ⟨m', k3, k4⟩ := lst_loc S hu z2
        rw [z, z2] at e; rw [k1, k3]
        simp only [Option.bind_some] at e ⊢
        cases z3 : l[i]? with
        | none => rw [z3] at e; cases e
        | some x =>
          rw [z3] at e
          cases z4 : m[i]? with
          | none => rw [z4] at e; cases e
          | some y =>
            rw [z4] at e; cases e
            obtain ⟨x', j1, j2⟩ := k2.get z3
            obtain ⟨y', j3, j4⟩ := k4.get z4
            rw [j1, j3]
            exact ⟨_, rfl, _, rfl, _, _, rfl, j2, _, _, rfl, j4, rfl⟩
  | enu a =>
    obtain ⟨v, rfl, hv⟩ := h
    simp only [It.item] at e ⊢
    cases z : lstOf a h1 with
    | none => rw [z] at e; cases e
    | some l =>
      obtain ⟨l', k1, k2⟩ := lst_loc S hv z
      rw [z] at e; rw [k1]
      simp only [Option.bind_some] at e ⊢
      cases z3 : l[i]? with
      | none => rw [z3] at e; cases e
      | some x =>
        rw [z3] at e; cases e
        obtain ⟨x', j1, j2⟩ := k2.get z3
        rw [j1]
        exact ⟨_, rfl, _, rfl, _, _, rfl, rfl, _, _, rfl, j2, rfl⟩
theorem next_loc (S : Sim q h1 h2) {J J' : It} {t : E} {i : Nat} {f g f' : F} (h : RIt q J J') (hf : RF q f g) (e : ((J.item i h1).bind fun w => bindT t w f) = some f') : ∃ g', ((J'.item i h2).bind fun w => bindT t w g) = some g' ∧ RF q f' g' := by
  cases z : J.item i h1 with
  | none => rw [z] at e; cases e
  | some w =>
    rw [z] at e
    obtain ⟨v, k1, k2⟩ := item_loc S h z
    rw [k1]
    exact bindT_loc t hf k2 e
theorem rng_loc {ws vs : List W} {J : It} (h : RWs q ws vs) (e : rngOf ws = some J) : rngOf vs = some J ∧ RIt q J J := by
  have hf : ws.all flat = true := by
    unfold rngOf at e
    split at e <;> first | rfl | cases e
  rw [h.flat hf]
  refine ⟨e, ?_⟩
  unfold rngOf at e
  split at e
  · split at e <;> cases e; rfl
  · split at e <;> cases e; rfl
  · split at e <;> cases e; rfl
  · cases e
/-! ### loops -/
def LocS (q : List Nat) (h2 : Hm) (x y : RS) : Prop := match x with
  | .nx f k => ∃ q' g k2, y = .nx g k2 ∧ Gro q h2 q' k2 ∧ Sim q' k k2 ∧ RF q' f g
  | .bk f k => ∃ q' g k2, y = .bk g k2 ∧ Gro q h2 q' k2 ∧ Sim q' k k2 ∧ RF q' f g
  | .ct f k => ∃ q' g k2, y = .ct g k2 ∧ Gro q h2 q' k2 ∧ Sim q' k k2 ∧ RF q' f g
  | .ex c f k => ∃ q' g k2, y = .ex c g k2 ∧ Gro q h2 q' k2 ∧ Sim q' k k2 ∧ RF q' f g
  | .rt w k => ∃ q' v k2, y = .rt v k2 ∧ Gro q h2 q' k2 ∧ Sim q' k k2 ∧ RW q' w v
  | .bad => True
theorem LocS.pre {x y : RS} (g : Gro q h2 q' h2') (h : LocS q' h2' x y) : LocS q h2 x y := by
  cases x with
  | bad => trivial
  | _ => obtain ⟨a, b, c, e, g2, s, r⟩ := h; exact ⟨a, b, c, e, g.trans g2, s, r⟩
theorem lcL_loc {c1 e1 : F → Hm → R W} {t : E} (hc : ∀ q f g k1 k2, RF q f g → Sim q k1 k2 → LocW q k2 (c1 f k1) (c1 g k2)) (he : ∀ q f g k1 k2, RF q f g → Sim q k1 k2 → LocW q k2 (e1 f k1) (e1 g k2)) :
    ∀ (m i : Nat) (q : List Nat) (h1 h2 : Hm) (J J' : It) (wf wg : F) (acc acc' : List W), Sim q h1 h2 → RIt q J J' → RF q wf wg → RWs q acc acc' → LocL q h2 (lcL c1 e1 (bindT t) J wf m i acc h1) (lcL c1 e1 (bindT t) J' wg m i acc' h2)
  | 0, i, q, h1, h2, J, J', wf, wg, acc, acc', S, hJ, hf, ha => by
    simp only [lcL]
    by_cases e : J.stop i h1 = true
    · rw [if_pos e, if_pos (stop_loc S hJ e)]; exact Loc.ok S ha
    · rw [if_neg e]; trivial
  | m + 1, i, q, h1, h2, J, J', wf, wg, acc, acc', S, hJ, hf, ha => by
    simp only [lcL]
    cases z : (J.item i h1).bind fun w => bindT t w wf with
    | none => trivial
    | some f1 =>
      obtain ⟨g1, k1, k2⟩ := next_loc S hJ hf z
      rw [k1]
      simp only
      have hc1 := hc q f1 g1 h1 h2 k2 S
      cases z1 : c1 f1 h1 with
      | bad => trivial
      | exc c k => trivial
      | ok w k =>
        rw [z1] at hc1
        obtain ⟨q2, v, kk, e2, g2, s2, r2⟩ := hc1
        rw [e2]
        cases w with
        | bl b =>
          have r2 : v = .bl b := r2
          subst r2
          cases b with
          | true =>
            simp only
            have he1 := he q2 f1 g1 k kk (k2.ext g2.rho) s2
            cases z3 : e1 f1 k with
            | bad => trivial
            | exc c k => trivial
            | ok w2 k3 =>
              rw [z3] at he1
              obtain ⟨q3, v3, kk3, e3, g3, s3, r3⟩ := he1
              rw [e3]
              simp only
              rw [ha.length]
              split
              · have g23 := g2.trans g3
                exact (lcL_loc hc he m (i + 1) q3 k3 kk3 J J' wf wg (acc ++ [w2]) (acc' ++ [v3]) s3 (hJ.ext g23.rho) (hf.ext g23.rho) ((ha.ext g23.rho).snoc r3)).pre g23
              · trivial
          | false =>
            simp only
            exact (lcL_loc hc he m (i + 1) q2 k kk J J' wf wg acc acc' s2 (hJ.ext g2.rho) (hf.ext g2.rho) (ha.ext g2.rho)).pre g2
        | _ => trivial
theorem forL_loc {b1 : F → Hm → RS} {t : E} (hb : ∀ q f g k1 k2, RF q f g → Sim q k1 k2 → LocS q k2 (b1 f k1) (b1 g k2)) :
    ∀ (m i : Nat) (q : List Nat) (h1 h2 : Hm) (J J' : It) (f g : F), Sim q h1 h2 → RIt q J J' → RF q f g → LocS q h2 (forL b1 (bindT t) J m i f h1) (forL b1 (bindT t) J' m i g h2)
  | 0, i, q, h1, h2, J, J', f, g, S, hJ, hf => by
    simp only [forL]
    by_cases e : J.stop i h1 = true
    · rw [if_pos e, if_pos (stop_loc S hJ e)]; exact ⟨_, _, _, rfl, .refl, S, hf⟩
    · rw [if_neg e]; trivial
  | m + 1, i, q, h1, h2, J, J', f, g, S, hJ, hf => by
    simp only [forL]
    cases z : (J.item i h1).bind fun w => bindT t w f with
    | none => trivial
    | some f1 =>
      obtain ⟨g1, k1, k2⟩ := next_loc S hJ hf z
      rw [k1]
      simp only
      have hb1 := hb q f1 g1 h1 h2 k2 S
      cases z1 : b1 f1 h1 with
      | bad => trivial
      | nx f2 k =>
        rw [z1] at hb1
        obtain ⟨q2, g3, kk, e2, g2, s2, r2⟩ := hb1
        rw [e2]
        exact (forL_loc hb m (i + 1) q2 k kk J J' f2 g3 s2 (hJ.ext g2.rho) r2).pre g2
      | ct f2 k =>
        rw [z1] at hb1
        obtain ⟨q2, g3, kk, e2, g2, s2, r2⟩ := hb1
        rw [e2]
        exact (forL_loc hb m (i + 1) q2 k kk J J' f2 g3 s2 (hJ.ext g2.rho) r2).pre g2
      | bk f2 k =>
        rw [z1] at hb1
        obtain ⟨q2, g3, kk, e2, g2, s2, r2⟩ := hb1
        rw [e2]
        exact ⟨_, _, _, rfl, g2, s2, r2⟩
      | rt w k =>
        rw [z1] at hb1
        obtain ⟨q2, g3, kk, e2, g2, s2, r2⟩ := hb1
        rw [e2]
        exact ⟨_, _, _, rfl, g2, s2, r2⟩
      | ex c f2 k =>
        rw [z1] at hb1
        obtain ⟨q2, g3, kk, e2, g2, s2, r2⟩ := hb1
        rw [e2]
        exact ⟨_, _, _, rfl, g2, s2, r2⟩
theorem whlL_loc {c1 : F → Hm → R W} {b1 : F → Hm → RS} (hc : ∀ q f g k1 k2, RF q f g → Sim q k1 k2 → LocW q k2 (c1 f k1) (c1 g k2)) (hb : ∀ q f g k1 k2, RF q f g → Sim q k1 k2 → LocS q k2 (b1 f k1) (b1 g k2)) :
    ∀ (m : Nat) (q : List Nat) (h1 h2 : Hm) (f g : F), Sim q h1 h2 → RF q f g → LocS q h2 (whlL c1 b1 m f h1) (whlL c1 b1 m g h2)
  | 0, _, _, _, _, _, _, _ => trivial
  | m + 1, q, h1, h2, f, g, S, hf => by
    simp only [whlL]
    have hc1 := hc q f g h1 h2 hf S
    cases z1 : c1 f h1 with
    | bad => trivial
    | exc c k =>
      rw [z1] at hc1
      obtain ⟨q2, kk, e2, g2, s2⟩ := hc1
      rw [e2]
      exact ⟨_, _, _, rfl, g2, s2, hf.ext g2.rho⟩
    | ok w k =>
      rw [z1] at hc1
      obtain ⟨q2, v, kk, e2, g2, s2, r2⟩ := hc1
      rw [e2]
      cases w with
      | bl b =>
        have r2 : v = .bl b := r2
        subst r2
        cases b with
        | false => exact ⟨_, _, _, rfl, g2, s2, hf.ext g2.rho⟩
        | true =>
          simp only
          have hb1 := hb q2 f g k kk (hf.ext g2.rho) s2
          cases z2 : b1 f k with
          | bad => trivial
          | nx f3 k3 =>
            rw [z2] at hb1
            obtain ⟨q3, g4, kk3, e3, g3, s3, r3⟩ := hb1
            rw [e3]
            exact (whlL_loc hc hb m q3 k3 kk3 f3 g4 s3 r3).pre (g2.trans g3)
          | ct f3 k3 =>
            rw [z2] at hb1
            obtain ⟨q3, g4, kk3, e3, g3, s3, r3⟩ := hb1
            rw [e3]
            exact (whlL_loc hc hb m q3 k3 kk3 f3 g4 s3 r3).pre (g2.trans g3)
          | bk f3 k3 =>
            rw [z2] at hb1
            obtain ⟨q3, g4, kk3, e3, g3, s3, r3⟩ := hb1
            rw [e3]
            exact ⟨_, _, _, rfl, g2.trans g3, s3, r3⟩
          | rt w3 k3 =>
            rw [z2] at hb1
            obtain ⟨q3, g4, kk3, e3, g3, s3, r3⟩ := hb1
            rw [e3]
            exact ⟨_, _, _, rfl, g2.trans g3, s3, r3⟩
          | ex c3 f3 k3 =>
            rw [z2] at hb1
            obtain ⟨q3, g4, kk3, e3, g3, s3, r3⟩ := hb1
            rw [e3]
            exact ⟨_, _, _, rfl, g2.trans g3, s3, r3⟩
      | _ => trivial
end
end WL

namespace WL
open PySem
structure Cb0 (call make : Nat → List W → Hm → R W) (cods : Nat → Nat → E → List W → Hm → R W) : Prop where
  call : ∀ (g : Nat) (ws vs : List W) (q : List Nat) (h1 h2 : Hm), Sim q h1 h2 → RWs q ws vs → LocW q h2 (call g ws h1) (call g vs h2)
  make : ∀ (g : Nat) (ws vs : List W) (q : List Nat) (h1 h2 : Hm), Sim q h1 h2 → RWs q ws vs → LocW q h2 (make g ws h1) (make g vs h2)
  cods : ∀ (np ns : Nat) (b : E) (ws vs : List W) (q : List Nat) (h1 h2 : Hm), Sim q h1 h2 → RWs q ws vs → LocW q h2 (cods np ns b ws h1) (cods np ns b vs h2)
structure CbL (C : Cb) : Prop where
  top : Cb0 C.call C.make C.cods
  low : Cb0 C.lcall C.lmake C.lcods
  thk : ∀ (g : Nat) (th th' : Hm → R W) (q : List Nat) (h1 h2 : Hm), Sim q h1 h2 → (∀ q' k1 k2, Gro q h2 q' k2 → Sim q' k1 k2 → LocW q' k2 (th k1) (th' k2)) → LocW q h2 (C.thkc g th h1) (C.thkc g th' h2)
theorem CbL.lower {C : Cb} (h : CbL C) : CbL (lowC C) := ⟨h.low, ⟨fun _ _ _ _ _ _ _ _ => trivial, fun _ _ _ _ _ _ _ _ => trivial, fun _ _ _ _ _ _ _ _ _ _ => trivial⟩, fun _ _ _ _ _ _ _ _ => trivial⟩
section
variable {q : List Nat} {h1 h2 : Hm} {f g : F}
theorem optI_loc {x y : R (List W)} (h : LocL q h2 x y) : Loc (fun _ (a b : Option Int) => a = b) q h2 (optI x) (optI y) := by
  cases x with
  | bad => trivial
  | exc c k => obtain ⟨q2, k2, rfl, g2, s⟩ := h; exact ⟨q2, k2, rfl, g2, s⟩
  | ok ws k =>
    obtain ⟨q2, vs, k2, rfl, g2, s, r⟩ := h
    cases ws with
    | nil => have r : vs = [] := r; subst r; exact ⟨_, _, _, rfl, g2, s, rfl⟩
    | cons w ws =>
      cases w with
      | int i =>
        cases ws with
        | nil =>
          obtain ⟨v, rest, rfl, r1, r2⟩ := r
          have r1 : v = _ := r1
          have r2 : rest = [] := r2
          subst r1 r2
          exact ⟨_, _, _, rfl, g2, s, rfl⟩
        | cons _ _ => trivial
      | _ => trivial
theorem bl_loc {x y : R W} {f1 g1 : W → Hm → R W} (h : LocW q h2 x y) (hf : ∀ q' a b k1 k2, Gro q h2 q' k2 → Sim q' k1 k2 → RW q' a b → LocW q' k2 (f1 a k1) (g1 b k2)) : LocW q h2 (x.bind f1) (y.bind g1) := h.bind hf
mutual
theorem ev_loc : ∀ (e : E) (C : Cb) (hC : CbL C) (q : List Nat) (f g : F) (h1 h2 : Hm), RF q f g → Sim q h1 h2 → LocW q h2 (ev C e f h1) (ev C e g h2)
  | .v i, C, hC, q, f, g, h1, h2, hf, S => by
    rw [ev_v]
    dsimp only
    cases z : f[i]? with
    | none => trivial
    | some o =>
      cases o with
      | none => trivial
      | some w =>
        obtain ⟨v, k1, k2⟩ := hf.2 i w z
        rw [k1]; exact Loc.ok S k2
  | .non, C, hC, q, f, g, h1, h2, hf, S => by rw [ev_non]; exact Loc.ok S rfl
  | .bl b, C, hC, q, f, g, h1, h2, hf, S => by rw [ev_bl]; exact Loc.ok S rfl
  | .int i, C, hC, q, f, g, h1, h2, hf, S => by rw [ev_int]; exact Loc.ok S rfl
  | .str s, C, hC, q, f, g, h1, h2, hf, S => by rw [ev_str]; exact Loc.ok S rfl
  | .fnv n, C, hC, q, f, g, h1, h2, hf, S => by rw [ev_fnv]; exact Loc.ok S rfl
  | .lam np ns b, C, hC, q, f, g, h1, h2, hf, S => by rw [ev_lam]; exact Loc.ok S rfl
  | .bin o a b, C, hC, q, f, g, h1, h2, hf, S => by
    rw [ev_bin]
    refine (ev_loc a C hC q f g h1 h2 hf S).bind fun q1 x v k1 k2 g1 s1 r1 => ?_
    refine (ev_loc b C hC q1 f g k1 k2 (hf.ext g1.rho) s1).bind fun q2 y u k3 k4 g2 s2 r2 => ?_
    exact binW_loc s2 (r1.ext g2.rho) r2
  | .neg a, C, hC, q, f, g, h1, h2, hf, S => by
    rw [ev_neg]
    refine (ev_loc a C hC q f g h1 h2 hf S).bind fun q1 x v k1 k2 g1 s1 r1 => ?_
    cases x with
    | int i => rw [rw_int r1]; exact Loc.ok s1 rfl
    | _ => trivial
  | .cmp o a b, C, hC, q, f, g, h1, h2, hf, S => by
    rw [ev_cmp]
    refine (ev_loc a C hC q f g h1 h2 hf S).bind fun q1 x v k1 k2 g1 s1 r1 => ?_
    refine (ev_loc b C hC q1 f g k1 k2 (hf.ext g1.rho) s1).bind fun q2 y u k3 k4 g2 s2 r2 => ?_
    cases z : cmpW o x y k3 with
    | none => trivial
    | some c => rw [cmpW_loc s2 (r1.ext g2.rho) r2 z]; exact Loc.ok s2 rfl
  | .chn o o' a b c, C, hC, q, f, g, h1, h2, hf, S => by
    rw [ev_chn]
    refine (ev_loc a C hC q f g h1 h2 hf S).bind fun q1 x v k1 k2 g1 s1 r1 => ?_
    refine (ev_loc b C hC q1 f g k1 k2 (hf.ext g1.rho) s1).bind fun q2 y u k3 k4 g2 s2 r2 => ?_
    cases z : cmpW o x y k3 with
    | none => trivial
    | some cc =>
      rw [cmpW_loc s2 (r1.ext g2.rho) r2 z]
      cases cc with
      | false => exact Loc.ok s2 rfl
      | true =>
        refine (ev_loc c C hC q2 f g k3 k4 ((hf.ext g1.rho).ext g2.rho) s2).bind fun q3 y3 u3 k5 k6 g3 s3 r3 => ?_
        cases z2 : cmpW o' y y3 k5 with
        | none => trivial
        | some c2 => rw [cmpW_loc s3 (r2.ext g3.rho) r3 z2]; exact Loc.ok s3 rfl
  | .and a b, C, hC, q, f, g, h1, h2, hf, S => by
    rw [ev_and]
    refine (ev_loc a C hC q f g h1 h2 hf S).bind fun q1 x v k1 k2 g1 s1 r1 => ?_
    cases x with
    | bl bb =>
      have r1 : v = _ := r1
      subst r1
      cases bb with
      | true => exact ev_loc b C hC q1 f g k1 k2 (hf.ext g1.rho) s1
      | false => exact Loc.ok s1 rfl
    | _ => trivial
  | .or a b, C, hC, q, f, g, h1, h2, hf, S => by
    rw [ev_or]
    refine (ev_loc a C hC q f g h1 h2 hf S).bind fun q1 x v k1 k2 g1 s1 r1 => ?_
    cases x with
    | bl bb =>
      have r1 : v = _ := r1
      subst r1
      cases bb with
      | false => exact ev_loc b C hC q1 f g k1 k2 (hf.ext g1.rho) s1
      | true => exact Loc.ok s1 rfl
    | _ => trivial
  | .not a, C, hC, q, f, g, h1, h2, hf, S => by
    rw [ev_not]
    refine (ev_loc a C hC q f g h1 h2 hf S).bind fun q1 x v k1 k2 g1 s1 r1 => ?_
    cases x with
    | bl bb => have r1 : v = _ := r1; subst r1; exact Loc.ok s1 rfl
    | _ => trivial
  | .ife c a b, C, hC, q, f, g, h1, h2, hf, S => by
    rw [ev_ife]
    refine (ev_loc c C hC q f g h1 h2 hf S).bind fun q1 x v k1 k2 g1 s1 r1 => ?_
    cases x with
    | bl bb =>
      have r1 : v = _ := r1
      subst r1
      cases bb with
      | true => exact ev_loc a C hC q1 f g k1 k2 (hf.ext g1.rho) s1
      | false => exact ev_loc b C hC q1 f g k1 k2 (hf.ext g1.rho) s1
    | _ => trivial
  | .tup l, C, hC, q, f, g, h1, h2, hf, S => by
    rw [ev_tup]
    refine (evs_loc l C hC q f g h1 h2 hf S).bind fun q1 ws vs k1 k2 g1 s1 r1 => ?_
    rw [r1.length]
    split
    · exact Loc.ok s1 ⟨_, rfl, r1⟩
    · trivial
  | .lst l, C, hC, q, f, g, h1, h2, hf, S => by
    rw [ev_lst]
    refine (evs_loc l C hC q f g h1 h2 hf S).bind fun q1 ws vs k1 k2 g1 s1 r1 => ?_
    rw [r1.length]
    split
    · exact Loc.alloc s1 ⟨_, rfl, r1⟩
    · trivial
  | .dnew t, C, hC, q, f, g, h1, h2, hf, S => by
    rw [ev_dnew]
    cases t with
    | true => exact Loc.alloc S ⟨_, rfl, rfl⟩
    | false => exact Loc.alloc S ⟨_, rfl, rfl⟩
  | .idx a i, C, hC, q, f, g, h1, h2, hf, S => by
    rw [ev_idx]
    refine (ev_loc a C hC q f g h1 h2 hf S).bind fun q1 x v k1 k2 g1 s1 r1 => ?_
    refine (ev_loc i C hC q1 f g k1 k2 (hf.ext g1.rho) s1).bind fun q2 y u k3 k4 g2 s2 r2 => ?_
    cases z : idxW x y k3 with
    | none => trivial
    | some w =>
      obtain ⟨w', e1, e2⟩ := idxW_loc s2 (r1.ext g2.rho) r2 z
      rw [e1]; exact Loc.ok s2 e2
  | .sli a lo hi, C, hC, q, f, g, h1, h2, hf, S => by
    rw [ev_sli]
    refine (ev_loc a C hC q f g h1 h2 hf S).bind fun q1 x v k1 k2 g1 s1 r1 => ?_
    refine (optI_loc (evs_loc lo C hC q1 f g k1 k2 (hf.ext g1.rho) s1)).bind fun q2 y u k3 k4 g2 s2 r2 => ?_
    refine (optI_loc (evs_loc hi C hC q2 f g k3 k4 ((hf.ext g1.rho).ext g2.rho) s2)).bind fun q3 y3 u3 k5 k6 g3 s3 r3 => ?_
    subst r2 r3
    exact sliW_loc s3 ((r1.ext g2.rho).ext g3.rho)
  | .cal n l, C, hC, q, f, g, h1, h2, hf, S => by
    rw [ev_cal]
    refine (evs_loc l C hC q f g h1 h2 hf S).bind fun q1 ws vs k1 k2 g1 s1 r1 => ?_
    exact hC.top.call n ws vs q1 k1 k2 s1 r1
  | .mk n l, C, hC, q, f, g, h1, h2, hf, S => by
    rw [ev_mk]
    refine (evs_loc l C hC q f g h1 h2 hf S).bind fun q1 ws vs k1 k2 g1 s1 r1 => ?_
    exact hC.top.make n ws vs q1 k1 k2 s1 r1
  | .mth m o l, C, hC, q, f, g, h1, h2, hf, S => by
    rw [ev_mth]
    refine (ev_loc o C hC q f g h1 h2 hf S).bind fun q1 x v k1 k2 g1 s1 r1 => ?_
    cases x with
    | ref a =>
      obtain ⟨b, rfl, hb⟩ := r1
      simp only
      cases z : k1[a]? with
      | none => trivial
      | some ob =>
        obtain ⟨o1, j1, ro⟩ := s1.obj a b _ hb z
        cases ob with
        | ins c fs =>
          obtain ⟨fs', rfl, j3⟩ := ro
          rw [j1]
          simp only
          cases z2 : C.tb.metI c m with
          | none => trivial
          | some n =>
            simp only
            refine (evs_loc l C hC q1 f g k1 k2 (hf.ext g1.rho) s1).bind fun q2 ws vs k3 k4 g2 s2 r2 => ?_
            exact hC.top.call n (.ref a :: ws) (.ref b :: vs) q2 k3 k4 s2 ⟨_, _, rfl, ⟨b, rfl, g2.rho a b hb⟩, r2⟩
        | _ => trivial
    | _ => trivial
  | .blt b l, C, hC, q, f, g, h1, h2, hf, S => by
    rw [ev_blt]
    refine (evs_loc l C hC q f g h1 h2 hf S).bind fun q1 ws vs k1 k2 g1 s1 r1 => ?_
    exact bltW_loc s1 r1
  | .bm m o l, C, hC, q, f, g, h1, h2, hf, S => by
    rw [ev_bm]
    refine (ev_loc o C hC q f g h1 h2 hf S).bind fun q1 x v k1 k2 g1 s1 r1 => ?_
    by_cases e : bmTy m x k1 = true
    · rw [if_pos e, if_pos (ty_loc s1 r1 e)]
      refine (evs_loc l C hC q1 f g k1 k2 (hf.ext g1.rho) s1).bind fun q2 ws vs k3 k4 g2 s2 r2 => ?_
      exact bmW_loc s2 (r1.ext g2.rho) r2
    · rw [if_neg e]; trivial
  | .fld o k, C, hC, q, f, g, h1, h2, hf, S => by
    rw [ev_fld]
    refine (ev_loc o C hC q f g h1 h2 hf S).bind fun q1 x v k1 k2 g1 s1 r1 => ?_
    cases x with
    | ref a =>
      obtain ⟨b, rfl, hb⟩ := r1
      simp only
      cases z : k1[a]? with
      | none => trivial
      | some ob =>
        obtain ⟨o1, j1, ro⟩ := s1.obj a b _ hb z
        cases ob with
        | ins c fs =>
          obtain ⟨fs', rfl, j3⟩ := ro
          rw [j1]
          simp only
          have j4 := look_loc k j3
          cases z2 : look fs k with
          | none => trivial
          | some w => rw [z2] at j4; obtain ⟨v, e1, e2⟩ := j4; rw [e1]; exact Loc.ok s1 e2
        | _ => trivial
    | _ => trivial
  | .isi a c, C, hC, q, f, g, h1, h2, hf, S => by
    rw [ev_isi]
    refine (ev_loc a C hC q f g h1 h2 hf S).bind fun q1 x v k1 k2 g1 s1 r1 => ?_
    cases z : isiW C.tb x c k1 with
    | none => trivial
    | some b => rw [isiW_loc s1 r1 z]; exact Loc.ok s1 rfl
  | .isx d, C, hC, q, f, g, h1, h2, hf, S => by
    rw [ev_isx]
    dsimp only
    cases (C.xc.bind fun c => C.tb.subX c d) with
    | none => trivial
    | some b => exact Loc.ok S rfl
  | .lc own t it cond e, C, hC, q, f, g, h1, h2, hf, S => by
    rw [ev_lc]
    refine (evI_loc it C hC q f g h1 h2 hf S).bind fun q1 J J' k1 k2 g1 s1 r1 => ?_
    cases z : J.len k1 with
    | none => trivial
    | some n =>
      rw [len_loc s1 r1 z]
      simp only
      refine (lcL_loc (t := t) (evC_loc cond C hC) (ev_loc e C hC) n 0 q1 k1 k2 J J' _ _ [] [] s1 r1 ((hf.ext g1.rho).wipe own) rfl).bind fun q2 ws vs k3 k4 g2 s2 r2 => ?_
      exact Loc.alloc s2 ⟨_, rfl, r2⟩
  | .rev a, C, hC, q, f, g, h1, h2, hf, S => by
    rw [ev_rev]
    refine (ev_loc a C hC q f g h1 h2 hf S).bind fun q1 x v k1 k2 g1 s1 r1 => ?_
    cases z : lstOf x k1 with
    | none => trivial
    | some l =>
      obtain ⟨l', e1, e2⟩ := lst_loc s1 r1 z
      rw [e1]
      exact Loc.alloc s1 ⟨_, rfl, e2.reverse⟩
  | .calv i l, C, hC, q, f, g, h1, h2, hf, S => by
    rw [ev_calv]
    dsimp only
    cases z : f[i]? with
    | none => trivial
    | some o =>
      cases o with
      | none => trivial
      | some w =>
        obtain ⟨v, k1, k2⟩ := hf.2 i w z
        rw [k1]
        cases w with
        | fn n =>
          have k2 : v = _ := k2
          subst k2
          refine (evs_loc l C hC q f g h1 h2 hf S).bind fun q1 ws vs k1 k2 g1 s1 r1 => ?_
          exact hC.top.call n ws vs q1 k1 k2 s1 r1
        | cod np ns b =>
          have k2 : v = _ := k2
          subst k2
          refine (evs_loc l C hC q f g h1 h2 hf S).bind fun q1 ws vs k1 k2 g1 s1 r1 => ?_
          exact hC.top.cods np ns b ws vs q1 k1 k2 s1 r1
        | _ => trivial
  | .thk n b, C, hC, q, f, g, h1, h2, hf, S => by
    rw [ev_thk]
    exact hC.thk n _ _ q h1 h2 S fun q1 k1 k2 g1 s1 => ev_loc b (lowC C) hC.lower q1 f g k1 k2 (hf.ext g1.rho) s1
  | .agg b a, C, hC, q, f, g, h1, h2, hf, S => by
    cases a with
    | lc own t it cond e =>
      rw [ev_agg]
      refine (evI_loc it C hC q f g h1 h2 hf S).bind fun q1 J J' k1 k2 g1 s1 r1 => ?_
      cases z : J.len k1 with
      | none => trivial
      | some n =>
        rw [len_loc s1 r1 z]
        simp only
        refine (lcL_loc (t := t) (evC_loc cond C hC) (ev_loc e C hC) n 0 q1 k1 k2 J J' _ _ [] [] s1 r1 ((hf.ext g1.rho).wipe own) rfl).bind fun q2 ws vs k3 k4 g2 s2 r2 => ?_
        exact bltL_loc s2 r2
    | _ => trivial
  | .bad, C, hC, q, f, g, h1, h2, hf, S => trivial
  | .nil, C, hC, q, f, g, h1, h2, hf, S => trivial
  | .cons _ _, C, hC, q, f, g, h1, h2, hf, S => trivial
  | .rng _, C, hC, q, f, g, h1, h2, hf, S => trivial
  | .zip _ _, C, hC, q, f, g, h1, h2, hf, S => trivial
  | .enu _, C, hC, q, f, g, h1, h2, hf, S => trivial
  | .sq _, C, hC, q, f, g, h1, h2, hf, S => trivial
theorem evs_loc : ∀ (e : E) (C : Cb) (hC : CbL C) (q : List Nat) (f g : F) (h1 h2 : Hm), RF q f g → Sim q h1 h2 → LocL q h2 (evs C e f h1) (evs C e g h2) := by
  intro e C hC q f g h1 h2 hf S
  cases e with
  | nil => rw [evs_nil]; exact Loc.ok S rfl
  | cons a r =>
    rw [evs_cons]
    refine (ev_loc a C hC q f g h1 h2 hf S).bind fun q1 x v k1 k2 g1 s1 r1 => ?_
    refine (evs_loc r C hC q1 f g k1 k2 (hf.ext g1.rho) s1).bind fun q2 y u k3 k4 g2 s2 r2 => ?_
    exact Loc.ok s2 ⟨_, _, rfl, r1.ext g2.rho, r2⟩
  | _ => trivial
theorem evI_loc : ∀ (e : E) (C : Cb) (hC : CbL C) (q : List Nat) (f g : F) (h1 h2 : Hm), RF q f g → Sim q h1 h2 → Loc RIt q h2 (evI C e f h1) (evI C e g h2) := by
  intro e C hC q f g h1 h2 hf S
  cases e with
  | rng l =>
    rw [evI_rng]
    refine (evs_loc l C hC q f g h1 h2 hf S).bind fun q1 ws vs k1 k2 g1 s1 r1 => ?_
    cases z : rngOf ws with
    | none => trivial
    | some J => obtain ⟨e1, e2⟩ := rng_loc r1 z; rw [e1]; exact Loc.ok s1 e2
  | zip a b =>
    rw [evI_zip]
    refine (ev_loc a C hC q f g h1 h2 hf S).bind fun q1 x v k1 k2 g1 s1 r1 => ?_
    refine (ev_loc b C hC q1 f g k1 k2 (hf.ext g1.rho) s1).bind fun q2 y u k3 k4 g2 s2 r2 => ?_
    cases z1 : lstOf x k3 with
    | none => trivial
    | some l1 =>
      cases z2 : lstOf y k3 with
      | none => trivial
      | some l2 =>
        obtain ⟨m1, e1, _⟩ := lst_loc s2 (r1.ext g2.rho) z1
        obtain ⟨m2, e2, _⟩ := lst_loc s2 r2 z2
        rw [e1, e2]
        exact Loc.ok s2 ⟨_, _, rfl, r1.ext g2.rho, r2⟩
  | enu a =>
    rw [evI_enu]
    refine (ev_loc a C hC q f g h1 h2 hf S).bind fun q1 x v k1 k2 g1 s1 r1 => ?_
    cases z1 : lstOf x k1 with
    | none => trivial
    | some l1 => obtain ⟨m1, e1, _⟩ := lst_loc s1 r1 z1; rw [e1]; exact Loc.ok s1 ⟨_, rfl, r1⟩
  | sq a =>
    rw [evI_sq]
    refine (ev_loc a C hC q f g h1 h2 hf S).bind fun q1 x v k1 k2 g1 s1 r1 => ?_
    cases z1 : seqOf x k1 with
    | none => trivial
    | some l1 => obtain ⟨m1, e1, _⟩ := seq_loc s1 r1 z1; rw [e1]; exact Loc.ok s1 ⟨_, rfl, r1⟩
  | _ => trivial
theorem evC_loc : ∀ (e : E) (C : Cb) (hC : CbL C) (q : List Nat) (f g : F) (h1 h2 : Hm), RF q f g → Sim q h1 h2 → LocW q h2 (evC C e f h1) (evC C e g h2) := by
  intro e C hC q f g h1 h2 hf S
  cases e with
  | nil => rw [evC_nil]; exact Loc.ok S rfl
  | cons a r => rw [evC_e]; exact ev_loc a C hC q f g h1 h2 hf S
  | _ => trivial
end
end
end WL

namespace WL
open PySem
section
variable {q : List Nat} {h1 h2 : Hm} {f g : F}
theorem asS_loc {α β : Type} {rel : List Nat → α → β → Prop} {x : R α} {y : R β} {k1 : α → Hm → RS} {k2 : β → Hm → RS} (hf : RF q f g) (h : Loc rel q h2 x y) (hk : ∀ q' a b j1 j2, Gro q h2 q' j2 → Sim q' j1 j2 → rel q' a b → LocS q' j2 (k1 a j1) (k2 b j2)) : LocS q h2 (x.asS f k1) (y.asS g k2) := by
  cases x with
  | bad => trivial
  | exc c k => obtain ⟨q2, k2, rfl, g2, s⟩ := h; exact ⟨_, _, _, rfl, g2, s, hf.ext g2.rho⟩
  | ok a k => obtain ⟨q2, b, k2, rfl, g2, s, r⟩ := h; exact (hk q2 a b k k2 g2 s r).pre g2
theorem nx_loc {f' g' : F} (S : Sim q h1 h2) (hf : RF q f' g') : LocS q h2 (.nx f' h1) (.nx g' h2) := ⟨_, _, _, rfl, .refl, S, hf⟩
theorem st_loc {i : Nat} {w v : W} (S : Sim q h1 h2) (hf : RF q f g) (hw : RW q w v) : LocS q h2 (match stV i w f with | some f1 => .nx f1 h1 | none => .bad) (match stV i v g with | some f1 => .nx f1 h2 | none => .bad) := by
  cases z : stV i w f with
  | none => trivial
  | some f1 => obtain ⟨g1, e, k⟩ := stV_loc hf hw z; rw [e]; exact nx_loc S k
theorem stAll_loc : ∀ {is : List Nat} {ws vs : List W} {f g f' : F}, RF q f g → RWs q ws vs → stAll is ws f = some f' → ∃ g', stAll is vs g = some g' ∧ RF q f' g'
  | [], ws, vs, f, g, f', hf, hw, e => by
    cases ws with
    | nil => have hw : vs = [] := hw; subst hw; cases e; exact ⟨g, rfl, hf⟩
    | cons _ _ => cases e
  | i :: is, ws, vs, f, g, f', hf, hw, e => by
    cases ws with
    | nil => cases e
    | cons w ws =>
      obtain ⟨u, us, rfl, k1, k2⟩ := hw
      have e : ((stV i w f).bind fun f => stAll is ws f) = some f' := e
      cases z : stV i w f with
      | none => rw [z] at e; cases e
      | some f1 =>
        rw [z] at e
        obtain ⟨g1, j1, j2⟩ := stV_loc hf k1 z
        obtain ⟨g2, j3, j4⟩ := stAll_loc j2 k2 e
        exact ⟨g2, by show ((stV i u g).bind fun f => stAll is us f) = some g2; rw [j1]; exact j3, j4⟩
theorem exec_loc {C : Cb} (hC : CbL C) : ∀ (s : S) (q : List Nat) (f g : F) (h1 h2 : Hm), RF q f g → Sim q h1 h2 → LocS q h2 (exec C s f h1) (exec C s g h2)
  | .bad, q, f, g, h1, h2, hf, S => trivial
  | .nil, q, f, g, h1, h2, hf, S => nx_loc S hf
  | .pas, q, f, g, h1, h2, hf, S => nx_loc S hf
  | .seq a r, q, f, g, h1, h2, hf, S => by
    simp only [exec]
    have ha := exec_loc hC a q f g h1 h2 hf S
    cases z : exec C a f h1 with
    | bad => trivial
    | nx f1 k =>
      rw [z] at ha
      obtain ⟨q2, g1, k2, e, g2, s, rr⟩ := ha
      rw [e]
      exact (exec_loc hC r q2 f1 g1 k k2 rr s).pre g2
    | rt w k => rw [z] at ha; obtain ⟨q2, g1, k2, e, g2, s, rr⟩ := ha; rw [e]; exact ⟨_, _, _, rfl, g2, s, rr⟩
    | bk w k => rw [z] at ha; obtain ⟨q2, g1, k2, e, g2, s, rr⟩ := ha; rw [e]; exact ⟨_, _, _, rfl, g2, s, rr⟩
    | ct w k => rw [z] at ha; obtain ⟨q2, g1, k2, e, g2, s, rr⟩ := ha; rw [e]; exact ⟨_, _, _, rfl, g2, s, rr⟩
    | ex c w k => rw [z] at ha; obtain ⟨q2, g1, k2, e, g2, s, rr⟩ := ha; rw [e]; exact ⟨_, _, _, rfl, g2, s, rr⟩
  | .exp e, q, f, g, h1, h2, hf, S => asS_loc hf (ev_loc e C hC q f g h1 h2 hf S) fun q' a b j1 j2 g1 s1 r1 => nx_loc s1 (hf.ext g1.rho)
  | .ret e, q, f, g, h1, h2, hf, S => asS_loc hf (ev_loc e C hC q f g h1 h2 hf S) fun q' a b j1 j2 g1 s1 r1 => ⟨_, _, _, rfl, .refl, s1, r1⟩
  | .asg i e, q, f, g, h1, h2, hf, S => asS_loc hf (ev_loc e C hC q f g h1 h2 hf S) fun q' a b j1 j2 g1 s1 r1 => st_loc s1 (hf.ext g1.rho) r1
  | .unp t e, q, f, g, h1, h2, hf, S => asS_loc hf (ev_loc e C hC q f g h1 h2 hf S) fun q' a b j1 j2 g1 s1 r1 => by
    cases z : bindT t a f with
    | none => trivial
    | some f1 => obtain ⟨g1', e', k⟩ := bindT_loc t (hf.ext g1.rho) r1 z; rw [e']; exact nx_loc s1 k
  | .par is es, q, f, g, h1, h2, hf, S => asS_loc hf (evs_loc es C hC q f g h1 h2 hf S) fun q' a b j1 j2 g1 s1 r1 => by
    cases z : stAll is a f with
    | none => trivial
    | some f1 => obtain ⟨g1', e', k⟩ := stAll_loc (hf.ext g1.rho) r1 z; rw [e']; exact nx_loc s1 k
  | .sub o i e, q, f, g, h1, h2, hf, S => asS_loc hf (ev_loc e C hC q f g h1 h2 hf S) fun q1 w w' j1 j2 g1 s1 r1 =>
      asS_loc (hf.ext g1.rho) (ev_loc o C hC q1 f g j1 j2 (hf.ext g1.rho) s1) fun q2 x x' j3 j4 g2 s2 r2 =>
      asS_loc ((hf.ext g1.rho).ext g2.rho) (ev_loc i C hC q2 f g j3 j4 ((hf.ext g1.rho).ext g2.rho) s2) fun q3 y y' j5 j6 g3 s3 r3 => by
        cases z : setW x y w j5 with
        | none => trivial
        | some k =>
          obtain ⟨k2, e1, gg, ss⟩ := setW_loc s3 (r2.ext g3.rho) r3 ((r1.ext g2.rho).ext g3.rho) z
          rw [e1]
          exact ⟨_, _, _, rfl, gg, ss, ((hf.ext g1.rho).ext g2.rho).ext g3.rho⟩
  | .stf o n e, q, f, g, h1, h2, hf, S => asS_loc hf (ev_loc e C hC q f g h1 h2 hf S) fun q1 w w' j1 j2 g1 s1 r1 =>
      asS_loc (hf.ext g1.rho) (ev_loc o C hC q1 f g j1 j2 (hf.ext g1.rho) s1) fun q2 x x' j3 j4 g2 s2 r2 => by
        cases x with
        | ref a =>
          obtain ⟨b, rfl, hb⟩ := r2
          simp only
          cases z : j3[a]? with
          | none => trivial
          | some ob =>
            obtain ⟨o1, m1, ro⟩ := s2.obj a b _ hb z
            cases ob with
            | ins c fs =>
              obtain ⟨fs', rfl, m3⟩ := ro
              rw [m1]
              simp only
              rw [m3.length]
              split
              · obtain ⟨gg, ss⟩ := sim_put (o := .ins c (putN n w fs)) (o' := .ins c (putN n w' fs')) s2 hb ⟨_, rfl, putN_loc n (r1.ext g2.rho) m3⟩
                exact ⟨_, _, _, rfl, gg, ss, (hf.ext g1.rho).ext g2.rho⟩
              · trivial
            | _ => trivial
        | _ => trivial
  | .aug i o e, q, f, g, h1, h2, hf, S => by
    simp only [exec]
    cases z : f[i]? with
    | none => trivial
    | some ow =>
      cases ow with
      | none => trivial
      | some x =>
        obtain ⟨x', k1, k2⟩ := hf.2 i x z
        rw [k1]
        refine asS_loc hf (ev_loc e C hC q f g h1 h2 hf S) fun q1 y y' j1 j2 g1 s1 r1 => ?_
        cases x with
        | int a =>
          have k2 : x' = _ := k2
          subst k2
          cases y with
          | int b =>
            have r1 : y' = _ := r1
            subst r1
            cases o <;> first | trivial | exact st_loc s1 (hf.ext g1.rho) rfl
          | _ => cases o <;> trivial
        | _ => cases o <;> trivial
  | .ife c a b, q, f, g, h1, h2, hf, S => asS_loc hf (ev_loc c C hC q f g h1 h2 hf S) fun q1 w w' j1 j2 g1 s1 r1 => by
    cases w with
    | bl bb =>
      have r1 : w' = _ := r1
      subst r1
      cases bb with
      | true => exact exec_loc hC a q1 f g j1 j2 (hf.ext g1.rho) s1
      | false => exact exec_loc hC b q1 f g j1 j2 (hf.ext g1.rho) s1
    | _ => trivial
  | .whl c b, q, f, g, h1, h2, hf, S => whlL_loc (ev_loc c C hC) (exec_loc hC b) loops q h1 h2 f g S hf
  | .forS t it b, q, f, g, h1, h2, hf, S => asS_loc hf (evI_loc it C hC q f g h1 h2 hf S) fun q1 J J' j1 j2 g1 s1 r1 => by
    cases z : J.len j1 with
    | none => trivial
    | some n =>
      rw [len_loc s1 r1 z]
      exact forL_loc (t := t) (exec_loc hC b) n 0 q1 j1 j2 J J' f g s1 r1 (hf.ext g1.rho)
  | .brk, q, f, g, h1, h2, hf, S => ⟨_, _, _, rfl, .refl, S, hf⟩
  | .cnt, q, f, g, h1, h2, hf, S => ⟨_, _, _, rfl, .refl, S, hf⟩
  | .rai c, q, f, g, h1, h2, hf, S => ⟨_, _, _, rfl, .refl, S, hf⟩
theorem runF_loc {C : Cb} (hC : CbL C) (n : Nat) (ws vs : List W) (q : List Nat) (h1 h2 : Hm) (S : Sim q h1 h2) (r : RWs q ws vs) : LocW q h2 (runF C n ws h1) (runF C n vs h2) := by
  unfold runF
  cases z : C.tb.fns[n]? with
  | none => trivial
  | some fi =>
    simp only
    rw [r.length]
    split
    · have h := exec_loc hC fi.body q _ _ h1 h2 (RF.start r (fi.ns - ws.length)) S
      cases z1 : exec C fi.body (ws.map some ++ List.replicate (fi.ns - ws.length) none) h1 with
      | bad => trivial
      | bk f k => trivial
      | ct f k => trivial
      | nx f k => rw [z1] at h; obtain ⟨q2, g1, k2, e, g2, s, rr⟩ := h; rw [e]; exact ⟨_, _, _, rfl, g2, s, rfl⟩
      | rt w k => rw [z1] at h; obtain ⟨q2, g1, k2, e, g2, s, rr⟩ := h; rw [e]; exact ⟨_, _, _, rfl, g2, s, rr⟩
      | ex c f k => rw [z1] at h; obtain ⟨q2, g1, k2, e, g2, s, rr⟩ := h; rw [e]; exact ⟨_, _, rfl, g2, s⟩
    · trivial
theorem runL_loc {C : Cb} (hC : CbL C) (np ns : Nat) (b : E) (ws vs : List W) (q : List Nat) (h1 h2 : Hm) (S : Sim q h1 h2) (r : RWs q ws vs) : LocW q h2 (runL C np ns b ws h1) (runL C np ns b vs h2) := by
  unfold runL
  rw [r.length]
  split
  · exact ev_loc b C hC q _ _ h1 h2 (RF.start r (ns - ws.length)) S
  · trivial
theorem mkOf_loc {T : Tb} {call : Nat → List W → Hm → R W} (hc : ∀ (g : Nat) (ws vs : List W) (q : List Nat) (h1 h2 : Hm), Sim q h1 h2 → RWs q ws vs → LocW q h2 (call g ws h1) (call g vs h2)) (n : Nat) (ws vs : List W) (q : List Nat) (h1 h2 : Hm) (S : Sim q h1 h2) (r : RWs q ws vs) : LocW q h2 (mkOf T call n ws h1) (mkOf T call n vs h2) := by
  obtain ⟨g1, s1⟩ := sim_alloc (o := .ins n []) (o' := .ins n []) S ⟨_, rfl, rfl⟩
  have at1 : (q ++ [h2.length])[h1.length]? = some h2.length := by rw [← S.len, List.getElem?_append_right (Nat.le_refl _)]; simp
  unfold mkOf
  cases z : T.init[n]? with
  | none => trivial
  | some o =>
    cases o with
    | some i =>
      simp only
      refine Loc.pre g1 ?_
      refine (hc i (.ref h1.length :: ws) (.ref h2.length :: vs) _ _ _ s1 ⟨_, _, rfl, ⟨_, rfl, at1⟩, r.ext g1.rho⟩).bind fun q2 w v k1 k2 g2 s2 r2 => ?_
      cases w with
      | non =>
        have r2 : v = _ := r2
        subst r2
        exact Loc.ok s2 ⟨_, rfl, g2.rho _ _ at1⟩
      | _ => trivial
    | none =>
      cases ws with
      | nil =>
        have r : vs = [] := r
        subst r
        exact ⟨_, _, _, rfl, g1, s1, _, rfl, at1⟩
      | cons _ _ => trivial
theorem xc_loc {C : Cb} (hC : CbL C) (e : Nat) : CbL (xcC C e) := ⟨hC.top, hC.low, hC.thk⟩
theorem rep_loc (n : Nat) : RF q (List.replicate n none) (List.replicate n none) := ⟨rfl, fun i w h => by rw [List.getElem?_replicate] at h; split at h <;> cases h⟩
theorem runT_loc {C : Cb} (hC : CbL C) (n : Nat) (th th' : Hm → R W) (q : List Nat) (h1 h2 : Hm) (S : Sim q h1 h2) (ht : ∀ q' k1 k2, Gro q h2 q' k2 → Sim q' k1 k2 → LocW q' k2 (th k1) (th' k2)) : LocW q h2 (runT C n th h1) (runT C n th' h2) := by
  unfold runT
  cases z : C.tb.tks[n]? with
  | none => trivial
  | some o =>
    cases o with
    | none => trivial
    | some tk =>
      simp only
      refine (ev_loc tk.e0 C hC q _ _ h1 h2 (rep_loc tk.ns) S).bind fun q1 w v k1 k2 g1 s1 r1 => ?_
      cases z1 : stV tk.x w (List.replicate tk.ns none) with
      | none => trivial
      | some f1 =>
        obtain ⟨g1', e1, rf⟩ := stV_loc (rep_loc tk.ns) r1 z1
        rw [e1]
        simp only
        have h := ht q1 k1 k2 g1 s1
        cases z2 : th k1 with
        | bad => trivial
        | ok a k3 =>
          rw [z2] at h
          obtain ⟨q2, b, k4, e2, g2, s2, r2⟩ := h
          rw [e2]
          simp only
          cases z3 : f1[tk.y]? with
          | none => trivial
          | some ow =>
            cases ow with
            | none => trivial
            | some w2 =>
              obtain ⟨v2, j1, j2⟩ := rf.2 _ _ z3
              rw [j1]
              exact ⟨_, _, _, rfl, g2, s2, j2.ext g2.rho⟩
        | exc c k3 =>
          rw [z2] at h
          obtain ⟨q2, k4, e2, g2, s2⟩ := h
          rw [e2]
          simp only
          cases z3 : C.tb.subX c tk.c with
          | none => trivial
          | some bb =>
            cases bb with
            | false => trivial
            | true =>
              simp only
              have hx := exec_loc (xc_loc hC c) tk.s q2 _ _ k3 k4 ((rf.ext g2.rho).setN (i := tk.i)) s2
              cases z4 : exec (xcC C c) tk.s (f1.set tk.i none) k3 with
              | nx f2 k5 =>
                rw [z4] at hx
                obtain ⟨q3, g3', k6, e3, g3, s3, r3⟩ := hx
                rw [e3]
                simp only
                cases z5 : (f2.set tk.i none)[tk.y]? with
                | none => trivial
                | some ow =>
                  cases ow with
                  | none => trivial
                  | some w2 =>
                    obtain ⟨v2, j1, j2⟩ := (r3.setN (i := tk.i)).2 _ _ z5
                    rw [j1]
                    exact ⟨_, _, _, rfl, g2.trans g3, s3, j2⟩
              | _ => trivial
/-- every level is local -/
theorem cb_loc (T : Tb) : ∀ k, CbL (cbM T k) ∧ Cb0 (cbM T k).dcall (cbM T k).dmake (cbM T k).dcods
  | 0 => ⟨⟨⟨fun _ _ _ _ _ _ _ _ => trivial, fun _ _ _ _ _ _ _ _ => trivial, fun _ _ _ _ _ _ _ _ _ _ => trivial⟩, ⟨fun _ _ _ _ _ _ _ _ => trivial, fun _ _ _ _ _ _ _ _ => trivial, fun _ _ _ _ _ _ _ _ _ _ => trivial⟩, fun _ _ _ _ _ _ _ _ => trivial⟩,
    ⟨fun _ _ _ _ _ _ _ _ => trivial, fun _ _ _ _ _ _ _ _ => trivial, fun _ _ _ _ _ _ _ _ _ _ => trivial⟩⟩
  | k + 1 => by
    obtain ⟨ih, ih2⟩ := cb_loc T k
    refine ⟨⟨⟨fun g ws vs q h1 h2 S r => runF_loc ih g ws vs q h1 h2 S r, fun g ws vs q h1 h2 S r => mkOf_loc ih.top.call g ws vs q h1 h2 S r, fun np ns b ws vs q h1 h2 S r => runL_loc ih np ns b ws vs q h1 h2 S r⟩, ih2, fun g th th' q h1 h2 S ht => ?_⟩, ih.top⟩
    show LocW q h2 (if k = 0 then R.bad else runT (cbM T k) g th h1) (if k = 0 then R.bad else runT (cbM T k) g th' h2)
    split
    · trivial
    · exact runT_loc ih g th th' q h1 h2 S ht
theorem callM_loc (T : Tb) (k g : Nat) (ws vs : List W) (q : List Nat) (h1 h2 : Hm) (S : Sim q h1 h2) (r : RWs q ws vs) : LocW q h2 (callM T k g ws h1) (callM T k g vs h2) := (cb_loc T k).1.top.call g ws vs q h1 h2 S r
/-- .. from nothing -/
theorem sim_nil (h : Hm) : Sim [] [] h := ⟨rfl, fun i j a z => by simp at z, fun n a o z => by simp at z⟩
theorem run_nil {T : Tb} {k g : Nat} {ws : List W} {w : W} {h' : Hm} (hw : ws.all flat = true) (fw : flat w = true) (e : callM T k g ws [] = .ok w h') (h : Hm) : ∃ h2, callM T k g ws h = .ok w (h ++ h2) := by
  have rr : ∀ {l : List W}, l.all flat = true → RWs [] l l := by
    intro l
    induction l with
    | nil => intro _; rfl
    | cons a l ih =>
      intro z
      simp only [List.all_cons, Bool.and_eq_true] at z
      exact ⟨a, l, rfl, (by cases a <;> first | rfl | (exact absurd z.1 (by decide)) | (simp [flat] at z)), ih z.2⟩
  have z := callM_loc T k g ws ws [] [] h (sim_nil h) (rr hw)
  rw [e] at z
  obtain ⟨q', v, h2, e2, g2, s2, r2⟩ := z
  have ev : v = w := by cases w <;> first | exact r2 | cases fw
  subst ev
  refine ⟨h2.drop h.length, ?_⟩
  rw [e2]
  congr 1
  apply List.ext_getElem?
  intro i
  by_cases hi : i < h.length
  · rw [List.getElem?_append_left hi]; exact g2.keep i (fun n z => by simp at z) hi
  · rw [List.getElem?_append_right (by omega), List.getElem?_drop]; congr 1; omega
end
end WL

namespace WL
open PySem
/-! what is found is found once -/
mutual
theorem RW.fn {q : List Nat} : ∀ {w v v' : W}, RW q w v → RW q w v' → v = v'
  | .non, _, _, h, h' => by rw [show _ = _ from h, show _ = _ from h']
  | .bl _, _, _, h, h' => by rw [show _ = _ from h, show _ = _ from h']
  | .int _, _, _, h, h' => by rw [show _ = _ from h, show _ = _ from h']
  | .str _, _, _, h, h' => by rw [show _ = _ from h, show _ = _ from h']
  | .scr _, _, _, h, h' => by rw [show _ = _ from h, show _ = _ from h']
  | .fn _, _, _, h, h' => by rw [show _ = _ from h, show _ = _ from h']
  | .cod _ _ _, _, _, h, h' => by rw [show _ = _ from h, show _ = _ from h']
  | .tup l, _, _, h, h' => by
    obtain ⟨a, rfl, ha⟩ := h
    obtain ⟨b, rfl, hb⟩ := h'
    rw [RWs.fn ha hb]
  | .ref n, _, _, h, h' => by
    obtain ⟨a, rfl, ha⟩ := h
    obtain ⟨b, rfl, hb⟩ := h'
    rw [ha] at hb; cases hb; rfl
theorem RWs.fn {q : List Nat} : ∀ {w v v' : List W}, RWs q w v → RWs q w v' → v = v'
  | [], _, _, h, h' => by rw [show _ = [] from h, show _ = [] from h']
  | w :: ws, _, _, h, h' => by
    obtain ⟨a, r, rfl, h1, h2⟩ := h
    obtain ⟨b, s, rfl, h3, h4⟩ := h'
    rw [RW.fn h1 h3, RWs.fn h2 h4]
end
theorem RWk.fn {κ : Type} {q : List Nat} : ∀ {w v v' : List (κ × W)}, RWk q w v → RWk q w v' → v = v'
  | [], _, _, h, h' => by rw [show _ = [] from h, show _ = [] from h']
  | (k, w) :: ws, _, _, h, h' => by
    obtain ⟨a, r, rfl, h1, h2⟩ := h
    obtain ⟨b, s, rfl, h3, h4⟩ := h'
    rw [RW.fn h1 h3, RWk.fn h2 h4]
theorem ROw.fn {q : List Nat} : ∀ {o v v' : O}, ROw q o v → ROw q o v' → v = v'
  | .lst _, _, _, h, h' => by obtain ⟨a, rfl, h1⟩ := h; obtain ⟨b, rfl, h2⟩ := h'; rw [RWs.fn h1 h2]
  | .dK _, _, _, h, h' => by obtain ⟨a, rfl, h1⟩ := h; obtain ⟨b, rfl, h2⟩ := h'; rw [RWk.fn h1 h2]
  | .dT _, _, _, h, h' => by obtain ⟨a, rfl, h1⟩ := h; obtain ⟨b, rfl, h2⟩ := h'; rw [RWk.fn h1 h2]
  | .ins _ _, _, _, h, h' => by obtain ⟨a, rfl, h1⟩ := h; obtain ⟨b, rfl, h2⟩ := h'; rw [RWk.fn h1 h2]
/-- a run that leaves its heap as it was (and lays more) does so elsewhere -/
theorem sim_back {q q' : List Nat} {h t h2 h2' : Hm} (S : Sim q h h2) (g : Gro q h2 q' h2') (S' : Sim q' (h ++ t) h2') : Sim q h h2' := by
  refine ⟨S.len, S.inj, fun n a o hn ho => ?_⟩
  obtain ⟨o1, k1, k2⟩ := S.obj n a o hn ho
  have ho2 : (h ++ t)[n]? = some o := by rw [List.getElem?_append_left (List.getElem?_eq_some_iff.mp ho).1]; exact ho
  obtain ⟨o2, k3, k4⟩ := S'.obj n a o (g.rho n a hn) ho2
  have e : o1 = o2 := (k2.ext g.rho).fn k4
  exact ⟨o2, k3, e ▸ k2⟩
theorem call_keep {T : Tb} {k g : Nat} {ws vs : List W} {w : W} {q : List Nat} {h t h2 : Hm} (e : callM T k g ws h = .ok w (h ++ t)) (S : Sim q h h2) (r : RWs q ws vs) (fw : flat w = true) :
    ∃ h2', callM T k g vs h2 = .ok w h2' ∧ Sim q h h2' ∧ h2.length ≤ h2'.length ∧ ∀ a : Nat, (∀ n : Nat, q[n]? ≠ some a) → a < h2.length → h2'[a]? = h2[a]? := by
  have z := callM_loc T k g ws vs q h h2 S r
  rw [e] at z
  obtain ⟨q', v, h2', e2, g2, s2, r2⟩ := z
  have ev : v = w := r2.flat fw
  subst ev
  exact ⟨h2', e2, sim_back S g2 s2, g2.len, g2.keep⟩
/-! ### whether a heap begins with another -/
def eqLb (f : W → W → Bool) : List W → List W → Bool
  | [], [] => true
  | a :: r, b :: s => f a b && eqLb f r s
  | _, _ => false
def eqWb : Nat → W → W → Bool
  | 0, _, _ => false
  | n + 1, a, b => match a, b with
    | .non, .non => true
    | .bl x, .bl y => decide (x = y)
    | .int x, .int y => decide (x = y)
    | .str x, .str y => decide (x = y)
    | .tup l, .tup m => eqLb (eqWb n) l m
    | .ref x, .ref y => decide (x = y)
    | .fn x, .fn y => decide (x = y)
    | .cod x y z, .cod x' y' z' => decide (x = x') && (decide (y = y') && decide (z = z'))
    | _, _ => false
theorem eqLb_ok {f : W → W → Bool} (hf : ∀ a b, f a b = true → a = b) : ∀ {l m : List W}, eqLb f l m = true → l = m
  | [], [], _ => rfl
  | a :: r, b :: s, h => by
    have h : (f a b && eqLb f r s) = true := h
    rw [Bool.and_eq_true] at h
    rw [hf a b h.1, eqLb_ok hf h.2]
  | [], _ :: _, h => by cases h
  | _ :: _, [], h => by cases h
theorem eqWb_ok : ∀ (n : Nat) (a b : W), eqWb n a b = true → a = b
  | 0, _, _, h => by cases h
  | n + 1, a, b, h => by
    unfold eqWb at h
    split at h
    · rfl
    · rw [of_decide_eq_true h]
    · rw [of_decide_eq_true h]
    · rw [of_decide_eq_true h]
    · rw [eqLb_ok (eqWb_ok n) h]
    · rw [of_decide_eq_true h]
    · rw [of_decide_eq_true h]
    · simp only [Bool.and_eq_true] at h
      rw [of_decide_eq_true h.1, of_decide_eq_true h.2.1, of_decide_eq_true h.2.2]
    · cases h
def preB : Hm → Hm → Bool
  | [], _ => true
  | .lst l :: r, .lst m :: s => eqLb (eqWb 9) l m && preB r s
  | _, _ => false
theorem preB_ok : ∀ {h k : Hm}, preB h k = true → ∃ t, k = h ++ t
  | [], k, _ => ⟨k, rfl⟩
  | o :: r, k, h => by
    cases o with
    | lst l =>
      cases k with
      | nil => cases h
      | cons o' s =>
        cases o' with
        | lst m =>
          have h : (eqLb (eqWb 9) l m && preB r s) = true := h
          rw [Bool.and_eq_true] at h
          obtain ⟨t, e⟩ := preB_ok h.2
          exact ⟨t, by rw [eqLb_ok (eqWb_ok 9) h.1, e]; rfl⟩
        | _ => cases h
    | _ => cases h
/-! ### statements -/
theorem exec_seq (C : Cb) (a r : S) (f : F) (h : Hm) : exec C (.seq a r) f h = match exec C a f h with
    | .nx f1 h1 => exec C r f1 h1
    | x => x := rfl
theorem exec_asg {C : Cb} {i : Nat} {e : E} {f : F} {h h' : Hm} {w : W} (z : ev C e f h = .ok w h') (hl : i < f.length) : exec C (.asg i e) f h = .nx (f.set i (some w)) h' := by
  show (ev C e f h).asS f _ = _
  rw [z]
  show (match stV i w f with | some f1 => RS.nx f1 h' | none => .bad) = _
  unfold stV
  rw [if_pos hl]
end WL

namespace WL
open PySem
/-! a run that keeps its heap keeps any heap -/
theorem ext_of {h h' : Hm} (hl : h.length ≤ h'.length) (e : ∀ a : Nat, a < h.length → h'[a]? = h[a]?) : ∃ t, h' = h ++ t := by
  refine ⟨h'.drop h.length, ?_⟩
  have z : h'.take h.length = h := by
    refine List.ext_getElem? fun i => ?_
    rw [List.getElem?_take]
    by_cases c : i < h.length
    · rw [if_pos c]; exact e i c
    · rw [if_neg c, List.getElem?_eq_none (Nat.le_of_not_lt c)]
  conv => lhs; rw [← List.take_append_drop h.length h', z]
theorem keep_ext {q q' : List Nat} {h t h2 h2' : Hm} (S : Sim q h h2) (g : Gro q h2 q' h2') (S' : Sim q' (h ++ t) h2') : ∃ t', h2' = h2 ++ t' := by
  refine ext_of g.len fun a ha => ?_
  by_cases c : ∃ n : Nat, q[n]? = some a
  · obtain ⟨n, hn⟩ := c
    have nl : n < h.length := S.len ▸ (List.getElem?_eq_some_iff.mp hn).1
    have ho : h[n]? = some h[n] := List.getElem?_eq_getElem nl
    obtain ⟨o1, k1, k2⟩ := S.obj n a _ hn ho
    obtain ⟨o2, k3, k4⟩ := S'.obj n a h[n] (g.rho n a hn) (by rw [List.getElem?_append_left nl]; exact ho)
    rw [k1, k3, (k2.ext g.rho).fn k4]
  · exact g.keep a (fun n z => c ⟨n, z⟩) ha
theorem call_keep2 {T : Tb} {k g : Nat} {ws vs : List W} {w : W} {q : List Nat} {h t h2 : Hm} (e : callM T k g ws h = .ok w (h ++ t)) (S : Sim q h h2) (r : RWs q ws vs) (fw : flat w = true) :
    ∃ t', callM T k g vs h2 = .ok w (h2 ++ t') := by
  have z := callM_loc T k g ws vs q h h2 S r
  rw [e] at z
  obtain ⟨q', v, h2', e2, g2, s2, r2⟩ := z
  have ev : v = w := r2.flat fw
  subst ev
  obtain ⟨t', rfl⟩ := keep_ext S g2 s2
  exact ⟨t', e2⟩
/-! ### one sim behind another -/
def comp (q q' : List Nat) : List Nat := q.map fun n => q'.getD n 0
theorem comp_get {q q' : List Nat} {n a b : Nat} (h : q[n]? = some a) (h' : q'[a]? = some b) : (comp q q')[n]? = some b := by
  unfold comp
  rw [List.getElem?_map, h]
  show some (q'.getD a 0) = _
  rw [List.getD_eq_getElem?_getD, h']; rfl
mutual
theorem RW.comp {q q' : List Nat} : ∀ {w v u : W}, RW q w v → RW q' v u → RW (comp q q') w u
  | .non, _, _, h, h' => by rw [show _ = _ from h] at h'; exact h'
  | .bl _, _, _, h, h' => by rw [show _ = _ from h] at h'; exact h'
  | .int _, _, _, h, h' => by rw [show _ = _ from h] at h'; exact h'
  | .str _, _, _, h, h' => by rw [show _ = _ from h] at h'; exact h'
  | .scr _, _, _, h, h' => by rw [show _ = _ from h] at h'; exact h'
  | .fn _, _, _, h, h' => by rw [show _ = _ from h] at h'; exact h'
  | .cod _ _ _, _, _, h, h' => by rw [show _ = _ from h] at h'; exact h'
  | .tup l, _, _, h, h' => by
    obtain ⟨a, rfl, ha⟩ := h
    obtain ⟨b, rfl, hb⟩ := h'
    exact ⟨b, rfl, RWs.comp ha hb⟩
  | .ref n, _, _, h, h' => by
    obtain ⟨a, rfl, ha⟩ := h
    obtain ⟨b, rfl, hb⟩ := h'
    exact ⟨b, rfl, comp_get ha hb⟩
theorem RWs.comp {q q' : List Nat} : ∀ {w v u : List W}, RWs q w v → RWs q' v u → RWs (comp q q') w u
  | [], _, _, h, h' => by rw [show _ = [] from h] at h'; exact h'
  | w :: ws, _, _, h, h' => by
    obtain ⟨a, r, rfl, h1, h2⟩ := h
    obtain ⟨b, s, rfl, h3, h4⟩ := h'
    exact ⟨b, s, rfl, RW.comp h1 h3, RWs.comp h2 h4⟩
end
theorem RWk.comp {κ : Type} {q q' : List Nat} : ∀ {w v u : List (κ × W)}, RWk q w v → RWk q' v u → RWk (WL.comp q q') w u
  | [], _, _, h, h' => by rw [show _ = [] from h] at h'; exact h'
  | (k, w) :: ws, _, _, h, h' => by
    obtain ⟨a, r, rfl, h1, h2⟩ := h
    obtain ⟨b, s, rfl, h3, h4⟩ := h'
    exact ⟨b, s, rfl, RW.comp h1 h3, RWk.comp h2 h4⟩
theorem ROw.comp {q q' : List Nat} : ∀ {o v u : O}, ROw q o v → ROw q' v u → ROw (WL.comp q q') o u
  | .lst _, _, _, h, h' => by obtain ⟨a, rfl, h1⟩ := h; obtain ⟨b, rfl, h2⟩ := h'; exact ⟨b, rfl, h1.comp h2⟩
  | .dK _, _, _, h, h' => by obtain ⟨a, rfl, h1⟩ := h; obtain ⟨b, rfl, h2⟩ := h'; exact ⟨b, rfl, h1.comp h2⟩
  | .dT _, _, _, h, h' => by obtain ⟨a, rfl, h1⟩ := h; obtain ⟨b, rfl, h2⟩ := h'; exact ⟨b, rfl, h1.comp h2⟩
  | .ins _ _, _, _, h, h' => by obtain ⟨a, rfl, h1⟩ := h; obtain ⟨b, rfl, h2⟩ := h'; exact ⟨b, rfl, h1.comp h2⟩
theorem Sim.comp {q q' : List Nat} {h h' h'' : Hm} (S : Sim q h h') (S' : Sim q' h' h'') : Sim (WL.comp q q') h h'' := by
  have at_ : ∀ (n b : Nat), (WL.comp q q')[n]? = some b → ∃ a, q[n]? = some a ∧ q'[a]? = some b := fun n b z => by
    unfold WL.comp at z
    rw [List.getElem?_map] at z
    cases qn : q[n]? with
    | none => rw [qn] at z; cases z
    | some a =>
      rw [qn] at z
      have nl : n < h.length := S.len ▸ (List.getElem?_eq_some_iff.mp qn).1
      obtain ⟨o1, k1, _⟩ := S.obj n a _ qn (List.getElem?_eq_getElem nl)
      have al : a < q'.length := by rw [S'.len]; exact (List.getElem?_eq_some_iff.mp k1).1
      refine ⟨a, rfl, ?_⟩
      have z : some (q'.getD a 0) = some b := z
      rw [List.getD_eq_getElem?_getD, List.getElem?_eq_getElem al] at z
      rw [List.getElem?_eq_getElem al]; exact z
  refine ⟨by unfold WL.comp; rw [List.length_map]; exact S.len, fun i j b hi hj => ?_, fun n b o hn ho => ?_⟩
  · obtain ⟨a, h1, h2⟩ := at_ i b hi
    obtain ⟨c, h3, h4⟩ := at_ j b hj
    cases S'.inj a c b h2 h4
    exact S.inj i j a h1 h3
  · obtain ⟨a, h1, h2⟩ := at_ n b hn
    obtain ⟨o1, k1, k2⟩ := S.obj n a o h1 ho
    obtain ⟨o2, k3, k4⟩ := S'.obj a b o1 h2 k1
    exact ⟨o2, k3, k2.comp k4⟩
/-! ### by a test -/
def rwB (q : List Nat) : Nat → W → W → Bool
  | 0, _, _ => false
  | n + 1, a, b => match a, b with
    | .tup l, .tup m => eqLb (rwB q n) l m
    | .ref x, .ref y => decide (q[x]? = some y)
    | .ref _, _ => false
    | .tup _, _ => false
    | a, b => eqWb 1 a b
theorem rwL_ok {q : List Nat} {f : W → W → Bool} (hf : ∀ a b, f a b = true → RW q a b) : ∀ {l m : List W}, eqLb f l m = true → RWs q l m
  | [], [], _ => rfl
  | a :: r, b :: s, h => by
    have h : (f a b && eqLb f r s) = true := h
    rw [Bool.and_eq_true] at h
    exact ⟨b, s, rfl, hf a b h.1, rwL_ok hf h.2⟩
  | [], _ :: _, h => by cases h
  | _ :: _, [], h => by cases h
theorem rwB_ok {q : List Nat} : ∀ (n : Nat) (a b : W), rwB q n a b = true → RW q a b
  | 0, _, _, h => by cases h
  | n + 1, a, b, h => by
    cases a with
    | tup l => cases b with
      | tup m => exact ⟨m, rfl, rwL_ok (rwB_ok n) h⟩
      | _ => cases h
    | ref x => cases b with
      | ref y => exact ⟨y, rfl, of_decide_eq_true h⟩
      | _ => cases h
    | scr l => cases b <;> cases h
    | _ => exact (eqWb_ok 1 _ _ h).symm
def simO (q : List Nat) (h' : Hm) : List Nat → Hm → Bool
  | [], [] => true
  | a :: r, .lst l :: s => (match h'[a]? with | some (.lst m) => eqLb (rwB q 9) l m | _ => false) && simO q h' r s
  | _, _ => false
theorem simO_ok {q : List Nat} {h' : Hm} : ∀ {r : List Nat} {s : Hm}, simO q h' r s = true → r.length = s.length ∧ ∀ (n a : Nat) (o : O), r[n]? = some a → s[n]? = some o → ∃ o', h'[a]? = some o' ∧ ROw q o o'
  | [], [], _ => ⟨rfl, fun n a o z => by simp at z⟩
  | [], _ :: _, h => by cases h
  | _ :: _, [], h => by cases h
  | b :: r, p :: s, h => by
    cases p with
    | lst l =>
      have h : ((match h'[b]? with | some (.lst m) => eqLb (rwB q 9) l m | _ => false) && simO q h' r s) = true := h
      rw [Bool.and_eq_true] at h
      obtain ⟨h1, h2⟩ := simO_ok h.2
      refine ⟨by rw [List.length_cons, List.length_cons, h1], fun n a o hn ho => ?_⟩
      cases n with
      | zero =>
        simp at hn ho
        subst hn; subst ho
        have h3 := h.1
        split at h3
        · next m hm => exact ⟨_, hm, m, rfl, rwL_ok (rwB_ok 9) h3⟩
        · cases h3
      | succ n => exact h2 n a o (by simpa using hn) (by simpa using ho)
    | _ => cases h
def upB : List Nat → Bool
  | a :: b :: r => decide (a < b) && upB (b :: r)
  | _ => true
theorem upB_lt : ∀ {a : Nat} {l : List Nat}, upB (a :: l) = true → ∀ x ∈ l, a < x
  | a, [], _, x, hx => by cases hx
  | a, b :: r, h, x, hx => by
    have h : (decide (a < b) && upB (b :: r)) = true := h
    rw [Bool.and_eq_true, decide_eq_true_eq] at h
    rcases List.mem_cons.mp hx with rfl | hx
    · exact h.1
    · exact Nat.lt_trans h.1 (upB_lt h.2 x hx)
theorem upB_tail {a : Nat} {l : List Nat} (h : upB (a :: l) = true) : upB l = true := by
  cases l with
  | nil => rfl
  | cons b r =>
    have h : (decide (a < b) && upB (b :: r)) = true := h
    rw [Bool.and_eq_true] at h
    exact h.2
theorem upB_ok : ∀ {q : List Nat}, upB q = true → ∀ (i j a : Nat), q[i]? = some a → q[j]? = some a → i = j
  | [], _, i, j, a, hi, _ => by simp at hi
  | x :: r, h, i, j, a, hi, hj => by
    cases i with
    | zero => cases j with
      | zero => rfl
      | succ j =>
        simp at hi hj
        have z := upB_lt h a (List.mem_of_getElem? hj)
        omega
    | succ i => cases j with
      | zero =>
        simp at hi hj
        have z := upB_lt h a (List.mem_of_getElem? hi)
        omega
      | succ j => rw [upB_ok (upB_tail h) i j a (by simpa using hi) (by simpa using hj)]
theorem sim_of {q : List Nat} {h h' : Hm} (z : simO q h' q h = true) (u : upB q = true) : Sim q h h' := ⟨(simO_ok z).1, upB_ok u, (simO_ok z).2⟩
/-! ### loops whose body keeps the heap -/
theorem forL_keep {b : F → Hm → RS} {bt : W → F → Option F} {J : It} {h0 : Hm} {N : Nat} (P : F → Prop) (hlen : ∀ t, J.len (h0 ++ t) = some N)
    (hb : ∀ (i : Nat) (f : F) (t : Hm), i < N → P f → ∃ w f1 f2 t', J.item i (h0 ++ t) = some w ∧ bt w f = some f1 ∧ b f1 (h0 ++ t) = .nx f2 (h0 ++ t') ∧ P f2) :
    ∀ (m i : Nat) (f : F) (t : Hm), i + m = N → P f → ∃ f' t', forL b bt J m i f (h0 ++ t) = .nx f' (h0 ++ t') ∧ P f'
  | 0, i, f, t, e, p => by
    refine ⟨f, t, ?_, p⟩
    unfold forL It.stop
    rw [hlen]
    show (if decide (N ≤ i) = true then _ else _) = _
    rw [if_pos (by rw [decide_eq_true_eq]; omega)]
  | m + 1, i, f, t, e, p => by
    obtain ⟨w, f1, f2, t1, e1, e2, e3, p2⟩ := hb i f t (by omega) p
    obtain ⟨f', t', e4, p'⟩ := forL_keep P hlen hb m (i + 1) f2 t1 (by omega) p2
    refine ⟨f', t', ?_, p'⟩
    unfold forL
    rw [e1]
    show (match bt w f with | none => RS.bad | some f1 => _) = _
    rw [e2]
    show (match b f1 (h0 ++ t) with | .nx f2 h2 => forL b bt J m (i + 1) f2 h2 | .ct f2 h2 => forL b bt J m (i + 1) f2 h2 | .bk f2 h2 => .nx f2 h2 | r => r) = _
    rw [e3]
    exact e4
end WL

namespace WL
open PySem
/-- is_whole: [thing] -/
def fn0 : FnI := ⟨1, 1, (.seq (.ret (.and (.isi (.v 0) (.int)) (.not (.isi (.v 0) (.bool))))) .nil)⟩
/-- is_within: [thing, low, high] -/
def fn1 : FnI := ⟨3, 3, (.seq (.ret (.and (.cal 0 (.cons (.v 0) .nil)) (.chn .LtE .LtE (.v 1) (.v 0) (.v 2)))) .nil)⟩
/-- common: [one, other] -/
def fn2 : FnI := ⟨2, 2, (.seq (.par [0, 1] (.cons (.blt .abs (.cons (.v 0) .nil)) (.cons (.blt .abs (.cons (.v 1) .nil)) .nil))) (.seq (.whl (.cmp .Gt (.v 1) (.int (0))) (.seq (.par [0, 1] (.cons (.v 1) (.cons (.bin .Mod (.v 0) (.v 1)) .nil))) .nil)) (.seq (.ret (.v 0)) .nil)))⟩
/-- share: [top, bottom, part] -/
def fn3 : FnI := ⟨2, 3, (.seq (.asg 2 (.cal 2 (.cons (.v 0) (.cons (.v 1) .nil)))) (.seq (.ret (.tup (.cons (.bin .FloorDiv (.v 0) (.v 2)) (.cons (.bin .FloorDiv (.v 1) (.v 2)) .nil)))) .nil))⟩
/-- is_share: [thing, .0, one] -/
def fn4 : FnI := ⟨1, 3, (.seq (.ife (.or (.not (.isi (.v 0) (.tuple))) (.or (.cmp .NotEq (.blt .len (.cons (.v 0) .nil)) (.int (2))) (.not (.agg .all (.lc [1, 2] (.v 2) (.sq (.v 0)) .nil (.cal 0 (.cons (.v 2) .nil))))))) (.seq (.ret (.bl false)) .nil) .nil) (.seq (.ret (.and (.cmp .Gt (.idx (.v 0) (.int (1))) (.int (0))) (.cmp .Eq (.cal 2 (.cons (.idx (.v 0) (.int (0))) (.cons (.idx (.v 0) (.int (1))) .nil))) (.int (1))))) .nil))⟩
/-- plus: [one, other] -/
def fn5 : FnI := ⟨2, 2, (.seq (.ret (.cal 3 (.cons (.bin .Add (.bin .Mult (.idx (.v 0) (.int (0))) (.idx (.v 1) (.int (1)))) (.bin .Mult (.idx (.v 1) (.int (0))) (.idx (.v 0) (.int (1))))) (.cons (.bin .Mult (.idx (.v 0) (.int (1))) (.idx (.v 1) (.int (1)))) .nil)))) .nil)⟩
/-- minus: [one, other] -/
def fn6 : FnI := ⟨2, 2, (.seq (.ret (.cal 3 (.cons (.bin .Sub (.bin .Mult (.idx (.v 0) (.int (0))) (.idx (.v 1) (.int (1)))) (.bin .Mult (.idx (.v 1) (.int (0))) (.idx (.v 0) (.int (1))))) (.cons (.bin .Mult (.idx (.v 0) (.int (1))) (.idx (.v 1) (.int (1)))) .nil)))) .nil)⟩
/-- times: [one, other] -/
def fn7 : FnI := ⟨2, 2, (.seq (.ret (.cal 3 (.cons (.bin .Mult (.idx (.v 0) (.int (0))) (.idx (.v 1) (.int (0)))) (.cons (.bin .Mult (.idx (.v 0) (.int (1))) (.idx (.v 1) (.int (1)))) .nil)))) .nil)⟩
/-- over: [one, other] -/
def fn8 : FnI := ⟨2, 2, (.seq (.ret (.cal 3 (.cons (.bin .Mult (.idx (.v 0) (.int (0))) (.idx (.v 1) (.int (1)))) (.cons (.bin .Mult (.idx (.v 0) (.int (1))) (.idx (.v 1) (.int (0)))) .nil)))) .nil)⟩
/-- less: [one, other] -/
def fn9 : FnI := ⟨2, 2, (.seq (.ret (.cmp .Lt (.bin .Mult (.idx (.v 0) (.int (0))) (.idx (.v 1) (.int (1)))) (.bin .Mult (.idx (.v 1) (.int (0))) (.idx (.v 0) (.int (1)))))) .nil)⟩
/-- lesser: [one, other] -/
def fn10 : FnI := ⟨2, 2, (.seq (.ret (.ife (.cal 9 (.cons (.v 0) (.cons (.v 1) .nil))) (.v 0) (.v 1))) .nil)⟩
/-- greater: [one, other] -/
def fn11 : FnI := ⟨2, 2, (.seq (.ret (.ife (.cal 9 (.cons (.v 0) (.cons (.v 1) .nil))) (.v 1) (.v 0))) .nil)⟩
/-- sum_of: [some, found, one] -/
def fn12 : FnI := ⟨1, 3, (.seq (.asg 1 (.tup (.cons (.int (0)) (.cons (.int (1)) .nil)))) (.seq (.forS (.v 2) (.sq (.v 0)) (.seq (.asg 1 (.cal 5 (.cons (.v 1) (.cons (.v 2) .nil)))) .nil)) (.seq (.ret (.v 1)) .nil)))⟩
/-- is_pair: [thing] -/
def fn13 : FnI := ⟨1, 1, (.seq (.ife (.or (.not (.isi (.v 0) (.tuple))) (.cmp .NotEq (.blt .len (.cons (.v 0) .nil)) (.int (2)))) (.seq (.ret (.bl false)) .nil) .nil) (.seq (.ret (.and (.cal 1 (.cons (.idx (.v 0) (.int (0))) (.cons (.neg (.int (1000))) (.cons (.int (1000)) .nil)))) (.cal 1 (.cons (.idx (.v 0) (.int (1))) (.cons (.int (1)) (.cons (.int (1000)) .nil)))))) .nil))⟩
/-- check_lot: [lot, .0, one, other] -/
def fn14 : FnI := ⟨1, 4, (.seq (.ife (.or (.not (.isi (.v 0) (.list))) (.or (.not (.chn .LtE .LtE (.int (1)) (.blt .len (.cons (.v 0) .nil)) (.int (8)))) (.not (.agg .all (.lc [1, 2] (.v 2) (.sq (.v 0)) .nil (.cal 13 (.cons (.v 2) .nil))))))) (.seq (.rai 1) .nil) .nil) (.seq (.ife (.agg .any (.lc [1, 2, 3] (.tup (.cons (.v 2) (.cons (.v 3) .nil))) (.zip (.v 0) (.sli (.v 0) (.cons (.int (1)) .nil) .nil)) .nil (.cmp .GtE (.idx (.v 2) (.int (0))) (.idx (.v 3) (.int (0)))))) (.seq (.rai 1) .nil) .nil) .nil))⟩
/-- are_tickets: [thing, most, low, high, .0, one, other] -/
def fn15 : FnI := ⟨4, 7, (.seq (.ife (.or (.not (.isi (.v 0) (.list))) (.not (.chn .LtE .LtE (.int (1)) (.blt .len (.cons (.v 0) .nil)) (.v 1)))) (.seq (.ret (.bl false)) .nil) .nil) (.seq (.ife (.not (.agg .all (.lc [4, 5] (.v 5) (.sq (.v 0)) .nil (.cal 1 (.cons (.v 5) (.cons (.v 2) (.cons (.v 3) .nil))))))) (.seq (.ret (.bl false)) .nil) .nil) (.seq (.ret (.agg .all (.lc [4, 5, 6] (.tup (.cons (.v 5) (.cons (.v 6) .nil))) (.zip (.v 0) (.sli (.v 0) (.cons (.int (1)) .nil) .nil)) .nil (.cmp .LtE (.v 5) (.v 6))))) .nil)))⟩
/-- check_urn: [tickets] -/
def fn16 : FnI := ⟨1, 1, (.seq (.ife (.not (.cal 15 (.cons (.v 0) (.cons (.int (24)) (.cons (.neg (.int (1000))) (.cons (.int (1000)) .nil)))))) (.seq (.rai 4) .nil) .nil) .nil)⟩
/-- whole_of: [lot, .0, value, weight] -/
def fn17 : FnI := ⟨1, 4, (.seq (.ret (.agg .sum (.lc [1, 2, 3] (.tup (.cons (.v 2) (.cons (.v 3) .nil))) (.sq (.v 0)) .nil (.v 3)))) .nil)⟩
/-- shares_of: [lot, whole, .0, value, weight] -/
def fn18 : FnI := ⟨1, 5, (.seq (.asg 1 (.cal 17 (.cons (.v 0) .nil))) (.seq (.ret (.lc [2, 3, 4] (.tup (.cons (.v 3) (.cons (.v 4) .nil))) (.sq (.v 0)) .nil (.cal 3 (.cons (.v 4) (.cons (.v 1) .nil))))) .nil))⟩
/-- mean_of: [lot, .0, value, weight] -/
def fn19 : FnI := ⟨1, 4, (.seq (.ret (.cal 3 (.cons (.agg .sum (.lc [1, 2, 3] (.tup (.cons (.v 2) (.cons (.v 3) .nil))) (.sq (.v 0)) .nil (.bin .Mult (.v 2) (.v 3)))) (.cons (.cal 17 (.cons (.v 0) .nil)) .nil)))) .nil)⟩
/-- short_of: [lot, number, .0, value, weight] -/
def fn20 : FnI := ⟨2, 5, (.seq (.ret (.cal 3 (.cons (.agg .sum (.lc [2, 3, 4] (.tup (.cons (.v 3) (.cons (.v 4) .nil))) (.sq (.v 0)) .nil (.bin .Mult (.v 4) (.blt .max (.cons (.int (0)) (.cons (.bin .Sub (.v 1) (.v 3)) .nil)))))) (.cons (.cal 17 (.cons (.v 0) .nil)) .nil)))) .nil)⟩
/-- worth_of: [values, shares, .0, value, one] -/
def fn21 : FnI := ⟨2, 5, (.seq (.ret (.cal 12 (.cons (.lc [2, 3, 4] (.tup (.cons (.v 3) (.cons (.v 4) .nil))) (.zip (.v 0) (.v 1)) .nil (.cal 7 (.cons (.tup (.cons (.v 3) (.cons (.int (1)) .nil))) (.cons (.v 4) .nil)))) .nil))) .nil)⟩
/-- mean: [lot] -/
def fn22 : FnI := ⟨1, 1, (.seq (.exp (.cal 14 (.cons (.v 0) .nil))) (.seq (.ret (.cal 19 (.cons (.v 0) .nil))) .nil))⟩
/-- short: [lot, value] -/
def fn23 : FnI := ⟨2, 2, (.seq (.exp (.cal 14 (.cons (.v 0) .nil))) (.seq (.ife (.not (.cal 0 (.cons (.v 1) .nil))) (.seq (.rai 2) .nil) .nil) (.seq (.ret (.cal 20 (.cons (.v 0) (.cons (.v 1) .nil)))) .nil)))⟩
/-- chances_of: [some, found, value, part, .0] -/
def fn24 : FnI := ⟨1, 5, (.seq (.asg 1 (.dnew false)) (.seq (.forS (.tup (.cons (.v 2) (.cons (.v 3) .nil))) (.sq (.v 0)) (.seq (.sub (.v 1) (.v 2) (.cal 5 (.cons (.bm .get (.v 1) (.cons (.v 2) (.cons (.tup (.cons (.int (0)) (.cons (.int (1)) .nil))) .nil))) (.cons (.v 3) .nil)))) .nil)) (.seq (.ret (.lc [4, 2] (.v 2) (.sq (.blt .sorted (.cons (.v 1) .nil))) (.cons (.cmp .Gt (.idx (.idx (.v 1) (.v 2)) (.int (0))) (.int (0))) .nil) (.tup (.cons (.v 2) (.cons (.idx (.v 1) (.v 2)) .nil))))) .nil)))⟩
/-- mixed: [one, other, part, rest, some, more, .0, pair, much] -/
def fn25 : FnI := ⟨3, 9, (.seq (.exp (.cal 14 (.cons (.v 0) .nil))) (.seq (.exp (.cal 14 (.cons (.v 1) .nil))) (.seq (.ife (.or (.not (.cal 4 (.cons (.v 2) .nil))) (.not (.chn .LtE .LtE (.int (0)) (.idx (.v 2) (.int (0))) (.idx (.v 2) (.int (1)))))) (.seq (.rai 3) .nil) .nil) (.seq (.asg 3 (.cal 6 (.cons (.tup (.cons (.int (1)) (.cons (.int (1)) .nil))) (.cons (.v 2) .nil)))) (.seq (.asg 4 (.lc [6, 7, 8] (.tup (.cons (.v 7) (.cons (.v 8) .nil))) (.zip (.v 0) (.cal 18 (.cons (.v 0) .nil))) .nil (.tup (.cons (.idx (.v 7) (.int (0))) (.cons (.cal 7 (.cons (.v 2) (.cons (.v 8) .nil))) .nil))))) (.seq (.asg 5 (.lc [6, 7, 8] (.tup (.cons (.v 7) (.cons (.v 8) .nil))) (.zip (.v 1) (.cal 18 (.cons (.v 1) .nil))) .nil (.tup (.cons (.idx (.v 7) (.int (0))) (.cons (.cal 7 (.cons (.v 3) (.cons (.v 8) .nil))) .nil))))) (.seq (.ret (.cal 24 (.cons (.bin .Add (.v 4) (.v 5)) .nil))) .nil)))))))⟩
/-- together: [one, other, some, pair, much, mate, more] -/
def fn26 : FnI := ⟨2, 7, (.seq (.exp (.cal 14 (.cons (.v 0) .nil))) (.seq (.exp (.cal 14 (.cons (.v 1) .nil))) (.seq (.asg 2 (.lst .nil)) (.seq (.forS (.tup (.cons (.v 3) (.cons (.v 4) .nil))) (.zip (.v 0) (.cal 18 (.cons (.v 0) .nil))) (.seq (.forS (.tup (.cons (.v 5) (.cons (.v 6) .nil))) (.zip (.v 1) (.cal 18 (.cons (.v 1) .nil))) (.seq (.exp (.bm .append (.v 2) (.cons (.tup (.cons (.bin .Add (.idx (.v 3) (.int (0))) (.idx (.v 5) (.int (0)))) (.cons (.cal 7 (.cons (.v 4) (.cons (.v 6) .nil))) .nil))) .nil))) .nil)) .nil)) (.seq (.ret (.cal 24 (.cons (.v 2) .nil))) .nil)))))⟩
/-- is_split: [value, low, high, .0, one] -/
def fn27 : FnI := ⟨3, 5, (.seq (.ife (.not (.agg .all (.lc [3, 4] (.v 4) (.sq (.tup (.cons (.v 0) (.cons (.v 1) (.cons (.v 2) .nil))))) .nil (.cal 1 (.cons (.v 4) (.cons (.neg (.int (1000))) (.cons (.int (1000)) .nil))))))) (.seq (.ret (.bl false)) .nil) .nil) (.seq (.ret (.chn .Lt .Lt (.v 1) (.v 0) (.v 2))) .nil))⟩
/-- counts_of: [value, low, high, part] -/
def fn28 : FnI := ⟨3, 4, (.seq (.asg 3 (.cal 2 (.cons (.bin .Sub (.v 2) (.v 0)) (.cons (.bin .Sub (.v 0) (.v 1)) .nil)))) (.seq (.ret (.tup (.cons (.bin .FloorDiv (.bin .Sub (.v 2) (.v 0)) (.v 3)) (.cons (.bin .FloorDiv (.bin .Sub (.v 0) (.v 1)) (.v 3)) .nil)))) .nil))⟩
/-- without: [tickets, value, many, found, turn] -/
def fn29 : FnI := ⟨3, 5, (.seq (.ife (.cmp .Lt (.bm .count (.v 0) (.cons (.v 1) .nil)) (.v 2)) (.seq (.ret (.lst .nil)) .nil) .nil) (.seq (.asg 3 (.blt .list (.cons (.v 0) .nil))) (.seq (.forS (.v 4) (.rng (.cons (.v 2) .nil)) (.seq (.exp (.bm .remove (.v 3) (.cons (.v 1) .nil))) .nil)) (.seq (.ret (.bin .Add (.v 3) (.lst (.cons .non .nil)))) .nil))))⟩
/-- after_split: [tickets, value, low, high, lows, highs, left] -/
def fn30 : FnI := ⟨4, 7, (.seq (.unp (.tup (.cons (.v 4) (.cons (.v 5) .nil))) (.cal 28 (.cons (.v 1) (.cons (.v 2) (.cons (.v 3) .nil))))) (.seq (.asg 6 (.cal 29 (.cons (.v 0) (.cons (.v 1) (.cons (.bin .Add (.v 4) (.v 5)) .nil))))) (.seq (.ret (.ife (.cmp .NotEq (.v 6) (.lst .nil)) (.blt .sorted (.cons (.bin .Add (.bin .Add (.sli (.v 6) .nil (.cons (.neg (.int (1))) .nil)) (.bin .Mult (.lst (.cons (.v 2) .nil)) (.v 4))) (.bin .Mult (.lst (.cons (.v 3) .nil)) (.v 5))) .nil)) (.lst .nil))) .nil)))⟩
/-- after_join: [tickets, value, low, high, lows, highs, left] -/
def fn31 : FnI := ⟨4, 7, (.seq (.unp (.tup (.cons (.v 4) (.cons (.v 5) .nil))) (.cal 28 (.cons (.v 1) (.cons (.v 2) (.cons (.v 3) .nil))))) (.seq (.asg 6 (.cal 29 (.cons (.v 0) (.cons (.v 2) (.cons (.v 4) .nil))))) (.seq (.asg 6 (.ife (.cmp .NotEq (.v 6) (.lst .nil)) (.cal 29 (.cons (.sli (.v 6) .nil (.cons (.neg (.int (1))) .nil)) (.cons (.v 3) (.cons (.v 5) .nil)))) (.lst .nil))) (.seq (.ret (.ife (.cmp .NotEq (.v 6) (.lst .nil)) (.blt .sorted (.cons (.bin .Add (.sli (.v 6) .nil (.cons (.neg (.int (1))) .nil)) (.bin .Mult (.lst (.cons (.v 1) .nil)) (.bin .Add (.v 4) (.v 5)))) .nil)) (.lst .nil))) .nil))))⟩
/-- after_word: [tickets, word, text, value, low, high] -/
def fn32 : FnI := ⟨2, 6, (.seq (.unp (.tup (.cons (.v 2) (.cons (.v 3) (.cons (.v 4) (.cons (.v 5) .nil))))) (.v 1)) (.seq (.ife (.not (.cal 27 (.cons (.v 3) (.cons (.v 4) (.cons (.v 5) .nil))))) (.seq (.ret (.lst .nil)) .nil) .nil) (.seq (.ife (.cmp .Eq (.v 2) (.str "split")) (.seq (.ret (.cal 30 (.cons (.v 0) (.cons (.v 3) (.cons (.v 4) (.cons (.v 5) .nil)))))) .nil) .nil) (.seq (.ret (.cal 31 (.cons (.v 0) (.cons (.v 3) (.cons (.v 4) (.cons (.v 5) .nil)))))) .nil))))⟩
/-- first_wrong: [tickets, tale, line, word] -/
def fn33 : FnI := ⟨2, 4, (.seq (.forS (.tup (.cons (.v 2) (.cons (.v 3) .nil))) (.enu (.v 1)) (.seq (.asg 0 (.cal 32 (.cons (.v 0) (.cons (.v 3) .nil)))) (.seq (.ife (.cmp .Eq (.v 0) (.lst .nil)) (.seq (.ret (.v 2)) .nil) .nil) .nil))) (.seq (.ret (.neg (.int (1)))) .nil))⟩
/-- Table.__init__: [self, rows, .0, row] -/
def fn34 : FnI := ⟨2, 4, (.seq (.stf (.v 0) 0 (.lc [2, 3] (.v 3) (.sq (.v 1)) .nil (.blt .list (.cons (.v 3) .nil)))) .nil)⟩
/-- Table.shows: [self, one, other, row, values, mine, theirs, place, .0, part, value, weight] -/
def fn35 : FnI := ⟨3, 12, (.seq (.ife (.cmp .NotEq (.lc [8, 3] (.v 3) (.sq (.fld (.v 0) 0)) .nil (.blt .len (.cons (.v 3) .nil))) (.bin .Mult (.lst (.cons (.blt .len (.cons (.v 2) .nil)) .nil)) (.blt .len (.cons (.v 1) .nil)))) (.seq (.ret (.bl false)) .nil) .nil) (.seq (.forS (.v 3) (.sq (.fld (.v 0) 0)) (.seq (.ife (.not (.agg .all (.lc [8, 9] (.v 9) (.sq (.v 3)) .nil (.and (.cal 4 (.cons (.v 9) .nil)) (.cmp .GtE (.idx (.v 9) (.int (0))) (.int (0))))))) (.seq (.ret (.bl false)) .nil) .nil) .nil)) (.seq (.par [4, 5, 6] (.cons (.lc [8, 10, 11] (.tup (.cons (.v 10) (.cons (.v 11) .nil))) (.sq (.v 2)) .nil (.v 10)) (.cons (.cal 18 (.cons (.v 1) .nil)) (.cons (.cal 18 (.cons (.v 2) .nil)) .nil)))) (.seq (.forS (.tup (.cons (.v 7) (.cons (.v 3) .nil))) (.enu (.fld (.v 0) 0)) (.seq (.ife (.or (.cmp .NotEq (.cal 12 (.cons (.v 3) .nil)) (.idx (.v 5) (.v 7))) (.cmp .NotEq (.cal 21 (.cons (.v 4) (.cons (.v 3) .nil))) (.cal 7 (.cons (.tup (.cons (.idx (.idx (.v 1) (.v 7)) (.int (0))) (.cons (.int (1)) .nil))) (.cons (.idx (.v 5) (.v 7)) .nil))))) (.seq (.ret (.bl false)) .nil) .nil) .nil)) (.seq (.ret (.cmp .Eq (.lc [8, 7] (.v 7) (.rng (.cons (.blt .len (.cons (.v 2) .nil)) .nil)) .nil (.cal 12 (.cons (.lc [8, 3] (.v 3) (.sq (.fld (.v 0) 0)) .nil (.idx (.v 3) (.v 7))) .nil))) (.v 6))) .nil)))))⟩
/-- Bar.__init__: [self, text, value] -/
def fn36 : FnI := ⟨3, 3, (.seq (.stf (.v 0) 1 (.v 1)) (.seq (.stf (.v 0) 2 (.v 2)) .nil))⟩
/-- Bar.shows: [self, one, other] -/
def fn37 : FnI := ⟨3, 3, (.seq (.ife (.cmp .Eq (.fld (.v 0) 1) (.str "mean")) (.seq (.ret (.and (.cmp .Is (.fld (.v 0) 2) .non) (.cmp .NotEq (.cal 19 (.cons (.v 1) .nil)) (.cal 19 (.cons (.v 2) .nil))))) .nil) .nil) (.seq (.ife (.or (.cmp .NotEq (.fld (.v 0) 1) (.str "short")) (.cmp .Is (.fld (.v 0) 2) .non)) (.seq (.ret (.bl false)) .nil) .nil) (.seq (.ret (.cal 9 (.cons (.cal 20 (.cons (.v 2) (.cons (.fld (.v 0) 2) .nil))) (.cons (.cal 20 (.cons (.v 1) (.cons (.fld (.v 0) 2) .nil))) .nil)))) .nil)))⟩
/-- Right.shows: [self, tickets, tale] -/
def fn38 : FnI := ⟨3, 3, (.seq (.ret (.cmp .Lt (.cal 33 (.cons (.v 1) (.cons (.v 2) .nil))) (.int (0)))) .nil)⟩
/-- Wrong.__init__: [self, line] -/
def fn39 : FnI := ⟨2, 2, (.seq (.stf (.v 0) 3 (.v 1)) .nil)⟩
/-- Wrong.shows: [self, tickets, tale] -/
def fn40 : FnI := ⟨3, 3, (.seq (.ret (.and (.cmp .GtE (.fld (.v 0) 3) (.int (0))) (.cmp .Eq (.cal 33 (.cons (.v 1) (.cons (.v 2) .nil))) (.fld (.v 0) 3)))) .nil)⟩
/-- check_asked: [tickets, top] -/
def fn41 : FnI := ⟨2, 2, (.seq (.ife (.not (.cal 15 (.cons (.v 0) (.cons (.int (10)) (.cons (.int (0)) (.cons (.int (16)) .nil)))))) (.seq (.rai 4) .nil) .nil) (.seq (.ife (.not (.cal 1 (.cons (.v 1) (.cons (.int (0)) (.cons (.int (16)) .nil))))) (.seq (.rai 5) .nil) .nil) .nil))⟩
/-- short_by: [tickets, value, .0, one] -/
def fn42 : FnI := ⟨2, 4, (.seq (.ret (.agg .sum (.lc [2, 3] (.v 3) (.sq (.v 0)) .nil (.blt .max (.cons (.int (0)) (.cons (.bin .Sub (.v 1) (.v 3)) .nil)))))) .nil)⟩
/-- table_of: [tickets, top, many, end, value, due, found, short, count, ways, more, .0] -/
def fn43 : FnI := ⟨2, 12, (.seq (.par [2, 3] (.cons (.blt .len (.cons (.v 0) .nil)) (.cons (.bin .Add (.v 1) (.int (1))) .nil))) (.seq (.asg 5 (.lc [11, 4] (.v 4) (.rng (.cons (.bin .Add (.v 3) (.int (1))) .nil)) .nil (.cal 42 (.cons (.v 0) (.cons (.v 4) .nil))))) (.seq (.asg 6 (.lc [11, 4] (.v 4) (.rng (.cons (.bin .Add (.v 3) (.int (1))) .nil)) .nil (.dnew true))) (.seq (.forS (.v 7) (.rng (.cons (.bin .Add (.bin .Mult (.v 2) (.v 3)) (.int (1))) .nil)) (.seq (.ife (.and (.cmp .Eq (.idx (.v 5) (.v 3)) (.v 7)) (.cmp .LtE (.blt .max (.cons (.v 0) .nil)) (.v 1))) (.seq (.sub (.idx (.v 6) (.v 3)) (.tup (.cons (.v 2) (.cons (.v 7) .nil))) (.int (1))) .nil) .nil) .nil)) (.seq (.forS (.v 4) (.rng (.cons (.v 1) (.cons (.neg (.int (1))) (.cons (.neg (.int (1))) .nil)))) (.seq (.forS (.v 8) (.rng (.cons (.bin .Add (.v 2) (.int (1))) .nil)) (.seq (.forS (.v 7) (.rng (.cons (.idx (.v 5) (.v 4)) (.cons (.bin .Add (.bin .Mult (.v 8) (.v 4)) (.int (1))) .nil))) (.seq (.asg 9 (.int (0))) (.seq (.forS (.v 10) (.rng (.cons (.bin .Add (.bin .Sub (.v 2) (.v 8)) (.int (1))) .nil)) (.seq (.aug 9 .Add (.bm .get (.idx (.v 6) (.bin .Add (.v 4) (.int (1)))) (.cons (.tup (.cons (.bin .Add (.v 8) (.v 10)) (.cons (.bin .Add (.bin .Add (.v 7) (.v 8)) (.v 10)) .nil))) (.cons (.int (0)) .nil)))) .nil)) (.seq (.ife (.cmp .Gt (.v 9) (.int (0))) (.seq (.sub (.idx (.v 6) (.v 4)) (.tup (.cons (.v 8) (.cons (.v 7) .nil))) (.v 9)) .nil) .nil) .nil)))) .nil)) .nil)) (.seq (.ret (.v 6)) .nil))))))⟩
/-- how_many: [tickets, top] -/
def fn44 : FnI := ⟨2, 2, (.seq (.exp (.cal 41 (.cons (.v 0) (.cons (.v 1) .nil)))) (.seq (.ret (.bm .get (.idx (.cal 43 (.cons (.v 0) (.cons (.v 1) .nil))) (.int (0))) (.cons (.tup (.cons (.int (0)) (.cons (.int (0)) .nil))) (.cons (.int (0)) .nil)))) .nil))⟩
/-- tickets_by: [tickets, top, number, table, count, short, found, value, more, ways] -/
def fn45 : FnI := ⟨3, 10, (.seq (.exp (.cal 41 (.cons (.v 0) (.cons (.v 1) .nil)))) (.seq (.par [3, 4, 5, 6] (.cons (.cal 43 (.cons (.v 0) (.cons (.v 1) .nil))) (.cons (.int (0)) (.cons (.int (0)) (.cons (.lst .nil) .nil))))) (.seq (.ife (.not (.cal 1 (.cons (.v 2) (.cons (.int (0)) (.cons (.bin .Sub (.bm .get (.idx (.v 3) (.int (0))) (.cons (.tup (.cons (.int (0)) (.cons (.int (0)) .nil))) (.cons (.int (0)) .nil))) (.int (1))) .nil))))) (.seq (.rai 6) .nil) .nil) (.seq (.forS (.v 7) (.rng (.cons (.bin .Add (.v 1) (.int (1))) .nil)) (.seq (.par [8, 9] (.cons (.bin .Sub (.blt .len (.cons (.v 0) .nil)) (.v 4)) (.cons (.int (0)) .nil))) (.seq (.whl (.cmp .GtE (.v 8) (.int (0))) (.seq (.asg 9 (.bm .get (.idx (.v 3) (.bin .Add (.v 7) (.int (1)))) (.cons (.tup (.cons (.bin .Add (.v 4) (.v 8)) (.cons (.bin .Add (.bin .Add (.v 5) (.v 4)) (.v 8)) .nil))) (.cons (.int (0)) .nil)))) (.seq (.ife (.cmp .Lt (.v 2) (.v 9)) (.seq .brk .nil) .nil) (.seq (.aug 2 .Sub (.v 9)) (.seq (.aug 8 .Sub (.int (1))) .nil))))) (.seq (.exp (.bm .extend (.v 6) (.cons (.bin .Mult (.lst (.cons (.v 7) .nil)) (.v 8)) .nil))) (.seq (.par [4, 5] (.cons (.bin .Add (.v 4) (.v 8)) (.cons (.bin .Add (.bin .Add (.v 5) (.v 4)) (.v 8)) .nil))) .nil))))) (.seq (.ret (.v 6)) .nil)))))⟩
/-- number_of: [tickets, top, others, table, count, short, found, value, here, more, .0] -/
def fn46 : FnI := ⟨3, 11, (.seq (.exp (.cal 41 (.cons (.v 0) (.cons (.v 1) .nil)))) (.seq (.ife (.or (.not (.cal 15 (.cons (.v 2) (.cons (.blt .len (.cons (.v 0) .nil)) (.cons (.int (0)) (.cons (.v 1) .nil)))))) (.cmp .NotEq (.blt .len (.cons (.v 2) .nil)) (.blt .len (.cons (.v 0) .nil)))) (.seq (.rai 7) .nil) .nil) (.seq (.par [3, 4, 5, 6] (.cons (.cal 43 (.cons (.v 0) (.cons (.v 1) .nil))) (.cons (.int (0)) (.cons (.int (0)) (.cons (.int (0)) .nil))))) (.seq (.ife (.cmp .NotEq (.blt .sum (.cons (.v 2) .nil)) (.blt .sum (.cons (.v 0) .nil))) (.seq (.rai 9) .nil) .nil) (.seq (.ife (.agg .any (.lc [10, 7] (.v 7) (.rng (.cons (.bin .Add (.int (16)) (.int (2))) .nil)) .nil (.cmp .Lt (.cal 42 (.cons (.v 2) (.cons (.v 7) .nil))) (.cal 42 (.cons (.v 0) (.cons (.v 7) .nil)))))) (.seq (.rai 9) .nil) .nil) (.seq (.forS (.v 7) (.rng (.cons (.bin .Add (.v 1) (.int (1))) .nil)) (.seq (.asg 8 (.bm .count (.v 2) (.cons (.v 7) .nil))) (.seq (.forS (.v 9) (.rng (.cons (.bin .Add (.v 8) (.int (1))) (.cons (.bin .Add (.bin .Sub (.blt .len (.cons (.v 0) .nil)) (.v 4)) (.int (1))) .nil))) (.seq (.aug 6 .Add (.bm .get (.idx (.v 3) (.bin .Add (.v 7) (.int (1)))) (.cons (.tup (.cons (.bin .Add (.v 4) (.v 9)) (.cons (.bin .Add (.bin .Add (.v 5) (.v 4)) (.v 9)) .nil))) (.cons (.int (0)) .nil)))) .nil)) (.seq (.par [4, 5] (.cons (.bin .Add (.v 4) (.v 8)) (.cons (.bin .Add (.bin .Add (.v 5) (.v 4)) (.v 8)) .nil))) .nil)))) (.seq (.ret (.v 6)) .nil)))))))⟩
/-- is_word: [thing, .0, one] -/
def fn47 : FnI := ⟨1, 3, (.seq (.ife (.or (.not (.isi (.v 0) (.tuple))) (.or (.cmp .NotEq (.blt .len (.cons (.v 0) .nil)) (.int (4))) (.not (.isi (.idx (.v 0) (.int (0))) (.str))))) (.seq (.ret (.bl false)) .nil) .nil) (.seq (.ret (.and (.cmp .In (.idx (.v 0) (.int (0))) (.tup (.cons (.str "split") (.cons (.str "join") .nil)))) (.agg .all (.lc [1, 2] (.v 2) (.sq (.sli (.v 0) (.cons (.int (1)) .nil) .nil)) .nil (.cal 0 (.cons (.v 2) .nil)))))) .nil))⟩
/-- told: [tickets, tale, line, .0, word] -/
def fn48 : FnI := ⟨2, 5, (.seq (.exp (.cal 16 (.cons (.v 0) .nil))) (.seq (.ife (.or (.not (.isi (.v 1) (.list))) (.or (.cmp .Gt (.blt .len (.cons (.v 1) .nil)) (.int (60))) (.not (.agg .all (.lc [3, 4] (.v 4) (.sq (.v 1)) .nil (.cal 47 (.cons (.v 4) .nil))))))) (.seq (.rai 8) .nil) .nil) (.seq (.asg 2 (.cal 33 (.cons (.v 0) (.cons (.v 1) .nil)))) (.seq (.ret (.ife (.cmp .Lt (.v 2) (.int (0))) (.mk 3 .nil) (.mk 4 (.cons (.v 2) .nil)))) .nil))))⟩
/-- bar_of: [one, other, value, .0, weight] -/
def fn49 : FnI := ⟨2, 5, (.seq (.ife (.cmp .NotEq (.cal 19 (.cons (.v 0) .nil)) (.cal 19 (.cons (.v 1) .nil))) (.seq (.ret (.lst (.cons (.str "mean") (.cons .non .nil)))) .nil) .nil) (.seq (.forS (.v 2) (.sq (.blt .sorted (.cons (.lc [3, 2, 4] (.tup (.cons (.v 2) (.cons (.v 4) .nil))) (.sq (.bin .Add (.v 0) (.v 1))) .nil (.v 2)) .nil))) (.seq (.ife (.cal 9 (.cons (.cal 20 (.cons (.v 1) (.cons (.v 2) .nil))) (.cons (.cal 20 (.cons (.v 0) (.cons (.v 2) .nil))) .nil))) (.seq (.ret (.lst (.cons (.str "short") (.cons (.v 2) .nil)))) .nil) .nil) .nil)) (.seq (.ret (.lst .nil)) .nil)))⟩
/-- begins_of: [left, found, part] -/
def fn50 : FnI := ⟨1, 3, (.seq (.asg 1 (.lst (.cons (.tup (.cons (.int (0)) (.cons (.int (1)) .nil))) .nil))) (.seq (.forS (.v 2) (.sq (.v 0)) (.seq (.exp (.bm .append (.v 1) (.cons (.cal 5 (.cons (.idx (.v 1) (.neg (.int (1)))) (.cons (.v 2) .nil))) .nil))) .nil)) (.seq (.ret (.v 1)) .nil)))⟩
/-- window: [left, begin, wide, begins, end, found, low, high] -/
def fn51 : FnI := ⟨3, 8, (.seq (.par [3, 4, 5] (.cons (.cal 50 (.cons (.v 0) .nil)) (.cons (.cal 5 (.cons (.v 1) (.cons (.v 2) .nil))) (.cons (.lst .nil) .nil)))) (.seq (.forS (.tup (.cons (.v 6) (.cons (.v 7) .nil))) (.zip (.v 3) (.sli (.v 3) (.cons (.int (1)) .nil) .nil)) (.seq (.par [6, 7] (.cons (.cal 11 (.cons (.v 6) (.cons (.v 1) .nil))) (.cons (.cal 10 (.cons (.v 7) (.cons (.v 4) .nil))) .nil))) (.seq (.exp (.bm .append (.v 5) (.cons (.ife (.cal 9 (.cons (.v 6) (.cons (.v 7) .nil))) (.cal 6 (.cons (.v 7) (.cons (.v 6) .nil))) (.tup (.cons (.int (0)) (.cons (.int (1)) .nil)))) .nil))) .nil))) (.seq (.ret (.v 5)) .nil)))⟩
/-- begin_of: [values, left, wide, due, begins, stops, one, here, there, stop, much, low, high, .0] -/
def fn52 : FnI := ⟨4, 14, (.seq (.asg 4 (.cal 50 (.cons (.v 1) .nil))) (.seq (.asg 5 (.lst (.cons (.tup (.cons (.int (0)) (.cons (.int (1)) .nil))) .nil))) (.seq (.forS (.v 6) (.sq (.bin .Add (.v 4) (.lc [13, 6] (.v 6) (.sq (.v 4)) .nil (.cal 6 (.cons (.v 6) (.cons (.v 2) .nil)))))) (.seq (.ife (.and (.cal 9 (.cons (.idx (.v 5) (.int (0))) (.cons (.v 6) .nil))) (.not (.cal 9 (.cons (.cal 6 (.cons (.idx (.v 4) (.neg (.int (1)))) (.cons (.v 2) .nil))) (.cons (.v 6) .nil))))) (.seq (.exp (.bm .append (.v 5) (.cons (.v 6) .nil))) .nil) .nil) .nil)) (.seq (.par [7, 8] (.cons (.tup (.cons (.int (0)) (.cons (.int (1)) .nil))) (.cons (.cal 6 (.cons (.idx (.v 4) (.neg (.int (1)))) (.cons (.v 2) .nil))) .nil))) (.seq (.forS (.v 9) (.sq (.v 5)) (.seq (.asg 10 (.cal 21 (.cons (.v 0) (.cons (.cal 51 (.cons (.v 1) (.cons (.v 9) (.cons (.v 2) .nil)))) .nil)))) (.seq (.ife (.not (.cal 9 (.cons (.v 3) (.cons (.v 10) .nil)))) (.seq (.asg 7 (.cal 11 (.cons (.v 7) (.cons (.v 9) .nil)))) .nil) .nil) (.seq (.ife (.not (.cal 9 (.cons (.v 10) (.cons (.v 3) .nil)))) (.seq (.asg 8 (.cal 10 (.cons (.v 8) (.cons (.v 9) .nil)))) .nil) .nil) .nil)))) (.seq (.par [11, 12] (.cons (.cal 21 (.cons (.v 0) (.cons (.cal 51 (.cons (.v 1) (.cons (.v 7) (.cons (.v 2) .nil)))) .nil))) (.cons (.cal 21 (.cons (.v 0) (.cons (.cal 51 (.cons (.v 1) (.cons (.v 8) (.cons (.v 2) .nil)))) .nil))) .nil))) (.seq (.ife (.not (.cal 9 (.cons (.v 11) (.cons (.v 12) .nil)))) (.seq (.ret (.v 7)) .nil) .nil) (.seq (.ret (.cal 5 (.cons (.v 7) (.cons (.cal 7 (.cons (.cal 8 (.cons (.cal 6 (.cons (.v 3) (.cons (.v 11) .nil))) (.cons (.cal 6 (.cons (.v 12) (.cons (.v 11) .nil))) .nil))) (.cons (.cal 6 (.cons (.v 8) (.cons (.v 7) .nil))) .nil))) .nil)))) .nil))))))))⟩
/-- widened: [one, other, bar, values, left, rows, pair, wide, begin, row, .0, value, weight, part, gone] -/
def fn53 : FnI := ⟨2, 15, (.seq (.exp (.cal 14 (.cons (.v 0) .nil))) (.seq (.exp (.cal 14 (.cons (.v 1) .nil))) (.seq (.asg 2 (.cal 49 (.cons (.v 0) (.cons (.v 1) .nil)))) (.seq (.ife (.cmp .NotEq (.v 2) (.lst .nil)) (.seq (.ret (.mk 2 (.cons (.idx (.v 2) (.int (0))) (.cons (.idx (.v 2) (.int (1))) .nil)))) .nil) .nil) (.seq (.par [3, 4, 5] (.cons (.lc [10, 11, 12] (.tup (.cons (.v 11) (.cons (.v 12) .nil))) (.sq (.v 1)) .nil (.v 11)) (.cons (.cal 18 (.cons (.v 1) .nil)) (.cons (.lst .nil) .nil)))) (.seq (.forS (.tup (.cons (.v 6) (.cons (.v 7) .nil))) (.zip (.v 0) (.cal 18 (.cons (.v 0) .nil))) (.seq (.asg 8 (.cal 52 (.cons (.v 3) (.cons (.v 4) (.cons (.v 7) (.cons (.cal 7 (.cons (.tup (.cons (.idx (.v 6) (.int (0))) (.cons (.int (1)) .nil))) (.cons (.v 7) .nil))) .nil)))))) (.seq (.asg 9 (.cal 51 (.cons (.v 4) (.cons (.v 8) (.cons (.v 7) .nil))))) (.seq (.asg 4 (.lc [10, 13, 14] (.tup (.cons (.v 13) (.cons (.v 14) .nil))) (.zip (.v 4) (.v 9)) .nil (.cal 6 (.cons (.v 13) (.cons (.v 14) .nil))))) (.seq (.exp (.bm .append (.v 5) (.cons (.v 9) .nil))) .nil))))) (.seq (.ret (.mk 1 (.cons (.v 5) .nil))) .nil)))))))⟩
/-- _law_cell_at: [_law_script, _law_k] -/
def fn54 : FnI := ⟨2, 2, (.seq (.ife (.cmp .Lt (.v 1) (.blt .len (.cons (.v 0) .nil))) (.seq (.ret (.idx (.v 0) (.v 1))) .nil) .nil) (.seq (.ret (.int (0))) .nil))⟩
/-- _law_copy: [_law_thing, .0, _law_one] -/
def fn55 : FnI := ⟨1, 3, (.seq (.ife (.isi (.v 0) (.list)) (.seq (.ret (.lc [1, 2] (.v 2) (.sq (.v 0)) .nil (.cal 55 (.cons (.v 2) .nil)))) .nil) .nil) (.seq (.ife (.isi (.v 0) (.tuple)) (.seq (.ret (.blt .tuple (.cons (.lc [1, 2] (.v 2) (.sq (.v 0)) .nil (.cal 55 (.cons (.v 2) .nil))) .nil))) .nil) .nil) (.seq (.ret (.v 0)) .nil)))⟩
/-- _law_into: [_law_handed, _law_new, _law_at, _law_one] -/
def fn56 : FnI := ⟨2, 4, (.seq (.forS (.tup (.cons (.v 2) (.cons (.v 3) .nil))) (.enu (.v 1)) (.seq (.ife (.and (.isi (.v 3) (.list)) (.cmp .Eq (.blt .len (.cons (.idx (.v 0) (.v 2)) .nil)) (.blt .len (.cons (.v 3) .nil)))) (.seq (.exp (.cal 56 (.cons (.idx (.v 0) (.v 2)) (.cons (.v 3) .nil)))) .nil) (.seq (.sub (.v 0) (.v 2) (.cal 55 (.cons (.v 3) .nil))) .nil)) .nil)) .nil)⟩
/-- _law_spoil: [_law_found, _law_one] -/
def fn57 : FnI := ⟨1, 2, (.seq (.ife (.or (.isi (.v 0) (.list)) (.isi (.v 0) (.tuple))) (.seq (.forS (.v 1) (.sq (.blt .list (.cons (.v 0) .nil))) (.seq (.exp (.cal 57 (.cons (.v 1) .nil))) .nil)) .nil) .nil) (.seq (.ife (.isi (.v 0) (.list)) (.seq (.exp (.bm .append (.v 0) (.cons .non .nil))) .nil) .nil) .nil))⟩
/-- _law_door_right: [_law_ask, _law_first, _law_second, _law_handed, _law_dues, _law_some, _law_due, _law_again, _law_found] -/
def fn58 : FnI := ⟨3, 9, (.seq (.par [3, 4] (.cons (.cal 55 (.cons (.v 1) .nil)) (.cons (.lst .nil) .nil))) (.seq (.forS (.v 5) (.sq (.tup (.cons (.v 1) (.cons (.v 2) .nil)))) (.seq (.exp (.bm .append (.v 4) (.cons (.tup (.cons (.v 5) (.cons (.cal 55 (.cons (.calv 0 (.cons (.cal 55 (.cons (.v 5) .nil)) .nil)) .nil)) .nil))) .nil))) .nil)) (.seq (.forS (.tup (.cons (.v 5) (.cons (.v 6) .nil))) (.sq (.bin .Add (.v 4) (.v 4))) (.seq (.exp (.cal 56 (.cons (.v 3) (.cons (.v 5) .nil)))) (.seq (.forS (.v 7) (.rng (.cons (.int (2)) .nil)) (.seq (.asg 8 (.calv 0 (.cons (.v 3) .nil))) (.seq (.ife (.or (.cmp .NotEq (.v 3) (.v 5)) (.cmp .NotEq (.v 8) (.v 6))) (.seq (.ret (.bl false)) .nil) .nil) (.seq (.exp (.cal 57 (.cons (.v 8) .nil))) .nil)))) .nil))) (.seq (.ret (.bl true)) .nil))))⟩
/-- _law_rows_one: [_law_rows, _law_some] -/
def fn59 : FnI := ⟨0, 2, (.seq (.asg 0 (.lst .nil)) (.seq (.exp (.bm .append (.v 0) (.cons (.tup (.cons (.lam 1 1 (.cal 22 (.cons (.idx (.v 0) (.int (0))) .nil))) (.cons (.lst (.cons (.lst (.cons (.tup (.cons (.int (0)) (.cons (.int (1)) .nil))) (.cons (.tup (.cons (.int (2)) (.cons (.int (1)) .nil))) .nil))) .nil)) (.cons (.lst (.cons (.lst (.cons (.tup (.cons (.int (0)) (.cons (.int (1)) .nil))) (.cons (.tup (.cons (.int (4)) (.cons (.int (1)) .nil))) .nil))) .nil)) .nil)))) .nil))) (.seq (.exp (.bm .append (.v 0) (.cons (.tup (.cons (.lam 1 1 (.cal 23 (.cons (.idx (.v 0) (.int (0))) (.cons (.int (1)) .nil)))) (.cons (.lst (.cons (.lst (.cons (.tup (.cons (.int (0)) (.cons (.int (1)) .nil))) (.cons (.tup (.cons (.int (2)) (.cons (.int (1)) .nil))) .nil))) .nil)) (.cons (.lst (.cons (.lst (.cons (.tup (.cons (.int (1)) (.cons (.int (1)) .nil))) (.cons (.tup (.cons (.int (2)) (.cons (.int (1)) .nil))) .nil))) .nil)) .nil)))) .nil))) (.seq (.exp (.bm .append (.v 0) (.cons (.tup (.cons (.lam 1 1 (.cal 25 (.cons (.idx (.v 0) (.int (0))) (.cons (.idx (.v 0) (.int (1))) (.cons (.tup (.cons (.int (1)) (.cons (.int (3)) .nil))) .nil))))) (.cons (.lst (.cons (.lst (.cons (.tup (.cons (.int (0)) (.cons (.int (1)) .nil))) .nil)) (.cons (.lst (.cons (.tup (.cons (.int (2)) (.cons (.int (1)) .nil))) .nil)) .nil))) (.cons (.lst (.cons (.lst (.cons (.tup (.cons (.int (0)) (.cons (.int (1)) .nil))) .nil)) (.cons (.lst (.cons (.tup (.cons (.int (3)) (.cons (.int (1)) .nil))) .nil)) .nil))) .nil)))) .nil))) (.seq (.exp (.bm .append (.v 0) (.cons (.tup (.cons (.lam 1 1 (.cal 25 (.cons (.idx (.v 0) (.int (0))) (.cons (.idx (.v 0) (.int (1))) (.cons (.tup (.cons (.int (1)) (.cons (.int (3)) .nil))) .nil))))) (.cons (.lst (.cons (.lst (.cons (.tup (.cons (.int (0)) (.cons (.int (1)) .nil))) .nil)) (.cons (.lst (.cons (.tup (.cons (.int (2)) (.cons (.int (1)) .nil))) .nil)) .nil))) (.cons (.lst (.cons (.lst (.cons (.tup (.cons (.int (1)) (.cons (.int (1)) .nil))) .nil)) (.cons (.lst (.cons (.tup (.cons (.int (2)) (.cons (.int (1)) .nil))) .nil)) .nil))) .nil)))) .nil))) (.seq (.exp (.bm .append (.v 0) (.cons (.tup (.cons (.lam 1 1 (.cal 26 (.cons (.idx (.v 0) (.int (0))) (.cons (.idx (.v 0) (.int (1))) .nil)))) (.cons (.lst (.cons (.lst (.cons (.tup (.cons (.int (0)) (.cons (.int (1)) .nil))) .nil)) (.cons (.lst (.cons (.tup (.cons (.int (2)) (.cons (.int (1)) .nil))) .nil)) .nil))) (.cons (.lst (.cons (.lst (.cons (.tup (.cons (.int (0)) (.cons (.int (1)) .nil))) .nil)) (.cons (.lst (.cons (.tup (.cons (.int (3)) (.cons (.int (1)) .nil))) .nil)) .nil))) .nil)))) .nil))) (.seq (.exp (.bm .append (.v 0) (.cons (.tup (.cons (.lam 1 1 (.cal 26 (.cons (.idx (.v 0) (.int (0))) (.cons (.idx (.v 0) (.int (1))) .nil)))) (.cons (.lst (.cons (.lst (.cons (.tup (.cons (.int (0)) (.cons (.int (1)) .nil))) .nil)) (.cons (.lst (.cons (.tup (.cons (.int (2)) (.cons (.int (1)) .nil))) .nil)) .nil))) (.cons (.lst (.cons (.lst (.cons (.tup (.cons (.int (1)) (.cons (.int (1)) .nil))) .nil)) (.cons (.lst (.cons (.tup (.cons (.int (2)) (.cons (.int (1)) .nil))) .nil)) .nil))) .nil)))) .nil))) (.seq (.exp (.bm .append (.v 0) (.cons (.tup (.cons (.lam 1 1 (.fld (.cal 53 (.cons (.idx (.v 0) (.int (0))) (.cons (.idx (.v 0) (.int (1))) .nil))) 0)) (.cons (.lst (.cons (.lst (.cons (.tup (.cons (.int (0)) (.cons (.int (1)) .nil))) .nil)) (.cons (.lst (.cons (.tup (.cons (.neg (.int (1))) (.cons (.int (1)) .nil))) (.cons (.tup (.cons (.int (1)) (.cons (.int (1)) .nil))) .nil))) .nil))) (.cons (.lst (.cons (.lst (.cons (.tup (.cons (.int (0)) (.cons (.int (1)) .nil))) .nil)) (.cons (.lst (.cons (.tup (.cons (.neg (.int (2))) (.cons (.int (2)) .nil))) (.cons (.tup (.cons (.int (4)) (.cons (.int (1)) .nil))) .nil))) .nil))) .nil)))) .nil))) (.seq (.exp (.bm .append (.v 0) (.cons (.tup (.cons (.lam 1 1 (.isi (.cal 53 (.cons (.idx (.v 0) (.int (0))) (.cons (.idx (.v 0) (.int (1))) .nil))) (.own 1))) (.cons (.lst (.cons (.lst (.cons (.tup (.cons (.int (0)) (.cons (.int (1)) .nil))) .nil)) (.cons (.lst (.cons (.tup (.cons (.neg (.int (1))) (.cons (.int (1)) .nil))) (.cons (.tup (.cons (.int (1)) (.cons (.int (1)) .nil))) .nil))) .nil))) (.cons (.lst (.cons (.lst (.cons (.tup (.cons (.int (1)) (.cons (.int (1)) .nil))) .nil)) (.cons (.lst (.cons (.tup (.cons (.neg (.int (1))) (.cons (.int (1)) .nil))) (.cons (.tup (.cons (.int (1)) (.cons (.int (1)) .nil))) .nil))) .nil))) .nil)))) .nil))) (.seq (.exp (.bm .append (.v 0) (.cons (.tup (.cons (.lam 1 1 (.cal 44 (.cons (.idx (.v 0) (.int (0))) (.cons (.int (4)) .nil)))) (.cons (.lst (.cons (.lst (.cons (.int (1)) (.cons (.int (1)) (.cons (.int (1)) .nil)))) .nil)) (.cons (.lst (.cons (.lst (.cons (.int (1)) (.cons (.int (1)) (.cons (.int (4)) .nil)))) .nil)) .nil)))) .nil))) (.seq (.exp (.bm .append (.v 0) (.cons (.tup (.cons (.lam 1 1 (.cal 45 (.cons (.idx (.v 0) (.int (0))) (.cons (.int (4)) (.cons (.int (0)) .nil))))) (.cons (.lst (.cons (.lst (.cons (.int (1)) (.cons (.int (1)) (.cons (.int (1)) .nil)))) .nil)) (.cons (.lst (.cons (.lst (.cons (.int (1)) (.cons (.int (1)) (.cons (.int (4)) .nil)))) .nil)) .nil)))) .nil))) (.seq (.exp (.bm .append (.v 0) (.cons (.tup (.cons (.lam 1 1 (.cal 46 (.cons (.idx (.v 0) (.int (0))) (.cons (.int (4)) (.cons (.idx (.v 0) (.int (1))) .nil))))) (.cons (.lst (.cons (.lst (.cons (.int (1)) (.cons (.int (1)) (.cons (.int (1)) .nil)))) (.cons (.lst (.cons (.int (1)) (.cons (.int (1)) (.cons (.int (1)) .nil)))) .nil))) (.cons (.lst (.cons (.lst (.cons (.int (1)) (.cons (.int (1)) (.cons (.int (1)) .nil)))) (.cons (.lst (.cons (.int (0)) (.cons (.int (1)) (.cons (.int (2)) .nil)))) .nil))) .nil)))) .nil))) (.seq (.exp (.bm .append (.v 0) (.cons (.tup (.cons (.lam 1 1 (.cal 46 (.cons (.idx (.v 0) (.int (0))) (.cons (.int (4)) (.cons (.idx (.v 0) (.int (1))) .nil))))) (.cons (.lst (.cons (.lst (.cons (.int (1)) (.cons (.int (1)) (.cons (.int (4)) .nil)))) (.cons (.lst (.cons (.int (1)) (.cons (.int (1)) (.cons (.int (4)) .nil)))) .nil))) (.cons (.lst (.cons (.lst (.cons (.int (0)) (.cons (.int (2)) (.cons (.int (4)) .nil)))) (.cons (.lst (.cons (.int (0)) (.cons (.int (2)) (.cons (.int (4)) .nil)))) .nil))) .nil)))) .nil))) (.seq (.exp (.bm .append (.v 0) (.cons (.tup (.cons (.lam 1 1 (.isi (.cal 48 (.cons (.idx (.v 0) (.int (0))) (.cons (.idx (.v 0) (.int (1))) .nil))) (.own 3))) (.cons (.lst (.cons (.lst (.cons (.int (0)) (.cons (.int (0)) .nil))) (.cons (.lst (.cons (.tup (.cons (.str "split") (.cons (.int (0)) (.cons (.neg (.int (1))) (.cons (.int (1)) .nil))))) .nil)) .nil))) (.cons (.lst (.cons (.lst (.cons (.int (0)) (.cons (.int (1)) .nil))) (.cons (.lst (.cons (.tup (.cons (.str "split") (.cons (.int (0)) (.cons (.neg (.int (1))) (.cons (.int (1)) .nil))))) .nil)) .nil))) .nil)))) .nil))) (.seq (.exp (.bm .append (.v 0) (.cons (.tup (.cons (.lam 1 1 (.isi (.cal 48 (.cons (.idx (.v 0) (.int (0))) (.cons (.idx (.v 0) (.int (1))) .nil))) (.own 3))) (.cons (.lst (.cons (.lst (.cons (.int (0)) (.cons (.int (0)) .nil))) (.cons (.lst (.cons (.tup (.cons (.str "split") (.cons (.int (0)) (.cons (.neg (.int (1))) (.cons (.int (1)) .nil))))) .nil)) .nil))) (.cons (.lst (.cons (.lst (.cons (.int (0)) (.cons (.int (0)) .nil))) (.cons (.lst (.cons (.tup (.cons (.str "split") (.cons (.int (0)) (.cons (.neg (.int (2))) (.cons (.int (1)) .nil))))) .nil)) .nil))) .nil)))) .nil))) (.seq (.exp (.bm .append (.v 0) (.cons (.tup (.cons (.lam 1 1 (.mth 1 (.mk 1 (.cons (.lst (.cons (.lst (.cons (.tup (.cons (.int (1)) (.cons (.int (2)) .nil))) (.cons (.tup (.cons (.int (1)) (.cons (.int (2)) .nil))) .nil))) .nil)) .nil)) (.cons (.idx (.v 0) (.int (0))) (.cons (.idx (.v 0) (.int (1))) .nil)))) (.cons (.lst (.cons (.lst (.cons (.tup (.cons (.int (0)) (.cons (.int (1)) .nil))) .nil)) (.cons (.lst (.cons (.tup (.cons (.neg (.int (1))) (.cons (.int (1)) .nil))) (.cons (.tup (.cons (.int (1)) (.cons (.int (1)) .nil))) .nil))) .nil))) (.cons (.lst (.cons (.lst (.cons (.tup (.cons (.int (0)) (.cons (.int (1)) .nil))) .nil)) (.cons (.lst (.cons (.tup (.cons (.neg (.int (1))) (.cons (.int (1)) .nil))) (.cons (.tup (.cons (.int (2)) (.cons (.int (1)) .nil))) .nil))) .nil))) .nil)))) .nil))) (.seq (.exp (.bm .append (.v 0) (.cons (.tup (.cons (.lam 1 1 (.mth 1 (.mk 2 (.cons (.str "mean") (.cons .non .nil))) (.cons (.idx (.v 0) (.int (0))) (.cons (.idx (.v 0) (.int (1))) .nil)))) (.cons (.lst (.cons (.lst (.cons (.tup (.cons (.int (0)) (.cons (.int (1)) .nil))) .nil)) (.cons (.lst (.cons (.tup (.cons (.neg (.int (1))) (.cons (.int (1)) .nil))) (.cons (.tup (.cons (.int (2)) (.cons (.int (1)) .nil))) .nil))) .nil))) (.cons (.lst (.cons (.lst (.cons (.tup (.cons (.int (0)) (.cons (.int (1)) .nil))) .nil)) (.cons (.lst (.cons (.tup (.cons (.neg (.int (1))) (.cons (.int (1)) .nil))) (.cons (.tup (.cons (.int (1)) (.cons (.int (1)) .nil))) .nil))) .nil))) .nil)))) .nil))) (.seq (.exp (.bm .append (.v 0) (.cons (.tup (.cons (.lam 1 1 (.mth 1 (.mk 2 (.cons (.str "short") (.cons (.int (0)) .nil))) (.cons (.idx (.v 0) (.int (0))) (.cons (.idx (.v 0) (.int (1))) .nil)))) (.cons (.lst (.cons (.lst (.cons (.tup (.cons (.neg (.int (1))) (.cons (.int (1)) .nil))) (.cons (.tup (.cons (.int (1)) (.cons (.int (1)) .nil))) .nil))) (.cons (.lst (.cons (.tup (.cons (.int (0)) (.cons (.int (1)) .nil))) .nil)) .nil))) (.cons (.lst (.cons (.lst (.cons (.tup (.cons (.int (0)) (.cons (.int (1)) .nil))) (.cons (.tup (.cons (.int (1)) (.cons (.int (1)) .nil))) .nil))) (.cons (.lst (.cons (.tup (.cons (.int (0)) (.cons (.int (1)) .nil))) .nil)) .nil))) .nil)))) .nil))) (.seq (.exp (.bm .append (.v 0) (.cons (.tup (.cons (.lam 1 1 (.mth 1 (.mk 3 .nil) (.cons (.idx (.v 0) (.int (0))) (.cons (.idx (.v 0) (.int (1))) .nil)))) (.cons (.lst (.cons (.lst (.cons (.int (0)) (.cons (.int (0)) .nil))) (.cons (.lst (.cons (.tup (.cons (.str "split") (.cons (.int (0)) (.cons (.neg (.int (1))) (.cons (.int (1)) .nil))))) .nil)) .nil))) (.cons (.lst (.cons (.lst (.cons (.int (0)) (.cons (.int (1)) .nil))) (.cons (.lst (.cons (.tup (.cons (.str "split") (.cons (.int (0)) (.cons (.neg (.int (1))) (.cons (.int (1)) .nil))))) .nil)) .nil))) .nil)))) .nil))) (.seq (.ret (.v 0)) .nil))))))))))))))))))))⟩
/-- _law_rows_two: [_law_rows, _law_some] -/
def fn60 : FnI := ⟨0, 2, (.seq (.asg 0 (.lst .nil)) (.seq (.exp (.bm .append (.v 0) (.cons (.tup (.cons (.lam 1 1 (.mth 1 (.mk 4 (.cons (.int (0)) .nil)) (.cons (.idx (.v 0) (.int (0))) (.cons (.idx (.v 0) (.int (1))) .nil)))) (.cons (.lst (.cons (.lst (.cons (.int (0)) (.cons (.int (1)) .nil))) (.cons (.lst (.cons (.tup (.cons (.str "split") (.cons (.int (0)) (.cons (.neg (.int (1))) (.cons (.int (1)) .nil))))) .nil)) .nil))) (.cons (.lst (.cons (.lst (.cons (.int (0)) (.cons (.int (0)) .nil))) (.cons (.lst (.cons (.tup (.cons (.str "split") (.cons (.int (0)) (.cons (.neg (.int (1))) (.cons (.int (1)) .nil))))) .nil)) .nil))) .nil)))) .nil))) (.seq (.ret (.v 0)) .nil)))⟩
/-- law: [_law_script, _law_rows, _law_begin, _law_ask, _law_first, _law_second] -/
def fn61 : FnI := ⟨1, 6, (.seq (.asg 0 (.sli (.v 0) .nil (.cons (.int (63)) .nil))) (.seq (.asg 1 (.bin .Add (.cal 59 .nil) (.cal 60 .nil))) (.seq (.asg 2 (.bin .Mod (.blt .abs (.cons (.cal 54 (.cons (.v 0) (.cons (.int (0)) .nil))) .nil)) (.blt .len (.cons (.v 1) .nil)))) (.seq (.forS (.tup (.cons (.v 3) (.cons (.v 4) (.cons (.v 5) .nil)))) (.sq (.bin .Add (.sli (.v 1) (.cons (.v 2) .nil) .nil) (.sli (.v 1) .nil (.cons (.v 2) .nil)))) (.seq (.ife (.not (.cal 58 (.cons (.v 3) (.cons (.v 4) (.cons (.v 5) .nil))))) (.seq (.ret (.bl false)) .nil) .nil) .nil)) (.seq (.ret (.bl true)) .nil)))))⟩
def Tl : Tb where
  fns := [fn0, fn1, fn2, fn3, fn4, fn5, fn6, fn7, fn8, fn9, fn10, fn11, fn12, fn13, fn14, fn15, fn16, fn17, fn18, fn19, fn20, fn21, fn22, fn23, fn24, fn25, fn26, fn27, fn28, fn29, fn30, fn31, fn32, fn33, fn34, fn35, fn36, fn37, fn38, fn39, fn40, fn41, fn42, fn43, fn44, fn45, fn46, fn47, fn48, fn49, fn50, fn51, fn52, fn53, fn54, fn55, fn56, fn57, fn58, fn59, fn60, fn61]
  init := [none, (some 34), (some 36), none, (some 39)]
  met := [[none, none], [(some 34), (some 35)], [(some 36), (some 37)], [none, (some 38)], [(some 39), (some 40)]]
  sub := [[true, false, false, false, false], [true, true, false, false, false], [true, false, true, false, false], [true, false, false, true, false], [true, false, false, false, true]]
  xsub := [[true, false, false, false, false, false, false, false, false, false, true], [true, true, false, false, false, false, false, false, false, false, true], [true, false, true, false, false, false, false, false, false, false, true], [true, false, false, true, false, false, false, false, false, false, true], [true, false, false, false, true, false, false, false, false, false, true], [true, false, false, false, false, true, false, false, false, false, true], [true, false, false, false, false, false, true, false, false, false, true], [true, false, false, false, false, false, false, true, false, false, true], [true, false, false, false, false, false, false, false, true, false, true], [true, false, false, false, false, false, false, false, false, true, true]]
  tks := [none, none, none, none, none, none, none, none, none, none, none, none, none, none, none, none, none, none, none, none, none, none, none, none, none, none, none, none, none, none, none, none, none, none, none, none, none, none, none, none, none, none, none, none, none, none, none, none, none, none, none, none, none, none, none, none, none, none, none, none, none, none]
end WL

namespace WL
open PySem
def Hr : Hm := [.lst [(.tup [(.cod 1 1 (.cal 22 (.cons (.idx (.v 0) (.int (0))) .nil))), (.ref 2), (.ref 4)]), (.tup [(.cod 1 1 (.cal 23 (.cons (.idx (.v 0) (.int (0))) (.cons (.int (1)) .nil)))), (.ref 6), (.ref 8)]), (.tup [(.cod 1 1 (.cal 25 (.cons (.idx (.v 0) (.int (0))) (.cons (.idx (.v 0) (.int (1))) (.cons (.tup (.cons (.int (1)) (.cons (.int (3)) .nil))) .nil))))), (.ref 11), (.ref 14)]), (.tup [(.cod 1 1 (.cal 25 (.cons (.idx (.v 0) (.int (0))) (.cons (.idx (.v 0) (.int (1))) (.cons (.tup (.cons (.int (1)) (.cons (.int (3)) .nil))) .nil))))), (.ref 17), (.ref 20)]), (.tup [(.cod 1 1 (.cal 26 (.cons (.idx (.v 0) (.int (0))) (.cons (.idx (.v 0) (.int (1))) .nil)))), (.ref 23), (.ref 26)]), (.tup [(.cod 1 1 (.cal 26 (.cons (.idx (.v 0) (.int (0))) (.cons (.idx (.v 0) (.int (1))) .nil)))), (.ref 29), (.ref 32)]), (.tup [(.cod 1 1 (.fld (.cal 53 (.cons (.idx (.v 0) (.int (0))) (.cons (.idx (.v 0) (.int (1))) .nil))) 0)), (.ref 35), (.ref 38)]), (.tup [(.cod 1 1 (.isi (.cal 53 (.cons (.idx (.v 0) (.int (0))) (.cons (.idx (.v 0) (.int (1))) .nil))) (.own 1))), (.ref 41), (.ref 44)]), (.tup [(.cod 1 1 (.cal 44 (.cons (.idx (.v 0) (.int (0))) (.cons (.int (4)) .nil)))), (.ref 46), (.ref 48)]), (.tup [(.cod 1 1 (.cal 45 (.cons (.idx (.v 0) (.int (0))) (.cons (.int (4)) (.cons (.int (0)) .nil))))), (.ref 50), (.ref 52)]), (.tup [(.cod 1 1 (.cal 46 (.cons (.idx (.v 0) (.int (0))) (.cons (.int (4)) (.cons (.idx (.v 0) (.int (1))) .nil))))), (.ref 55), (.ref 58)]), (.tup [(.cod 1 1 (.cal 46 (.cons (.idx (.v 0) (.int (0))) (.cons (.int (4)) (.cons (.idx (.v 0) (.int (1))) .nil))))), (.ref 61), (.ref 64)]), (.tup [(.cod 1 1 (.isi (.cal 48 (.cons (.idx (.v 0) (.int (0))) (.cons (.idx (.v 0) (.int (1))) .nil))) (.own 3))), (.ref 67), (.ref 70)]), (.tup [(.cod 1 1 (.isi (.cal 48 (.cons (.idx (.v 0) (.int (0))) (.cons (.idx (.v 0) (.int (1))) .nil))) (.own 3))), (.ref 73), (.ref 76)]), (.tup [(.cod 1 1 (.mth 1 (.mk 1 (.cons (.lst (.cons (.lst (.cons (.tup (.cons (.int (1)) (.cons (.int (2)) .nil))) (.cons (.tup (.cons (.int (1)) (.cons (.int (2)) .nil))) .nil))) .nil)) .nil)) (.cons (.idx (.v 0) (.int (0))) (.cons (.idx (.v 0) (.int (1))) .nil)))), (.ref 79), (.ref 82)]), (.tup [(.cod 1 1 (.mth 1 (.mk 2 (.cons (.str "mean") (.cons .non .nil))) (.cons (.idx (.v 0) (.int (0))) (.cons (.idx (.v 0) (.int (1))) .nil)))), (.ref 85), (.ref 88)]), (.tup [(.cod 1 1 (.mth 1 (.mk 2 (.cons (.str "short") (.cons (.int (0)) .nil))) (.cons (.idx (.v 0) (.int (0))) (.cons (.idx (.v 0) (.int (1))) .nil)))), (.ref 91), (.ref 94)]), (.tup [(.cod 1 1 (.mth 1 (.mk 3 .nil) (.cons (.idx (.v 0) (.int (0))) (.cons (.idx (.v 0) (.int (1))) .nil)))), (.ref 97), (.ref 100)])],
  .lst [(.tup [(.int (0)), (.int (1))]), (.tup [(.int (2)), (.int (1))])],
  .lst [(.ref 1)],
  .lst [(.tup [(.int (0)), (.int (1))]), (.tup [(.int (4)), (.int (1))])],
  .lst [(.ref 3)],
  .lst [(.tup [(.int (0)), (.int (1))]), (.tup [(.int (2)), (.int (1))])],
  .lst [(.ref 5)],
  .lst [(.tup [(.int (1)), (.int (1))]), (.tup [(.int (2)), (.int (1))])],
  .lst [(.ref 7)],
  .lst [(.tup [(.int (0)), (.int (1))])],
  .lst [(.tup [(.int (2)), (.int (1))])],
  .lst [(.ref 9), (.ref 10)],
  .lst [(.tup [(.int (0)), (.int (1))])],
  .lst [(.tup [(.int (3)), (.int (1))])],
  .lst [(.ref 12), (.ref 13)],
  .lst [(.tup [(.int (0)), (.int (1))])],
  .lst [(.tup [(.int (2)), (.int (1))])],
  .lst [(.ref 15), (.ref 16)],
  .lst [(.tup [(.int (1)), (.int (1))])],
  .lst [(.tup [(.int (2)), (.int (1))])],
  .lst [(.ref 18), (.ref 19)],
  .lst [(.tup [(.int (0)), (.int (1))])],
  .lst [(.tup [(.int (2)), (.int (1))])],
  .lst [(.ref 21), (.ref 22)],
  .lst [(.tup [(.int (0)), (.int (1))])],
  .lst [(.tup [(.int (3)), (.int (1))])],
  .lst [(.ref 24), (.ref 25)],
  .lst [(.tup [(.int (0)), (.int (1))])],
  .lst [(.tup [(.int (2)), (.int (1))])],
  .lst [(.ref 27), (.ref 28)],
  .lst [(.tup [(.int (1)), (.int (1))])],
  .lst [(.tup [(.int (2)), (.int (1))])],
  .lst [(.ref 30), (.ref 31)],
  .lst [(.tup [(.int (0)), (.int (1))])],
  .lst [(.tup [(.int (-1)), (.int (1))]), (.tup [(.int (1)), (.int (1))])],
  .lst [(.ref 33), (.ref 34)],
  .lst [(.tup [(.int (0)), (.int (1))])],
  .lst [(.tup [(.int (-2)), (.int (2))]), (.tup [(.int (4)), (.int (1))])],
  .lst [(.ref 36), (.ref 37)],
  .lst [(.tup [(.int (0)), (.int (1))])],
  .lst [(.tup [(.int (-1)), (.int (1))]), (.tup [(.int (1)), (.int (1))])],
  .lst [(.ref 39), (.ref 40)],
  .lst [(.tup [(.int (1)), (.int (1))])],
  .lst [(.tup [(.int (-1)), (.int (1))]), (.tup [(.int (1)), (.int (1))])],
  .lst [(.ref 42), (.ref 43)],
  .lst [(.int (1)), (.int (1)), (.int (1))],
  .lst [(.ref 45)],
  .lst [(.int (1)), (.int (1)), (.int (4))],
  .lst [(.ref 47)],
  .lst [(.int (1)), (.int (1)), (.int (1))],
  .lst [(.ref 49)],
  .lst [(.int (1)), (.int (1)), (.int (4))],
  .lst [(.ref 51)],
  .lst [(.int (1)), (.int (1)), (.int (1))],
  .lst [(.int (1)), (.int (1)), (.int (1))],
  .lst [(.ref 53), (.ref 54)],
  .lst [(.int (1)), (.int (1)), (.int (1))],
  .lst [(.int (0)), (.int (1)), (.int (2))],
  .lst [(.ref 56), (.ref 57)],
  .lst [(.int (1)), (.int (1)), (.int (4))],
  .lst [(.int (1)), (.int (1)), (.int (4))],
  .lst [(.ref 59), (.ref 60)],
  .lst [(.int (0)), (.int (2)), (.int (4))],
  .lst [(.int (0)), (.int (2)), (.int (4))],
  .lst [(.ref 62), (.ref 63)],
  .lst [(.int (0)), (.int (0))],
  .lst [(.tup [(.str "split"), (.int (0)), (.int (-1)), (.int (1))])],
  .lst [(.ref 65), (.ref 66)],
  .lst [(.int (0)), (.int (1))],
  .lst [(.tup [(.str "split"), (.int (0)), (.int (-1)), (.int (1))])],
  .lst [(.ref 68), (.ref 69)],
  .lst [(.int (0)), (.int (0))],
  .lst [(.tup [(.str "split"), (.int (0)), (.int (-1)), (.int (1))])],
  .lst [(.ref 71), (.ref 72)],
  .lst [(.int (0)), (.int (0))],
  .lst [(.tup [(.str "split"), (.int (0)), (.int (-2)), (.int (1))])],
  .lst [(.ref 74), (.ref 75)],
  .lst [(.tup [(.int (0)), (.int (1))])],
  .lst [(.tup [(.int (-1)), (.int (1))]), (.tup [(.int (1)), (.int (1))])],
  .lst [(.ref 77), (.ref 78)],
  .lst [(.tup [(.int (0)), (.int (1))])],
  .lst [(.tup [(.int (-1)), (.int (1))]), (.tup [(.int (2)), (.int (1))])],
  .lst [(.ref 80), (.ref 81)],
  .lst [(.tup [(.int (0)), (.int (1))])],
  .lst [(.tup [(.int (-1)), (.int (1))]), (.tup [(.int (2)), (.int (1))])],
  .lst [(.ref 83), (.ref 84)],
  .lst [(.tup [(.int (0)), (.int (1))])],
  .lst [(.tup [(.int (-1)), (.int (1))]), (.tup [(.int (1)), (.int (1))])],
  .lst [(.ref 86), (.ref 87)],
  .lst [(.tup [(.int (-1)), (.int (1))]), (.tup [(.int (1)), (.int (1))])],
  .lst [(.tup [(.int (0)), (.int (1))])],
  .lst [(.ref 89), (.ref 90)],
  .lst [(.tup [(.int (0)), (.int (1))]), (.tup [(.int (1)), (.int (1))])],
  .lst [(.tup [(.int (0)), (.int (1))])],
  .lst [(.ref 92), (.ref 93)],
  .lst [(.int (0)), (.int (0))],
  .lst [(.tup [(.str "split"), (.int (0)), (.int (-1)), (.int (1))])],
  .lst [(.ref 95), (.ref 96)],
  .lst [(.int (0)), (.int (1))],
  .lst [(.tup [(.str "split"), (.int (0)), (.int (-1)), (.int (1))])],
  .lst [(.ref 98), (.ref 99)],
  .lst [(.tup [(.cod 1 1 (.mth 1 (.mk 4 (.cons (.int (0)) .nil)) (.cons (.idx (.v 0) (.int (0))) (.cons (.idx (.v 0) (.int (1))) .nil)))), (.ref 104), (.ref 107)])],
  .lst [(.int (0)), (.int (1))],
  .lst [(.tup [(.str "split"), (.int (0)), (.int (-1)), (.int (1))])],
  .lst [(.ref 102), (.ref 103)],
  .lst [(.int (0)), (.int (0))],
  .lst [(.tup [(.str "split"), (.int (0)), (.int (-1)), (.int (1))])],
  .lst [(.ref 105), (.ref 106)],
  .lst [(.tup [(.cod 1 1 (.cal 22 (.cons (.idx (.v 0) (.int (0))) .nil))), (.ref 2), (.ref 4)]), (.tup [(.cod 1 1 (.cal 23 (.cons (.idx (.v 0) (.int (0))) (.cons (.int (1)) .nil)))), (.ref 6), (.ref 8)]), (.tup [(.cod 1 1 (.cal 25 (.cons (.idx (.v 0) (.int (0))) (.cons (.idx (.v 0) (.int (1))) (.cons (.tup (.cons (.int (1)) (.cons (.int (3)) .nil))) .nil))))), (.ref 11), (.ref 14)]), (.tup [(.cod 1 1 (.cal 25 (.cons (.idx (.v 0) (.int (0))) (.cons (.idx (.v 0) (.int (1))) (.cons (.tup (.cons (.int (1)) (.cons (.int (3)) .nil))) .nil))))), (.ref 17), (.ref 20)]), (.tup [(.cod 1 1 (.cal 26 (.cons (.idx (.v 0) (.int (0))) (.cons (.idx (.v 0) (.int (1))) .nil)))), (.ref 23), (.ref 26)]), (.tup [(.cod 1 1 (.cal 26 (.cons (.idx (.v 0) (.int (0))) (.cons (.idx (.v 0) (.int (1))) .nil)))), (.ref 29), (.ref 32)]), (.tup [(.cod 1 1 (.fld (.cal 53 (.cons (.idx (.v 0) (.int (0))) (.cons (.idx (.v 0) (.int (1))) .nil))) 0)), (.ref 35), (.ref 38)]), (.tup [(.cod 1 1 (.isi (.cal 53 (.cons (.idx (.v 0) (.int (0))) (.cons (.idx (.v 0) (.int (1))) .nil))) (.own 1))), (.ref 41), (.ref 44)]), (.tup [(.cod 1 1 (.cal 44 (.cons (.idx (.v 0) (.int (0))) (.cons (.int (4)) .nil)))), (.ref 46), (.ref 48)]), (.tup [(.cod 1 1 (.cal 45 (.cons (.idx (.v 0) (.int (0))) (.cons (.int (4)) (.cons (.int (0)) .nil))))), (.ref 50), (.ref 52)]), (.tup [(.cod 1 1 (.cal 46 (.cons (.idx (.v 0) (.int (0))) (.cons (.int (4)) (.cons (.idx (.v 0) (.int (1))) .nil))))), (.ref 55), (.ref 58)]), (.tup [(.cod 1 1 (.cal 46 (.cons (.idx (.v 0) (.int (0))) (.cons (.int (4)) (.cons (.idx (.v 0) (.int (1))) .nil))))), (.ref 61), (.ref 64)]), (.tup [(.cod 1 1 (.isi (.cal 48 (.cons (.idx (.v 0) (.int (0))) (.cons (.idx (.v 0) (.int (1))) .nil))) (.own 3))), (.ref 67), (.ref 70)]), (.tup [(.cod 1 1 (.isi (.cal 48 (.cons (.idx (.v 0) (.int (0))) (.cons (.idx (.v 0) (.int (1))) .nil))) (.own 3))), (.ref 73), (.ref 76)]), (.tup [(.cod 1 1 (.mth 1 (.mk 1 (.cons (.lst (.cons (.lst (.cons (.tup (.cons (.int (1)) (.cons (.int (2)) .nil))) (.cons (.tup (.cons (.int (1)) (.cons (.int (2)) .nil))) .nil))) .nil)) .nil)) (.cons (.idx (.v 0) (.int (0))) (.cons (.idx (.v 0) (.int (1))) .nil)))), (.ref 79), (.ref 82)]), (.tup [(.cod 1 1 (.mth 1 (.mk 2 (.cons (.str "mean") (.cons .non .nil))) (.cons (.idx (.v 0) (.int (0))) (.cons (.idx (.v 0) (.int (1))) .nil)))), (.ref 85), (.ref 88)]), (.tup [(.cod 1 1 (.mth 1 (.mk 2 (.cons (.str "short") (.cons (.int (0)) .nil))) (.cons (.idx (.v 0) (.int (0))) (.cons (.idx (.v 0) (.int (1))) .nil)))), (.ref 91), (.ref 94)]), (.tup [(.cod 1 1 (.mth 1 (.mk 3 .nil) (.cons (.idx (.v 0) (.int (0))) (.cons (.idx (.v 0) (.int (1))) .nil)))), (.ref 97), (.ref 100)]), (.tup [(.cod 1 1 (.mth 1 (.mk 4 (.cons (.int (0)) .nil)) (.cons (.idx (.v 0) (.int (0))) (.cons (.idx (.v 0) (.int (1))) .nil)))), (.ref 104), (.ref 107)])]]
def isOkW (w : W) : Bool := match w with
  | .tup [c, a, b] => (match callM Tl 39 58 [c, a, b] Hr with
    | .ok (.bl true) _ => true
    | _ => false)
  | _ => false
def rowAt (i : Nat) : W := match Hr[Hr.length - 1]? with
  | some (.lst l) => l.getD i .non
  | _ => .non
end WL

namespace WL
open PySem
def dA : S := .seq (.par [3, 4] (.cons (.cal 55 (.cons (.v 1) .nil)) (.cons (.lst .nil) .nil))) (.seq (.forS (.v 5) (.sq (.tup (.cons (.v 1) (.cons (.v 2) .nil)))) (.seq (.exp (.bm .append (.v 4) (.cons (.tup (.cons (.v 5) (.cons (.cal 55 (.cons (.calv 0 (.cons (.cal 55 (.cons (.v 5) .nil)) .nil)) .nil)) .nil))) .nil))) .nil)) .nil)
def dI : E := .sq (.bin .Add (.v 4) (.v 4))
def dT : E := .tup (.cons (.v 5) (.cons (.v 6) .nil))
def dB : S := (.seq (.exp (.cal 56 (.cons (.v 3) (.cons (.v 5) .nil)))) (.seq (.forS (.v 7) (.rng (.cons (.int (2)) .nil)) (.seq (.asg 8 (.calv 0 (.cons (.v 3) .nil))) (.seq (.ife (.or (.cmp .NotEq (.v 3) (.v 5)) (.cmp .NotEq (.v 8) (.v 6))) (.seq (.ret (.bl false)) .nil) .nil) (.seq (.exp (.cal 57 (.cons (.v 8) .nil))) .nil)))) .nil))
def stepB (r i : Nat) (f : F) (h : Hm) : RS := match ((It.seq (.ref r)).item i h).bind fun w => bindT dT w f with
  | none => .bad
  | some f1 => exec (cbM Tl 38) dB f1 h
theorem step_forL {r m i : Nat} {f f2 : F} {h h2 : Hm} (e : stepB r i f h = .nx f2 h2) : forL (exec (cbM Tl 38) dB) (bindT dT) (.seq (.ref r)) (m + 1) i f h = forL (exec (cbM Tl 38) dB) (bindT dT) (.seq (.ref r)) m (i + 1) f2 h2 := by
  unfold stepB at e
  show (match ((It.seq (.ref r)).item i h).bind fun w => bindT dT w f with
    | none => RS.bad
    | some f1 => match exec (cbM Tl 38) dB f1 h with
      | .nx f2 h2 => forL (exec (cbM Tl 38) dB) (bindT dT) (.seq (.ref r)) m (i + 1) f2 h2
      | .ct f2 h2 => forL (exec (cbM Tl 38) dB) (bindT dT) (.seq (.ref r)) m (i + 1) f2 h2
      | .bk f2 h2 => .nx f2 h2
      | r => r) = _
  split at e
  · cases e
  · next f1 ef => rw [e]
theorem body58 : fn58.body = .seq (.par [3, 4] (.cons (.cal 55 (.cons (.v 1) .nil)) (.cons (.lst .nil) .nil))) (.seq (.forS (.v 5) (.sq (.tup (.cons (.v 1) (.cons (.v 2) .nil)))) (.seq (.exp (.bm .append (.v 4) (.cons (.tup (.cons (.v 5) (.cons (.cal 55 (.cons (.calv 0 (.cons (.cal 55 (.cons (.v 5) .nil)) .nil)) .nil)) .nil))) .nil))) .nil)) (.seq (.forS dT dI dB) (.seq (.ret (.bl true)) .nil))) := rfl
theorem seq_two {C : Cb} {a b : S} {f f1 : F} {h h1 : Hm} (r : S) (e : exec C (.seq a (.seq b .nil)) f h = .nx f1 h1) : exec C (.seq a (.seq b r)) f h = exec C r f1 h1 := by
  rw [exec_seq] at e ⊢
  split at e
  · next f2 h2 e2 =>
    show exec C (.seq b r) f2 h2 = _
    rw [exec_seq] at e ⊢
    split at e
    · next f3 h3 e3 =>
      cases e
      rfl
    · next x e3 => exact absurd e (e3 _ _)
  · next x e2 => exact absurd e (e2 _ _)
theorem door_of {c : W} {x y r : Nat} {hs hA hB h1 h2 h3 h4 : Hm} {fA f1 f2 f3 f4 : F} (eA : exec (cbM Tl 38) dA [some c, some (.ref x), some (.ref y), none, none, none, none, none, none] hs = .nx fA hA)
    (eB : evI (cbM Tl 38) dI fA hA = .ok (.seq (.ref r)) hB) (eL : (It.seq (.ref r)).len hB = some 4) (e1 : stepB r 0 fA hB = .nx f1 h1) (e2 : stepB r 1 f1 h1 = .nx f2 h2) (e3 : stepB r 2 f2 h2 = .nx f3 h3) (e4 : stepB r 3 f3 h3 = .nx f4 h4) (eS : (It.seq (.ref r)).stop 4 h4 = true) :
    callM Tl 39 58 [c, .ref x, .ref y] hs = .ok (.bl true) h4 := by
  show runF (cbM Tl 38) 58 [c, .ref x, .ref y] hs = _
  have e : (cbM Tl 38).tb.fns[58]? = some fn58 := by rw [cbM_tb]; rfl
  unfold runF
  rw [e]
  show (match exec (cbM Tl 38) fn58.body [some c, some (.ref x), some (.ref y), none, none, none, none, none, none] hs with
      | .rt w h1 => R.ok w h1
      | .nx _ h1 => .ok .non h1
      | .ex c _ h1 => .exc c h1
      | _ => .bad) = _
  have z : exec (cbM Tl 38) fn58.body [some c, some (.ref x), some (.ref y), none, none, none, none, none, none] hs = .rt (.bl true) h4 := by
    rw [body58, seq_two _ eA, exec_seq]
    have ef : exec (cbM Tl 38) (.forS dT dI dB) fA hA = .nx f4 h4 := by
      show (evI _ _ _ _).asS _ _ = _
      rw [eB]
      show (match (It.seq (.ref r)).len hB with | some n => forL _ _ _ n 0 _ _ | none => RS.bad) = _
      rw [eL]
      show forL (exec (cbM Tl 38) dB) (bindT dT) (.seq (.ref r)) (3 + 1) 0 fA hB = _
      rw [step_forL e1, step_forL (m := 2) e2, step_forL (m := 1) e3, step_forL (m := 0) e4]
      show (if (It.seq (.ref r)).stop 4 h4 = true then RS.nx f4 h4 else .bad) = _
      rw [if_pos eS]
    rw [ef]
    rfl
  rw [z]
end WL

namespace WL
open PySem
/-! a run in parts, each in a heap from which is dropped what nothing holds -/
/-- a state (frame g, values vs, heap H), behind a start in the heap H0 with the map q0, is alike to (f, ws, h) -/
def Gst (q0 : List Nat) (H0 : Hm) (f : F) (ws : List W) (h : Hm) (g : F) (vs : List W) (H : Hm) : Prop := ∃ q, Sim q h H ∧ RF q f g ∧ RWs q ws vs ∧ (∀ (i a : Nat), q0[i]? = some a → q[i]? = some a) ∧ (∀ (i a : Nat), q[i]? = some a → (∃ j : Nat, q0[j]? = some a) ∨ H0.length ≤ a) ∧ H0.length ≤ H.length ∧ ∀ a : Nat, a < H0.length → (∀ j : Nat, q0[j]? ≠ some a) → H[a]? = H0[a]?
theorem Gst.start {q0 : List Nat} {h H0 : Hm} {f g : F} {ws vs : List W} (S : Sim q0 h H0) (hf : RF q0 f g) (hw : RWs q0 ws vs) : Gst q0 H0 f ws h g vs H0 := ⟨q0, S, hf, hw, fun _ _ h => h, fun i a h => .inl ⟨i, h⟩, Nat.le_refl _, fun _ _ _ => rfl⟩
def rfB (p : List Nat) : F → F → Bool
  | [], [] => true
  | none :: r, _ :: s => rfB p r s
  | some w :: r, some v :: s => rwB p 9 w v && rfB p r s
  | _, _ => false
theorem rfB_ok {p : List Nat} : ∀ {f g : F}, rfB p f g = true → RF p f g
  | [], [], _ => ⟨rfl, fun i w h => by simp at h⟩
  | [], _ :: _, h => by cases h
  | o :: r, [], h => by cases o <;> cases h
  | none :: r, o :: s, h => by
    obtain ⟨l, k⟩ := rfB_ok (f := r) (g := s) h
    refine ⟨by rw [List.length_cons, List.length_cons, l], fun i w hi => ?_⟩
    cases i with
    | zero => simp at hi
    | succ i => exact k i w (by simpa using hi)
  | some w :: r, none :: s, h => by cases h
  | some w :: r, some v :: s, h => by
    have h : (rwB p 9 w v && rfB p r s) = true := h
    rw [Bool.and_eq_true] at h
    obtain ⟨l, k⟩ := rfB_ok (f := r) (g := s) h.2
    refine ⟨by rw [List.length_cons, List.length_cons, l], fun i u hi => ?_⟩
    cases i with
    | zero =>
      simp at hi
      subst hi
      exact ⟨v, rfl, rwB_ok 9 _ _ h.1⟩
    | succ i => exact k i u (by simpa using hi)
theorem RF.comp {q q' : List Nat} {f g k : F} (a : RF q f g) (b : RF q' g k) : RF (WL.comp q q') f k := by
  refine ⟨a.1.trans b.1, fun i w hi => ?_⟩
  obtain ⟨v, h1, h2⟩ := a.2 i w hi
  obtain ⟨u, h3, h4⟩ := b.2 i v h1
  exact ⟨u, h3, h2.comp h4⟩
def startB (n : Nat) (p : List Nat) : Bool := (List.range n).all fun i => decide (p[i]? = some i)
/-- what is dropped: a state (f2, w2, h2) is laid out anew as (f3, w3, h3), the first n objects in place -/
structure Gc (n : Nat) (p : List Nat) (f3 : F) (w3 : List W) (h3 : Hm) (f2 : F) (w2 : List W) (h2 : Hm) : Prop where
  S : Sim p h3 h2
  f : RF p f3 f2
  w : RWs p w3 w2
  st : ∀ i : Nat, i < n → p[i]? = some i
theorem gc_of {n : Nat} {p : List Nat} {f3 f2 : F} {w3 w2 : List W} {h3 h2 : Hm} (z : (simO p h2 p h3 && (upB p && (rfB p f3 f2 && (eqLb (rwB p 9) w3 w2 && startB n p)))) = true) : Gc n p f3 w3 h3 f2 w2 h2 := by
  simp only [Bool.and_eq_true] at z
  refine ⟨sim_of z.1 z.2.1, rfB_ok z.2.2.1, rwL_ok (rwB_ok 9) z.2.2.2.1, fun i hi => ?_⟩
  have k := z.2.2.2.2
  unfold startB at k
  rw [List.all_eq_true] at k
  exact of_decide_eq_true (k i (List.mem_range.mpr hi))
theorem Gst.gc {n : Nat} {p q0 : List Nat} {H0 H : Hm} {f3 f2 g : F} {w3 w2 vs : List W} {h3 h2 : Hm} (hn : q0.length = n) (z : Gc n p f3 w3 h3 f2 w2 h2) (G : Gst q0 H0 f2 w2 h2 g vs H) : Gst q0 H0 f3 w3 h3 g vs H := by
  obtain ⟨q, S, hf, hw, k1, k2, k3, k4⟩ := G
  have at_ : ∀ (i b : Nat), (WL.comp p q)[i]? = some b → ∃ a, p[i]? = some a ∧ q[a]? = some b := fun i b hi => by
    unfold WL.comp at hi
    rw [List.getElem?_map] at hi
    cases pi : p[i]? with
    | none => rw [pi] at hi; cases hi
    | some a =>
      rw [pi] at hi
      have nl : i < h3.length := z.S.len ▸ (List.getElem?_eq_some_iff.mp pi).1
      obtain ⟨o1, k1, _⟩ := z.S.obj i a _ pi (List.getElem?_eq_getElem nl)
      have al : a < q.length := by rw [S.len]; exact (List.getElem?_eq_some_iff.mp k1).1
      have hi : some (q.getD a 0) = some b := hi
      rw [List.getD_eq_getElem?_getD, List.getElem?_eq_getElem al] at hi
      exact ⟨a, rfl, by rw [List.getElem?_eq_getElem al]; exact hi⟩
  refine ⟨WL.comp p q, z.S.comp S, z.f.comp hf, z.w.comp hw, fun i a hi => ?_, fun i a hi => ?_, k3, k4⟩
  · exact comp_get (z.st i (by rw [← hn]; exact (List.getElem?_eq_some_iff.mp hi).1)) (k1 i a hi)
  · obtain ⟨b, h1, h2⟩ := at_ i a hi
    exact k2 b a h2
theorem Gst.grow {q0 : List Nat} {H0 H H2 : Hm} {f g f2 g2 : F} {ws vs w2 v2 : List W} {h h2 : Hm} {q q2 : List Nat} (S2 : Sim q2 h2 H2) (gr : Gro q H q2 H2) (k1 : ∀ (i a : Nat), q0[i]? = some a → q[i]? = some a) (k2 : ∀ (i a : Nat), q[i]? = some a → (∃ j : Nat, q0[j]? = some a) ∨ H0.length ≤ a) (k3 : H0.length ≤ H.length) (k4 : ∀ a : Nat, a < H0.length → (∀ j : Nat, q0[j]? ≠ some a) → H[a]? = H0[a]?)
    (hf : RF q2 f2 g2) (hw : RWs q2 w2 v2) : Gst q0 H0 f2 w2 h2 g2 v2 H2 := by
  refine ⟨q2, S2, hf, hw, fun i a hi => gr.rho i a (k1 i a hi), fun i a hi => ?_, Nat.le_trans k3 gr.len, fun a ha hn => ?_⟩
  · rcases gr.fresh i a hi with ⟨m, hm⟩ | y
    · exact k2 m a hm
    · exact .inr (Nat.le_trans k3 y)
  · rw [gr.keep a (fun n z => ?_) (Nat.lt_of_lt_of_le ha k3), k4 a ha hn]
    rcases k2 n a z with ⟨j, hj⟩ | y
    · exact hn j hj
    · omega
theorem Gst.exec {q0 : List Nat} {H0 H : Hm} {f g f2 : F} {ws vs : List W} {h h2 : Hm} {s : S} (G : Gst q0 H0 f ws h g vs H) (e : exec (cbM Tl 38) s f h = .nx f2 h2) : ∃ g2 H2, WL.exec (cbM Tl 38) s g H = .nx g2 H2 ∧ Gst q0 H0 f2 ws h2 g2 vs H2 := by
  obtain ⟨q, S, hf, hw, k1, k2, k3, k4⟩ := G
  have z := exec_loc (cb_loc Tl 38).1 s q f g h H hf S
  rw [e] at z
  obtain ⟨q2, g2, H2, e2, gr, S2, hf2⟩ := z
  exact ⟨g2, H2, e2, Gst.grow (h := h) (g := g) (f := f) (ws := ws) (vs := vs) S2 gr k1 k2 k3 k4 hf2 (hw.ext gr.rho)⟩
theorem Gst.it {q0 : List Nat} {H0 H : Hm} {f g : F} {h h2 : Hm} {e : E} {r : Nat} (G : Gst q0 H0 f [] h g [] H) (z : evI (cbM Tl 38) e f h = .ok (.seq (.ref r)) h2) : ∃ r2 H2, evI (cbM Tl 38) e g H = .ok (.seq (.ref r2)) H2 ∧ Gst q0 H0 f [.ref r] h2 g [.ref r2] H2 := by
  obtain ⟨q, S, hf, hw, k1, k2, k3, k4⟩ := G
  have y := evI_loc e (cbM Tl 38) (cb_loc Tl 38).1 q f g h H hf S
  rw [z] at y
  obtain ⟨q2, J2, H2, e2, gr, S2, rj⟩ := y
  obtain ⟨w, rfl, r2, rfl, hr⟩ := rj
  exact ⟨r2, H2, e2, Gst.grow (h := h) (g := g) (f := f) (ws := []) (vs := []) S2 gr k1 k2 k3 k4 (hf.ext gr.rho) ⟨_, _, rfl, ⟨r2, rfl, hr⟩, rfl⟩⟩
theorem Gst.step {q0 : List Nat} {H0 H : Hm} {f g f2 : F} {r r2 i : Nat} {h h2 : Hm} (G : Gst q0 H0 f [.ref r] h g [.ref r2] H) (e : stepB r i f h = .nx f2 h2) : ∃ g2 H2, stepB r2 i g H = .nx g2 H2 ∧ Gst q0 H0 f2 [.ref r] h2 g2 [.ref r2] H2 := by
  obtain ⟨q, S, hf, hw, k1, k2, k3, k4⟩ := G
  have hr : RW q (.ref r) (.ref r2) := by obtain ⟨_, _, e, h1, _⟩ := hw; cases e; exact h1
  unfold stepB at e
  split at e
  · cases e
  · next f1 ef =>
    obtain ⟨g1, eg, hf1⟩ := next_loc S (J := .seq (.ref r)) (J' := .seq (.ref r2)) (show RIt q (.seq (.ref r)) (.seq (.ref r2)) from ⟨_, rfl, hr⟩) hf ef
    have z := exec_loc (cb_loc Tl 38).1 dB q f1 g1 h H hf1 S
    rw [e] at z
    obtain ⟨q2, g2, H2, e2, gr, S2, hf2⟩ := z
    refine ⟨g2, H2, ?_, Gst.grow (h := h) (g := g) (f := f) (ws := [.ref r]) (vs := [.ref r2]) S2 gr k1 k2 k3 k4 hf2 (hw.ext gr.rho)⟩
    unfold stepB
    rw [eg]
    exact e2
theorem Gst.len {q0 : List Nat} {H0 H : Hm} {f g : F} {r r2 n : Nat} {h : Hm} (G : Gst q0 H0 f [.ref r] h g [.ref r2] H) (e : (It.seq (.ref r)).len h = some n) : (It.seq (.ref r2)).len H = some n := by
  obtain ⟨q, S, hf, hw, _⟩ := G
  have hr : RW q (.ref r) (.ref r2) := by obtain ⟨_, _, e, h1, _⟩ := hw; cases e; exact h1
  exact len_loc S (J := .seq (.ref r)) (J' := .seq (.ref r2)) ⟨_, rfl, hr⟩ e
theorem Gst.stop {q0 : List Nat} {H0 H : Hm} {f g : F} {r r2 n : Nat} {h : Hm} (G : Gst q0 H0 f [.ref r] h g [.ref r2] H) (e : (It.seq (.ref r)).stop n h = true) : (It.seq (.ref r2)).stop n H = true := by
  obtain ⟨q, S, hf, hw, _⟩ := G
  have hr : RW q (.ref r) (.ref r2) := by obtain ⟨_, _, e, h1, _⟩ := hw; cases e; exact h1
  exact stop_loc S (J := .seq (.ref r)) (J' := .seq (.ref r2)) ⟨_, rfl, hr⟩ e
/-- at the end the start's heap is as it was -/
theorem Gst.keep {q0 : List Nat} {H0 H hs t : Hm} {f g : F} {ws vs : List W} (S0 : Sim q0 hs H0) (G : Gst q0 H0 f ws (hs ++ t) g vs H) : ∃ t', H = H0 ++ t' := by
  obtain ⟨q, S, hf, hw, k1, k2, k3, k4⟩ := G
  refine ext_of k3 fun a ha => ?_
  by_cases c : ∃ j : Nat, q0[j]? = some a
  · obtain ⟨n, hn⟩ := c
    have nl : n < hs.length := S0.len ▸ (List.getElem?_eq_some_iff.mp hn).1
    have ho : hs[n]? = some hs[n] := List.getElem?_eq_getElem nl
    obtain ⟨o1, y1, y2⟩ := S0.obj n a _ hn ho
    obtain ⟨o2, y3, y4⟩ := S.obj n a hs[n] (k1 n a hn) (by rw [List.getElem?_append_left nl]; exact ho)
    rw [y1, y3, (y2.ext k1).fn y4]
  · exact k4 a ha fun j z => c ⟨j, z⟩
theorem door_parts {c : W} {x y r r' n : Nat} {hs hA hA' hB hB' h1 h1' h2 h2' h3 h3' h4 t : Hm} {fA fA' fB' f1 f1' f2 f2' f3 f3' f4 : F} {r1 r2 r3 : Nat} {pA pB p1 p2 p3 : List Nat} (hn : hs.length = n) (eA : exec (cbM Tl 38) dA [some c, some (.ref x), some (.ref y), none, none, none, none, none, none] hs = .nx fA hA)
    (gA : Gc n pA fA' [] hA' fA [] hA) (eB : evI (cbM Tl 38) dI fA' hA' = .ok (.seq (.ref r)) hB) (gB : Gc n pB fB' [.ref r'] hB' fA' [.ref r] hB) (eL : (It.seq (.ref r')).len hB' = some 4)
    (e1 : stepB r' 0 fB' hB' = .nx f1 h1) (g1 : Gc n p1 f1' [.ref r1] h1' f1 [.ref r'] h1) (e2 : stepB r1 1 f1' h1' = .nx f2 h2) (g2 : Gc n p2 f2' [.ref r2] h2' f2 [.ref r1] h2) (e3 : stepB r2 2 f2' h2' = .nx f3 h3) (g3 : Gc n p3 f3' [.ref r3] h3' f3 [.ref r2] h3) (e4 : stepB r3 3 f3' h3' = .nx f4 h4)
    (eS : (It.seq (.ref r3)).stop 4 h4 = true) (eK : h4 = hs ++ t) {q0 : List Nat} {H0 : Hm} {vs : List W} (S0 : Sim q0 hs H0) (rv : RWs q0 [c, .ref x, .ref y] vs) (hc : ∀ v, RW q0 c v → v = c) : ∃ t', callM Tl 39 58 vs H0 = .ok (.bl true) (H0 ++ t') := by
  obtain ⟨v1, _, rfl, a1, v2, _, rfl, a2, v3, _, rfl, a3, rfl⟩ := rv
  have ec := hc v1 a1
  subst ec
  obtain ⟨x2, rfl, hx2⟩ := a2
  obtain ⟨y2, rfl, hy2⟩ := a3
  have hq : q0.length = n := S0.len.trans hn
  have G0 : Gst q0 H0 [some v1, some (.ref x), some (.ref y), none, none, none, none, none, none] [] hs [some v1, some (.ref x2), some (.ref y2), none, none, none, none, none, none] [] H0 := Gst.start S0 (RF.start (n := 6) (ws := [v1, .ref x, .ref y]) (vs := [v1, .ref x2, .ref y2]) ⟨_, _, rfl, a1, _, _, rfl, ⟨x2, rfl, hx2⟩, _, _, rfl, ⟨y2, rfl, hy2⟩, rfl⟩) rfl
  obtain ⟨gA2, HA, eA2, GA⟩ := G0.exec eA
  obtain ⟨rB, HB, eB2, GB⟩ := (GA.gc hq gA).it eB
  have GB' := GB.gc hq gB
  have eL2 := GB'.len eL
  obtain ⟨g12, H1, e12, G1⟩ := GB'.step e1
  obtain ⟨g22, H2, e22, G2⟩ := (G1.gc hq g1).step e2
  obtain ⟨g32, H3, e32, G3⟩ := (G2.gc hq g2).step e3
  obtain ⟨g42, H4, e42, G4⟩ := (G3.gc hq g3).step e4
  have eS2 := G4.stop eS
  subst eK
  obtain ⟨t', ht⟩ := G4.keep S0
  exact ⟨t', by rw [← ht]; exact door_of eA2 eB2 eL2 e12 e22 e32 e42 eS2⟩
end WL

namespace WL
open PySem
def doorB (c : W) (x y : Nat) (hs : Hm) : Bool := match callM Tl 39 58 [c, .ref x, .ref y] hs with
  | .ok (.bl true) h => preB hs h
  | _ => false
theorem doorB_ok {c : W} {x y : Nat} {hs : Hm} (h : doorB c x y hs = true) : ∃ t, callM Tl 39 58 [c, .ref x, .ref y] hs = .ok (.bl true) (hs ++ t) := by
  unfold doorB at h
  split at h
  · next h' e =>
    obtain ⟨t, rfl⟩ := preB_ok h
    exact ⟨t, e⟩
  · cases h
/-- a door's run is known in each heap -/
def DoorR (c : W) (x y : Nat) (hs : Hm) : Prop := ∀ (q0 : List Nat) (H0 : Hm) (vs : List W), Sim q0 hs H0 → RWs q0 [c, .ref x, .ref y] vs → ∃ t, callM Tl 39 58 vs H0 = .ok (.bl true) (H0 ++ t)
theorem doorB_R {c : W} {x y : Nat} {hs : Hm} (h : doorB c x y hs = true) : DoorR c x y hs := fun q0 H0 vs S0 rv => by
  obtain ⟨t, e⟩ := doorB_ok h
  exact call_keep2 e S0 rv rfl
/-- a row: its ask is a lambda; its run is known -/
def Row (w : W) : Prop := ∃ (c : W) (x y x' y' : Nat) (q : List Nat) (hs : Hm), w = .tup [c, .ref x', .ref y'] ∧ DoorR c x y hs ∧ Sim q hs Hr ∧ RWs q [c, .ref x, .ref y] [c, .ref x', .ref y'] ∧ ∀ q' v, RW q' c v → v = c
theorem row_of {np ns : Nat} {b : E} {x y x' y' : Nat} {q : List Nat} {hs : Hm} (d : DoorR (.cod np ns b) x y hs) (z : (simO q Hr q hs && (upB q && (decide (q[x]? = some x') && decide (q[y]? = some y')))) = true) : Row (.tup [.cod np ns b, .ref x', .ref y']) := by
  simp only [Bool.and_eq_true, decide_eq_true_eq] at z
  exact ⟨_, x, y, x', y', q, hs, rfl, d, sim_of z.1 z.2.1, ⟨_, _, rfl, rfl, _, _, rfl, ⟨x', rfl, z.2.2.1⟩, _, _, rfl, ⟨y', rfl, z.2.2.2⟩, rfl⟩, fun _ _ h => h⟩

def hs0 : Hm := [.lst [(.tup [(.int (0)), (.int (1))]), (.tup [(.int (2)), (.int (1))])], .lst [(.ref 0)], .lst [(.tup [(.int (0)), (.int (1))]), (.tup [(.int (4)), (.int (1))])], .lst [(.ref 2)]]
def bd0 : E := (.cal 22 (.cons (.idx (.v 0) (.int (0))) .nil))
theorem door0 : DoorR (.cod 1 1 bd0) 1 3 hs0 := doorB_R (by decide +kernel)
theorem row0 : Row (.tup [.cod 1 1 bd0, .ref 2, .ref 4]) := row_of (q := [1, 2, 3, 4]) door0 (by decide +kernel)
def hs1 : Hm := [.lst [(.tup [(.int (0)), (.int (1))]), (.tup [(.int (2)), (.int (1))])], .lst [(.ref 0)], .lst [(.tup [(.int (1)), (.int (1))]), (.tup [(.int (2)), (.int (1))])], .lst [(.ref 2)]]
def bd1 : E := (.cal 23 (.cons (.idx (.v 0) (.int (0))) (.cons (.int (1)) .nil)))
theorem door1 : DoorR (.cod 1 1 bd1) 1 3 hs1 := doorB_R (by decide +kernel)
theorem row1 : Row (.tup [.cod 1 1 bd1, .ref 6, .ref 8]) := row_of (q := [5, 6, 7, 8]) door1 (by decide +kernel)
def hs2 : Hm := [.lst [(.tup [(.int (0)), (.int (1))])], .lst [(.tup [(.int (2)), (.int (1))])], .lst [(.ref 0), (.ref 1)], .lst [(.tup [(.int (0)), (.int (1))])], .lst [(.tup [(.int (3)), (.int (1))])], .lst [(.ref 3), (.ref 4)]]
def bd2 : E := (.cal 25 (.cons (.idx (.v 0) (.int (0))) (.cons (.idx (.v 0) (.int (1))) (.cons (.tup (.cons (.int (1)) (.cons (.int (3)) .nil))) .nil))))
theorem door2 : DoorR (.cod 1 1 bd2) 2 5 hs2 := doorB_R (by decide +kernel)
theorem row2 : Row (.tup [.cod 1 1 bd2, .ref 11, .ref 14]) := row_of (q := [9, 10, 11, 12, 13, 14]) door2 (by decide +kernel)
def hs3 : Hm := [.lst [(.tup [(.int (0)), (.int (1))])], .lst [(.tup [(.int (2)), (.int (1))])], .lst [(.ref 0), (.ref 1)], .lst [(.tup [(.int (1)), (.int (1))])], .lst [(.tup [(.int (2)), (.int (1))])], .lst [(.ref 3), (.ref 4)]]
def bd3 : E := (.cal 25 (.cons (.idx (.v 0) (.int (0))) (.cons (.idx (.v 0) (.int (1))) (.cons (.tup (.cons (.int (1)) (.cons (.int (3)) .nil))) .nil))))
theorem door3 : DoorR (.cod 1 1 bd3) 2 5 hs3 := doorB_R (by decide +kernel)
theorem row3 : Row (.tup [.cod 1 1 bd3, .ref 17, .ref 20]) := row_of (q := [15, 16, 17, 18, 19, 20]) door3 (by decide +kernel)
def hs4 : Hm := [.lst [(.tup [(.int (0)), (.int (1))])], .lst [(.tup [(.int (2)), (.int (1))])], .lst [(.ref 0), (.ref 1)], .lst [(.tup [(.int (0)), (.int (1))])], .lst [(.tup [(.int (3)), (.int (1))])], .lst [(.ref 3), (.ref 4)]]
def bd4 : E := (.cal 26 (.cons (.idx (.v 0) (.int (0))) (.cons (.idx (.v 0) (.int (1))) .nil)))
theorem door4 : DoorR (.cod 1 1 bd4) 2 5 hs4 := doorB_R (by decide +kernel)
theorem row4 : Row (.tup [.cod 1 1 bd4, .ref 23, .ref 26]) := row_of (q := [21, 22, 23, 24, 25, 26]) door4 (by decide +kernel)
def hs5 : Hm := [.lst [(.tup [(.int (0)), (.int (1))])], .lst [(.tup [(.int (2)), (.int (1))])], .lst [(.ref 0), (.ref 1)], .lst [(.tup [(.int (1)), (.int (1))])], .lst [(.tup [(.int (2)), (.int (1))])], .lst [(.ref 3), (.ref 4)]]
def bd5 : E := (.cal 26 (.cons (.idx (.v 0) (.int (0))) (.cons (.idx (.v 0) (.int (1))) .nil)))
theorem door5 : DoorR (.cod 1 1 bd5) 2 5 hs5 := doorB_R (by decide +kernel)
theorem row5 : Row (.tup [.cod 1 1 bd5, .ref 29, .ref 32]) := row_of (q := [27, 28, 29, 30, 31, 32]) door5 (by decide +kernel)
def hs6 : Hm := [.lst [(.tup [(.int (0)), (.int (1))])], .lst [(.tup [(.int (-1)), (.int (1))]), (.tup [(.int (1)), (.int (1))])], .lst [(.ref 0), (.ref 1)], .lst [(.tup [(.int (0)), (.int (1))])], .lst [(.tup [(.int (-2)), (.int (2))]), (.tup [(.int (4)), (.int (1))])], .lst [(.ref 3), (.ref 4)]]
def bd6 : E := (.fld (.cal 53 (.cons (.idx (.v 0) (.int (0))) (.cons (.idx (.v 0) (.int (1))) .nil))) 0)
def fA6 : F := [some (.cod 1 1 (.fld (.cal 53 (.cons (.idx (.v 0) (.int (0))) (.cons (.idx (.v 0) (.int (1))) .nil))) 0)), some (.ref 2), some (.ref 5), some (.ref 11), some (.ref 12), some (.ref 5), none, none, none]
def hA6 : Hm := [.lst [(.tup [(.int (0)), (.int (1))])],
  .lst [(.tup [(.int (-1)), (.int (1))]), (.tup [(.int (1)), (.int (1))])],
  .lst [(.ref 0), (.ref 1)],
  .lst [(.tup [(.int (0)), (.int (1))])],
  .lst [(.tup [(.int (-2)), (.int (2))]), (.tup [(.int (4)), (.int (1))])],
  .lst [(.ref 3), (.ref 4)],
  .lst [(.int (0)), (.int (1))],
  .lst [(.tup [(.int (0)), (.int (1))])],
  .lst [(.int (-1)), (.int (1))],
  .lst [(.int (1)), (.int (1))],
  .lst [(.tup [(.int (-1)), (.int (1))]), (.tup [(.int (1)), (.int (1))])],
  .lst [(.ref 7), (.ref 10)],
  .lst [(.tup [(.ref 2), (.ref 56)]), (.tup [(.ref 5), (.ref 100)])],
  .lst [(.int (0)), (.int (1))],
  .lst [(.tup [(.int (0)), (.int (1))])],
  .lst [(.int (-1)), (.int (1))],
  .lst [(.int (1)), (.int (1))],
  .lst [(.tup [(.int (-1)), (.int (1))]), (.tup [(.int (1)), (.int (1))])],
  .lst [(.ref 14), (.ref 17)],
  .lst [],
  .lst [(.tup [(.int (1)), (.int (1))])],
  .lst [(.tup [(.int (0)), (.int (1))]), (.tup [(.int (-1)), (.int (1))]), (.tup [(.int (1)), (.int (1))])],
  .lst [(.int (0)), (.int (-1)), (.int (1))],
  .lst [(.int (-1)), (.int (0)), (.int (1))],
  .lst [],
  .lst [],
  .lst [(.int (-1)), (.int (1))],
  .lst [(.tup [(.int (1)), (.int (2))]), (.tup [(.int (1)), (.int (2))])],
  .lst [(.ref 47)],
  .lst [(.tup [(.int (1)), (.int (1))])],
  .lst [(.tup [(.int (0)), (.int (1))]), (.tup [(.int (1)), (.int (2))]), (.tup [(.int (1)), (.int (1))])],
  .lst [(.tup [(.int (0)), (.int (1))])],
  .lst [(.tup [(.int (-1)), (.int (1))]), (.tup [(.int (-1)), (.int (2))]), (.tup [(.int (0)), (.int (1))])],
  .lst [(.tup [(.int (0)), (.int (1))]), (.tup [(.int (1)), (.int (2))]), (.tup [(.int (1)), (.int (1))]), (.tup [(.int (-1)), (.int (1))]), (.tup [(.int (-1)), (.int (2))]), (.tup [(.int (0)), (.int (1))])],
  .lst [(.tup [(.int (0)), (.int (1))]), (.tup [(.int (1)), (.int (2))]), (.tup [(.int (1)), (.int (1))])],
  .lst [(.tup [(.int (1)), (.int (2))]), (.tup [(.int (1)), (.int (2))])],
  .lst [(.tup [(.int (1)), (.int (2))]), (.tup [(.int (1)), (.int (1))])],
  .lst [(.tup [(.int (-1)), (.int (2))]), (.tup [(.int (1)), (.int (2))])],
  .lst [(.tup [(.int (0)), (.int (1))]), (.tup [(.int (1)), (.int (2))]), (.tup [(.int (1)), (.int (1))])],
  .lst [(.tup [(.int (1)), (.int (2))]), (.tup [(.int (1)), (.int (2))])],
  .lst [(.tup [(.int (1)), (.int (2))]), (.tup [(.int (1)), (.int (1))])],
  .lst [(.tup [(.int (-1)), (.int (2))]), (.tup [(.int (1)), (.int (2))])],
  .lst [(.tup [(.int (0)), (.int (1))]), (.tup [(.int (1)), (.int (2))]), (.tup [(.int (1)), (.int (1))])],
  .lst [(.tup [(.int (1)), (.int (2))]), (.tup [(.int (1)), (.int (2))])],
  .lst [(.tup [(.int (1)), (.int (2))]), (.tup [(.int (1)), (.int (1))])],
  .lst [(.tup [(.int (-1)), (.int (2))]), (.tup [(.int (1)), (.int (2))])],
  .lst [(.tup [(.int (0)), (.int (1))]), (.tup [(.int (1)), (.int (2))]), (.tup [(.int (1)), (.int (1))])],
  .lst [(.tup [(.int (1)), (.int (2))]), (.tup [(.int (1)), (.int (2))])],
  .lst [(.tup [(.int (1)), (.int (2))]), (.tup [(.int (1)), (.int (1))])],
  .lst [(.tup [(.int (0)), (.int (1))]), (.tup [(.int (0)), (.int (1))])],
  .ins 1 [(0, (.ref 52))],
  .lst [(.tup [(.int (1)), (.int (2))]), (.tup [(.int (1)), (.int (2))])],
  .lst [(.ref 51)],
  .lst [(.int (1)), (.int (2))],
  .lst [(.int (1)), (.int (2))],
  .lst [(.tup [(.int (1)), (.int (2))]), (.tup [(.int (1)), (.int (2))])],
  .lst [(.ref 55)],
  .lst [(.int (0)), (.int (1))],
  .lst [(.tup [(.int (0)), (.int (1))])],
  .lst [(.int (-2)), (.int (2))],
  .lst [(.int (4)), (.int (1))],
  .lst [(.tup [(.int (-2)), (.int (2))]), (.tup [(.int (4)), (.int (1))])],
  .lst [(.ref 58), (.ref 61)],
  .lst [],
  .lst [(.tup [(.int (4)), (.int (1))])],
  .lst [(.tup [(.int (0)), (.int (1))]), (.tup [(.int (-2)), (.int (2))]), (.tup [(.int (4)), (.int (1))])],
  .lst [(.int (0)), (.int (-2)), (.int (4))],
  .lst [(.int (-2)), (.int (0)), (.int (4))],
  .lst [],
  .lst [],
  .lst [(.int (-2)), (.int (4))],
  .lst [(.tup [(.int (2)), (.int (3))]), (.tup [(.int (1)), (.int (3))])],
  .lst [(.ref 91)],
  .lst [(.tup [(.int (1)), (.int (1))])],
  .lst [(.tup [(.int (0)), (.int (1))]), (.tup [(.int (2)), (.int (3))]), (.tup [(.int (1)), (.int (1))])],
  .lst [(.tup [(.int (0)), (.int (1))])],
  .lst [(.tup [(.int (-1)), (.int (1))]), (.tup [(.int (-1)), (.int (3))]), (.tup [(.int (0)), (.int (1))])],
  .lst [(.tup [(.int (0)), (.int (1))]), (.tup [(.int (2)), (.int (3))]), (.tup [(.int (1)), (.int (1))]), (.tup [(.int (-1)), (.int (1))]), (.tup [(.int (-1)), (.int (3))]), (.tup [(.int (0)), (.int (1))])],
  .lst [(.tup [(.int (0)), (.int (1))]), (.tup [(.int (2)), (.int (3))]), (.tup [(.int (1)), (.int (1))])],
  .lst [(.tup [(.int (2)), (.int (3))]), (.tup [(.int (1)), (.int (3))])],
  .lst [(.tup [(.int (2)), (.int (3))]), (.tup [(.int (1)), (.int (1))])],
  .lst [(.tup [(.int (-4)), (.int (3))]), (.tup [(.int (4)), (.int (3))])],
  .lst [(.tup [(.int (0)), (.int (1))]), (.tup [(.int (2)), (.int (3))]), (.tup [(.int (1)), (.int (1))])],
  .lst [(.tup [(.int (2)), (.int (3))]), (.tup [(.int (1)), (.int (3))])],
  .lst [(.tup [(.int (2)), (.int (3))]), (.tup [(.int (1)), (.int (1))])],
  .lst [(.tup [(.int (-4)), (.int (3))]), (.tup [(.int (4)), (.int (3))])],
  .lst [(.tup [(.int (0)), (.int (1))]), (.tup [(.int (2)), (.int (3))]), (.tup [(.int (1)), (.int (1))])],
  .lst [(.tup [(.int (2)), (.int (3))]), (.tup [(.int (1)), (.int (3))])],
  .lst [(.tup [(.int (2)), (.int (3))]), (.tup [(.int (1)), (.int (1))])],
  .lst [(.tup [(.int (-4)), (.int (3))]), (.tup [(.int (4)), (.int (3))])],
  .lst [(.tup [(.int (0)), (.int (1))]), (.tup [(.int (2)), (.int (3))]), (.tup [(.int (1)), (.int (1))])],
  .lst [(.tup [(.int (2)), (.int (3))]), (.tup [(.int (1)), (.int (3))])],
  .lst [(.tup [(.int (2)), (.int (3))]), (.tup [(.int (1)), (.int (1))])],
  .lst [(.tup [(.int (0)), (.int (1))]), (.tup [(.int (0)), (.int (1))])],
  .ins 1 [(0, (.ref 96))],
  .lst [(.tup [(.int (2)), (.int (3))]), (.tup [(.int (1)), (.int (3))])],
  .lst [(.ref 95)],
  .lst [(.int (2)), (.int (3))],
  .lst [(.int (1)), (.int (3))],
  .lst [(.tup [(.int (2)), (.int (3))]), (.tup [(.int (1)), (.int (3))])],
  .lst [(.ref 99)]]
theorem eA6 : exec (cbM Tl 38) dA [some (.cod 1 1 bd6), some (.ref 2), some (.ref 5), none, none, none, none, none, none] hs6 = .nx fA6 hA6 := by kernel_rfl
def fAg6 : F := [some (.cod 1 1 (.fld (.cal 53 (.cons (.idx (.v 0) (.int (0))) (.cons (.idx (.v 0) (.int (1))) .nil))) 0)), some (.ref 2), some (.ref 5), some (.ref 8), some (.ref 9), some (.ref 5), none, none, none]
def hAg6 : Hm := [.lst [(.tup [(.int (0)), (.int (1))])],
  .lst [(.tup [(.int (-1)), (.int (1))]), (.tup [(.int (1)), (.int (1))])],
  .lst [(.ref 0), (.ref 1)],
  .lst [(.tup [(.int (0)), (.int (1))])],
  .lst [(.tup [(.int (-2)), (.int (2))]), (.tup [(.int (4)), (.int (1))])],
  .lst [(.ref 3), (.ref 4)],
  .lst [(.tup [(.int (0)), (.int (1))])],
  .lst [(.tup [(.int (-1)), (.int (1))]), (.tup [(.int (1)), (.int (1))])],
  .lst [(.ref 6), (.ref 7)],
  .lst [(.tup [(.ref 2), (.ref 11)]), (.tup [(.ref 5), (.ref 13)])],
  .lst [(.tup [(.int (1)), (.int (2))]), (.tup [(.int (1)), (.int (2))])],
  .lst [(.ref 10)],
  .lst [(.tup [(.int (2)), (.int (3))]), (.tup [(.int (1)), (.int (3))])],
  .lst [(.ref 12)]]
theorem gA6 : Gc 6 [0, 1, 2, 3, 4, 5, 7, 10, 11, 12, 55, 56, 99, 100] fAg6 [] hAg6 fA6 [] hA6 := gc_of (by decide +kernel)
def fB6 : F := []
def hB6 : Hm := [.lst [(.tup [(.int (0)), (.int (1))])],
  .lst [(.tup [(.int (-1)), (.int (1))]), (.tup [(.int (1)), (.int (1))])],
  .lst [(.ref 0), (.ref 1)],
  .lst [(.tup [(.int (0)), (.int (1))])],
  .lst [(.tup [(.int (-2)), (.int (2))]), (.tup [(.int (4)), (.int (1))])],
  .lst [(.ref 3), (.ref 4)],
  .lst [(.tup [(.int (0)), (.int (1))])],
  .lst [(.tup [(.int (-1)), (.int (1))]), (.tup [(.int (1)), (.int (1))])],
  .lst [(.ref 6), (.ref 7)],
  .lst [(.tup [(.ref 2), (.ref 11)]), (.tup [(.ref 5), (.ref 13)])],
  .lst [(.tup [(.int (1)), (.int (2))]), (.tup [(.int (1)), (.int (2))])],
  .lst [(.ref 10)],
  .lst [(.tup [(.int (2)), (.int (3))]), (.tup [(.int (1)), (.int (3))])],
  .lst [(.ref 12)],
  .lst [(.tup [(.ref 2), (.ref 11)]), (.tup [(.ref 5), (.ref 13)]), (.tup [(.ref 2), (.ref 11)]), (.tup [(.ref 5), (.ref 13)])]]
theorem eB6 : evI (cbM Tl 38) dI fAg6 hAg6 = .ok (.seq (.ref 14)) hB6 := by kernel_rfl
def fBg6 : F := [some (.cod 1 1 (.fld (.cal 53 (.cons (.idx (.v 0) (.int (0))) (.cons (.idx (.v 0) (.int (1))) .nil))) 0)), some (.ref 2), some (.ref 5), some (.ref 8), some (.ref 9), some (.ref 5), none, none, none]
def hBg6 : Hm := [.lst [(.tup [(.int (0)), (.int (1))])],
  .lst [(.tup [(.int (-1)), (.int (1))]), (.tup [(.int (1)), (.int (1))])],
  .lst [(.ref 0), (.ref 1)],
  .lst [(.tup [(.int (0)), (.int (1))])],
  .lst [(.tup [(.int (-2)), (.int (2))]), (.tup [(.int (4)), (.int (1))])],
  .lst [(.ref 3), (.ref 4)],
  .lst [(.tup [(.int (0)), (.int (1))])],
  .lst [(.tup [(.int (-1)), (.int (1))]), (.tup [(.int (1)), (.int (1))])],
  .lst [(.ref 6), (.ref 7)],
  .lst [(.tup [(.ref 2), (.ref 11)]), (.tup [(.ref 5), (.ref 13)])],
  .lst [(.tup [(.int (1)), (.int (2))]), (.tup [(.int (1)), (.int (2))])],
  .lst [(.ref 10)],
  .lst [(.tup [(.int (2)), (.int (3))]), (.tup [(.int (1)), (.int (3))])],
  .lst [(.ref 12)],
  .lst [(.tup [(.ref 2), (.ref 11)]), (.tup [(.ref 5), (.ref 13)]), (.tup [(.ref 2), (.ref 11)]), (.tup [(.ref 5), (.ref 13)])]]
theorem gB6 : Gc 6 [0, 1, 2, 3, 4, 5, 6, 7, 8, 9, 10, 11, 12, 13, 14] fBg6 [.ref 14] hBg6 fAg6 [.ref 14] hB6 := gc_of (by decide +kernel)
def fS0_6 : F := [some (.cod 1 1 (.fld (.cal 53 (.cons (.idx (.v 0) (.int (0))) (.cons (.idx (.v 0) (.int (1))) .nil))) 0)), some (.ref 2), some (.ref 5), some (.ref 8), some (.ref 9), some (.ref 2), some (.ref 11), some (.int (1)), some (.ref 89)]
def hS0_6 : Hm := [.lst [(.tup [(.int (0)), (.int (1))])],
  .lst [(.tup [(.int (-1)), (.int (1))]), (.tup [(.int (1)), (.int (1))])],
  .lst [(.ref 0), (.ref 1)],
  .lst [(.tup [(.int (0)), (.int (1))])],
  .lst [(.tup [(.int (-2)), (.int (2))]), (.tup [(.int (4)), (.int (1))])],
  .lst [(.ref 3), (.ref 4)],
  .lst [(.tup [(.int (0)), (.int (1))])],
  .lst [(.tup [(.int (-1)), (.int (1))]), (.tup [(.int (1)), (.int (1))])],
  .lst [(.ref 6), (.ref 7)],
  .lst [(.tup [(.ref 2), (.ref 11)]), (.tup [(.ref 5), (.ref 13)])],
  .lst [(.tup [(.int (1)), (.int (2))]), (.tup [(.int (1)), (.int (2))])],
  .lst [(.ref 10)],
  .lst [(.tup [(.int (2)), (.int (3))]), (.tup [(.int (1)), (.int (3))])],
  .lst [(.ref 12)],
  .lst [(.tup [(.ref 2), (.ref 11)]), (.tup [(.ref 5), (.ref 13)]), (.tup [(.ref 2), (.ref 11)]), (.tup [(.ref 5), (.ref 13)])],
  .lst [(.int (0)), (.int (1))],
  .lst [(.int (-1)), (.int (1))],
  .lst [(.int (1)), (.int (1))],
  .lst [],
  .lst [(.tup [(.int (1)), (.int (1))])],
  .lst [(.tup [(.int (0)), (.int (1))]), (.tup [(.int (-1)), (.int (1))]), (.tup [(.int (1)), (.int (1))])],
  .lst [(.int (0)), (.int (-1)), (.int (1))],
  .lst [(.int (-1)), (.int (0)), (.int (1))],
  .lst [],
  .lst [],
  .lst [(.int (-1)), (.int (1))],
  .lst [(.tup [(.int (1)), (.int (2))]), (.tup [(.int (1)), (.int (2))])],
  .lst [(.ref 46)],
  .lst [(.tup [(.int (1)), (.int (1))])],
  .lst [(.tup [(.int (0)), (.int (1))]), (.tup [(.int (1)), (.int (2))]), (.tup [(.int (1)), (.int (1))])],
  .lst [(.tup [(.int (0)), (.int (1))])],
  .lst [(.tup [(.int (-1)), (.int (1))]), (.tup [(.int (-1)), (.int (2))]), (.tup [(.int (0)), (.int (1))])],
  .lst [(.tup [(.int (0)), (.int (1))]), (.tup [(.int (1)), (.int (2))]), (.tup [(.int (1)), (.int (1))]), (.tup [(.int (-1)), (.int (1))]), (.tup [(.int (-1)), (.int (2))]), (.tup [(.int (0)), (.int (1))])],
  .lst [(.tup [(.int (0)), (.int (1))]), (.tup [(.int (1)), (.int (2))]), (.tup [(.int (1)), (.int (1))])],
  .lst [(.tup [(.int (1)), (.int (2))]), (.tup [(.int (1)), (.int (2))])],
  .lst [(.tup [(.int (1)), (.int (2))]), (.tup [(.int (1)), (.int (1))])],
  .lst [(.tup [(.int (-1)), (.int (2))]), (.tup [(.int (1)), (.int (2))])],
  .lst [(.tup [(.int (0)), (.int (1))]), (.tup [(.int (1)), (.int (2))]), (.tup [(.int (1)), (.int (1))])],
  .lst [(.tup [(.int (1)), (.int (2))]), (.tup [(.int (1)), (.int (2))])],
  .lst [(.tup [(.int (1)), (.int (2))]), (.tup [(.int (1)), (.int (1))])],
  .lst [(.tup [(.int (-1)), (.int (2))]), (.tup [(.int (1)), (.int (2))])],
  .lst [(.tup [(.int (0)), (.int (1))]), (.tup [(.int (1)), (.int (2))]), (.tup [(.int (1)), (.int (1))])],
  .lst [(.tup [(.int (1)), (.int (2))]), (.tup [(.int (1)), (.int (2))])],
  .lst [(.tup [(.int (1)), (.int (2))]), (.tup [(.int (1)), (.int (1))])],
  .lst [(.tup [(.int (-1)), (.int (2))]), (.tup [(.int (1)), (.int (2))])],
  .lst [(.tup [(.int (0)), (.int (1))]), (.tup [(.int (1)), (.int (2))]), (.tup [(.int (1)), (.int (1))])],
  .lst [(.tup [(.int (1)), (.int (2))]), (.tup [(.int (1)), (.int (2))])],
  .lst [(.tup [(.int (1)), (.int (2))]), (.tup [(.int (1)), (.int (1))])],
  .lst [(.tup [(.int (0)), (.int (1))]), (.tup [(.int (0)), (.int (1))])],
  .ins 1 [(0, (.ref 51))],
  .lst [(.tup [(.int (1)), (.int (2))]), (.tup [(.int (1)), (.int (2))]), .non],
  .lst [(.ref 50), .non],
  .lst [(.ref 50)],
  .lst [(.tup [(.int (1)), (.int (2))]), (.tup [(.int (1)), (.int (2))])],
  .lst [(.int (1)), (.int (2))],
  .lst [(.int (1)), (.int (2))],
  .lst [],
  .lst [(.tup [(.int (1)), (.int (1))])],
  .lst [(.tup [(.int (0)), (.int (1))]), (.tup [(.int (-1)), (.int (1))]), (.tup [(.int (1)), (.int (1))])],
  .lst [(.int (0)), (.int (-1)), (.int (1))],
  .lst [(.int (-1)), (.int (0)), (.int (1))],
  .lst [],
  .lst [],
  .lst [(.int (-1)), (.int (1))],
  .lst [(.tup [(.int (1)), (.int (2))]), (.tup [(.int (1)), (.int (2))])],
  .lst [(.ref 84)],
  .lst [(.tup [(.int (1)), (.int (1))])],
  .lst [(.tup [(.int (0)), (.int (1))]), (.tup [(.int (1)), (.int (2))]), (.tup [(.int (1)), (.int (1))])],
  .lst [(.tup [(.int (0)), (.int (1))])],
  .lst [(.tup [(.int (-1)), (.int (1))]), (.tup [(.int (-1)), (.int (2))]), (.tup [(.int (0)), (.int (1))])],
  .lst [(.tup [(.int (0)), (.int (1))]), (.tup [(.int (1)), (.int (2))]), (.tup [(.int (1)), (.int (1))]), (.tup [(.int (-1)), (.int (1))]), (.tup [(.int (-1)), (.int (2))]), (.tup [(.int (0)), (.int (1))])],
  .lst [(.tup [(.int (0)), (.int (1))]), (.tup [(.int (1)), (.int (2))]), (.tup [(.int (1)), (.int (1))])],
  .lst [(.tup [(.int (1)), (.int (2))]), (.tup [(.int (1)), (.int (2))])],
  .lst [(.tup [(.int (1)), (.int (2))]), (.tup [(.int (1)), (.int (1))])],
  .lst [(.tup [(.int (-1)), (.int (2))]), (.tup [(.int (1)), (.int (2))])],
  .lst [(.tup [(.int (0)), (.int (1))]), (.tup [(.int (1)), (.int (2))]), (.tup [(.int (1)), (.int (1))])],
  .lst [(.tup [(.int (1)), (.int (2))]), (.tup [(.int (1)), (.int (2))])],
  .lst [(.tup [(.int (1)), (.int (2))]), (.tup [(.int (1)), (.int (1))])],
  .lst [(.tup [(.int (-1)), (.int (2))]), (.tup [(.int (1)), (.int (2))])],
  .lst [(.tup [(.int (0)), (.int (1))]), (.tup [(.int (1)), (.int (2))]), (.tup [(.int (1)), (.int (1))])],
  .lst [(.tup [(.int (1)), (.int (2))]), (.tup [(.int (1)), (.int (2))])],
  .lst [(.tup [(.int (1)), (.int (2))]), (.tup [(.int (1)), (.int (1))])],
  .lst [(.tup [(.int (-1)), (.int (2))]), (.tup [(.int (1)), (.int (2))])],
  .lst [(.tup [(.int (0)), (.int (1))]), (.tup [(.int (1)), (.int (2))]), (.tup [(.int (1)), (.int (1))])],
  .lst [(.tup [(.int (1)), (.int (2))]), (.tup [(.int (1)), (.int (2))])],
  .lst [(.tup [(.int (1)), (.int (2))]), (.tup [(.int (1)), (.int (1))])],
  .lst [(.tup [(.int (0)), (.int (1))]), (.tup [(.int (0)), (.int (1))])],
  .ins 1 [(0, (.ref 89))],
  .lst [(.tup [(.int (1)), (.int (2))]), (.tup [(.int (1)), (.int (2))]), .non],
  .lst [(.ref 88), .non],
  .lst [(.ref 88)],
  .lst [(.tup [(.int (1)), (.int (2))]), (.tup [(.int (1)), (.int (2))])],
  .lst [(.int (1)), (.int (2))],
  .lst [(.int (1)), (.int (2))]]
theorem eS0_6 : stepB 14 0 fBg6 hBg6 = .nx fS0_6 hS0_6 := by kernel_rfl
def fT0_6 : F := [some (.cod 1 1 (.fld (.cal 53 (.cons (.idx (.v 0) (.int (0))) (.cons (.idx (.v 0) (.int (1))) .nil))) 0)), some (.ref 2), some (.ref 5), some (.ref 8), some (.ref 9), some (.ref 2), some (.ref 11), some (.int (1)), some (.ref 16)]
def hT0_6 : Hm := [.lst [(.tup [(.int (0)), (.int (1))])],
  .lst [(.tup [(.int (-1)), (.int (1))]), (.tup [(.int (1)), (.int (1))])],
  .lst [(.ref 0), (.ref 1)],
  .lst [(.tup [(.int (0)), (.int (1))])],
  .lst [(.tup [(.int (-2)), (.int (2))]), (.tup [(.int (4)), (.int (1))])],
  .lst [(.ref 3), (.ref 4)],
  .lst [(.tup [(.int (0)), (.int (1))])],
  .lst [(.tup [(.int (-1)), (.int (1))]), (.tup [(.int (1)), (.int (1))])],
  .lst [(.ref 6), (.ref 7)],
  .lst [(.tup [(.ref 2), (.ref 11)]), (.tup [(.ref 5), (.ref 13)])],
  .lst [(.tup [(.int (1)), (.int (2))]), (.tup [(.int (1)), (.int (2))])],
  .lst [(.ref 10)],
  .lst [(.tup [(.int (2)), (.int (3))]), (.tup [(.int (1)), (.int (3))])],
  .lst [(.ref 12)],
  .lst [(.tup [(.ref 2), (.ref 11)]), (.tup [(.ref 5), (.ref 13)]), (.tup [(.ref 2), (.ref 11)]), (.tup [(.ref 5), (.ref 13)])],
  .lst [(.tup [(.int (1)), (.int (2))]), (.tup [(.int (1)), (.int (2))]), .non],
  .lst [(.ref 15), .non]]
theorem gS0_6 : Gc 6 [0, 1, 2, 3, 4, 5, 6, 7, 8, 9, 10, 11, 12, 13, 14, 88, 89] fT0_6 [.ref 14] hT0_6 fS0_6 [.ref 14] hS0_6 := gc_of (by decide +kernel)
def fS1_6 : F := [some (.cod 1 1 (.fld (.cal 53 (.cons (.idx (.v 0) (.int (0))) (.cons (.idx (.v 0) (.int (1))) .nil))) 0)), some (.ref 2), some (.ref 5), some (.ref 8), some (.ref 9), some (.ref 5), some (.ref 13), some (.int (1)), some (.ref 91)]
def hS1_6 : Hm := [.lst [(.tup [(.int (0)), (.int (1))])],
  .lst [(.tup [(.int (-1)), (.int (1))]), (.tup [(.int (1)), (.int (1))])],
  .lst [(.ref 0), (.ref 1)],
  .lst [(.tup [(.int (0)), (.int (1))])],
  .lst [(.tup [(.int (-2)), (.int (2))]), (.tup [(.int (4)), (.int (1))])],
  .lst [(.ref 3), (.ref 4)],
  .lst [(.tup [(.int (0)), (.int (1))])],
  .lst [(.tup [(.int (-2)), (.int (2))]), (.tup [(.int (4)), (.int (1))])],
  .lst [(.ref 6), (.ref 7)],
  .lst [(.tup [(.ref 2), (.ref 11)]), (.tup [(.ref 5), (.ref 13)])],
  .lst [(.tup [(.int (1)), (.int (2))]), (.tup [(.int (1)), (.int (2))])],
  .lst [(.ref 10)],
  .lst [(.tup [(.int (2)), (.int (3))]), (.tup [(.int (1)), (.int (3))])],
  .lst [(.ref 12)],
  .lst [(.tup [(.ref 2), (.ref 11)]), (.tup [(.ref 5), (.ref 13)]), (.tup [(.ref 2), (.ref 11)]), (.tup [(.ref 5), (.ref 13)])],
  .lst [(.tup [(.int (1)), (.int (2))]), (.tup [(.int (1)), (.int (2))]), .non],
  .lst [(.ref 15), .non],
  .lst [(.int (0)), (.int (1))],
  .lst [(.int (-2)), (.int (2))],
  .lst [(.int (4)), (.int (1))],
  .lst [],
  .lst [(.tup [(.int (4)), (.int (1))])],
  .lst [(.tup [(.int (0)), (.int (1))]), (.tup [(.int (-2)), (.int (2))]), (.tup [(.int (4)), (.int (1))])],
  .lst [(.int (0)), (.int (-2)), (.int (4))],
  .lst [(.int (-2)), (.int (0)), (.int (4))],
  .lst [],
  .lst [],
  .lst [(.int (-2)), (.int (4))],
  .lst [(.tup [(.int (2)), (.int (3))]), (.tup [(.int (1)), (.int (3))])],
  .lst [(.ref 48)],
  .lst [(.tup [(.int (1)), (.int (1))])],
  .lst [(.tup [(.int (0)), (.int (1))]), (.tup [(.int (2)), (.int (3))]), (.tup [(.int (1)), (.int (1))])],
  .lst [(.tup [(.int (0)), (.int (1))])],
  .lst [(.tup [(.int (-1)), (.int (1))]), (.tup [(.int (-1)), (.int (3))]), (.tup [(.int (0)), (.int (1))])],
  .lst [(.tup [(.int (0)), (.int (1))]), (.tup [(.int (2)), (.int (3))]), (.tup [(.int (1)), (.int (1))]), (.tup [(.int (-1)), (.int (1))]), (.tup [(.int (-1)), (.int (3))]), (.tup [(.int (0)), (.int (1))])],
  .lst [(.tup [(.int (0)), (.int (1))]), (.tup [(.int (2)), (.int (3))]), (.tup [(.int (1)), (.int (1))])],
  .lst [(.tup [(.int (2)), (.int (3))]), (.tup [(.int (1)), (.int (3))])],
  .lst [(.tup [(.int (2)), (.int (3))]), (.tup [(.int (1)), (.int (1))])],
  .lst [(.tup [(.int (-4)), (.int (3))]), (.tup [(.int (4)), (.int (3))])],
  .lst [(.tup [(.int (0)), (.int (1))]), (.tup [(.int (2)), (.int (3))]), (.tup [(.int (1)), (.int (1))])],
  .lst [(.tup [(.int (2)), (.int (3))]), (.tup [(.int (1)), (.int (3))])],
  .lst [(.tup [(.int (2)), (.int (3))]), (.tup [(.int (1)), (.int (1))])],
  .lst [(.tup [(.int (-4)), (.int (3))]), (.tup [(.int (4)), (.int (3))])],
  .lst [(.tup [(.int (0)), (.int (1))]), (.tup [(.int (2)), (.int (3))]), (.tup [(.int (1)), (.int (1))])],
  .lst [(.tup [(.int (2)), (.int (3))]), (.tup [(.int (1)), (.int (3))])],
  .lst [(.tup [(.int (2)), (.int (3))]), (.tup [(.int (1)), (.int (1))])],
  .lst [(.tup [(.int (-4)), (.int (3))]), (.tup [(.int (4)), (.int (3))])],
  .lst [(.tup [(.int (0)), (.int (1))]), (.tup [(.int (2)), (.int (3))]), (.tup [(.int (1)), (.int (1))])],
  .lst [(.tup [(.int (2)), (.int (3))]), (.tup [(.int (1)), (.int (3))])],
  .lst [(.tup [(.int (2)), (.int (3))]), (.tup [(.int (1)), (.int (1))])],
  .lst [(.tup [(.int (0)), (.int (1))]), (.tup [(.int (0)), (.int (1))])],
  .ins 1 [(0, (.ref 53))],
  .lst [(.tup [(.int (2)), (.int (3))]), (.tup [(.int (1)), (.int (3))]), .non],
  .lst [(.ref 52), .non],
  .lst [(.ref 52)],
  .lst [(.tup [(.int (2)), (.int (3))]), (.tup [(.int (1)), (.int (3))])],
  .lst [(.int (2)), (.int (3))],
  .lst [(.int (1)), (.int (3))],
  .lst [],
  .lst [(.tup [(.int (4)), (.int (1))])],
  .lst [(.tup [(.int (0)), (.int (1))]), (.tup [(.int (-2)), (.int (2))]), (.tup [(.int (4)), (.int (1))])],
  .lst [(.int (0)), (.int (-2)), (.int (4))],
  .lst [(.int (-2)), (.int (0)), (.int (4))],
  .lst [],
  .lst [],
  .lst [(.int (-2)), (.int (4))],
  .lst [(.tup [(.int (2)), (.int (3))]), (.tup [(.int (1)), (.int (3))])],
  .lst [(.ref 86)],
  .lst [(.tup [(.int (1)), (.int (1))])],
  .lst [(.tup [(.int (0)), (.int (1))]), (.tup [(.int (2)), (.int (3))]), (.tup [(.int (1)), (.int (1))])],
  .lst [(.tup [(.int (0)), (.int (1))])],
  .lst [(.tup [(.int (-1)), (.int (1))]), (.tup [(.int (-1)), (.int (3))]), (.tup [(.int (0)), (.int (1))])],
  .lst [(.tup [(.int (0)), (.int (1))]), (.tup [(.int (2)), (.int (3))]), (.tup [(.int (1)), (.int (1))]), (.tup [(.int (-1)), (.int (1))]), (.tup [(.int (-1)), (.int (3))]), (.tup [(.int (0)), (.int (1))])],
  .lst [(.tup [(.int (0)), (.int (1))]), (.tup [(.int (2)), (.int (3))]), (.tup [(.int (1)), (.int (1))])],
  .lst [(.tup [(.int (2)), (.int (3))]), (.tup [(.int (1)), (.int (3))])],
  .lst [(.tup [(.int (2)), (.int (3))]), (.tup [(.int (1)), (.int (1))])],
  .lst [(.tup [(.int (-4)), (.int (3))]), (.tup [(.int (4)), (.int (3))])],
  .lst [(.tup [(.int (0)), (.int (1))]), (.tup [(.int (2)), (.int (3))]), (.tup [(.int (1)), (.int (1))])],
  .lst [(.tup [(.int (2)), (.int (3))]), (.tup [(.int (1)), (.int (3))])],
  .lst [(.tup [(.int (2)), (.int (3))]), (.tup [(.int (1)), (.int (1))])],
  .lst [(.tup [(.int (-4)), (.int (3))]), (.tup [(.int (4)), (.int (3))])],
  .lst [(.tup [(.int (0)), (.int (1))]), (.tup [(.int (2)), (.int (3))]), (.tup [(.int (1)), (.int (1))])],
  .lst [(.tup [(.int (2)), (.int (3))]), (.tup [(.int (1)), (.int (3))])],
  .lst [(.tup [(.int (2)), (.int (3))]), (.tup [(.int (1)), (.int (1))])],
  .lst [(.tup [(.int (-4)), (.int (3))]), (.tup [(.int (4)), (.int (3))])],
  .lst [(.tup [(.int (0)), (.int (1))]), (.tup [(.int (2)), (.int (3))]), (.tup [(.int (1)), (.int (1))])],
  .lst [(.tup [(.int (2)), (.int (3))]), (.tup [(.int (1)), (.int (3))])],
  .lst [(.tup [(.int (2)), (.int (3))]), (.tup [(.int (1)), (.int (1))])],
  .lst [(.tup [(.int (0)), (.int (1))]), (.tup [(.int (0)), (.int (1))])],
  .ins 1 [(0, (.ref 91))],
  .lst [(.tup [(.int (2)), (.int (3))]), (.tup [(.int (1)), (.int (3))]), .non],
  .lst [(.ref 90), .non],
  .lst [(.ref 90)],
  .lst [(.tup [(.int (2)), (.int (3))]), (.tup [(.int (1)), (.int (3))])],
  .lst [(.int (2)), (.int (3))],
  .lst [(.int (1)), (.int (3))]]
theorem eS1_6 : stepB 14 1 fT0_6 hT0_6 = .nx fS1_6 hS1_6 := by kernel_rfl
def fT1_6 : F := [some (.cod 1 1 (.fld (.cal 53 (.cons (.idx (.v 0) (.int (0))) (.cons (.idx (.v 0) (.int (1))) .nil))) 0)), some (.ref 2), some (.ref 5), some (.ref 8), some (.ref 9), some (.ref 5), some (.ref 13), some (.int (1)), some (.ref 16)]
def hT1_6 : Hm := [.lst [(.tup [(.int (0)), (.int (1))])],
  .lst [(.tup [(.int (-1)), (.int (1))]), (.tup [(.int (1)), (.int (1))])],
  .lst [(.ref 0), (.ref 1)],
  .lst [(.tup [(.int (0)), (.int (1))])],
  .lst [(.tup [(.int (-2)), (.int (2))]), (.tup [(.int (4)), (.int (1))])],
  .lst [(.ref 3), (.ref 4)],
  .lst [(.tup [(.int (0)), (.int (1))])],
  .lst [(.tup [(.int (-2)), (.int (2))]), (.tup [(.int (4)), (.int (1))])],
  .lst [(.ref 6), (.ref 7)],
  .lst [(.tup [(.ref 2), (.ref 11)]), (.tup [(.ref 5), (.ref 13)])],
  .lst [(.tup [(.int (1)), (.int (2))]), (.tup [(.int (1)), (.int (2))])],
  .lst [(.ref 10)],
  .lst [(.tup [(.int (2)), (.int (3))]), (.tup [(.int (1)), (.int (3))])],
  .lst [(.ref 12)],
  .lst [(.tup [(.ref 2), (.ref 11)]), (.tup [(.ref 5), (.ref 13)]), (.tup [(.ref 2), (.ref 11)]), (.tup [(.ref 5), (.ref 13)])],
  .lst [(.tup [(.int (2)), (.int (3))]), (.tup [(.int (1)), (.int (3))]), .non],
  .lst [(.ref 15), .non]]
theorem gS1_6 : Gc 6 [0, 1, 2, 3, 4, 5, 6, 7, 8, 9, 10, 11, 12, 13, 14, 90, 91] fT1_6 [.ref 14] hT1_6 fS1_6 [.ref 14] hS1_6 := gc_of (by decide +kernel)
def fS2_6 : F := [some (.cod 1 1 (.fld (.cal 53 (.cons (.idx (.v 0) (.int (0))) (.cons (.idx (.v 0) (.int (1))) .nil))) 0)), some (.ref 2), some (.ref 5), some (.ref 8), some (.ref 9), some (.ref 2), some (.ref 11), some (.int (1)), some (.ref 91)]
def hS2_6 : Hm := [.lst [(.tup [(.int (0)), (.int (1))])],
  .lst [(.tup [(.int (-1)), (.int (1))]), (.tup [(.int (1)), (.int (1))])],
  .lst [(.ref 0), (.ref 1)],
  .lst [(.tup [(.int (0)), (.int (1))])],
  .lst [(.tup [(.int (-2)), (.int (2))]), (.tup [(.int (4)), (.int (1))])],
  .lst [(.ref 3), (.ref 4)],
  .lst [(.tup [(.int (0)), (.int (1))])],
  .lst [(.tup [(.int (-1)), (.int (1))]), (.tup [(.int (1)), (.int (1))])],
  .lst [(.ref 6), (.ref 7)],
  .lst [(.tup [(.ref 2), (.ref 11)]), (.tup [(.ref 5), (.ref 13)])],
  .lst [(.tup [(.int (1)), (.int (2))]), (.tup [(.int (1)), (.int (2))])],
  .lst [(.ref 10)],
  .lst [(.tup [(.int (2)), (.int (3))]), (.tup [(.int (1)), (.int (3))])],
  .lst [(.ref 12)],
  .lst [(.tup [(.ref 2), (.ref 11)]), (.tup [(.ref 5), (.ref 13)]), (.tup [(.ref 2), (.ref 11)]), (.tup [(.ref 5), (.ref 13)])],
  .lst [(.tup [(.int (2)), (.int (3))]), (.tup [(.int (1)), (.int (3))]), .non],
  .lst [(.ref 15), .non],
  .lst [(.int (0)), (.int (1))],
  .lst [(.int (-1)), (.int (1))],
  .lst [(.int (1)), (.int (1))],
  .lst [],
  .lst [(.tup [(.int (1)), (.int (1))])],
  .lst [(.tup [(.int (0)), (.int (1))]), (.tup [(.int (-1)), (.int (1))]), (.tup [(.int (1)), (.int (1))])],
  .lst [(.int (0)), (.int (-1)), (.int (1))],
  .lst [(.int (-1)), (.int (0)), (.int (1))],
  .lst [],
  .lst [],
  .lst [(.int (-1)), (.int (1))],
  .lst [(.tup [(.int (1)), (.int (2))]), (.tup [(.int (1)), (.int (2))])],
  .lst [(.ref 48)],
  .lst [(.tup [(.int (1)), (.int (1))])],
  .lst [(.tup [(.int (0)), (.int (1))]), (.tup [(.int (1)), (.int (2))]), (.tup [(.int (1)), (.int (1))])],
  .lst [(.tup [(.int (0)), (.int (1))])],
  .lst [(.tup [(.int (-1)), (.int (1))]), (.tup [(.int (-1)), (.int (2))]), (.tup [(.int (0)), (.int (1))])],
  .lst [(.tup [(.int (0)), (.int (1))]), (.tup [(.int (1)), (.int (2))]), (.tup [(.int (1)), (.int (1))]), (.tup [(.int (-1)), (.int (1))]), (.tup [(.int (-1)), (.int (2))]), (.tup [(.int (0)), (.int (1))])],
  .lst [(.tup [(.int (0)), (.int (1))]), (.tup [(.int (1)), (.int (2))]), (.tup [(.int (1)), (.int (1))])],
  .lst [(.tup [(.int (1)), (.int (2))]), (.tup [(.int (1)), (.int (2))])],
  .lst [(.tup [(.int (1)), (.int (2))]), (.tup [(.int (1)), (.int (1))])],
  .lst [(.tup [(.int (-1)), (.int (2))]), (.tup [(.int (1)), (.int (2))])],
  .lst [(.tup [(.int (0)), (.int (1))]), (.tup [(.int (1)), (.int (2))]), (.tup [(.int (1)), (.int (1))])],
  .lst [(.tup [(.int (1)), (.int (2))]), (.tup [(.int (1)), (.int (2))])],
  .lst [(.tup [(.int (1)), (.int (2))]), (.tup [(.int (1)), (.int (1))])],
  .lst [(.tup [(.int (-1)), (.int (2))]), (.tup [(.int (1)), (.int (2))])],
  .lst [(.tup [(.int (0)), (.int (1))]), (.tup [(.int (1)), (.int (2))]), (.tup [(.int (1)), (.int (1))])],
  .lst [(.tup [(.int (1)), (.int (2))]), (.tup [(.int (1)), (.int (2))])],
  .lst [(.tup [(.int (1)), (.int (2))]), (.tup [(.int (1)), (.int (1))])],
  .lst [(.tup [(.int (-1)), (.int (2))]), (.tup [(.int (1)), (.int (2))])],
  .lst [(.tup [(.int (0)), (.int (1))]), (.tup [(.int (1)), (.int (2))]), (.tup [(.int (1)), (.int (1))])],
  .lst [(.tup [(.int (1)), (.int (2))]), (.tup [(.int (1)), (.int (2))])],
  .lst [(.tup [(.int (1)), (.int (2))]), (.tup [(.int (1)), (.int (1))])],
  .lst [(.tup [(.int (0)), (.int (1))]), (.tup [(.int (0)), (.int (1))])],
  .ins 1 [(0, (.ref 53))],
  .lst [(.tup [(.int (1)), (.int (2))]), (.tup [(.int (1)), (.int (2))]), .non],
  .lst [(.ref 52), .non],
  .lst [(.ref 52)],
  .lst [(.tup [(.int (1)), (.int (2))]), (.tup [(.int (1)), (.int (2))])],
  .lst [(.int (1)), (.int (2))],
  .lst [(.int (1)), (.int (2))],
  .lst [],
  .lst [(.tup [(.int (1)), (.int (1))])],
  .lst [(.tup [(.int (0)), (.int (1))]), (.tup [(.int (-1)), (.int (1))]), (.tup [(.int (1)), (.int (1))])],
  .lst [(.int (0)), (.int (-1)), (.int (1))],
  .lst [(.int (-1)), (.int (0)), (.int (1))],
  .lst [],
  .lst [],
  .lst [(.int (-1)), (.int (1))],
  .lst [(.tup [(.int (1)), (.int (2))]), (.tup [(.int (1)), (.int (2))])],
  .lst [(.ref 86)],
  .lst [(.tup [(.int (1)), (.int (1))])],
  .lst [(.tup [(.int (0)), (.int (1))]), (.tup [(.int (1)), (.int (2))]), (.tup [(.int (1)), (.int (1))])],
  .lst [(.tup [(.int (0)), (.int (1))])],
  .lst [(.tup [(.int (-1)), (.int (1))]), (.tup [(.int (-1)), (.int (2))]), (.tup [(.int (0)), (.int (1))])],
  .lst [(.tup [(.int (0)), (.int (1))]), (.tup [(.int (1)), (.int (2))]), (.tup [(.int (1)), (.int (1))]), (.tup [(.int (-1)), (.int (1))]), (.tup [(.int (-1)), (.int (2))]), (.tup [(.int (0)), (.int (1))])],
  .lst [(.tup [(.int (0)), (.int (1))]), (.tup [(.int (1)), (.int (2))]), (.tup [(.int (1)), (.int (1))])],
  .lst [(.tup [(.int (1)), (.int (2))]), (.tup [(.int (1)), (.int (2))])],
  .lst [(.tup [(.int (1)), (.int (2))]), (.tup [(.int (1)), (.int (1))])],
  .lst [(.tup [(.int (-1)), (.int (2))]), (.tup [(.int (1)), (.int (2))])],
  .lst [(.tup [(.int (0)), (.int (1))]), (.tup [(.int (1)), (.int (2))]), (.tup [(.int (1)), (.int (1))])],
  .lst [(.tup [(.int (1)), (.int (2))]), (.tup [(.int (1)), (.int (2))])],
  .lst [(.tup [(.int (1)), (.int (2))]), (.tup [(.int (1)), (.int (1))])],
  .lst [(.tup [(.int (-1)), (.int (2))]), (.tup [(.int (1)), (.int (2))])],
  .lst [(.tup [(.int (0)), (.int (1))]), (.tup [(.int (1)), (.int (2))]), (.tup [(.int (1)), (.int (1))])],
  .lst [(.tup [(.int (1)), (.int (2))]), (.tup [(.int (1)), (.int (2))])],
  .lst [(.tup [(.int (1)), (.int (2))]), (.tup [(.int (1)), (.int (1))])],
  .lst [(.tup [(.int (-1)), (.int (2))]), (.tup [(.int (1)), (.int (2))])],
  .lst [(.tup [(.int (0)), (.int (1))]), (.tup [(.int (1)), (.int (2))]), (.tup [(.int (1)), (.int (1))])],
  .lst [(.tup [(.int (1)), (.int (2))]), (.tup [(.int (1)), (.int (2))])],
  .lst [(.tup [(.int (1)), (.int (2))]), (.tup [(.int (1)), (.int (1))])],
  .lst [(.tup [(.int (0)), (.int (1))]), (.tup [(.int (0)), (.int (1))])],
  .ins 1 [(0, (.ref 91))],
  .lst [(.tup [(.int (1)), (.int (2))]), (.tup [(.int (1)), (.int (2))]), .non],
  .lst [(.ref 90), .non],
  .lst [(.ref 90)],
  .lst [(.tup [(.int (1)), (.int (2))]), (.tup [(.int (1)), (.int (2))])],
  .lst [(.int (1)), (.int (2))],
  .lst [(.int (1)), (.int (2))]]
theorem eS2_6 : stepB 14 2 fT1_6 hT1_6 = .nx fS2_6 hS2_6 := by kernel_rfl
def fT2_6 : F := [some (.cod 1 1 (.fld (.cal 53 (.cons (.idx (.v 0) (.int (0))) (.cons (.idx (.v 0) (.int (1))) .nil))) 0)), some (.ref 2), some (.ref 5), some (.ref 8), some (.ref 9), some (.ref 2), some (.ref 11), some (.int (1)), some (.ref 16)]
def hT2_6 : Hm := [.lst [(.tup [(.int (0)), (.int (1))])],
  .lst [(.tup [(.int (-1)), (.int (1))]), (.tup [(.int (1)), (.int (1))])],
  .lst [(.ref 0), (.ref 1)],
  .lst [(.tup [(.int (0)), (.int (1))])],
  .lst [(.tup [(.int (-2)), (.int (2))]), (.tup [(.int (4)), (.int (1))])],
  .lst [(.ref 3), (.ref 4)],
  .lst [(.tup [(.int (0)), (.int (1))])],
  .lst [(.tup [(.int (-1)), (.int (1))]), (.tup [(.int (1)), (.int (1))])],
  .lst [(.ref 6), (.ref 7)],
  .lst [(.tup [(.ref 2), (.ref 11)]), (.tup [(.ref 5), (.ref 13)])],
  .lst [(.tup [(.int (1)), (.int (2))]), (.tup [(.int (1)), (.int (2))])],
  .lst [(.ref 10)],
  .lst [(.tup [(.int (2)), (.int (3))]), (.tup [(.int (1)), (.int (3))])],
  .lst [(.ref 12)],
  .lst [(.tup [(.ref 2), (.ref 11)]), (.tup [(.ref 5), (.ref 13)]), (.tup [(.ref 2), (.ref 11)]), (.tup [(.ref 5), (.ref 13)])],
  .lst [(.tup [(.int (1)), (.int (2))]), (.tup [(.int (1)), (.int (2))]), .non],
  .lst [(.ref 15), .non]]
theorem gS2_6 : Gc 6 [0, 1, 2, 3, 4, 5, 6, 7, 8, 9, 10, 11, 12, 13, 14, 90, 91] fT2_6 [.ref 14] hT2_6 fS2_6 [.ref 14] hS2_6 := gc_of (by decide +kernel)
def fS3_6 : F := [some (.cod 1 1 (.fld (.cal 53 (.cons (.idx (.v 0) (.int (0))) (.cons (.idx (.v 0) (.int (1))) .nil))) 0)), some (.ref 2), some (.ref 5), some (.ref 8), some (.ref 9), some (.ref 5), some (.ref 13), some (.int (1)), some (.ref 91)]
def hS3_6 : Hm := [.lst [(.tup [(.int (0)), (.int (1))])],
  .lst [(.tup [(.int (-1)), (.int (1))]), (.tup [(.int (1)), (.int (1))])],
  .lst [(.ref 0), (.ref 1)],
  .lst [(.tup [(.int (0)), (.int (1))])],
  .lst [(.tup [(.int (-2)), (.int (2))]), (.tup [(.int (4)), (.int (1))])],
  .lst [(.ref 3), (.ref 4)],
  .lst [(.tup [(.int (0)), (.int (1))])],
  .lst [(.tup [(.int (-2)), (.int (2))]), (.tup [(.int (4)), (.int (1))])],
  .lst [(.ref 6), (.ref 7)],
  .lst [(.tup [(.ref 2), (.ref 11)]), (.tup [(.ref 5), (.ref 13)])],
  .lst [(.tup [(.int (1)), (.int (2))]), (.tup [(.int (1)), (.int (2))])],
  .lst [(.ref 10)],
  .lst [(.tup [(.int (2)), (.int (3))]), (.tup [(.int (1)), (.int (3))])],
  .lst [(.ref 12)],
  .lst [(.tup [(.ref 2), (.ref 11)]), (.tup [(.ref 5), (.ref 13)]), (.tup [(.ref 2), (.ref 11)]), (.tup [(.ref 5), (.ref 13)])],
  .lst [(.tup [(.int (1)), (.int (2))]), (.tup [(.int (1)), (.int (2))]), .non],
  .lst [(.ref 15), .non],
  .lst [(.int (0)), (.int (1))],
  .lst [(.int (-2)), (.int (2))],
  .lst [(.int (4)), (.int (1))],
  .lst [],
  .lst [(.tup [(.int (4)), (.int (1))])],
  .lst [(.tup [(.int (0)), (.int (1))]), (.tup [(.int (-2)), (.int (2))]), (.tup [(.int (4)), (.int (1))])],
  .lst [(.int (0)), (.int (-2)), (.int (4))],
  .lst [(.int (-2)), (.int (0)), (.int (4))],
  .lst [],
  .lst [],
  .lst [(.int (-2)), (.int (4))],
  .lst [(.tup [(.int (2)), (.int (3))]), (.tup [(.int (1)), (.int (3))])],
  .lst [(.ref 48)],
  .lst [(.tup [(.int (1)), (.int (1))])],
  .lst [(.tup [(.int (0)), (.int (1))]), (.tup [(.int (2)), (.int (3))]), (.tup [(.int (1)), (.int (1))])],
  .lst [(.tup [(.int (0)), (.int (1))])],
  .lst [(.tup [(.int (-1)), (.int (1))]), (.tup [(.int (-1)), (.int (3))]), (.tup [(.int (0)), (.int (1))])],
  .lst [(.tup [(.int (0)), (.int (1))]), (.tup [(.int (2)), (.int (3))]), (.tup [(.int (1)), (.int (1))]), (.tup [(.int (-1)), (.int (1))]), (.tup [(.int (-1)), (.int (3))]), (.tup [(.int (0)), (.int (1))])],
  .lst [(.tup [(.int (0)), (.int (1))]), (.tup [(.int (2)), (.int (3))]), (.tup [(.int (1)), (.int (1))])],
  .lst [(.tup [(.int (2)), (.int (3))]), (.tup [(.int (1)), (.int (3))])],
  .lst [(.tup [(.int (2)), (.int (3))]), (.tup [(.int (1)), (.int (1))])],
  .lst [(.tup [(.int (-4)), (.int (3))]), (.tup [(.int (4)), (.int (3))])],
  .lst [(.tup [(.int (0)), (.int (1))]), (.tup [(.int (2)), (.int (3))]), (.tup [(.int (1)), (.int (1))])],
  .lst [(.tup [(.int (2)), (.int (3))]), (.tup [(.int (1)), (.int (3))])],
  .lst [(.tup [(.int (2)), (.int (3))]), (.tup [(.int (1)), (.int (1))])],
  .lst [(.tup [(.int (-4)), (.int (3))]), (.tup [(.int (4)), (.int (3))])],
  .lst [(.tup [(.int (0)), (.int (1))]), (.tup [(.int (2)), (.int (3))]), (.tup [(.int (1)), (.int (1))])],
  .lst [(.tup [(.int (2)), (.int (3))]), (.tup [(.int (1)), (.int (3))])],
  .lst [(.tup [(.int (2)), (.int (3))]), (.tup [(.int (1)), (.int (1))])],
  .lst [(.tup [(.int (-4)), (.int (3))]), (.tup [(.int (4)), (.int (3))])],
  .lst [(.tup [(.int (0)), (.int (1))]), (.tup [(.int (2)), (.int (3))]), (.tup [(.int (1)), (.int (1))])],
  .lst [(.tup [(.int (2)), (.int (3))]), (.tup [(.int (1)), (.int (3))])],
  .lst [(.tup [(.int (2)), (.int (3))]), (.tup [(.int (1)), (.int (1))])],
  .lst [(.tup [(.int (0)), (.int (1))]), (.tup [(.int (0)), (.int (1))])],
  .ins 1 [(0, (.ref 53))],
  .lst [(.tup [(.int (2)), (.int (3))]), (.tup [(.int (1)), (.int (3))]), .non],
  .lst [(.ref 52), .non],
  .lst [(.ref 52)],
  .lst [(.tup [(.int (2)), (.int (3))]), (.tup [(.int (1)), (.int (3))])],
  .lst [(.int (2)), (.int (3))],
  .lst [(.int (1)), (.int (3))],
  .lst [],
  .lst [(.tup [(.int (4)), (.int (1))])],
  .lst [(.tup [(.int (0)), (.int (1))]), (.tup [(.int (-2)), (.int (2))]), (.tup [(.int (4)), (.int (1))])],
  .lst [(.int (0)), (.int (-2)), (.int (4))],
  .lst [(.int (-2)), (.int (0)), (.int (4))],
  .lst [],
  .lst [],
  .lst [(.int (-2)), (.int (4))],
  .lst [(.tup [(.int (2)), (.int (3))]), (.tup [(.int (1)), (.int (3))])],
  .lst [(.ref 86)],
  .lst [(.tup [(.int (1)), (.int (1))])],
  .lst [(.tup [(.int (0)), (.int (1))]), (.tup [(.int (2)), (.int (3))]), (.tup [(.int (1)), (.int (1))])],
  .lst [(.tup [(.int (0)), (.int (1))])],
  .lst [(.tup [(.int (-1)), (.int (1))]), (.tup [(.int (-1)), (.int (3))]), (.tup [(.int (0)), (.int (1))])],
  .lst [(.tup [(.int (0)), (.int (1))]), (.tup [(.int (2)), (.int (3))]), (.tup [(.int (1)), (.int (1))]), (.tup [(.int (-1)), (.int (1))]), (.tup [(.int (-1)), (.int (3))]), (.tup [(.int (0)), (.int (1))])],
  .lst [(.tup [(.int (0)), (.int (1))]), (.tup [(.int (2)), (.int (3))]), (.tup [(.int (1)), (.int (1))])],
  .lst [(.tup [(.int (2)), (.int (3))]), (.tup [(.int (1)), (.int (3))])],
  .lst [(.tup [(.int (2)), (.int (3))]), (.tup [(.int (1)), (.int (1))])],
  .lst [(.tup [(.int (-4)), (.int (3))]), (.tup [(.int (4)), (.int (3))])],
  .lst [(.tup [(.int (0)), (.int (1))]), (.tup [(.int (2)), (.int (3))]), (.tup [(.int (1)), (.int (1))])],
  .lst [(.tup [(.int (2)), (.int (3))]), (.tup [(.int (1)), (.int (3))])],
  .lst [(.tup [(.int (2)), (.int (3))]), (.tup [(.int (1)), (.int (1))])],
  .lst [(.tup [(.int (-4)), (.int (3))]), (.tup [(.int (4)), (.int (3))])],
  .lst [(.tup [(.int (0)), (.int (1))]), (.tup [(.int (2)), (.int (3))]), (.tup [(.int (1)), (.int (1))])],
  .lst [(.tup [(.int (2)), (.int (3))]), (.tup [(.int (1)), (.int (3))])],
  .lst [(.tup [(.int (2)), (.int (3))]), (.tup [(.int (1)), (.int (1))])],
  .lst [(.tup [(.int (-4)), (.int (3))]), (.tup [(.int (4)), (.int (3))])],
  .lst [(.tup [(.int (0)), (.int (1))]), (.tup [(.int (2)), (.int (3))]), (.tup [(.int (1)), (.int (1))])],
  .lst [(.tup [(.int (2)), (.int (3))]), (.tup [(.int (1)), (.int (3))])],
  .lst [(.tup [(.int (2)), (.int (3))]), (.tup [(.int (1)), (.int (1))])],
  .lst [(.tup [(.int (0)), (.int (1))]), (.tup [(.int (0)), (.int (1))])],
  .ins 1 [(0, (.ref 91))],
  .lst [(.tup [(.int (2)), (.int (3))]), (.tup [(.int (1)), (.int (3))]), .non],
  .lst [(.ref 90), .non],
  .lst [(.ref 90)],
  .lst [(.tup [(.int (2)), (.int (3))]), (.tup [(.int (1)), (.int (3))])],
  .lst [(.int (2)), (.int (3))],
  .lst [(.int (1)), (.int (3))]]
theorem eS3_6 : stepB 14 3 fT2_6 hT2_6 = .nx fS3_6 hS3_6 := by kernel_rfl
theorem door6 : DoorR (.cod 1 1 bd6) 2 5 hs6 := fun _ _ _ S0 rv => door_parts (n := 6) rfl eA6 gA6 eB6 gB6 (by kernel_rfl) eS0_6 gS0_6 eS1_6 gS1_6 eS2_6 gS2_6 eS3_6 (by kernel_rfl) (show hS3_6 = hs6 ++ hS3_6.drop 6 by kernel_rfl) S0 rv (fun _ h => h)
theorem row6 : Row (.tup [.cod 1 1 bd6, .ref 35, .ref 38]) := row_of (q := [33, 34, 35, 36, 37, 38]) door6 (by decide +kernel)
def hs7 : Hm := [.lst [(.tup [(.int (0)), (.int (1))])], .lst [(.tup [(.int (-1)), (.int (1))]), (.tup [(.int (1)), (.int (1))])], .lst [(.ref 0), (.ref 1)], .lst [(.tup [(.int (1)), (.int (1))])], .lst [(.tup [(.int (-1)), (.int (1))]), (.tup [(.int (1)), (.int (1))])], .lst [(.ref 3), (.ref 4)]]
def bd7 : E := (.isi (.cal 53 (.cons (.idx (.v 0) (.int (0))) (.cons (.idx (.v 0) (.int (1))) .nil))) (.own 1))
def fA7 : F := [some (.cod 1 1 (.isi (.cal 53 (.cons (.idx (.v 0) (.int (0))) (.cons (.idx (.v 0) (.int (1))) .nil))) (.own 1))), some (.ref 2), some (.ref 5), some (.ref 11), some (.ref 12), some (.ref 5), none, none, none]
def hA7 : Hm := [.lst [(.tup [(.int (0)), (.int (1))])],
  .lst [(.tup [(.int (-1)), (.int (1))]), (.tup [(.int (1)), (.int (1))])],
  .lst [(.ref 0), (.ref 1)],
  .lst [(.tup [(.int (1)), (.int (1))])],
  .lst [(.tup [(.int (-1)), (.int (1))]), (.tup [(.int (1)), (.int (1))])],
  .lst [(.ref 3), (.ref 4)],
  .lst [(.int (0)), (.int (1))],
  .lst [(.tup [(.int (0)), (.int (1))])],
  .lst [(.int (-1)), (.int (1))],
  .lst [(.int (1)), (.int (1))],
  .lst [(.tup [(.int (-1)), (.int (1))]), (.tup [(.int (1)), (.int (1))])],
  .lst [(.ref 7), (.ref 10)],
  .lst [(.tup [(.ref 2), (.bl true)]), (.tup [(.ref 5), (.bl false)])],
  .lst [(.int (0)), (.int (1))],
  .lst [(.tup [(.int (0)), (.int (1))])],
  .lst [(.int (-1)), (.int (1))],
  .lst [(.int (1)), (.int (1))],
  .lst [(.tup [(.int (-1)), (.int (1))]), (.tup [(.int (1)), (.int (1))])],
  .lst [(.ref 14), (.ref 17)],
  .lst [],
  .lst [(.tup [(.int (1)), (.int (1))])],
  .lst [(.tup [(.int (0)), (.int (1))]), (.tup [(.int (-1)), (.int (1))]), (.tup [(.int (1)), (.int (1))])],
  .lst [(.int (0)), (.int (-1)), (.int (1))],
  .lst [(.int (-1)), (.int (0)), (.int (1))],
  .lst [],
  .lst [],
  .lst [(.int (-1)), (.int (1))],
  .lst [(.tup [(.int (1)), (.int (2))]), (.tup [(.int (1)), (.int (2))])],
  .lst [(.ref 47)],
  .lst [(.tup [(.int (1)), (.int (1))])],
  .lst [(.tup [(.int (0)), (.int (1))]), (.tup [(.int (1)), (.int (2))]), (.tup [(.int (1)), (.int (1))])],
  .lst [(.tup [(.int (0)), (.int (1))])],
  .lst [(.tup [(.int (-1)), (.int (1))]), (.tup [(.int (-1)), (.int (2))]), (.tup [(.int (0)), (.int (1))])],
  .lst [(.tup [(.int (0)), (.int (1))]), (.tup [(.int (1)), (.int (2))]), (.tup [(.int (1)), (.int (1))]), (.tup [(.int (-1)), (.int (1))]), (.tup [(.int (-1)), (.int (2))]), (.tup [(.int (0)), (.int (1))])],
  .lst [(.tup [(.int (0)), (.int (1))]), (.tup [(.int (1)), (.int (2))]), (.tup [(.int (1)), (.int (1))])],
  .lst [(.tup [(.int (1)), (.int (2))]), (.tup [(.int (1)), (.int (2))])],
  .lst [(.tup [(.int (1)), (.int (2))]), (.tup [(.int (1)), (.int (1))])],
  .lst [(.tup [(.int (-1)), (.int (2))]), (.tup [(.int (1)), (.int (2))])],
  .lst [(.tup [(.int (0)), (.int (1))]), (.tup [(.int (1)), (.int (2))]), (.tup [(.int (1)), (.int (1))])],
  .lst [(.tup [(.int (1)), (.int (2))]), (.tup [(.int (1)), (.int (2))])],
  .lst [(.tup [(.int (1)), (.int (2))]), (.tup [(.int (1)), (.int (1))])],
  .lst [(.tup [(.int (-1)), (.int (2))]), (.tup [(.int (1)), (.int (2))])],
  .lst [(.tup [(.int (0)), (.int (1))]), (.tup [(.int (1)), (.int (2))]), (.tup [(.int (1)), (.int (1))])],
  .lst [(.tup [(.int (1)), (.int (2))]), (.tup [(.int (1)), (.int (2))])],
  .lst [(.tup [(.int (1)), (.int (2))]), (.tup [(.int (1)), (.int (1))])],
  .lst [(.tup [(.int (-1)), (.int (2))]), (.tup [(.int (1)), (.int (2))])],
  .lst [(.tup [(.int (0)), (.int (1))]), (.tup [(.int (1)), (.int (2))]), (.tup [(.int (1)), (.int (1))])],
  .lst [(.tup [(.int (1)), (.int (2))]), (.tup [(.int (1)), (.int (2))])],
  .lst [(.tup [(.int (1)), (.int (2))]), (.tup [(.int (1)), (.int (1))])],
  .lst [(.tup [(.int (0)), (.int (1))]), (.tup [(.int (0)), (.int (1))])],
  .ins 1 [(0, (.ref 52))],
  .lst [(.tup [(.int (1)), (.int (2))]), (.tup [(.int (1)), (.int (2))])],
  .lst [(.ref 51)],
  .lst [(.int (1)), (.int (1))],
  .lst [(.tup [(.int (1)), (.int (1))])],
  .lst [(.int (-1)), (.int (1))],
  .lst [(.int (1)), (.int (1))],
  .lst [(.tup [(.int (-1)), (.int (1))]), (.tup [(.int (1)), (.int (1))])],
  .lst [(.ref 54), (.ref 57)],
  .lst [],
  .lst [(.tup [(.int (1)), (.int (1))])],
  .lst [(.str "mean"), .non],
  .lst [],
  .ins 2 [(1, (.str "mean")), (2, .non)]]
theorem eA7 : exec (cbM Tl 38) dA [some (.cod 1 1 bd7), some (.ref 2), some (.ref 5), none, none, none, none, none, none] hs7 = .nx fA7 hA7 := by kernel_rfl
def fAg7 : F := [some (.cod 1 1 (.isi (.cal 53 (.cons (.idx (.v 0) (.int (0))) (.cons (.idx (.v 0) (.int (1))) .nil))) (.own 1))), some (.ref 2), some (.ref 5), some (.ref 8), some (.ref 9), some (.ref 5), none, none, none]
def hAg7 : Hm := [.lst [(.tup [(.int (0)), (.int (1))])],
  .lst [(.tup [(.int (-1)), (.int (1))]), (.tup [(.int (1)), (.int (1))])],
  .lst [(.ref 0), (.ref 1)],
  .lst [(.tup [(.int (1)), (.int (1))])],
  .lst [(.tup [(.int (-1)), (.int (1))]), (.tup [(.int (1)), (.int (1))])],
  .lst [(.ref 3), (.ref 4)],
  .lst [(.tup [(.int (0)), (.int (1))])],
  .lst [(.tup [(.int (-1)), (.int (1))]), (.tup [(.int (1)), (.int (1))])],
  .lst [(.ref 6), (.ref 7)],
  .lst [(.tup [(.ref 2), (.bl true)]), (.tup [(.ref 5), (.bl false)])]]
theorem gA7 : Gc 6 [0, 1, 2, 3, 4, 5, 7, 10, 11, 12] fAg7 [] hAg7 fA7 [] hA7 := gc_of (by decide +kernel)
def fB7 : F := []
def hB7 : Hm := [.lst [(.tup [(.int (0)), (.int (1))])],
  .lst [(.tup [(.int (-1)), (.int (1))]), (.tup [(.int (1)), (.int (1))])],
  .lst [(.ref 0), (.ref 1)],
  .lst [(.tup [(.int (1)), (.int (1))])],
  .lst [(.tup [(.int (-1)), (.int (1))]), (.tup [(.int (1)), (.int (1))])],
  .lst [(.ref 3), (.ref 4)],
  .lst [(.tup [(.int (0)), (.int (1))])],
  .lst [(.tup [(.int (-1)), (.int (1))]), (.tup [(.int (1)), (.int (1))])],
  .lst [(.ref 6), (.ref 7)],
  .lst [(.tup [(.ref 2), (.bl true)]), (.tup [(.ref 5), (.bl false)])],
  .lst [(.tup [(.ref 2), (.bl true)]), (.tup [(.ref 5), (.bl false)]), (.tup [(.ref 2), (.bl true)]), (.tup [(.ref 5), (.bl false)])]]
theorem eB7 : evI (cbM Tl 38) dI fAg7 hAg7 = .ok (.seq (.ref 10)) hB7 := by kernel_rfl
def fBg7 : F := [some (.cod 1 1 (.isi (.cal 53 (.cons (.idx (.v 0) (.int (0))) (.cons (.idx (.v 0) (.int (1))) .nil))) (.own 1))), some (.ref 2), some (.ref 5), some (.ref 8), some (.ref 9), some (.ref 5), none, none, none]
def hBg7 : Hm := [.lst [(.tup [(.int (0)), (.int (1))])],
  .lst [(.tup [(.int (-1)), (.int (1))]), (.tup [(.int (1)), (.int (1))])],
  .lst [(.ref 0), (.ref 1)],
  .lst [(.tup [(.int (1)), (.int (1))])],
  .lst [(.tup [(.int (-1)), (.int (1))]), (.tup [(.int (1)), (.int (1))])],
  .lst [(.ref 3), (.ref 4)],
  .lst [(.tup [(.int (0)), (.int (1))])],
  .lst [(.tup [(.int (-1)), (.int (1))]), (.tup [(.int (1)), (.int (1))])],
  .lst [(.ref 6), (.ref 7)],
  .lst [(.tup [(.ref 2), (.bl true)]), (.tup [(.ref 5), (.bl false)])],
  .lst [(.tup [(.ref 2), (.bl true)]), (.tup [(.ref 5), (.bl false)]), (.tup [(.ref 2), (.bl true)]), (.tup [(.ref 5), (.bl false)])]]
theorem gB7 : Gc 6 [0, 1, 2, 3, 4, 5, 6, 7, 8, 9, 10] fBg7 [.ref 10] hBg7 fAg7 [.ref 10] hB7 := gc_of (by decide +kernel)
def fS0_7 : F := [some (.cod 1 1 (.isi (.cal 53 (.cons (.idx (.v 0) (.int (0))) (.cons (.idx (.v 0) (.int (1))) .nil))) (.own 1))), some (.ref 2), some (.ref 5), some (.ref 8), some (.ref 9), some (.ref 2), some (.bl true), some (.int (1)), some (.bl true)]
def hS0_7 : Hm := [.lst [(.tup [(.int (0)), (.int (1))])],
  .lst [(.tup [(.int (-1)), (.int (1))]), (.tup [(.int (1)), (.int (1))])],
  .lst [(.ref 0), (.ref 1)],
  .lst [(.tup [(.int (1)), (.int (1))])],
  .lst [(.tup [(.int (-1)), (.int (1))]), (.tup [(.int (1)), (.int (1))])],
  .lst [(.ref 3), (.ref 4)],
  .lst [(.tup [(.int (0)), (.int (1))])],
  .lst [(.tup [(.int (-1)), (.int (1))]), (.tup [(.int (1)), (.int (1))])],
  .lst [(.ref 6), (.ref 7)],
  .lst [(.tup [(.ref 2), (.bl true)]), (.tup [(.ref 5), (.bl false)])],
  .lst [(.tup [(.ref 2), (.bl true)]), (.tup [(.ref 5), (.bl false)]), (.tup [(.ref 2), (.bl true)]), (.tup [(.ref 5), (.bl false)])],
  .lst [(.int (0)), (.int (1))],
  .lst [(.int (-1)), (.int (1))],
  .lst [(.int (1)), (.int (1))],
  .lst [],
  .lst [(.tup [(.int (1)), (.int (1))])],
  .lst [(.tup [(.int (0)), (.int (1))]), (.tup [(.int (-1)), (.int (1))]), (.tup [(.int (1)), (.int (1))])],
  .lst [(.int (0)), (.int (-1)), (.int (1))],
  .lst [(.int (-1)), (.int (0)), (.int (1))],
  .lst [],
  .lst [],
  .lst [(.int (-1)), (.int (1))],
  .lst [(.tup [(.int (1)), (.int (2))]), (.tup [(.int (1)), (.int (2))])],
  .lst [(.ref 42)],
  .lst [(.tup [(.int (1)), (.int (1))])],
  .lst [(.tup [(.int (0)), (.int (1))]), (.tup [(.int (1)), (.int (2))]), (.tup [(.int (1)), (.int (1))])],
  .lst [(.tup [(.int (0)), (.int (1))])],
  .lst [(.tup [(.int (-1)), (.int (1))]), (.tup [(.int (-1)), (.int (2))]), (.tup [(.int (0)), (.int (1))])],
  .lst [(.tup [(.int (0)), (.int (1))]), (.tup [(.int (1)), (.int (2))]), (.tup [(.int (1)), (.int (1))]), (.tup [(.int (-1)), (.int (1))]), (.tup [(.int (-1)), (.int (2))]), (.tup [(.int (0)), (.int (1))])],
  .lst [(.tup [(.int (0)), (.int (1))]), (.tup [(.int (1)), (.int (2))]), (.tup [(.int (1)), (.int (1))])],
  .lst [(.tup [(.int (1)), (.int (2))]), (.tup [(.int (1)), (.int (2))])],
  .lst [(.tup [(.int (1)), (.int (2))]), (.tup [(.int (1)), (.int (1))])],
  .lst [(.tup [(.int (-1)), (.int (2))]), (.tup [(.int (1)), (.int (2))])],
  .lst [(.tup [(.int (0)), (.int (1))]), (.tup [(.int (1)), (.int (2))]), (.tup [(.int (1)), (.int (1))])],
  .lst [(.tup [(.int (1)), (.int (2))]), (.tup [(.int (1)), (.int (2))])],
  .lst [(.tup [(.int (1)), (.int (2))]), (.tup [(.int (1)), (.int (1))])],
  .lst [(.tup [(.int (-1)), (.int (2))]), (.tup [(.int (1)), (.int (2))])],
  .lst [(.tup [(.int (0)), (.int (1))]), (.tup [(.int (1)), (.int (2))]), (.tup [(.int (1)), (.int (1))])],
  .lst [(.tup [(.int (1)), (.int (2))]), (.tup [(.int (1)), (.int (2))])],
  .lst [(.tup [(.int (1)), (.int (2))]), (.tup [(.int (1)), (.int (1))])],
  .lst [(.tup [(.int (-1)), (.int (2))]), (.tup [(.int (1)), (.int (2))])],
  .lst [(.tup [(.int (0)), (.int (1))]), (.tup [(.int (1)), (.int (2))]), (.tup [(.int (1)), (.int (1))])],
  .lst [(.tup [(.int (1)), (.int (2))]), (.tup [(.int (1)), (.int (2))])],
  .lst [(.tup [(.int (1)), (.int (2))]), (.tup [(.int (1)), (.int (1))])],
  .lst [(.tup [(.int (0)), (.int (1))]), (.tup [(.int (0)), (.int (1))])],
  .ins 1 [(0, (.ref 47))],
  .lst [(.tup [(.int (1)), (.int (2))]), (.tup [(.int (1)), (.int (2))])],
  .lst [(.ref 46)],
  .lst [],
  .lst [(.tup [(.int (1)), (.int (1))])],
  .lst [(.tup [(.int (0)), (.int (1))]), (.tup [(.int (-1)), (.int (1))]), (.tup [(.int (1)), (.int (1))])],
  .lst [(.int (0)), (.int (-1)), (.int (1))],
  .lst [(.int (-1)), (.int (0)), (.int (1))],
  .lst [],
  .lst [],
  .lst [(.int (-1)), (.int (1))],
  .lst [(.tup [(.int (1)), (.int (2))]), (.tup [(.int (1)), (.int (2))])],
  .lst [(.ref 76)],
  .lst [(.tup [(.int (1)), (.int (1))])],
  .lst [(.tup [(.int (0)), (.int (1))]), (.tup [(.int (1)), (.int (2))]), (.tup [(.int (1)), (.int (1))])],
  .lst [(.tup [(.int (0)), (.int (1))])],
  .lst [(.tup [(.int (-1)), (.int (1))]), (.tup [(.int (-1)), (.int (2))]), (.tup [(.int (0)), (.int (1))])],
  .lst [(.tup [(.int (0)), (.int (1))]), (.tup [(.int (1)), (.int (2))]), (.tup [(.int (1)), (.int (1))]), (.tup [(.int (-1)), (.int (1))]), (.tup [(.int (-1)), (.int (2))]), (.tup [(.int (0)), (.int (1))])],
  .lst [(.tup [(.int (0)), (.int (1))]), (.tup [(.int (1)), (.int (2))]), (.tup [(.int (1)), (.int (1))])],
  .lst [(.tup [(.int (1)), (.int (2))]), (.tup [(.int (1)), (.int (2))])],
  .lst [(.tup [(.int (1)), (.int (2))]), (.tup [(.int (1)), (.int (1))])],
  .lst [(.tup [(.int (-1)), (.int (2))]), (.tup [(.int (1)), (.int (2))])],
  .lst [(.tup [(.int (0)), (.int (1))]), (.tup [(.int (1)), (.int (2))]), (.tup [(.int (1)), (.int (1))])],
  .lst [(.tup [(.int (1)), (.int (2))]), (.tup [(.int (1)), (.int (2))])],
  .lst [(.tup [(.int (1)), (.int (2))]), (.tup [(.int (1)), (.int (1))])],
  .lst [(.tup [(.int (-1)), (.int (2))]), (.tup [(.int (1)), (.int (2))])],
  .lst [(.tup [(.int (0)), (.int (1))]), (.tup [(.int (1)), (.int (2))]), (.tup [(.int (1)), (.int (1))])],
  .lst [(.tup [(.int (1)), (.int (2))]), (.tup [(.int (1)), (.int (2))])],
  .lst [(.tup [(.int (1)), (.int (2))]), (.tup [(.int (1)), (.int (1))])],
  .lst [(.tup [(.int (-1)), (.int (2))]), (.tup [(.int (1)), (.int (2))])],
  .lst [(.tup [(.int (0)), (.int (1))]), (.tup [(.int (1)), (.int (2))]), (.tup [(.int (1)), (.int (1))])],
  .lst [(.tup [(.int (1)), (.int (2))]), (.tup [(.int (1)), (.int (2))])],
  .lst [(.tup [(.int (1)), (.int (2))]), (.tup [(.int (1)), (.int (1))])],
  .lst [(.tup [(.int (0)), (.int (1))]), (.tup [(.int (0)), (.int (1))])],
  .ins 1 [(0, (.ref 81))],
  .lst [(.tup [(.int (1)), (.int (2))]), (.tup [(.int (1)), (.int (2))])],
  .lst [(.ref 80)]]
theorem eS0_7 : stepB 10 0 fBg7 hBg7 = .nx fS0_7 hS0_7 := by kernel_rfl
def fT0_7 : F := [some (.cod 1 1 (.isi (.cal 53 (.cons (.idx (.v 0) (.int (0))) (.cons (.idx (.v 0) (.int (1))) .nil))) (.own 1))), some (.ref 2), some (.ref 5), some (.ref 8), some (.ref 9), some (.ref 2), some (.bl true), some (.int (1)), some (.bl true)]
def hT0_7 : Hm := [.lst [(.tup [(.int (0)), (.int (1))])],
  .lst [(.tup [(.int (-1)), (.int (1))]), (.tup [(.int (1)), (.int (1))])],
  .lst [(.ref 0), (.ref 1)],
  .lst [(.tup [(.int (1)), (.int (1))])],
  .lst [(.tup [(.int (-1)), (.int (1))]), (.tup [(.int (1)), (.int (1))])],
  .lst [(.ref 3), (.ref 4)],
  .lst [(.tup [(.int (0)), (.int (1))])],
  .lst [(.tup [(.int (-1)), (.int (1))]), (.tup [(.int (1)), (.int (1))])],
  .lst [(.ref 6), (.ref 7)],
  .lst [(.tup [(.ref 2), (.bl true)]), (.tup [(.ref 5), (.bl false)])],
  .lst [(.tup [(.ref 2), (.bl true)]), (.tup [(.ref 5), (.bl false)]), (.tup [(.ref 2), (.bl true)]), (.tup [(.ref 5), (.bl false)])]]
theorem gS0_7 : Gc 6 [0, 1, 2, 3, 4, 5, 6, 7, 8, 9, 10] fT0_7 [.ref 10] hT0_7 fS0_7 [.ref 10] hS0_7 := gc_of (by decide +kernel)
def fS1_7 : F := [some (.cod 1 1 (.isi (.cal 53 (.cons (.idx (.v 0) (.int (0))) (.cons (.idx (.v 0) (.int (1))) .nil))) (.own 1))), some (.ref 2), some (.ref 5), some (.ref 8), some (.ref 9), some (.ref 5), some (.bl false), some (.int (1)), some (.bl false)]
def hS1_7 : Hm := [.lst [(.tup [(.int (0)), (.int (1))])],
  .lst [(.tup [(.int (-1)), (.int (1))]), (.tup [(.int (1)), (.int (1))])],
  .lst [(.ref 0), (.ref 1)],
  .lst [(.tup [(.int (1)), (.int (1))])],
  .lst [(.tup [(.int (-1)), (.int (1))]), (.tup [(.int (1)), (.int (1))])],
  .lst [(.ref 3), (.ref 4)],
  .lst [(.tup [(.int (1)), (.int (1))])],
  .lst [(.tup [(.int (-1)), (.int (1))]), (.tup [(.int (1)), (.int (1))])],
  .lst [(.ref 6), (.ref 7)],
  .lst [(.tup [(.ref 2), (.bl true)]), (.tup [(.ref 5), (.bl false)])],
  .lst [(.tup [(.ref 2), (.bl true)]), (.tup [(.ref 5), (.bl false)]), (.tup [(.ref 2), (.bl true)]), (.tup [(.ref 5), (.bl false)])],
  .lst [(.int (1)), (.int (1))],
  .lst [(.int (-1)), (.int (1))],
  .lst [(.int (1)), (.int (1))],
  .lst [],
  .lst [(.tup [(.int (1)), (.int (1))])],
  .lst [(.str "mean"), .non],
  .lst [],
  .ins 2 [(1, (.str "mean")), (2, .non)],
  .lst [],
  .lst [(.tup [(.int (1)), (.int (1))])],
  .lst [(.str "mean"), .non],
  .lst [],
  .ins 2 [(1, (.str "mean")), (2, .non)]]
theorem eS1_7 : stepB 10 1 fT0_7 hT0_7 = .nx fS1_7 hS1_7 := by kernel_rfl
def fT1_7 : F := [some (.cod 1 1 (.isi (.cal 53 (.cons (.idx (.v 0) (.int (0))) (.cons (.idx (.v 0) (.int (1))) .nil))) (.own 1))), some (.ref 2), some (.ref 5), some (.ref 8), some (.ref 9), some (.ref 5), some (.bl false), some (.int (1)), some (.bl false)]
def hT1_7 : Hm := [.lst [(.tup [(.int (0)), (.int (1))])],
  .lst [(.tup [(.int (-1)), (.int (1))]), (.tup [(.int (1)), (.int (1))])],
  .lst [(.ref 0), (.ref 1)],
  .lst [(.tup [(.int (1)), (.int (1))])],
  .lst [(.tup [(.int (-1)), (.int (1))]), (.tup [(.int (1)), (.int (1))])],
  .lst [(.ref 3), (.ref 4)],
  .lst [(.tup [(.int (1)), (.int (1))])],
  .lst [(.tup [(.int (-1)), (.int (1))]), (.tup [(.int (1)), (.int (1))])],
  .lst [(.ref 6), (.ref 7)],
  .lst [(.tup [(.ref 2), (.bl true)]), (.tup [(.ref 5), (.bl false)])],
  .lst [(.tup [(.ref 2), (.bl true)]), (.tup [(.ref 5), (.bl false)]), (.tup [(.ref 2), (.bl true)]), (.tup [(.ref 5), (.bl false)])]]
theorem gS1_7 : Gc 6 [0, 1, 2, 3, 4, 5, 6, 7, 8, 9, 10] fT1_7 [.ref 10] hT1_7 fS1_7 [.ref 10] hS1_7 := gc_of (by decide +kernel)
def fS2_7 : F := [some (.cod 1 1 (.isi (.cal 53 (.cons (.idx (.v 0) (.int (0))) (.cons (.idx (.v 0) (.int (1))) .nil))) (.own 1))), some (.ref 2), some (.ref 5), some (.ref 8), some (.ref 9), some (.ref 2), some (.bl true), some (.int (1)), some (.bl true)]
def hS2_7 : Hm := [.lst [(.tup [(.int (0)), (.int (1))])],
  .lst [(.tup [(.int (-1)), (.int (1))]), (.tup [(.int (1)), (.int (1))])],
  .lst [(.ref 0), (.ref 1)],
  .lst [(.tup [(.int (1)), (.int (1))])],
  .lst [(.tup [(.int (-1)), (.int (1))]), (.tup [(.int (1)), (.int (1))])],
  .lst [(.ref 3), (.ref 4)],
  .lst [(.tup [(.int (0)), (.int (1))])],
  .lst [(.tup [(.int (-1)), (.int (1))]), (.tup [(.int (1)), (.int (1))])],
  .lst [(.ref 6), (.ref 7)],
  .lst [(.tup [(.ref 2), (.bl true)]), (.tup [(.ref 5), (.bl false)])],
  .lst [(.tup [(.ref 2), (.bl true)]), (.tup [(.ref 5), (.bl false)]), (.tup [(.ref 2), (.bl true)]), (.tup [(.ref 5), (.bl false)])],
  .lst [(.int (0)), (.int (1))],
  .lst [(.int (-1)), (.int (1))],
  .lst [(.int (1)), (.int (1))],
  .lst [],
  .lst [(.tup [(.int (1)), (.int (1))])],
  .lst [(.tup [(.int (0)), (.int (1))]), (.tup [(.int (-1)), (.int (1))]), (.tup [(.int (1)), (.int (1))])],
  .lst [(.int (0)), (.int (-1)), (.int (1))],
  .lst [(.int (-1)), (.int (0)), (.int (1))],
  .lst [],
  .lst [],
  .lst [(.int (-1)), (.int (1))],
  .lst [(.tup [(.int (1)), (.int (2))]), (.tup [(.int (1)), (.int (2))])],
  .lst [(.ref 42)],
  .lst [(.tup [(.int (1)), (.int (1))])],
  .lst [(.tup [(.int (0)), (.int (1))]), (.tup [(.int (1)), (.int (2))]), (.tup [(.int (1)), (.int (1))])],
  .lst [(.tup [(.int (0)), (.int (1))])],
  .lst [(.tup [(.int (-1)), (.int (1))]), (.tup [(.int (-1)), (.int (2))]), (.tup [(.int (0)), (.int (1))])],
  .lst [(.tup [(.int (0)), (.int (1))]), (.tup [(.int (1)), (.int (2))]), (.tup [(.int (1)), (.int (1))]), (.tup [(.int (-1)), (.int (1))]), (.tup [(.int (-1)), (.int (2))]), (.tup [(.int (0)), (.int (1))])],
  .lst [(.tup [(.int (0)), (.int (1))]), (.tup [(.int (1)), (.int (2))]), (.tup [(.int (1)), (.int (1))])],
  .lst [(.tup [(.int (1)), (.int (2))]), (.tup [(.int (1)), (.int (2))])],
  .lst [(.tup [(.int (1)), (.int (2))]), (.tup [(.int (1)), (.int (1))])],
  .lst [(.tup [(.int (-1)), (.int (2))]), (.tup [(.int (1)), (.int (2))])],
  .lst [(.tup [(.int (0)), (.int (1))]), (.tup [(.int (1)), (.int (2))]), (.tup [(.int (1)), (.int (1))])],
  .lst [(.tup [(.int (1)), (.int (2))]), (.tup [(.int (1)), (.int (2))])],
  .lst [(.tup [(.int (1)), (.int (2))]), (.tup [(.int (1)), (.int (1))])],
  .lst [(.tup [(.int (-1)), (.int (2))]), (.tup [(.int (1)), (.int (2))])],
  .lst [(.tup [(.int (0)), (.int (1))]), (.tup [(.int (1)), (.int (2))]), (.tup [(.int (1)), (.int (1))])],
  .lst [(.tup [(.int (1)), (.int (2))]), (.tup [(.int (1)), (.int (2))])],
  .lst [(.tup [(.int (1)), (.int (2))]), (.tup [(.int (1)), (.int (1))])],
  .lst [(.tup [(.int (-1)), (.int (2))]), (.tup [(.int (1)), (.int (2))])],
  .lst [(.tup [(.int (0)), (.int (1))]), (.tup [(.int (1)), (.int (2))]), (.tup [(.int (1)), (.int (1))])],
  .lst [(.tup [(.int (1)), (.int (2))]), (.tup [(.int (1)), (.int (2))])],
  .lst [(.tup [(.int (1)), (.int (2))]), (.tup [(.int (1)), (.int (1))])],
  .lst [(.tup [(.int (0)), (.int (1))]), (.tup [(.int (0)), (.int (1))])],
  .ins 1 [(0, (.ref 47))],
  .lst [(.tup [(.int (1)), (.int (2))]), (.tup [(.int (1)), (.int (2))])],
  .lst [(.ref 46)],
  .lst [],
  .lst [(.tup [(.int (1)), (.int (1))])],
  .lst [(.tup [(.int (0)), (.int (1))]), (.tup [(.int (-1)), (.int (1))]), (.tup [(.int (1)), (.int (1))])],
  .lst [(.int (0)), (.int (-1)), (.int (1))],
  .lst [(.int (-1)), (.int (0)), (.int (1))],
  .lst [],
  .lst [],
  .lst [(.int (-1)), (.int (1))],
  .lst [(.tup [(.int (1)), (.int (2))]), (.tup [(.int (1)), (.int (2))])],
  .lst [(.ref 76)],
  .lst [(.tup [(.int (1)), (.int (1))])],
  .lst [(.tup [(.int (0)), (.int (1))]), (.tup [(.int (1)), (.int (2))]), (.tup [(.int (1)), (.int (1))])],
  .lst [(.tup [(.int (0)), (.int (1))])],
  .lst [(.tup [(.int (-1)), (.int (1))]), (.tup [(.int (-1)), (.int (2))]), (.tup [(.int (0)), (.int (1))])],
  .lst [(.tup [(.int (0)), (.int (1))]), (.tup [(.int (1)), (.int (2))]), (.tup [(.int (1)), (.int (1))]), (.tup [(.int (-1)), (.int (1))]), (.tup [(.int (-1)), (.int (2))]), (.tup [(.int (0)), (.int (1))])],
  .lst [(.tup [(.int (0)), (.int (1))]), (.tup [(.int (1)), (.int (2))]), (.tup [(.int (1)), (.int (1))])],
  .lst [(.tup [(.int (1)), (.int (2))]), (.tup [(.int (1)), (.int (2))])],
  .lst [(.tup [(.int (1)), (.int (2))]), (.tup [(.int (1)), (.int (1))])],
  .lst [(.tup [(.int (-1)), (.int (2))]), (.tup [(.int (1)), (.int (2))])],
  .lst [(.tup [(.int (0)), (.int (1))]), (.tup [(.int (1)), (.int (2))]), (.tup [(.int (1)), (.int (1))])],
  .lst [(.tup [(.int (1)), (.int (2))]), (.tup [(.int (1)), (.int (2))])],
  .lst [(.tup [(.int (1)), (.int (2))]), (.tup [(.int (1)), (.int (1))])],
  .lst [(.tup [(.int (-1)), (.int (2))]), (.tup [(.int (1)), (.int (2))])],
  .lst [(.tup [(.int (0)), (.int (1))]), (.tup [(.int (1)), (.int (2))]), (.tup [(.int (1)), (.int (1))])],
  .lst [(.tup [(.int (1)), (.int (2))]), (.tup [(.int (1)), (.int (2))])],
  .lst [(.tup [(.int (1)), (.int (2))]), (.tup [(.int (1)), (.int (1))])],
  .lst [(.tup [(.int (-1)), (.int (2))]), (.tup [(.int (1)), (.int (2))])],
  .lst [(.tup [(.int (0)), (.int (1))]), (.tup [(.int (1)), (.int (2))]), (.tup [(.int (1)), (.int (1))])],
  .lst [(.tup [(.int (1)), (.int (2))]), (.tup [(.int (1)), (.int (2))])],
  .lst [(.tup [(.int (1)), (.int (2))]), (.tup [(.int (1)), (.int (1))])],
  .lst [(.tup [(.int (0)), (.int (1))]), (.tup [(.int (0)), (.int (1))])],
  .ins 1 [(0, (.ref 81))],
  .lst [(.tup [(.int (1)), (.int (2))]), (.tup [(.int (1)), (.int (2))])],
  .lst [(.ref 80)]]
theorem eS2_7 : stepB 10 2 fT1_7 hT1_7 = .nx fS2_7 hS2_7 := by kernel_rfl
def fT2_7 : F := [some (.cod 1 1 (.isi (.cal 53 (.cons (.idx (.v 0) (.int (0))) (.cons (.idx (.v 0) (.int (1))) .nil))) (.own 1))), some (.ref 2), some (.ref 5), some (.ref 8), some (.ref 9), some (.ref 2), some (.bl true), some (.int (1)), some (.bl true)]
def hT2_7 : Hm := [.lst [(.tup [(.int (0)), (.int (1))])],
  .lst [(.tup [(.int (-1)), (.int (1))]), (.tup [(.int (1)), (.int (1))])],
  .lst [(.ref 0), (.ref 1)],
  .lst [(.tup [(.int (1)), (.int (1))])],
  .lst [(.tup [(.int (-1)), (.int (1))]), (.tup [(.int (1)), (.int (1))])],
  .lst [(.ref 3), (.ref 4)],
  .lst [(.tup [(.int (0)), (.int (1))])],
  .lst [(.tup [(.int (-1)), (.int (1))]), (.tup [(.int (1)), (.int (1))])],
  .lst [(.ref 6), (.ref 7)],
  .lst [(.tup [(.ref 2), (.bl true)]), (.tup [(.ref 5), (.bl false)])],
  .lst [(.tup [(.ref 2), (.bl true)]), (.tup [(.ref 5), (.bl false)]), (.tup [(.ref 2), (.bl true)]), (.tup [(.ref 5), (.bl false)])]]
theorem gS2_7 : Gc 6 [0, 1, 2, 3, 4, 5, 6, 7, 8, 9, 10] fT2_7 [.ref 10] hT2_7 fS2_7 [.ref 10] hS2_7 := gc_of (by decide +kernel)
def fS3_7 : F := [some (.cod 1 1 (.isi (.cal 53 (.cons (.idx (.v 0) (.int (0))) (.cons (.idx (.v 0) (.int (1))) .nil))) (.own 1))), some (.ref 2), some (.ref 5), some (.ref 8), some (.ref 9), some (.ref 5), some (.bl false), some (.int (1)), some (.bl false)]
def hS3_7 : Hm := [.lst [(.tup [(.int (0)), (.int (1))])],
  .lst [(.tup [(.int (-1)), (.int (1))]), (.tup [(.int (1)), (.int (1))])],
  .lst [(.ref 0), (.ref 1)],
  .lst [(.tup [(.int (1)), (.int (1))])],
  .lst [(.tup [(.int (-1)), (.int (1))]), (.tup [(.int (1)), (.int (1))])],
  .lst [(.ref 3), (.ref 4)],
  .lst [(.tup [(.int (1)), (.int (1))])],
  .lst [(.tup [(.int (-1)), (.int (1))]), (.tup [(.int (1)), (.int (1))])],
  .lst [(.ref 6), (.ref 7)],
  .lst [(.tup [(.ref 2), (.bl true)]), (.tup [(.ref 5), (.bl false)])],
  .lst [(.tup [(.ref 2), (.bl true)]), (.tup [(.ref 5), (.bl false)]), (.tup [(.ref 2), (.bl true)]), (.tup [(.ref 5), (.bl false)])],
  .lst [(.int (1)), (.int (1))],
  .lst [(.int (-1)), (.int (1))],
  .lst [(.int (1)), (.int (1))],
  .lst [],
  .lst [(.tup [(.int (1)), (.int (1))])],
  .lst [(.str "mean"), .non],
  .lst [],
  .ins 2 [(1, (.str "mean")), (2, .non)],
  .lst [],
  .lst [(.tup [(.int (1)), (.int (1))])],
  .lst [(.str "mean"), .non],
  .lst [],
  .ins 2 [(1, (.str "mean")), (2, .non)]]
theorem eS3_7 : stepB 10 3 fT2_7 hT2_7 = .nx fS3_7 hS3_7 := by kernel_rfl
theorem door7 : DoorR (.cod 1 1 bd7) 2 5 hs7 := fun _ _ _ S0 rv => door_parts (n := 6) rfl eA7 gA7 eB7 gB7 (by kernel_rfl) eS0_7 gS0_7 eS1_7 gS1_7 eS2_7 gS2_7 eS3_7 (by kernel_rfl) (show hS3_7 = hs7 ++ hS3_7.drop 6 by kernel_rfl) S0 rv (fun _ h => h)
theorem row7 : Row (.tup [.cod 1 1 bd7, .ref 41, .ref 44]) := row_of (q := [39, 40, 41, 42, 43, 44]) door7 (by decide +kernel)
def hs8 : Hm := [.lst [(.int (1)), (.int (1)), (.int (1))], .lst [(.ref 0)], .lst [(.int (1)), (.int (1)), (.int (4))], .lst [(.ref 2)]]
def bd8 : E := (.cal 44 (.cons (.idx (.v 0) (.int (0))) (.cons (.int (4)) .nil)))
def fA8 : F := [some (.cod 1 1 (.cal 44 (.cons (.idx (.v 0) (.int (0))) (.cons (.int (4)) .nil)))), some (.ref 1), some (.ref 3), some (.ref 5), some (.ref 6), some (.ref 3), none, none, none]
def hA8 : Hm := [.lst [(.int (1)), (.int (1)), (.int (1))],
  .lst [(.ref 0)],
  .lst [(.int (1)), (.int (1)), (.int (4))],
  .lst [(.ref 2)],
  .lst [(.int (1)), (.int (1)), (.int (1))],
  .lst [(.ref 4)],
  .lst [(.tup [(.ref 1), (.int (3))]), (.tup [(.ref 3), (.int (2))])],
  .lst [(.int (1)), (.int (1)), (.int (1))],
  .lst [(.ref 7)],
  .lst [(.int (1)), (.int (1))],
  .lst [(.int (0)), (.int (0)), (.int (3)), (.int (6)), (.int (9)), (.int (12))],
  .dT [([0, 0], (.int (3))), ([1, 0], (.int (2))), ([2, 0], (.int (1)))],
  .dT [([0, 0], (.int (1))), ([1, 0], (.int (1))), ([1, 1], (.int (1))), ([2, 0], (.int (1))), ([2, 1], (.int (1))), ([2, 2], (.int (1))), ([3, 0], (.int (1)))],
  .dT [([2, 3], (.int (1))), ([2, 4], (.int (1))), ([3, 3], (.int (1)))],
  .dT [([2, 6], (.int (1))), ([3, 6], (.int (1)))],
  .dT [([3, 9], (.int (1)))],
  .dT [([3, 12], (.int (1)))],
  .lst [(.ref 11), (.ref 12), (.ref 13), (.ref 14), (.ref 15), (.ref 16)],
  .lst [(.int (1)), (.int (1)), (.int (4))],
  .lst [(.ref 18)],
  .lst [(.int (1)), (.int (4))],
  .lst [(.int (0)), (.int (0)), (.int (2)), (.int (4)), (.int (6)), (.int (9))],
  .dT [([0, 0], (.int (2))), ([1, 0], (.int (1)))],
  .dT [([0, 0], (.int (1))), ([1, 0], (.int (1))), ([1, 1], (.int (1))), ([2, 0], (.int (1)))],
  .dT [([1, 2], (.int (1))), ([2, 2], (.int (1)))],
  .dT [([2, 4], (.int (1)))],
  .dT [([2, 6], (.int (1))), ([3, 6], (.int (1)))],
  .dT [([3, 9], (.int (1)))],
  .lst [(.ref 22), (.ref 23), (.ref 24), (.ref 25), (.ref 26), (.ref 27)]]
theorem eA8 : exec (cbM Tl 38) dA [some (.cod 1 1 bd8), some (.ref 1), some (.ref 3), none, none, none, none, none, none] hs8 = .nx fA8 hA8 := by kernel_rfl
def fAg8 : F := [some (.cod 1 1 (.cal 44 (.cons (.idx (.v 0) (.int (0))) (.cons (.int (4)) .nil)))), some (.ref 1), some (.ref 3), some (.ref 5), some (.ref 6), some (.ref 3), none, none, none]
def hAg8 : Hm := [.lst [(.int (1)), (.int (1)), (.int (1))],
  .lst [(.ref 0)],
  .lst [(.int (1)), (.int (1)), (.int (4))],
  .lst [(.ref 2)],
  .lst [(.int (1)), (.int (1)), (.int (1))],
  .lst [(.ref 4)],
  .lst [(.tup [(.ref 1), (.int (3))]), (.tup [(.ref 3), (.int (2))])]]
theorem gA8 : Gc 4 [0, 1, 2, 3, 4, 5, 6] fAg8 [] hAg8 fA8 [] hA8 := gc_of (by decide +kernel)
def fB8 : F := []
def hB8 : Hm := [.lst [(.int (1)), (.int (1)), (.int (1))],
  .lst [(.ref 0)],
  .lst [(.int (1)), (.int (1)), (.int (4))],
  .lst [(.ref 2)],
  .lst [(.int (1)), (.int (1)), (.int (1))],
  .lst [(.ref 4)],
  .lst [(.tup [(.ref 1), (.int (3))]), (.tup [(.ref 3), (.int (2))])],
  .lst [(.tup [(.ref 1), (.int (3))]), (.tup [(.ref 3), (.int (2))]), (.tup [(.ref 1), (.int (3))]), (.tup [(.ref 3), (.int (2))])]]
theorem eB8 : evI (cbM Tl 38) dI fAg8 hAg8 = .ok (.seq (.ref 7)) hB8 := by kernel_rfl
def fBg8 : F := [some (.cod 1 1 (.cal 44 (.cons (.idx (.v 0) (.int (0))) (.cons (.int (4)) .nil)))), some (.ref 1), some (.ref 3), some (.ref 5), some (.ref 6), some (.ref 3), none, none, none]
def hBg8 : Hm := [.lst [(.int (1)), (.int (1)), (.int (1))],
  .lst [(.ref 0)],
  .lst [(.int (1)), (.int (1)), (.int (4))],
  .lst [(.ref 2)],
  .lst [(.int (1)), (.int (1)), (.int (1))],
  .lst [(.ref 4)],
  .lst [(.tup [(.ref 1), (.int (3))]), (.tup [(.ref 3), (.int (2))])],
  .lst [(.tup [(.ref 1), (.int (3))]), (.tup [(.ref 3), (.int (2))]), (.tup [(.ref 1), (.int (3))]), (.tup [(.ref 3), (.int (2))])]]
theorem gB8 : Gc 4 [0, 1, 2, 3, 4, 5, 6, 7] fBg8 [.ref 7] hBg8 fAg8 [.ref 7] hB8 := gc_of (by decide +kernel)
def fS0_8 : F := [some (.cod 1 1 (.cal 44 (.cons (.idx (.v 0) (.int (0))) (.cons (.int (4)) .nil)))), some (.ref 1), some (.ref 3), some (.ref 5), some (.ref 6), some (.ref 1), some (.int (3)), some (.int (1)), some (.int (3))]
def hS0_8 : Hm := [.lst [(.int (1)), (.int (1)), (.int (1))],
  .lst [(.ref 0)],
  .lst [(.int (1)), (.int (1)), (.int (4))],
  .lst [(.ref 2)],
  .lst [(.int (1)), (.int (1)), (.int (1))],
  .lst [(.ref 4)],
  .lst [(.tup [(.ref 1), (.int (3))]), (.tup [(.ref 3), (.int (2))])],
  .lst [(.tup [(.ref 1), (.int (3))]), (.tup [(.ref 3), (.int (2))]), (.tup [(.ref 1), (.int (3))]), (.tup [(.ref 3), (.int (2))])],
  .lst [(.int (1)), (.int (1))],
  .lst [(.int (0)), (.int (0)), (.int (3)), (.int (6)), (.int (9)), (.int (12))],
  .dT [([0, 0], (.int (3))), ([1, 0], (.int (2))), ([2, 0], (.int (1)))],
  .dT [([0, 0], (.int (1))), ([1, 0], (.int (1))), ([1, 1], (.int (1))), ([2, 0], (.int (1))), ([2, 1], (.int (1))), ([2, 2], (.int (1))), ([3, 0], (.int (1)))],
  .dT [([2, 3], (.int (1))), ([2, 4], (.int (1))), ([3, 3], (.int (1)))],
  .dT [([2, 6], (.int (1))), ([3, 6], (.int (1)))],
  .dT [([3, 9], (.int (1)))],
  .dT [([3, 12], (.int (1)))],
  .lst [(.ref 10), (.ref 11), (.ref 12), (.ref 13), (.ref 14), (.ref 15)],
  .lst [(.int (1)), (.int (1))],
  .lst [(.int (0)), (.int (0)), (.int (3)), (.int (6)), (.int (9)), (.int (12))],
  .dT [([0, 0], (.int (3))), ([1, 0], (.int (2))), ([2, 0], (.int (1)))],
  .dT [([0, 0], (.int (1))), ([1, 0], (.int (1))), ([1, 1], (.int (1))), ([2, 0], (.int (1))), ([2, 1], (.int (1))), ([2, 2], (.int (1))), ([3, 0], (.int (1)))],
  .dT [([2, 3], (.int (1))), ([2, 4], (.int (1))), ([3, 3], (.int (1)))],
  .dT [([2, 6], (.int (1))), ([3, 6], (.int (1)))],
  .dT [([3, 9], (.int (1)))],
  .dT [([3, 12], (.int (1)))],
  .lst [(.ref 19), (.ref 20), (.ref 21), (.ref 22), (.ref 23), (.ref 24)]]
theorem eS0_8 : stepB 7 0 fBg8 hBg8 = .nx fS0_8 hS0_8 := by kernel_rfl
def fT0_8 : F := [some (.cod 1 1 (.cal 44 (.cons (.idx (.v 0) (.int (0))) (.cons (.int (4)) .nil)))), some (.ref 1), some (.ref 3), some (.ref 5), some (.ref 6), some (.ref 1), some (.int (3)), some (.int (1)), some (.int (3))]
def hT0_8 : Hm := [.lst [(.int (1)), (.int (1)), (.int (1))],
  .lst [(.ref 0)],
  .lst [(.int (1)), (.int (1)), (.int (4))],
  .lst [(.ref 2)],
  .lst [(.int (1)), (.int (1)), (.int (1))],
  .lst [(.ref 4)],
  .lst [(.tup [(.ref 1), (.int (3))]), (.tup [(.ref 3), (.int (2))])],
  .lst [(.tup [(.ref 1), (.int (3))]), (.tup [(.ref 3), (.int (2))]), (.tup [(.ref 1), (.int (3))]), (.tup [(.ref 3), (.int (2))])]]
theorem gS0_8 : Gc 4 [0, 1, 2, 3, 4, 5, 6, 7] fT0_8 [.ref 7] hT0_8 fS0_8 [.ref 7] hS0_8 := gc_of (by decide +kernel)
def fS1_8 : F := [some (.cod 1 1 (.cal 44 (.cons (.idx (.v 0) (.int (0))) (.cons (.int (4)) .nil)))), some (.ref 1), some (.ref 3), some (.ref 5), some (.ref 6), some (.ref 3), some (.int (2)), some (.int (1)), some (.int (2))]
def hS1_8 : Hm := [.lst [(.int (1)), (.int (1)), (.int (1))],
  .lst [(.ref 0)],
  .lst [(.int (1)), (.int (1)), (.int (4))],
  .lst [(.ref 2)],
  .lst [(.int (1)), (.int (1)), (.int (4))],
  .lst [(.ref 4)],
  .lst [(.tup [(.ref 1), (.int (3))]), (.tup [(.ref 3), (.int (2))])],
  .lst [(.tup [(.ref 1), (.int (3))]), (.tup [(.ref 3), (.int (2))]), (.tup [(.ref 1), (.int (3))]), (.tup [(.ref 3), (.int (2))])],
  .lst [(.int (1)), (.int (4))],
  .lst [(.int (0)), (.int (0)), (.int (2)), (.int (4)), (.int (6)), (.int (9))],
  .dT [([0, 0], (.int (2))), ([1, 0], (.int (1)))],
  .dT [([0, 0], (.int (1))), ([1, 0], (.int (1))), ([1, 1], (.int (1))), ([2, 0], (.int (1)))],
  .dT [([1, 2], (.int (1))), ([2, 2], (.int (1)))],
  .dT [([2, 4], (.int (1)))],
  .dT [([2, 6], (.int (1))), ([3, 6], (.int (1)))],
  .dT [([3, 9], (.int (1)))],
  .lst [(.ref 10), (.ref 11), (.ref 12), (.ref 13), (.ref 14), (.ref 15)],
  .lst [(.int (1)), (.int (4))],
  .lst [(.int (0)), (.int (0)), (.int (2)), (.int (4)), (.int (6)), (.int (9))],
  .dT [([0, 0], (.int (2))), ([1, 0], (.int (1)))],
  .dT [([0, 0], (.int (1))), ([1, 0], (.int (1))), ([1, 1], (.int (1))), ([2, 0], (.int (1)))],
  .dT [([1, 2], (.int (1))), ([2, 2], (.int (1)))],
  .dT [([2, 4], (.int (1)))],
  .dT [([2, 6], (.int (1))), ([3, 6], (.int (1)))],
  .dT [([3, 9], (.int (1)))],
  .lst [(.ref 19), (.ref 20), (.ref 21), (.ref 22), (.ref 23), (.ref 24)]]
theorem eS1_8 : stepB 7 1 fT0_8 hT0_8 = .nx fS1_8 hS1_8 := by kernel_rfl
def fT1_8 : F := [some (.cod 1 1 (.cal 44 (.cons (.idx (.v 0) (.int (0))) (.cons (.int (4)) .nil)))), some (.ref 1), some (.ref 3), some (.ref 5), some (.ref 6), some (.ref 3), some (.int (2)), some (.int (1)), some (.int (2))]
def hT1_8 : Hm := [.lst [(.int (1)), (.int (1)), (.int (1))],
  .lst [(.ref 0)],
  .lst [(.int (1)), (.int (1)), (.int (4))],
  .lst [(.ref 2)],
  .lst [(.int (1)), (.int (1)), (.int (4))],
  .lst [(.ref 4)],
  .lst [(.tup [(.ref 1), (.int (3))]), (.tup [(.ref 3), (.int (2))])],
  .lst [(.tup [(.ref 1), (.int (3))]), (.tup [(.ref 3), (.int (2))]), (.tup [(.ref 1), (.int (3))]), (.tup [(.ref 3), (.int (2))])]]
theorem gS1_8 : Gc 4 [0, 1, 2, 3, 4, 5, 6, 7] fT1_8 [.ref 7] hT1_8 fS1_8 [.ref 7] hS1_8 := gc_of (by decide +kernel)
def fS2_8 : F := [some (.cod 1 1 (.cal 44 (.cons (.idx (.v 0) (.int (0))) (.cons (.int (4)) .nil)))), some (.ref 1), some (.ref 3), some (.ref 5), some (.ref 6), some (.ref 1), some (.int (3)), some (.int (1)), some (.int (3))]
def hS2_8 : Hm := [.lst [(.int (1)), (.int (1)), (.int (1))],
  .lst [(.ref 0)],
  .lst [(.int (1)), (.int (1)), (.int (4))],
  .lst [(.ref 2)],
  .lst [(.int (1)), (.int (1)), (.int (1))],
  .lst [(.ref 4)],
  .lst [(.tup [(.ref 1), (.int (3))]), (.tup [(.ref 3), (.int (2))])],
  .lst [(.tup [(.ref 1), (.int (3))]), (.tup [(.ref 3), (.int (2))]), (.tup [(.ref 1), (.int (3))]), (.tup [(.ref 3), (.int (2))])],
  .lst [(.int (1)), (.int (1))],
  .lst [(.int (0)), (.int (0)), (.int (3)), (.int (6)), (.int (9)), (.int (12))],
  .dT [([0, 0], (.int (3))), ([1, 0], (.int (2))), ([2, 0], (.int (1)))],
  .dT [([0, 0], (.int (1))), ([1, 0], (.int (1))), ([1, 1], (.int (1))), ([2, 0], (.int (1))), ([2, 1], (.int (1))), ([2, 2], (.int (1))), ([3, 0], (.int (1)))],
  .dT [([2, 3], (.int (1))), ([2, 4], (.int (1))), ([3, 3], (.int (1)))],
  .dT [([2, 6], (.int (1))), ([3, 6], (.int (1)))],
  .dT [([3, 9], (.int (1)))],
  .dT [([3, 12], (.int (1)))],
  .lst [(.ref 10), (.ref 11), (.ref 12), (.ref 13), (.ref 14), (.ref 15)],
  .lst [(.int (1)), (.int (1))],
  .lst [(.int (0)), (.int (0)), (.int (3)), (.int (6)), (.int (9)), (.int (12))],
  .dT [([0, 0], (.int (3))), ([1, 0], (.int (2))), ([2, 0], (.int (1)))],
  .dT [([0, 0], (.int (1))), ([1, 0], (.int (1))), ([1, 1], (.int (1))), ([2, 0], (.int (1))), ([2, 1], (.int (1))), ([2, 2], (.int (1))), ([3, 0], (.int (1)))],
  .dT [([2, 3], (.int (1))), ([2, 4], (.int (1))), ([3, 3], (.int (1)))],
  .dT [([2, 6], (.int (1))), ([3, 6], (.int (1)))],
  .dT [([3, 9], (.int (1)))],
  .dT [([3, 12], (.int (1)))],
  .lst [(.ref 19), (.ref 20), (.ref 21), (.ref 22), (.ref 23), (.ref 24)]]
theorem eS2_8 : stepB 7 2 fT1_8 hT1_8 = .nx fS2_8 hS2_8 := by kernel_rfl
def fT2_8 : F := [some (.cod 1 1 (.cal 44 (.cons (.idx (.v 0) (.int (0))) (.cons (.int (4)) .nil)))), some (.ref 1), some (.ref 3), some (.ref 5), some (.ref 6), some (.ref 1), some (.int (3)), some (.int (1)), some (.int (3))]
def hT2_8 : Hm := [.lst [(.int (1)), (.int (1)), (.int (1))],
  .lst [(.ref 0)],
  .lst [(.int (1)), (.int (1)), (.int (4))],
  .lst [(.ref 2)],
  .lst [(.int (1)), (.int (1)), (.int (1))],
  .lst [(.ref 4)],
  .lst [(.tup [(.ref 1), (.int (3))]), (.tup [(.ref 3), (.int (2))])],
  .lst [(.tup [(.ref 1), (.int (3))]), (.tup [(.ref 3), (.int (2))]), (.tup [(.ref 1), (.int (3))]), (.tup [(.ref 3), (.int (2))])]]
theorem gS2_8 : Gc 4 [0, 1, 2, 3, 4, 5, 6, 7] fT2_8 [.ref 7] hT2_8 fS2_8 [.ref 7] hS2_8 := gc_of (by decide +kernel)
def fS3_8 : F := [some (.cod 1 1 (.cal 44 (.cons (.idx (.v 0) (.int (0))) (.cons (.int (4)) .nil)))), some (.ref 1), some (.ref 3), some (.ref 5), some (.ref 6), some (.ref 3), some (.int (2)), some (.int (1)), some (.int (2))]
def hS3_8 : Hm := [.lst [(.int (1)), (.int (1)), (.int (1))],
  .lst [(.ref 0)],
  .lst [(.int (1)), (.int (1)), (.int (4))],
  .lst [(.ref 2)],
  .lst [(.int (1)), (.int (1)), (.int (4))],
  .lst [(.ref 4)],
  .lst [(.tup [(.ref 1), (.int (3))]), (.tup [(.ref 3), (.int (2))])],
  .lst [(.tup [(.ref 1), (.int (3))]), (.tup [(.ref 3), (.int (2))]), (.tup [(.ref 1), (.int (3))]), (.tup [(.ref 3), (.int (2))])],
  .lst [(.int (1)), (.int (4))],
  .lst [(.int (0)), (.int (0)), (.int (2)), (.int (4)), (.int (6)), (.int (9))],
  .dT [([0, 0], (.int (2))), ([1, 0], (.int (1)))],
  .dT [([0, 0], (.int (1))), ([1, 0], (.int (1))), ([1, 1], (.int (1))), ([2, 0], (.int (1)))],
  .dT [([1, 2], (.int (1))), ([2, 2], (.int (1)))],
  .dT [([2, 4], (.int (1)))],
  .dT [([2, 6], (.int (1))), ([3, 6], (.int (1)))],
  .dT [([3, 9], (.int (1)))],
  .lst [(.ref 10), (.ref 11), (.ref 12), (.ref 13), (.ref 14), (.ref 15)],
  .lst [(.int (1)), (.int (4))],
  .lst [(.int (0)), (.int (0)), (.int (2)), (.int (4)), (.int (6)), (.int (9))],
  .dT [([0, 0], (.int (2))), ([1, 0], (.int (1)))],
  .dT [([0, 0], (.int (1))), ([1, 0], (.int (1))), ([1, 1], (.int (1))), ([2, 0], (.int (1)))],
  .dT [([1, 2], (.int (1))), ([2, 2], (.int (1)))],
  .dT [([2, 4], (.int (1)))],
  .dT [([2, 6], (.int (1))), ([3, 6], (.int (1)))],
  .dT [([3, 9], (.int (1)))],
  .lst [(.ref 19), (.ref 20), (.ref 21), (.ref 22), (.ref 23), (.ref 24)]]
theorem eS3_8 : stepB 7 3 fT2_8 hT2_8 = .nx fS3_8 hS3_8 := by kernel_rfl
theorem door8 : DoorR (.cod 1 1 bd8) 1 3 hs8 := fun _ _ _ S0 rv => door_parts (n := 4) rfl eA8 gA8 eB8 gB8 (by kernel_rfl) eS0_8 gS0_8 eS1_8 gS1_8 eS2_8 gS2_8 eS3_8 (by kernel_rfl) (show hS3_8 = hs8 ++ hS3_8.drop 4 by kernel_rfl) S0 rv (fun _ h => h)
theorem row8 : Row (.tup [.cod 1 1 bd8, .ref 46, .ref 48]) := row_of (q := [45, 46, 47, 48]) door8 (by decide +kernel)
def hs9 : Hm := [.lst [(.int (1)), (.int (1)), (.int (1))], .lst [(.ref 0)], .lst [(.int (1)), (.int (1)), (.int (4))], .lst [(.ref 2)]]
def bd9 : E := (.cal 45 (.cons (.idx (.v 0) (.int (0))) (.cons (.int (4)) (.cons (.int (0)) .nil))))
def fA9 : F := [some (.cod 1 1 (.cal 45 (.cons (.idx (.v 0) (.int (0))) (.cons (.int (4)) (.cons (.int (0)) .nil))))), some (.ref 1), some (.ref 3), some (.ref 5), some (.ref 6), some (.ref 3), none, none, none]
def hA9 : Hm := [.lst [(.int (1)), (.int (1)), (.int (1))],
  .lst [(.ref 0)],
  .lst [(.int (1)), (.int (1)), (.int (4))],
  .lst [(.ref 2)],
  .lst [(.int (1)), (.int (1)), (.int (1))],
  .lst [(.ref 4)],
  .lst [(.tup [(.ref 1), (.ref 29)]), (.tup [(.ref 3), (.ref 52)])],
  .lst [(.int (1)), (.int (1)), (.int (1))],
  .lst [(.ref 7)],
  .lst [(.int (1)), (.int (1))],
  .lst [(.int (0)), (.int (0)), (.int (3)), (.int (6)), (.int (9)), (.int (12))],
  .dT [([0, 0], (.int (3))), ([1, 0], (.int (2))), ([2, 0], (.int (1)))],
  .dT [([0, 0], (.int (1))), ([1, 0], (.int (1))), ([1, 1], (.int (1))), ([2, 0], (.int (1))), ([2, 1], (.int (1))), ([2, 2], (.int (1))), ([3, 0], (.int (1)))],
  .dT [([2, 3], (.int (1))), ([2, 4], (.int (1))), ([3, 3], (.int (1)))],
  .dT [([2, 6], (.int (1))), ([3, 6], (.int (1)))],
  .dT [([3, 9], (.int (1)))],
  .dT [([3, 12], (.int (1)))],
  .lst [(.ref 11), (.ref 12), (.ref 13), (.ref 14), (.ref 15), (.ref 16)],
  .lst [(.int (0)), (.int (0)), (.int (3))],
  .lst [(.int (0))],
  .lst [(.int (0)), (.int (0))],
  .lst [(.int (1))],
  .lst [],
  .lst [(.int (2))],
  .lst [],
  .lst [(.int (3))],
  .lst [(.int (3))],
  .lst [(.int (4))],
  .lst [],
  .lst [(.int (0)), (.int (0)), (.int (3))],
  .lst [(.int (1)), (.int (1)), (.int (4))],
  .lst [(.ref 30)],
  .lst [(.int (1)), (.int (4))],
  .lst [(.int (0)), (.int (0)), (.int (2)), (.int (4)), (.int (6)), (.int (9))],
  .dT [([0, 0], (.int (2))), ([1, 0], (.int (1)))],
  .dT [([0, 0], (.int (1))), ([1, 0], (.int (1))), ([1, 1], (.int (1))), ([2, 0], (.int (1)))],
  .dT [([1, 2], (.int (1))), ([2, 2], (.int (1)))],
  .dT [([2, 4], (.int (1)))],
  .dT [([2, 6], (.int (1))), ([3, 6], (.int (1)))],
  .dT [([3, 9], (.int (1)))],
  .lst [(.ref 34), (.ref 35), (.ref 36), (.ref 37), (.ref 38), (.ref 39)],
  .lst [(.int (0)), (.int (2)), (.int (4))],
  .lst [(.int (0))],
  .lst [(.int (0))],
  .lst [(.int (1))],
  .lst [],
  .lst [(.int (2))],
  .lst [(.int (2))],
  .lst [(.int (3))],
  .lst [],
  .lst [(.int (4))],
  .lst [(.int (4))],
  .lst [(.int (0)), (.int (2)), (.int (4))]]
theorem eA9 : exec (cbM Tl 38) dA [some (.cod 1 1 bd9), some (.ref 1), some (.ref 3), none, none, none, none, none, none] hs9 = .nx fA9 hA9 := by kernel_rfl
def fAg9 : F := [some (.cod 1 1 (.cal 45 (.cons (.idx (.v 0) (.int (0))) (.cons (.int (4)) (.cons (.int (0)) .nil))))), some (.ref 1), some (.ref 3), some (.ref 5), some (.ref 6), some (.ref 3), none, none, none]
def hAg9 : Hm := [.lst [(.int (1)), (.int (1)), (.int (1))],
  .lst [(.ref 0)],
  .lst [(.int (1)), (.int (1)), (.int (4))],
  .lst [(.ref 2)],
  .lst [(.int (1)), (.int (1)), (.int (1))],
  .lst [(.ref 4)],
  .lst [(.tup [(.ref 1), (.ref 7)]), (.tup [(.ref 3), (.ref 8)])],
  .lst [(.int (0)), (.int (0)), (.int (3))],
  .lst [(.int (0)), (.int (2)), (.int (4))]]
theorem gA9 : Gc 4 [0, 1, 2, 3, 4, 5, 6, 29, 52] fAg9 [] hAg9 fA9 [] hA9 := gc_of (by decide +kernel)
def fB9 : F := []
def hB9 : Hm := [.lst [(.int (1)), (.int (1)), (.int (1))],
  .lst [(.ref 0)],
  .lst [(.int (1)), (.int (1)), (.int (4))],
  .lst [(.ref 2)],
  .lst [(.int (1)), (.int (1)), (.int (1))],
  .lst [(.ref 4)],
  .lst [(.tup [(.ref 1), (.ref 7)]), (.tup [(.ref 3), (.ref 8)])],
  .lst [(.int (0)), (.int (0)), (.int (3))],
  .lst [(.int (0)), (.int (2)), (.int (4))],
  .lst [(.tup [(.ref 1), (.ref 7)]), (.tup [(.ref 3), (.ref 8)]), (.tup [(.ref 1), (.ref 7)]), (.tup [(.ref 3), (.ref 8)])]]
theorem eB9 : evI (cbM Tl 38) dI fAg9 hAg9 = .ok (.seq (.ref 9)) hB9 := by kernel_rfl
def fBg9 : F := [some (.cod 1 1 (.cal 45 (.cons (.idx (.v 0) (.int (0))) (.cons (.int (4)) (.cons (.int (0)) .nil))))), some (.ref 1), some (.ref 3), some (.ref 5), some (.ref 6), some (.ref 3), none, none, none]
def hBg9 : Hm := [.lst [(.int (1)), (.int (1)), (.int (1))],
  .lst [(.ref 0)],
  .lst [(.int (1)), (.int (1)), (.int (4))],
  .lst [(.ref 2)],
  .lst [(.int (1)), (.int (1)), (.int (1))],
  .lst [(.ref 4)],
  .lst [(.tup [(.ref 1), (.ref 7)]), (.tup [(.ref 3), (.ref 8)])],
  .lst [(.int (0)), (.int (0)), (.int (3))],
  .lst [(.int (0)), (.int (2)), (.int (4))],
  .lst [(.tup [(.ref 1), (.ref 7)]), (.tup [(.ref 3), (.ref 8)]), (.tup [(.ref 1), (.ref 7)]), (.tup [(.ref 3), (.ref 8)])]]
theorem gB9 : Gc 4 [0, 1, 2, 3, 4, 5, 6, 7, 8, 9] fBg9 [.ref 9] hBg9 fAg9 [.ref 9] hB9 := gc_of (by decide +kernel)
def fS0_9 : F := [some (.cod 1 1 (.cal 45 (.cons (.idx (.v 0) (.int (0))) (.cons (.int (4)) (.cons (.int (0)) .nil))))), some (.ref 1), some (.ref 3), some (.ref 5), some (.ref 6), some (.ref 1), some (.ref 7), some (.int (1)), some (.ref 40)]
def hS0_9 : Hm := [.lst [(.int (1)), (.int (1)), (.int (1))],
  .lst [(.ref 0)],
  .lst [(.int (1)), (.int (1)), (.int (4))],
  .lst [(.ref 2)],
  .lst [(.int (1)), (.int (1)), (.int (1))],
  .lst [(.ref 4)],
  .lst [(.tup [(.ref 1), (.ref 7)]), (.tup [(.ref 3), (.ref 8)])],
  .lst [(.int (0)), (.int (0)), (.int (3))],
  .lst [(.int (0)), (.int (2)), (.int (4))],
  .lst [(.tup [(.ref 1), (.ref 7)]), (.tup [(.ref 3), (.ref 8)]), (.tup [(.ref 1), (.ref 7)]), (.tup [(.ref 3), (.ref 8)])],
  .lst [(.int (1)), (.int (1))],
  .lst [(.int (0)), (.int (0)), (.int (3)), (.int (6)), (.int (9)), (.int (12))],
  .dT [([0, 0], (.int (3))), ([1, 0], (.int (2))), ([2, 0], (.int (1)))],
  .dT [([0, 0], (.int (1))), ([1, 0], (.int (1))), ([1, 1], (.int (1))), ([2, 0], (.int (1))), ([2, 1], (.int (1))), ([2, 2], (.int (1))), ([3, 0], (.int (1)))],
  .dT [([2, 3], (.int (1))), ([2, 4], (.int (1))), ([3, 3], (.int (1)))],
  .dT [([2, 6], (.int (1))), ([3, 6], (.int (1)))],
  .dT [([3, 9], (.int (1)))],
  .dT [([3, 12], (.int (1)))],
  .lst [(.ref 12), (.ref 13), (.ref 14), (.ref 15), (.ref 16), (.ref 17)],
  .lst [(.int (0)), (.int (0)), (.int (3)), .non],
  .lst [(.int (0))],
  .lst [(.int (0)), (.int (0))],
  .lst [(.int (1))],
  .lst [],
  .lst [(.int (2))],
  .lst [],
  .lst [(.int (3))],
  .lst [(.int (3))],
  .lst [(.int (4))],
  .lst [],
  .lst [(.int (0)), (.int (0)), (.int (3))],
  .lst [(.int (1)), (.int (1))],
  .lst [(.int (0)), (.int (0)), (.int (3)), (.int (6)), (.int (9)), (.int (12))],
  .dT [([0, 0], (.int (3))), ([1, 0], (.int (2))), ([2, 0], (.int (1)))],
  .dT [([0, 0], (.int (1))), ([1, 0], (.int (1))), ([1, 1], (.int (1))), ([2, 0], (.int (1))), ([2, 1], (.int (1))), ([2, 2], (.int (1))), ([3, 0], (.int (1)))],
  .dT [([2, 3], (.int (1))), ([2, 4], (.int (1))), ([3, 3], (.int (1)))],
  .dT [([2, 6], (.int (1))), ([3, 6], (.int (1)))],
  .dT [([3, 9], (.int (1)))],
  .dT [([3, 12], (.int (1)))],
  .lst [(.ref 33), (.ref 34), (.ref 35), (.ref 36), (.ref 37), (.ref 38)],
  .lst [(.int (0)), (.int (0)), (.int (3)), .non],
  .lst [(.int (0))],
  .lst [(.int (0)), (.int (0))],
  .lst [(.int (1))],
  .lst [],
  .lst [(.int (2))],
  .lst [],
  .lst [(.int (3))],
  .lst [(.int (3))],
  .lst [(.int (4))],
  .lst [],
  .lst [(.int (0)), (.int (0)), (.int (3))]]
theorem eS0_9 : stepB 9 0 fBg9 hBg9 = .nx fS0_9 hS0_9 := by kernel_rfl
def fT0_9 : F := [some (.cod 1 1 (.cal 45 (.cons (.idx (.v 0) (.int (0))) (.cons (.int (4)) (.cons (.int (0)) .nil))))), some (.ref 1), some (.ref 3), some (.ref 5), some (.ref 6), some (.ref 1), some (.ref 7), some (.int (1)), some (.ref 10)]
def hT0_9 : Hm := [.lst [(.int (1)), (.int (1)), (.int (1))],
  .lst [(.ref 0)],
  .lst [(.int (1)), (.int (1)), (.int (4))],
  .lst [(.ref 2)],
  .lst [(.int (1)), (.int (1)), (.int (1))],
  .lst [(.ref 4)],
  .lst [(.tup [(.ref 1), (.ref 7)]), (.tup [(.ref 3), (.ref 8)])],
  .lst [(.int (0)), (.int (0)), (.int (3))],
  .lst [(.int (0)), (.int (2)), (.int (4))],
  .lst [(.tup [(.ref 1), (.ref 7)]), (.tup [(.ref 3), (.ref 8)]), (.tup [(.ref 1), (.ref 7)]), (.tup [(.ref 3), (.ref 8)])],
  .lst [(.int (0)), (.int (0)), (.int (3)), .non]]
theorem gS0_9 : Gc 4 [0, 1, 2, 3, 4, 5, 6, 7, 8, 9, 40] fT0_9 [.ref 9] hT0_9 fS0_9 [.ref 9] hS0_9 := gc_of (by decide +kernel)
def fS1_9 : F := [some (.cod 1 1 (.cal 45 (.cons (.idx (.v 0) (.int (0))) (.cons (.int (4)) (.cons (.int (0)) .nil))))), some (.ref 1), some (.ref 3), some (.ref 5), some (.ref 6), some (.ref 3), some (.ref 8), some (.int (1)), some (.ref 41)]
def hS1_9 : Hm := [.lst [(.int (1)), (.int (1)), (.int (1))],
  .lst [(.ref 0)],
  .lst [(.int (1)), (.int (1)), (.int (4))],
  .lst [(.ref 2)],
  .lst [(.int (1)), (.int (1)), (.int (4))],
  .lst [(.ref 4)],
  .lst [(.tup [(.ref 1), (.ref 7)]), (.tup [(.ref 3), (.ref 8)])],
  .lst [(.int (0)), (.int (0)), (.int (3))],
  .lst [(.int (0)), (.int (2)), (.int (4))],
  .lst [(.tup [(.ref 1), (.ref 7)]), (.tup [(.ref 3), (.ref 8)]), (.tup [(.ref 1), (.ref 7)]), (.tup [(.ref 3), (.ref 8)])],
  .lst [(.int (0)), (.int (0)), (.int (3)), .non],
  .lst [(.int (1)), (.int (4))],
  .lst [(.int (0)), (.int (0)), (.int (2)), (.int (4)), (.int (6)), (.int (9))],
  .dT [([0, 0], (.int (2))), ([1, 0], (.int (1)))],
  .dT [([0, 0], (.int (1))), ([1, 0], (.int (1))), ([1, 1], (.int (1))), ([2, 0], (.int (1)))],
  .dT [([1, 2], (.int (1))), ([2, 2], (.int (1)))],
  .dT [([2, 4], (.int (1)))],
  .dT [([2, 6], (.int (1))), ([3, 6], (.int (1)))],
  .dT [([3, 9], (.int (1)))],
  .lst [(.ref 13), (.ref 14), (.ref 15), (.ref 16), (.ref 17), (.ref 18)],
  .lst [(.int (0)), (.int (2)), (.int (4)), .non],
  .lst [(.int (0))],
  .lst [(.int (0))],
  .lst [(.int (1))],
  .lst [],
  .lst [(.int (2))],
  .lst [(.int (2))],
  .lst [(.int (3))],
  .lst [],
  .lst [(.int (4))],
  .lst [(.int (4))],
  .lst [(.int (0)), (.int (2)), (.int (4))],
  .lst [(.int (1)), (.int (4))],
  .lst [(.int (0)), (.int (0)), (.int (2)), (.int (4)), (.int (6)), (.int (9))],
  .dT [([0, 0], (.int (2))), ([1, 0], (.int (1)))],
  .dT [([0, 0], (.int (1))), ([1, 0], (.int (1))), ([1, 1], (.int (1))), ([2, 0], (.int (1)))],
  .dT [([1, 2], (.int (1))), ([2, 2], (.int (1)))],
  .dT [([2, 4], (.int (1)))],
  .dT [([2, 6], (.int (1))), ([3, 6], (.int (1)))],
  .dT [([3, 9], (.int (1)))],
  .lst [(.ref 34), (.ref 35), (.ref 36), (.ref 37), (.ref 38), (.ref 39)],
  .lst [(.int (0)), (.int (2)), (.int (4)), .non],
  .lst [(.int (0))],
  .lst [(.int (0))],
  .lst [(.int (1))],
  .lst [],
  .lst [(.int (2))],
  .lst [(.int (2))],
  .lst [(.int (3))],
  .lst [],
  .lst [(.int (4))],
  .lst [(.int (4))],
  .lst [(.int (0)), (.int (2)), (.int (4))]]
theorem eS1_9 : stepB 9 1 fT0_9 hT0_9 = .nx fS1_9 hS1_9 := by kernel_rfl
def fT1_9 : F := [some (.cod 1 1 (.cal 45 (.cons (.idx (.v 0) (.int (0))) (.cons (.int (4)) (.cons (.int (0)) .nil))))), some (.ref 1), some (.ref 3), some (.ref 5), some (.ref 6), some (.ref 3), some (.ref 8), some (.int (1)), some (.ref 10)]
def hT1_9 : Hm := [.lst [(.int (1)), (.int (1)), (.int (1))],
  .lst [(.ref 0)],
  .lst [(.int (1)), (.int (1)), (.int (4))],
  .lst [(.ref 2)],
  .lst [(.int (1)), (.int (1)), (.int (4))],
  .lst [(.ref 4)],
  .lst [(.tup [(.ref 1), (.ref 7)]), (.tup [(.ref 3), (.ref 8)])],
  .lst [(.int (0)), (.int (0)), (.int (3))],
  .lst [(.int (0)), (.int (2)), (.int (4))],
  .lst [(.tup [(.ref 1), (.ref 7)]), (.tup [(.ref 3), (.ref 8)]), (.tup [(.ref 1), (.ref 7)]), (.tup [(.ref 3), (.ref 8)])],
  .lst [(.int (0)), (.int (2)), (.int (4)), .non]]
theorem gS1_9 : Gc 4 [0, 1, 2, 3, 4, 5, 6, 7, 8, 9, 41] fT1_9 [.ref 9] hT1_9 fS1_9 [.ref 9] hS1_9 := gc_of (by decide +kernel)
def fS2_9 : F := [some (.cod 1 1 (.cal 45 (.cons (.idx (.v 0) (.int (0))) (.cons (.int (4)) (.cons (.int (0)) .nil))))), some (.ref 1), some (.ref 3), some (.ref 5), some (.ref 6), some (.ref 1), some (.ref 7), some (.int (1)), some (.ref 41)]
def hS2_9 : Hm := [.lst [(.int (1)), (.int (1)), (.int (1))],
  .lst [(.ref 0)],
  .lst [(.int (1)), (.int (1)), (.int (4))],
  .lst [(.ref 2)],
  .lst [(.int (1)), (.int (1)), (.int (1))],
  .lst [(.ref 4)],
  .lst [(.tup [(.ref 1), (.ref 7)]), (.tup [(.ref 3), (.ref 8)])],
  .lst [(.int (0)), (.int (0)), (.int (3))],
  .lst [(.int (0)), (.int (2)), (.int (4))],
  .lst [(.tup [(.ref 1), (.ref 7)]), (.tup [(.ref 3), (.ref 8)]), (.tup [(.ref 1), (.ref 7)]), (.tup [(.ref 3), (.ref 8)])],
  .lst [(.int (0)), (.int (2)), (.int (4)), .non],
  .lst [(.int (1)), (.int (1))],
  .lst [(.int (0)), (.int (0)), (.int (3)), (.int (6)), (.int (9)), (.int (12))],
  .dT [([0, 0], (.int (3))), ([1, 0], (.int (2))), ([2, 0], (.int (1)))],
  .dT [([0, 0], (.int (1))), ([1, 0], (.int (1))), ([1, 1], (.int (1))), ([2, 0], (.int (1))), ([2, 1], (.int (1))), ([2, 2], (.int (1))), ([3, 0], (.int (1)))],
  .dT [([2, 3], (.int (1))), ([2, 4], (.int (1))), ([3, 3], (.int (1)))],
  .dT [([2, 6], (.int (1))), ([3, 6], (.int (1)))],
  .dT [([3, 9], (.int (1)))],
  .dT [([3, 12], (.int (1)))],
  .lst [(.ref 13), (.ref 14), (.ref 15), (.ref 16), (.ref 17), (.ref 18)],
  .lst [(.int (0)), (.int (0)), (.int (3)), .non],
  .lst [(.int (0))],
  .lst [(.int (0)), (.int (0))],
  .lst [(.int (1))],
  .lst [],
  .lst [(.int (2))],
  .lst [],
  .lst [(.int (3))],
  .lst [(.int (3))],
  .lst [(.int (4))],
  .lst [],
  .lst [(.int (0)), (.int (0)), (.int (3))],
  .lst [(.int (1)), (.int (1))],
  .lst [(.int (0)), (.int (0)), (.int (3)), (.int (6)), (.int (9)), (.int (12))],
  .dT [([0, 0], (.int (3))), ([1, 0], (.int (2))), ([2, 0], (.int (1)))],
  .dT [([0, 0], (.int (1))), ([1, 0], (.int (1))), ([1, 1], (.int (1))), ([2, 0], (.int (1))), ([2, 1], (.int (1))), ([2, 2], (.int (1))), ([3, 0], (.int (1)))],
  .dT [([2, 3], (.int (1))), ([2, 4], (.int (1))), ([3, 3], (.int (1)))],
  .dT [([2, 6], (.int (1))), ([3, 6], (.int (1)))],
  .dT [([3, 9], (.int (1)))],
  .dT [([3, 12], (.int (1)))],
  .lst [(.ref 34), (.ref 35), (.ref 36), (.ref 37), (.ref 38), (.ref 39)],
  .lst [(.int (0)), (.int (0)), (.int (3)), .non],
  .lst [(.int (0))],
  .lst [(.int (0)), (.int (0))],
  .lst [(.int (1))],
  .lst [],
  .lst [(.int (2))],
  .lst [],
  .lst [(.int (3))],
  .lst [(.int (3))],
  .lst [(.int (4))],
  .lst [],
  .lst [(.int (0)), (.int (0)), (.int (3))]]
theorem eS2_9 : stepB 9 2 fT1_9 hT1_9 = .nx fS2_9 hS2_9 := by kernel_rfl
def fT2_9 : F := [some (.cod 1 1 (.cal 45 (.cons (.idx (.v 0) (.int (0))) (.cons (.int (4)) (.cons (.int (0)) .nil))))), some (.ref 1), some (.ref 3), some (.ref 5), some (.ref 6), some (.ref 1), some (.ref 7), some (.int (1)), some (.ref 10)]
def hT2_9 : Hm := [.lst [(.int (1)), (.int (1)), (.int (1))],
  .lst [(.ref 0)],
  .lst [(.int (1)), (.int (1)), (.int (4))],
  .lst [(.ref 2)],
  .lst [(.int (1)), (.int (1)), (.int (1))],
  .lst [(.ref 4)],
  .lst [(.tup [(.ref 1), (.ref 7)]), (.tup [(.ref 3), (.ref 8)])],
  .lst [(.int (0)), (.int (0)), (.int (3))],
  .lst [(.int (0)), (.int (2)), (.int (4))],
  .lst [(.tup [(.ref 1), (.ref 7)]), (.tup [(.ref 3), (.ref 8)]), (.tup [(.ref 1), (.ref 7)]), (.tup [(.ref 3), (.ref 8)])],
  .lst [(.int (0)), (.int (0)), (.int (3)), .non]]
theorem gS2_9 : Gc 4 [0, 1, 2, 3, 4, 5, 6, 7, 8, 9, 41] fT2_9 [.ref 9] hT2_9 fS2_9 [.ref 9] hS2_9 := gc_of (by decide +kernel)
def fS3_9 : F := [some (.cod 1 1 (.cal 45 (.cons (.idx (.v 0) (.int (0))) (.cons (.int (4)) (.cons (.int (0)) .nil))))), some (.ref 1), some (.ref 3), some (.ref 5), some (.ref 6), some (.ref 3), some (.ref 8), some (.int (1)), some (.ref 41)]
def hS3_9 : Hm := [.lst [(.int (1)), (.int (1)), (.int (1))],
  .lst [(.ref 0)],
  .lst [(.int (1)), (.int (1)), (.int (4))],
  .lst [(.ref 2)],
  .lst [(.int (1)), (.int (1)), (.int (4))],
  .lst [(.ref 4)],
  .lst [(.tup [(.ref 1), (.ref 7)]), (.tup [(.ref 3), (.ref 8)])],
  .lst [(.int (0)), (.int (0)), (.int (3))],
  .lst [(.int (0)), (.int (2)), (.int (4))],
  .lst [(.tup [(.ref 1), (.ref 7)]), (.tup [(.ref 3), (.ref 8)]), (.tup [(.ref 1), (.ref 7)]), (.tup [(.ref 3), (.ref 8)])],
  .lst [(.int (0)), (.int (0)), (.int (3)), .non],
  .lst [(.int (1)), (.int (4))],
  .lst [(.int (0)), (.int (0)), (.int (2)), (.int (4)), (.int (6)), (.int (9))],
  .dT [([0, 0], (.int (2))), ([1, 0], (.int (1)))],
  .dT [([0, 0], (.int (1))), ([1, 0], (.int (1))), ([1, 1], (.int (1))), ([2, 0], (.int (1)))],
  .dT [([1, 2], (.int (1))), ([2, 2], (.int (1)))],
  .dT [([2, 4], (.int (1)))],
  .dT [([2, 6], (.int (1))), ([3, 6], (.int (1)))],
  .dT [([3, 9], (.int (1)))],
  .lst [(.ref 13), (.ref 14), (.ref 15), (.ref 16), (.ref 17), (.ref 18)],
  .lst [(.int (0)), (.int (2)), (.int (4)), .non],
  .lst [(.int (0))],
  .lst [(.int (0))],
  .lst [(.int (1))],
  .lst [],
  .lst [(.int (2))],
  .lst [(.int (2))],
  .lst [(.int (3))],
  .lst [],
  .lst [(.int (4))],
  .lst [(.int (4))],
  .lst [(.int (0)), (.int (2)), (.int (4))],
  .lst [(.int (1)), (.int (4))],
  .lst [(.int (0)), (.int (0)), (.int (2)), (.int (4)), (.int (6)), (.int (9))],
  .dT [([0, 0], (.int (2))), ([1, 0], (.int (1)))],
  .dT [([0, 0], (.int (1))), ([1, 0], (.int (1))), ([1, 1], (.int (1))), ([2, 0], (.int (1)))],
  .dT [([1, 2], (.int (1))), ([2, 2], (.int (1)))],
  .dT [([2, 4], (.int (1)))],
  .dT [([2, 6], (.int (1))), ([3, 6], (.int (1)))],
  .dT [([3, 9], (.int (1)))],
  .lst [(.ref 34), (.ref 35), (.ref 36), (.ref 37), (.ref 38), (.ref 39)],
  .lst [(.int (0)), (.int (2)), (.int (4)), .non],
  .lst [(.int (0))],
  .lst [(.int (0))],
  .lst [(.int (1))],
  .lst [],
  .lst [(.int (2))],
  .lst [(.int (2))],
  .lst [(.int (3))],
  .lst [],
  .lst [(.int (4))],
  .lst [(.int (4))],
  .lst [(.int (0)), (.int (2)), (.int (4))]]
theorem eS3_9 : stepB 9 3 fT2_9 hT2_9 = .nx fS3_9 hS3_9 := by kernel_rfl
theorem door9 : DoorR (.cod 1 1 bd9) 1 3 hs9 := fun _ _ _ S0 rv => door_parts (n := 4) rfl eA9 gA9 eB9 gB9 (by kernel_rfl) eS0_9 gS0_9 eS1_9 gS1_9 eS2_9 gS2_9 eS3_9 (by kernel_rfl) (show hS3_9 = hs9 ++ hS3_9.drop 4 by kernel_rfl) S0 rv (fun _ h => h)
theorem row9 : Row (.tup [.cod 1 1 bd9, .ref 50, .ref 52]) := row_of (q := [49, 50, 51, 52]) door9 (by decide +kernel)
def hs10 : Hm := [.lst [(.int (1)), (.int (1)), (.int (1))], .lst [(.int (1)), (.int (1)), (.int (1))], .lst [(.ref 0), (.ref 1)], .lst [(.int (1)), (.int (1)), (.int (1))], .lst [(.int (0)), (.int (1)), (.int (2))], .lst [(.ref 3), (.ref 4)]]
def bd10 : E := (.cal 46 (.cons (.idx (.v 0) (.int (0))) (.cons (.int (4)) (.cons (.idx (.v 0) (.int (1))) .nil))))
def fA10 : F := [some (.cod 1 1 (.cal 46 (.cons (.idx (.v 0) (.int (0))) (.cons (.int (4)) (.cons (.idx (.v 0) (.int (1))) .nil))))), some (.ref 2), some (.ref 5), some (.ref 8), some (.ref 9), some (.ref 5), none, none, none]
def hA10 : Hm := [.lst [(.int (1)), (.int (1)), (.int (1))],
  .lst [(.int (1)), (.int (1)), (.int (1))],
  .lst [(.ref 0), (.ref 1)],
  .lst [(.int (1)), (.int (1)), (.int (1))],
  .lst [(.int (0)), (.int (1)), (.int (2))],
  .lst [(.ref 3), (.ref 4)],
  .lst [(.int (1)), (.int (1)), (.int (1))],
  .lst [(.int (1)), (.int (1)), (.int (1))],
  .lst [(.ref 6), (.ref 7)],
  .lst [(.tup [(.ref 2), (.int (2))]), (.tup [(.ref 5), (.int (1))])],
  .lst [(.int (1)), (.int (1)), (.int (1))],
  .lst [(.int (1)), (.int (1)), (.int (1))],
  .lst [(.ref 10), (.ref 11)],
  .lst [(.int (1)), (.int (1))],
  .lst [(.int (1)), (.int (1))],
  .lst [(.int (0)), (.int (0)), (.int (3)), (.int (6)), (.int (9)), (.int (12))],
  .dT [([0, 0], (.int (3))), ([1, 0], (.int (2))), ([2, 0], (.int (1)))],
  .dT [([0, 0], (.int (1))), ([1, 0], (.int (1))), ([1, 1], (.int (1))), ([2, 0], (.int (1))), ([2, 1], (.int (1))), ([2, 2], (.int (1))), ([3, 0], (.int (1)))],
  .dT [([2, 3], (.int (1))), ([2, 4], (.int (1))), ([3, 3], (.int (1)))],
  .dT [([2, 6], (.int (1))), ([3, 6], (.int (1)))],
  .dT [([3, 9], (.int (1)))],
  .dT [([3, 12], (.int (1)))],
  .lst [(.ref 16), (.ref 17), (.ref 18), (.ref 19), (.ref 20), (.ref 21)],
  .lst [(.int (1)), (.int (1)), (.int (1))],
  .lst [(.int (0)), (.int (1)), (.int (2))],
  .lst [(.ref 23), (.ref 24)],
  .lst [(.int (1)), (.int (1))],
  .lst [(.int (1)), (.int (2))],
  .lst [(.int (0)), (.int (0)), (.int (3)), (.int (6)), (.int (9)), (.int (12))],
  .dT [([0, 0], (.int (3))), ([1, 0], (.int (2))), ([2, 0], (.int (1)))],
  .dT [([0, 0], (.int (1))), ([1, 0], (.int (1))), ([1, 1], (.int (1))), ([2, 0], (.int (1))), ([2, 1], (.int (1))), ([2, 2], (.int (1))), ([3, 0], (.int (1)))],
  .dT [([2, 3], (.int (1))), ([2, 4], (.int (1))), ([3, 3], (.int (1)))],
  .dT [([2, 6], (.int (1))), ([3, 6], (.int (1)))],
  .dT [([3, 9], (.int (1)))],
  .dT [([3, 12], (.int (1)))],
  .lst [(.ref 29), (.ref 30), (.ref 31), (.ref 32), (.ref 33), (.ref 34)]]
theorem eA10 : exec (cbM Tl 38) dA [some (.cod 1 1 bd10), some (.ref 2), some (.ref 5), none, none, none, none, none, none] hs10 = .nx fA10 hA10 := by kernel_rfl
def fAg10 : F := [some (.cod 1 1 (.cal 46 (.cons (.idx (.v 0) (.int (0))) (.cons (.int (4)) (.cons (.idx (.v 0) (.int (1))) .nil))))), some (.ref 2), some (.ref 5), some (.ref 8), some (.ref 9), some (.ref 5), none, none, none]
def hAg10 : Hm := [.lst [(.int (1)), (.int (1)), (.int (1))],
  .lst [(.int (1)), (.int (1)), (.int (1))],
  .lst [(.ref 0), (.ref 1)],
  .lst [(.int (1)), (.int (1)), (.int (1))],
  .lst [(.int (0)), (.int (1)), (.int (2))],
  .lst [(.ref 3), (.ref 4)],
  .lst [(.int (1)), (.int (1)), (.int (1))],
  .lst [(.int (1)), (.int (1)), (.int (1))],
  .lst [(.ref 6), (.ref 7)],
  .lst [(.tup [(.ref 2), (.int (2))]), (.tup [(.ref 5), (.int (1))])]]
theorem gA10 : Gc 6 [0, 1, 2, 3, 4, 5, 6, 7, 8, 9] fAg10 [] hAg10 fA10 [] hA10 := gc_of (by decide +kernel)
def fB10 : F := []
def hB10 : Hm := [.lst [(.int (1)), (.int (1)), (.int (1))],
  .lst [(.int (1)), (.int (1)), (.int (1))],
  .lst [(.ref 0), (.ref 1)],
  .lst [(.int (1)), (.int (1)), (.int (1))],
  .lst [(.int (0)), (.int (1)), (.int (2))],
  .lst [(.ref 3), (.ref 4)],
  .lst [(.int (1)), (.int (1)), (.int (1))],
  .lst [(.int (1)), (.int (1)), (.int (1))],
  .lst [(.ref 6), (.ref 7)],
  .lst [(.tup [(.ref 2), (.int (2))]), (.tup [(.ref 5), (.int (1))])],
  .lst [(.tup [(.ref 2), (.int (2))]), (.tup [(.ref 5), (.int (1))]), (.tup [(.ref 2), (.int (2))]), (.tup [(.ref 5), (.int (1))])]]
theorem eB10 : evI (cbM Tl 38) dI fAg10 hAg10 = .ok (.seq (.ref 10)) hB10 := by kernel_rfl
def fBg10 : F := [some (.cod 1 1 (.cal 46 (.cons (.idx (.v 0) (.int (0))) (.cons (.int (4)) (.cons (.idx (.v 0) (.int (1))) .nil))))), some (.ref 2), some (.ref 5), some (.ref 8), some (.ref 9), some (.ref 5), none, none, none]
def hBg10 : Hm := [.lst [(.int (1)), (.int (1)), (.int (1))],
  .lst [(.int (1)), (.int (1)), (.int (1))],
  .lst [(.ref 0), (.ref 1)],
  .lst [(.int (1)), (.int (1)), (.int (1))],
  .lst [(.int (0)), (.int (1)), (.int (2))],
  .lst [(.ref 3), (.ref 4)],
  .lst [(.int (1)), (.int (1)), (.int (1))],
  .lst [(.int (1)), (.int (1)), (.int (1))],
  .lst [(.ref 6), (.ref 7)],
  .lst [(.tup [(.ref 2), (.int (2))]), (.tup [(.ref 5), (.int (1))])],
  .lst [(.tup [(.ref 2), (.int (2))]), (.tup [(.ref 5), (.int (1))]), (.tup [(.ref 2), (.int (2))]), (.tup [(.ref 5), (.int (1))])]]
theorem gB10 : Gc 6 [0, 1, 2, 3, 4, 5, 6, 7, 8, 9, 10] fBg10 [.ref 10] hBg10 fAg10 [.ref 10] hB10 := gc_of (by decide +kernel)
def fS0_10 : F := [some (.cod 1 1 (.cal 46 (.cons (.idx (.v 0) (.int (0))) (.cons (.int (4)) (.cons (.idx (.v 0) (.int (1))) .nil))))), some (.ref 2), some (.ref 5), some (.ref 8), some (.ref 9), some (.ref 2), some (.int (2)), some (.int (1)), some (.int (2))]
def hS0_10 : Hm := [.lst [(.int (1)), (.int (1)), (.int (1))],
  .lst [(.int (1)), (.int (1)), (.int (1))],
  .lst [(.ref 0), (.ref 1)],
  .lst [(.int (1)), (.int (1)), (.int (1))],
  .lst [(.int (0)), (.int (1)), (.int (2))],
  .lst [(.ref 3), (.ref 4)],
  .lst [(.int (1)), (.int (1)), (.int (1))],
  .lst [(.int (1)), (.int (1)), (.int (1))],
  .lst [(.ref 6), (.ref 7)],
  .lst [(.tup [(.ref 2), (.int (2))]), (.tup [(.ref 5), (.int (1))])],
  .lst [(.tup [(.ref 2), (.int (2))]), (.tup [(.ref 5), (.int (1))]), (.tup [(.ref 2), (.int (2))]), (.tup [(.ref 5), (.int (1))])],
  .lst [(.int (1)), (.int (1))],
  .lst [(.int (1)), (.int (1))],
  .lst [(.int (0)), (.int (0)), (.int (3)), (.int (6)), (.int (9)), (.int (12))],
  .dT [([0, 0], (.int (3))), ([1, 0], (.int (2))), ([2, 0], (.int (1)))],
  .dT [([0, 0], (.int (1))), ([1, 0], (.int (1))), ([1, 1], (.int (1))), ([2, 0], (.int (1))), ([2, 1], (.int (1))), ([2, 2], (.int (1))), ([3, 0], (.int (1)))],
  .dT [([2, 3], (.int (1))), ([2, 4], (.int (1))), ([3, 3], (.int (1)))],
  .dT [([2, 6], (.int (1))), ([3, 6], (.int (1)))],
  .dT [([3, 9], (.int (1)))],
  .dT [([3, 12], (.int (1)))],
  .lst [(.ref 14), (.ref 15), (.ref 16), (.ref 17), (.ref 18), (.ref 19)],
  .lst [(.int (1)), (.int (1))],
  .lst [(.int (1)), (.int (1))],
  .lst [(.int (0)), (.int (0)), (.int (3)), (.int (6)), (.int (9)), (.int (12))],
  .dT [([0, 0], (.int (3))), ([1, 0], (.int (2))), ([2, 0], (.int (1)))],
  .dT [([0, 0], (.int (1))), ([1, 0], (.int (1))), ([1, 1], (.int (1))), ([2, 0], (.int (1))), ([2, 1], (.int (1))), ([2, 2], (.int (1))), ([3, 0], (.int (1)))],
  .dT [([2, 3], (.int (1))), ([2, 4], (.int (1))), ([3, 3], (.int (1)))],
  .dT [([2, 6], (.int (1))), ([3, 6], (.int (1)))],
  .dT [([3, 9], (.int (1)))],
  .dT [([3, 12], (.int (1)))],
  .lst [(.ref 24), (.ref 25), (.ref 26), (.ref 27), (.ref 28), (.ref 29)]]
theorem eS0_10 : stepB 10 0 fBg10 hBg10 = .nx fS0_10 hS0_10 := by kernel_rfl
def fT0_10 : F := [some (.cod 1 1 (.cal 46 (.cons (.idx (.v 0) (.int (0))) (.cons (.int (4)) (.cons (.idx (.v 0) (.int (1))) .nil))))), some (.ref 2), some (.ref 5), some (.ref 8), some (.ref 9), some (.ref 2), some (.int (2)), some (.int (1)), some (.int (2))]
def hT0_10 : Hm := [.lst [(.int (1)), (.int (1)), (.int (1))],
  .lst [(.int (1)), (.int (1)), (.int (1))],
  .lst [(.ref 0), (.ref 1)],
  .lst [(.int (1)), (.int (1)), (.int (1))],
  .lst [(.int (0)), (.int (1)), (.int (2))],
  .lst [(.ref 3), (.ref 4)],
  .lst [(.int (1)), (.int (1)), (.int (1))],
  .lst [(.int (1)), (.int (1)), (.int (1))],
  .lst [(.ref 6), (.ref 7)],
  .lst [(.tup [(.ref 2), (.int (2))]), (.tup [(.ref 5), (.int (1))])],
  .lst [(.tup [(.ref 2), (.int (2))]), (.tup [(.ref 5), (.int (1))]), (.tup [(.ref 2), (.int (2))]), (.tup [(.ref 5), (.int (1))])]]
theorem gS0_10 : Gc 6 [0, 1, 2, 3, 4, 5, 6, 7, 8, 9, 10] fT0_10 [.ref 10] hT0_10 fS0_10 [.ref 10] hS0_10 := gc_of (by decide +kernel)
def fS1_10 : F := [some (.cod 1 1 (.cal 46 (.cons (.idx (.v 0) (.int (0))) (.cons (.int (4)) (.cons (.idx (.v 0) (.int (1))) .nil))))), some (.ref 2), some (.ref 5), some (.ref 8), some (.ref 9), some (.ref 5), some (.int (1)), some (.int (1)), some (.int (1))]
def hS1_10 : Hm := [.lst [(.int (1)), (.int (1)), (.int (1))],
  .lst [(.int (1)), (.int (1)), (.int (1))],
  .lst [(.ref 0), (.ref 1)],
  .lst [(.int (1)), (.int (1)), (.int (1))],
  .lst [(.int (0)), (.int (1)), (.int (2))],
  .lst [(.ref 3), (.ref 4)],
  .lst [(.int (1)), (.int (1)), (.int (1))],
  .lst [(.int (0)), (.int (1)), (.int (2))],
  .lst [(.ref 6), (.ref 7)],
  .lst [(.tup [(.ref 2), (.int (2))]), (.tup [(.ref 5), (.int (1))])],
  .lst [(.tup [(.ref 2), (.int (2))]), (.tup [(.ref 5), (.int (1))]), (.tup [(.ref 2), (.int (2))]), (.tup [(.ref 5), (.int (1))])],
  .lst [(.int (1)), (.int (1))],
  .lst [(.int (1)), (.int (2))],
  .lst [(.int (0)), (.int (0)), (.int (3)), (.int (6)), (.int (9)), (.int (12))],
  .dT [([0, 0], (.int (3))), ([1, 0], (.int (2))), ([2, 0], (.int (1)))],
  .dT [([0, 0], (.int (1))), ([1, 0], (.int (1))), ([1, 1], (.int (1))), ([2, 0], (.int (1))), ([2, 1], (.int (1))), ([2, 2], (.int (1))), ([3, 0], (.int (1)))],
  .dT [([2, 3], (.int (1))), ([2, 4], (.int (1))), ([3, 3], (.int (1)))],
  .dT [([2, 6], (.int (1))), ([3, 6], (.int (1)))],
  .dT [([3, 9], (.int (1)))],
  .dT [([3, 12], (.int (1)))],
  .lst [(.ref 14), (.ref 15), (.ref 16), (.ref 17), (.ref 18), (.ref 19)],
  .lst [(.int (1)), (.int (1))],
  .lst [(.int (1)), (.int (2))],
  .lst [(.int (0)), (.int (0)), (.int (3)), (.int (6)), (.int (9)), (.int (12))],
  .dT [([0, 0], (.int (3))), ([1, 0], (.int (2))), ([2, 0], (.int (1)))],
  .dT [([0, 0], (.int (1))), ([1, 0], (.int (1))), ([1, 1], (.int (1))), ([2, 0], (.int (1))), ([2, 1], (.int (1))), ([2, 2], (.int (1))), ([3, 0], (.int (1)))],
  .dT [([2, 3], (.int (1))), ([2, 4], (.int (1))), ([3, 3], (.int (1)))],
  .dT [([2, 6], (.int (1))), ([3, 6], (.int (1)))],
  .dT [([3, 9], (.int (1)))],
  .dT [([3, 12], (.int (1)))],
  .lst [(.ref 24), (.ref 25), (.ref 26), (.ref 27), (.ref 28), (.ref 29)]]
theorem eS1_10 : stepB 10 1 fT0_10 hT0_10 = .nx fS1_10 hS1_10 := by kernel_rfl
def fT1_10 : F := [some (.cod 1 1 (.cal 46 (.cons (.idx (.v 0) (.int (0))) (.cons (.int (4)) (.cons (.idx (.v 0) (.int (1))) .nil))))), some (.ref 2), some (.ref 5), some (.ref 8), some (.ref 9), some (.ref 5), some (.int (1)), some (.int (1)), some (.int (1))]
def hT1_10 : Hm := [.lst [(.int (1)), (.int (1)), (.int (1))],
  .lst [(.int (1)), (.int (1)), (.int (1))],
  .lst [(.ref 0), (.ref 1)],
  .lst [(.int (1)), (.int (1)), (.int (1))],
  .lst [(.int (0)), (.int (1)), (.int (2))],
  .lst [(.ref 3), (.ref 4)],
  .lst [(.int (1)), (.int (1)), (.int (1))],
  .lst [(.int (0)), (.int (1)), (.int (2))],
  .lst [(.ref 6), (.ref 7)],
  .lst [(.tup [(.ref 2), (.int (2))]), (.tup [(.ref 5), (.int (1))])],
  .lst [(.tup [(.ref 2), (.int (2))]), (.tup [(.ref 5), (.int (1))]), (.tup [(.ref 2), (.int (2))]), (.tup [(.ref 5), (.int (1))])]]
theorem gS1_10 : Gc 6 [0, 1, 2, 3, 4, 5, 6, 7, 8, 9, 10] fT1_10 [.ref 10] hT1_10 fS1_10 [.ref 10] hS1_10 := gc_of (by decide +kernel)
def fS2_10 : F := [some (.cod 1 1 (.cal 46 (.cons (.idx (.v 0) (.int (0))) (.cons (.int (4)) (.cons (.idx (.v 0) (.int (1))) .nil))))), some (.ref 2), some (.ref 5), some (.ref 8), some (.ref 9), some (.ref 2), some (.int (2)), some (.int (1)), some (.int (2))]
def hS2_10 : Hm := [.lst [(.int (1)), (.int (1)), (.int (1))],
  .lst [(.int (1)), (.int (1)), (.int (1))],
  .lst [(.ref 0), (.ref 1)],
  .lst [(.int (1)), (.int (1)), (.int (1))],
  .lst [(.int (0)), (.int (1)), (.int (2))],
  .lst [(.ref 3), (.ref 4)],
  .lst [(.int (1)), (.int (1)), (.int (1))],
  .lst [(.int (1)), (.int (1)), (.int (1))],
  .lst [(.ref 6), (.ref 7)],
  .lst [(.tup [(.ref 2), (.int (2))]), (.tup [(.ref 5), (.int (1))])],
  .lst [(.tup [(.ref 2), (.int (2))]), (.tup [(.ref 5), (.int (1))]), (.tup [(.ref 2), (.int (2))]), (.tup [(.ref 5), (.int (1))])],
  .lst [(.int (1)), (.int (1))],
  .lst [(.int (1)), (.int (1))],
  .lst [(.int (0)), (.int (0)), (.int (3)), (.int (6)), (.int (9)), (.int (12))],
  .dT [([0, 0], (.int (3))), ([1, 0], (.int (2))), ([2, 0], (.int (1)))],
  .dT [([0, 0], (.int (1))), ([1, 0], (.int (1))), ([1, 1], (.int (1))), ([2, 0], (.int (1))), ([2, 1], (.int (1))), ([2, 2], (.int (1))), ([3, 0], (.int (1)))],
  .dT [([2, 3], (.int (1))), ([2, 4], (.int (1))), ([3, 3], (.int (1)))],
  .dT [([2, 6], (.int (1))), ([3, 6], (.int (1)))],
  .dT [([3, 9], (.int (1)))],
  .dT [([3, 12], (.int (1)))],
  .lst [(.ref 14), (.ref 15), (.ref 16), (.ref 17), (.ref 18), (.ref 19)],
  .lst [(.int (1)), (.int (1))],
  .lst [(.int (1)), (.int (1))],
  .lst [(.int (0)), (.int (0)), (.int (3)), (.int (6)), (.int (9)), (.int (12))],
  .dT [([0, 0], (.int (3))), ([1, 0], (.int (2))), ([2, 0], (.int (1)))],
  .dT [([0, 0], (.int (1))), ([1, 0], (.int (1))), ([1, 1], (.int (1))), ([2, 0], (.int (1))), ([2, 1], (.int (1))), ([2, 2], (.int (1))), ([3, 0], (.int (1)))],
  .dT [([2, 3], (.int (1))), ([2, 4], (.int (1))), ([3, 3], (.int (1)))],
  .dT [([2, 6], (.int (1))), ([3, 6], (.int (1)))],
  .dT [([3, 9], (.int (1)))],
  .dT [([3, 12], (.int (1)))],
  .lst [(.ref 24), (.ref 25), (.ref 26), (.ref 27), (.ref 28), (.ref 29)]]
theorem eS2_10 : stepB 10 2 fT1_10 hT1_10 = .nx fS2_10 hS2_10 := by kernel_rfl
def fT2_10 : F := [some (.cod 1 1 (.cal 46 (.cons (.idx (.v 0) (.int (0))) (.cons (.int (4)) (.cons (.idx (.v 0) (.int (1))) .nil))))), some (.ref 2), some (.ref 5), some (.ref 8), some (.ref 9), some (.ref 2), some (.int (2)), some (.int (1)), some (.int (2))]
def hT2_10 : Hm := [.lst [(.int (1)), (.int (1)), (.int (1))],
  .lst [(.int (1)), (.int (1)), (.int (1))],
  .lst [(.ref 0), (.ref 1)],
  .lst [(.int (1)), (.int (1)), (.int (1))],
  .lst [(.int (0)), (.int (1)), (.int (2))],
  .lst [(.ref 3), (.ref 4)],
  .lst [(.int (1)), (.int (1)), (.int (1))],
  .lst [(.int (1)), (.int (1)), (.int (1))],
  .lst [(.ref 6), (.ref 7)],
  .lst [(.tup [(.ref 2), (.int (2))]), (.tup [(.ref 5), (.int (1))])],
  .lst [(.tup [(.ref 2), (.int (2))]), (.tup [(.ref 5), (.int (1))]), (.tup [(.ref 2), (.int (2))]), (.tup [(.ref 5), (.int (1))])]]
theorem gS2_10 : Gc 6 [0, 1, 2, 3, 4, 5, 6, 7, 8, 9, 10] fT2_10 [.ref 10] hT2_10 fS2_10 [.ref 10] hS2_10 := gc_of (by decide +kernel)
def fS3_10 : F := [some (.cod 1 1 (.cal 46 (.cons (.idx (.v 0) (.int (0))) (.cons (.int (4)) (.cons (.idx (.v 0) (.int (1))) .nil))))), some (.ref 2), some (.ref 5), some (.ref 8), some (.ref 9), some (.ref 5), some (.int (1)), some (.int (1)), some (.int (1))]
def hS3_10 : Hm := [.lst [(.int (1)), (.int (1)), (.int (1))],
  .lst [(.int (1)), (.int (1)), (.int (1))],
  .lst [(.ref 0), (.ref 1)],
  .lst [(.int (1)), (.int (1)), (.int (1))],
  .lst [(.int (0)), (.int (1)), (.int (2))],
  .lst [(.ref 3), (.ref 4)],
  .lst [(.int (1)), (.int (1)), (.int (1))],
  .lst [(.int (0)), (.int (1)), (.int (2))],
  .lst [(.ref 6), (.ref 7)],
  .lst [(.tup [(.ref 2), (.int (2))]), (.tup [(.ref 5), (.int (1))])],
  .lst [(.tup [(.ref 2), (.int (2))]), (.tup [(.ref 5), (.int (1))]), (.tup [(.ref 2), (.int (2))]), (.tup [(.ref 5), (.int (1))])],
  .lst [(.int (1)), (.int (1))],
  .lst [(.int (1)), (.int (2))],
  .lst [(.int (0)), (.int (0)), (.int (3)), (.int (6)), (.int (9)), (.int (12))],
  .dT [([0, 0], (.int (3))), ([1, 0], (.int (2))), ([2, 0], (.int (1)))],
  .dT [([0, 0], (.int (1))), ([1, 0], (.int (1))), ([1, 1], (.int (1))), ([2, 0], (.int (1))), ([2, 1], (.int (1))), ([2, 2], (.int (1))), ([3, 0], (.int (1)))],
  .dT [([2, 3], (.int (1))), ([2, 4], (.int (1))), ([3, 3], (.int (1)))],
  .dT [([2, 6], (.int (1))), ([3, 6], (.int (1)))],
  .dT [([3, 9], (.int (1)))],
  .dT [([3, 12], (.int (1)))],
  .lst [(.ref 14), (.ref 15), (.ref 16), (.ref 17), (.ref 18), (.ref 19)],
  .lst [(.int (1)), (.int (1))],
  .lst [(.int (1)), (.int (2))],
  .lst [(.int (0)), (.int (0)), (.int (3)), (.int (6)), (.int (9)), (.int (12))],
  .dT [([0, 0], (.int (3))), ([1, 0], (.int (2))), ([2, 0], (.int (1)))],
  .dT [([0, 0], (.int (1))), ([1, 0], (.int (1))), ([1, 1], (.int (1))), ([2, 0], (.int (1))), ([2, 1], (.int (1))), ([2, 2], (.int (1))), ([3, 0], (.int (1)))],
  .dT [([2, 3], (.int (1))), ([2, 4], (.int (1))), ([3, 3], (.int (1)))],
  .dT [([2, 6], (.int (1))), ([3, 6], (.int (1)))],
  .dT [([3, 9], (.int (1)))],
  .dT [([3, 12], (.int (1)))],
  .lst [(.ref 24), (.ref 25), (.ref 26), (.ref 27), (.ref 28), (.ref 29)]]
theorem eS3_10 : stepB 10 3 fT2_10 hT2_10 = .nx fS3_10 hS3_10 := by kernel_rfl
theorem door10 : DoorR (.cod 1 1 bd10) 2 5 hs10 := fun _ _ _ S0 rv => door_parts (n := 6) rfl eA10 gA10 eB10 gB10 (by kernel_rfl) eS0_10 gS0_10 eS1_10 gS1_10 eS2_10 gS2_10 eS3_10 (by kernel_rfl) (show hS3_10 = hs10 ++ hS3_10.drop 6 by kernel_rfl) S0 rv (fun _ h => h)
theorem row10 : Row (.tup [.cod 1 1 bd10, .ref 55, .ref 58]) := row_of (q := [53, 54, 55, 56, 57, 58]) door10 (by decide +kernel)
def hs11 : Hm := [.lst [(.int (1)), (.int (1)), (.int (4))], .lst [(.int (1)), (.int (1)), (.int (4))], .lst [(.ref 0), (.ref 1)], .lst [(.int (0)), (.int (2)), (.int (4))], .lst [(.int (0)), (.int (2)), (.int (4))], .lst [(.ref 3), (.ref 4)]]
def bd11 : E := (.cal 46 (.cons (.idx (.v 0) (.int (0))) (.cons (.int (4)) (.cons (.idx (.v 0) (.int (1))) .nil))))
def fA11 : F := [some (.cod 1 1 (.cal 46 (.cons (.idx (.v 0) (.int (0))) (.cons (.int (4)) (.cons (.idx (.v 0) (.int (1))) .nil))))), some (.ref 2), some (.ref 5), some (.ref 8), some (.ref 9), some (.ref 5), none, none, none]
def hA11 : Hm := [.lst [(.int (1)), (.int (1)), (.int (4))],
  .lst [(.int (1)), (.int (1)), (.int (4))],
  .lst [(.ref 0), (.ref 1)],
  .lst [(.int (0)), (.int (2)), (.int (4))],
  .lst [(.int (0)), (.int (2)), (.int (4))],
  .lst [(.ref 3), (.ref 4)],
  .lst [(.int (1)), (.int (1)), (.int (4))],
  .lst [(.int (1)), (.int (1)), (.int (4))],
  .lst [(.ref 6), (.ref 7)],
  .lst [(.tup [(.ref 2), (.int (1))]), (.tup [(.ref 5), (.int (0))])],
  .lst [(.int (1)), (.int (1)), (.int (4))],
  .lst [(.int (1)), (.int (1)), (.int (4))],
  .lst [(.ref 10), (.ref 11)],
  .lst [(.int (1)), (.int (4))],
  .lst [(.int (1)), (.int (4))],
  .lst [(.int (0)), (.int (0)), (.int (2)), (.int (4)), (.int (6)), (.int (9))],
  .dT [([0, 0], (.int (2))), ([1, 0], (.int (1)))],
  .dT [([0, 0], (.int (1))), ([1, 0], (.int (1))), ([1, 1], (.int (1))), ([2, 0], (.int (1)))],
  .dT [([1, 2], (.int (1))), ([2, 2], (.int (1)))],
  .dT [([2, 4], (.int (1)))],
  .dT [([2, 6], (.int (1))), ([3, 6], (.int (1)))],
  .dT [([3, 9], (.int (1)))],
  .lst [(.ref 16), (.ref 17), (.ref 18), (.ref 19), (.ref 20), (.ref 21)],
  .lst [(.int (0)), (.int (2)), (.int (4))],
  .lst [(.int (0)), (.int (2)), (.int (4))],
  .lst [(.ref 23), (.ref 24)],
  .lst [(.int (2)), (.int (4))],
  .lst [(.int (2)), (.int (4))],
  .lst [(.int (0)), (.int (1)), (.int (2)), (.int (4)), (.int (6)), (.int (9))],
  .dT [([0, 0], (.int (1))), ([1, 0], (.int (1)))],
  .dT [([1, 1], (.int (1)))],
  .dT [([1, 2], (.int (1))), ([2, 2], (.int (1)))],
  .dT [([2, 4], (.int (1)))],
  .dT [([2, 6], (.int (1))), ([3, 6], (.int (1)))],
  .dT [([3, 9], (.int (1)))],
  .lst [(.ref 29), (.ref 30), (.ref 31), (.ref 32), (.ref 33), (.ref 34)]]
theorem eA11 : exec (cbM Tl 38) dA [some (.cod 1 1 bd11), some (.ref 2), some (.ref 5), none, none, none, none, none, none] hs11 = .nx fA11 hA11 := by kernel_rfl
def fAg11 : F := [some (.cod 1 1 (.cal 46 (.cons (.idx (.v 0) (.int (0))) (.cons (.int (4)) (.cons (.idx (.v 0) (.int (1))) .nil))))), some (.ref 2), some (.ref 5), some (.ref 8), some (.ref 9), some (.ref 5), none, none, none]
def hAg11 : Hm := [.lst [(.int (1)), (.int (1)), (.int (4))],
  .lst [(.int (1)), (.int (1)), (.int (4))],
  .lst [(.ref 0), (.ref 1)],
  .lst [(.int (0)), (.int (2)), (.int (4))],
  .lst [(.int (0)), (.int (2)), (.int (4))],
  .lst [(.ref 3), (.ref 4)],
  .lst [(.int (1)), (.int (1)), (.int (4))],
  .lst [(.int (1)), (.int (1)), (.int (4))],
  .lst [(.ref 6), (.ref 7)],
  .lst [(.tup [(.ref 2), (.int (1))]), (.tup [(.ref 5), (.int (0))])]]
theorem gA11 : Gc 6 [0, 1, 2, 3, 4, 5, 6, 7, 8, 9] fAg11 [] hAg11 fA11 [] hA11 := gc_of (by decide +kernel)
def fB11 : F := []
def hB11 : Hm := [.lst [(.int (1)), (.int (1)), (.int (4))],
  .lst [(.int (1)), (.int (1)), (.int (4))],
  .lst [(.ref 0), (.ref 1)],
  .lst [(.int (0)), (.int (2)), (.int (4))],
  .lst [(.int (0)), (.int (2)), (.int (4))],
  .lst [(.ref 3), (.ref 4)],
  .lst [(.int (1)), (.int (1)), (.int (4))],
  .lst [(.int (1)), (.int (1)), (.int (4))],
  .lst [(.ref 6), (.ref 7)],
  .lst [(.tup [(.ref 2), (.int (1))]), (.tup [(.ref 5), (.int (0))])],
  .lst [(.tup [(.ref 2), (.int (1))]), (.tup [(.ref 5), (.int (0))]), (.tup [(.ref 2), (.int (1))]), (.tup [(.ref 5), (.int (0))])]]
theorem eB11 : evI (cbM Tl 38) dI fAg11 hAg11 = .ok (.seq (.ref 10)) hB11 := by kernel_rfl
def fBg11 : F := [some (.cod 1 1 (.cal 46 (.cons (.idx (.v 0) (.int (0))) (.cons (.int (4)) (.cons (.idx (.v 0) (.int (1))) .nil))))), some (.ref 2), some (.ref 5), some (.ref 8), some (.ref 9), some (.ref 5), none, none, none]
def hBg11 : Hm := [.lst [(.int (1)), (.int (1)), (.int (4))],
  .lst [(.int (1)), (.int (1)), (.int (4))],
  .lst [(.ref 0), (.ref 1)],
  .lst [(.int (0)), (.int (2)), (.int (4))],
  .lst [(.int (0)), (.int (2)), (.int (4))],
  .lst [(.ref 3), (.ref 4)],
  .lst [(.int (1)), (.int (1)), (.int (4))],
  .lst [(.int (1)), (.int (1)), (.int (4))],
  .lst [(.ref 6), (.ref 7)],
  .lst [(.tup [(.ref 2), (.int (1))]), (.tup [(.ref 5), (.int (0))])],
  .lst [(.tup [(.ref 2), (.int (1))]), (.tup [(.ref 5), (.int (0))]), (.tup [(.ref 2), (.int (1))]), (.tup [(.ref 5), (.int (0))])]]
theorem gB11 : Gc 6 [0, 1, 2, 3, 4, 5, 6, 7, 8, 9, 10] fBg11 [.ref 10] hBg11 fAg11 [.ref 10] hB11 := gc_of (by decide +kernel)
def fS0_11 : F := [some (.cod 1 1 (.cal 46 (.cons (.idx (.v 0) (.int (0))) (.cons (.int (4)) (.cons (.idx (.v 0) (.int (1))) .nil))))), some (.ref 2), some (.ref 5), some (.ref 8), some (.ref 9), some (.ref 2), some (.int (1)), some (.int (1)), some (.int (1))]
def hS0_11 : Hm := [.lst [(.int (1)), (.int (1)), (.int (4))],
  .lst [(.int (1)), (.int (1)), (.int (4))],
  .lst [(.ref 0), (.ref 1)],
  .lst [(.int (0)), (.int (2)), (.int (4))],
  .lst [(.int (0)), (.int (2)), (.int (4))],
  .lst [(.ref 3), (.ref 4)],
  .lst [(.int (1)), (.int (1)), (.int (4))],
  .lst [(.int (1)), (.int (1)), (.int (4))],
  .lst [(.ref 6), (.ref 7)],
  .lst [(.tup [(.ref 2), (.int (1))]), (.tup [(.ref 5), (.int (0))])],
  .lst [(.tup [(.ref 2), (.int (1))]), (.tup [(.ref 5), (.int (0))]), (.tup [(.ref 2), (.int (1))]), (.tup [(.ref 5), (.int (0))])],
  .lst [(.int (1)), (.int (4))],
  .lst [(.int (1)), (.int (4))],
  .lst [(.int (0)), (.int (0)), (.int (2)), (.int (4)), (.int (6)), (.int (9))],
  .dT [([0, 0], (.int (2))), ([1, 0], (.int (1)))],
  .dT [([0, 0], (.int (1))), ([1, 0], (.int (1))), ([1, 1], (.int (1))), ([2, 0], (.int (1)))],
  .dT [([1, 2], (.int (1))), ([2, 2], (.int (1)))],
  .dT [([2, 4], (.int (1)))],
  .dT [([2, 6], (.int (1))), ([3, 6], (.int (1)))],
  .dT [([3, 9], (.int (1)))],
  .lst [(.ref 14), (.ref 15), (.ref 16), (.ref 17), (.ref 18), (.ref 19)],
  .lst [(.int (1)), (.int (4))],
  .lst [(.int (1)), (.int (4))],
  .lst [(.int (0)), (.int (0)), (.int (2)), (.int (4)), (.int (6)), (.int (9))],
  .dT [([0, 0], (.int (2))), ([1, 0], (.int (1)))],
  .dT [([0, 0], (.int (1))), ([1, 0], (.int (1))), ([1, 1], (.int (1))), ([2, 0], (.int (1)))],
  .dT [([1, 2], (.int (1))), ([2, 2], (.int (1)))],
  .dT [([2, 4], (.int (1)))],
  .dT [([2, 6], (.int (1))), ([3, 6], (.int (1)))],
  .dT [([3, 9], (.int (1)))],
  .lst [(.ref 24), (.ref 25), (.ref 26), (.ref 27), (.ref 28), (.ref 29)]]
theorem eS0_11 : stepB 10 0 fBg11 hBg11 = .nx fS0_11 hS0_11 := by kernel_rfl
def fT0_11 : F := [some (.cod 1 1 (.cal 46 (.cons (.idx (.v 0) (.int (0))) (.cons (.int (4)) (.cons (.idx (.v 0) (.int (1))) .nil))))), some (.ref 2), some (.ref 5), some (.ref 8), some (.ref 9), some (.ref 2), some (.int (1)), some (.int (1)), some (.int (1))]
def hT0_11 : Hm := [.lst [(.int (1)), (.int (1)), (.int (4))],
  .lst [(.int (1)), (.int (1)), (.int (4))],
  .lst [(.ref 0), (.ref 1)],
  .lst [(.int (0)), (.int (2)), (.int (4))],
  .lst [(.int (0)), (.int (2)), (.int (4))],
  .lst [(.ref 3), (.ref 4)],
  .lst [(.int (1)), (.int (1)), (.int (4))],
  .lst [(.int (1)), (.int (1)), (.int (4))],
  .lst [(.ref 6), (.ref 7)],
  .lst [(.tup [(.ref 2), (.int (1))]), (.tup [(.ref 5), (.int (0))])],
  .lst [(.tup [(.ref 2), (.int (1))]), (.tup [(.ref 5), (.int (0))]), (.tup [(.ref 2), (.int (1))]), (.tup [(.ref 5), (.int (0))])]]
theorem gS0_11 : Gc 6 [0, 1, 2, 3, 4, 5, 6, 7, 8, 9, 10] fT0_11 [.ref 10] hT0_11 fS0_11 [.ref 10] hS0_11 := gc_of (by decide +kernel)
def fS1_11 : F := [some (.cod 1 1 (.cal 46 (.cons (.idx (.v 0) (.int (0))) (.cons (.int (4)) (.cons (.idx (.v 0) (.int (1))) .nil))))), some (.ref 2), some (.ref 5), some (.ref 8), some (.ref 9), some (.ref 5), some (.int (0)), some (.int (1)), some (.int (0))]
def hS1_11 : Hm := [.lst [(.int (1)), (.int (1)), (.int (4))],
  .lst [(.int (1)), (.int (1)), (.int (4))],
  .lst [(.ref 0), (.ref 1)],
  .lst [(.int (0)), (.int (2)), (.int (4))],
  .lst [(.int (0)), (.int (2)), (.int (4))],
  .lst [(.ref 3), (.ref 4)],
  .lst [(.int (0)), (.int (2)), (.int (4))],
  .lst [(.int (0)), (.int (2)), (.int (4))],
  .lst [(.ref 6), (.ref 7)],
  .lst [(.tup [(.ref 2), (.int (1))]), (.tup [(.ref 5), (.int (0))])],
  .lst [(.tup [(.ref 2), (.int (1))]), (.tup [(.ref 5), (.int (0))]), (.tup [(.ref 2), (.int (1))]), (.tup [(.ref 5), (.int (0))])],
  .lst [(.int (2)), (.int (4))],
  .lst [(.int (2)), (.int (4))],
  .lst [(.int (0)), (.int (1)), (.int (2)), (.int (4)), (.int (6)), (.int (9))],
  .dT [([0, 0], (.int (1))), ([1, 0], (.int (1)))],
  .dT [([1, 1], (.int (1)))],
  .dT [([1, 2], (.int (1))), ([2, 2], (.int (1)))],
  .dT [([2, 4], (.int (1)))],
  .dT [([2, 6], (.int (1))), ([3, 6], (.int (1)))],
  .dT [([3, 9], (.int (1)))],
  .lst [(.ref 14), (.ref 15), (.ref 16), (.ref 17), (.ref 18), (.ref 19)],
  .lst [(.int (2)), (.int (4))],
  .lst [(.int (2)), (.int (4))],
  .lst [(.int (0)), (.int (1)), (.int (2)), (.int (4)), (.int (6)), (.int (9))],
  .dT [([0, 0], (.int (1))), ([1, 0], (.int (1)))],
  .dT [([1, 1], (.int (1)))],
  .dT [([1, 2], (.int (1))), ([2, 2], (.int (1)))],
  .dT [([2, 4], (.int (1)))],
  .dT [([2, 6], (.int (1))), ([3, 6], (.int (1)))],
  .dT [([3, 9], (.int (1)))],
  .lst [(.ref 24), (.ref 25), (.ref 26), (.ref 27), (.ref 28), (.ref 29)]]
theorem eS1_11 : stepB 10 1 fT0_11 hT0_11 = .nx fS1_11 hS1_11 := by kernel_rfl
def fT1_11 : F := [some (.cod 1 1 (.cal 46 (.cons (.idx (.v 0) (.int (0))) (.cons (.int (4)) (.cons (.idx (.v 0) (.int (1))) .nil))))), some (.ref 2), some (.ref 5), some (.ref 8), some (.ref 9), some (.ref 5), some (.int (0)), some (.int (1)), some (.int (0))]
def hT1_11 : Hm := [.lst [(.int (1)), (.int (1)), (.int (4))],
  .lst [(.int (1)), (.int (1)), (.int (4))],
  .lst [(.ref 0), (.ref 1)],
  .lst [(.int (0)), (.int (2)), (.int (4))],
  .lst [(.int (0)), (.int (2)), (.int (4))],
  .lst [(.ref 3), (.ref 4)],
  .lst [(.int (0)), (.int (2)), (.int (4))],
  .lst [(.int (0)), (.int (2)), (.int (4))],
  .lst [(.ref 6), (.ref 7)],
  .lst [(.tup [(.ref 2), (.int (1))]), (.tup [(.ref 5), (.int (0))])],
  .lst [(.tup [(.ref 2), (.int (1))]), (.tup [(.ref 5), (.int (0))]), (.tup [(.ref 2), (.int (1))]), (.tup [(.ref 5), (.int (0))])]]
theorem gS1_11 : Gc 6 [0, 1, 2, 3, 4, 5, 6, 7, 8, 9, 10] fT1_11 [.ref 10] hT1_11 fS1_11 [.ref 10] hS1_11 := gc_of (by decide +kernel)
def fS2_11 : F := [some (.cod 1 1 (.cal 46 (.cons (.idx (.v 0) (.int (0))) (.cons (.int (4)) (.cons (.idx (.v 0) (.int (1))) .nil))))), some (.ref 2), some (.ref 5), some (.ref 8), some (.ref 9), some (.ref 2), some (.int (1)), some (.int (1)), some (.int (1))]
def hS2_11 : Hm := [.lst [(.int (1)), (.int (1)), (.int (4))],
  .lst [(.int (1)), (.int (1)), (.int (4))],
  .lst [(.ref 0), (.ref 1)],
  .lst [(.int (0)), (.int (2)), (.int (4))],
  .lst [(.int (0)), (.int (2)), (.int (4))],
  .lst [(.ref 3), (.ref 4)],
  .lst [(.int (1)), (.int (1)), (.int (4))],
  .lst [(.int (1)), (.int (1)), (.int (4))],
  .lst [(.ref 6), (.ref 7)],
  .lst [(.tup [(.ref 2), (.int (1))]), (.tup [(.ref 5), (.int (0))])],
  .lst [(.tup [(.ref 2), (.int (1))]), (.tup [(.ref 5), (.int (0))]), (.tup [(.ref 2), (.int (1))]), (.tup [(.ref 5), (.int (0))])],
  .lst [(.int (1)), (.int (4))],
  .lst [(.int (1)), (.int (4))],
  .lst [(.int (0)), (.int (0)), (.int (2)), (.int (4)), (.int (6)), (.int (9))],
  .dT [([0, 0], (.int (2))), ([1, 0], (.int (1)))],
  .dT [([0, 0], (.int (1))), ([1, 0], (.int (1))), ([1, 1], (.int (1))), ([2, 0], (.int (1)))],
  .dT [([1, 2], (.int (1))), ([2, 2], (.int (1)))],
  .dT [([2, 4], (.int (1)))],
  .dT [([2, 6], (.int (1))), ([3, 6], (.int (1)))],
  .dT [([3, 9], (.int (1)))],
  .lst [(.ref 14), (.ref 15), (.ref 16), (.ref 17), (.ref 18), (.ref 19)],
  .lst [(.int (1)), (.int (4))],
  .lst [(.int (1)), (.int (4))],
  .lst [(.int (0)), (.int (0)), (.int (2)), (.int (4)), (.int (6)), (.int (9))],
  .dT [([0, 0], (.int (2))), ([1, 0], (.int (1)))],
  .dT [([0, 0], (.int (1))), ([1, 0], (.int (1))), ([1, 1], (.int (1))), ([2, 0], (.int (1)))],
  .dT [([1, 2], (.int (1))), ([2, 2], (.int (1)))],
  .dT [([2, 4], (.int (1)))],
  .dT [([2, 6], (.int (1))), ([3, 6], (.int (1)))],
  .dT [([3, 9], (.int (1)))],
  .lst [(.ref 24), (.ref 25), (.ref 26), (.ref 27), (.ref 28), (.ref 29)]]
theorem eS2_11 : stepB 10 2 fT1_11 hT1_11 = .nx fS2_11 hS2_11 := by kernel_rfl
def fT2_11 : F := [some (.cod 1 1 (.cal 46 (.cons (.idx (.v 0) (.int (0))) (.cons (.int (4)) (.cons (.idx (.v 0) (.int (1))) .nil))))), some (.ref 2), some (.ref 5), some (.ref 8), some (.ref 9), some (.ref 2), some (.int (1)), some (.int (1)), some (.int (1))]
def hT2_11 : Hm := [.lst [(.int (1)), (.int (1)), (.int (4))],
  .lst [(.int (1)), (.int (1)), (.int (4))],
  .lst [(.ref 0), (.ref 1)],
  .lst [(.int (0)), (.int (2)), (.int (4))],
  .lst [(.int (0)), (.int (2)), (.int (4))],
  .lst [(.ref 3), (.ref 4)],
  .lst [(.int (1)), (.int (1)), (.int (4))],
  .lst [(.int (1)), (.int (1)), (.int (4))],
  .lst [(.ref 6), (.ref 7)],
  .lst [(.tup [(.ref 2), (.int (1))]), (.tup [(.ref 5), (.int (0))])],
  .lst [(.tup [(.ref 2), (.int (1))]), (.tup [(.ref 5), (.int (0))]), (.tup [(.ref 2), (.int (1))]), (.tup [(.ref 5), (.int (0))])]]
theorem gS2_11 : Gc 6 [0, 1, 2, 3, 4, 5, 6, 7, 8, 9, 10] fT2_11 [.ref 10] hT2_11 fS2_11 [.ref 10] hS2_11 := gc_of (by decide +kernel)
def fS3_11 : F := [some (.cod 1 1 (.cal 46 (.cons (.idx (.v 0) (.int (0))) (.cons (.int (4)) (.cons (.idx (.v 0) (.int (1))) .nil))))), some (.ref 2), some (.ref 5), some (.ref 8), some (.ref 9), some (.ref 5), some (.int (0)), some (.int (1)), some (.int (0))]
def hS3_11 : Hm := [.lst [(.int (1)), (.int (1)), (.int (4))],
  .lst [(.int (1)), (.int (1)), (.int (4))],
  .lst [(.ref 0), (.ref 1)],
  .lst [(.int (0)), (.int (2)), (.int (4))],
  .lst [(.int (0)), (.int (2)), (.int (4))],
  .lst [(.ref 3), (.ref 4)],
  .lst [(.int (0)), (.int (2)), (.int (4))],
  .lst [(.int (0)), (.int (2)), (.int (4))],
  .lst [(.ref 6), (.ref 7)],
  .lst [(.tup [(.ref 2), (.int (1))]), (.tup [(.ref 5), (.int (0))])],
  .lst [(.tup [(.ref 2), (.int (1))]), (.tup [(.ref 5), (.int (0))]), (.tup [(.ref 2), (.int (1))]), (.tup [(.ref 5), (.int (0))])],
  .lst [(.int (2)), (.int (4))],
  .lst [(.int (2)), (.int (4))],
  .lst [(.int (0)), (.int (1)), (.int (2)), (.int (4)), (.int (6)), (.int (9))],
  .dT [([0, 0], (.int (1))), ([1, 0], (.int (1)))],
  .dT [([1, 1], (.int (1)))],
  .dT [([1, 2], (.int (1))), ([2, 2], (.int (1)))],
  .dT [([2, 4], (.int (1)))],
  .dT [([2, 6], (.int (1))), ([3, 6], (.int (1)))],
  .dT [([3, 9], (.int (1)))],
  .lst [(.ref 14), (.ref 15), (.ref 16), (.ref 17), (.ref 18), (.ref 19)],
  .lst [(.int (2)), (.int (4))],
  .lst [(.int (2)), (.int (4))],
  .lst [(.int (0)), (.int (1)), (.int (2)), (.int (4)), (.int (6)), (.int (9))],
  .dT [([0, 0], (.int (1))), ([1, 0], (.int (1)))],
  .dT [([1, 1], (.int (1)))],
  .dT [([1, 2], (.int (1))), ([2, 2], (.int (1)))],
  .dT [([2, 4], (.int (1)))],
  .dT [([2, 6], (.int (1))), ([3, 6], (.int (1)))],
  .dT [([3, 9], (.int (1)))],
  .lst [(.ref 24), (.ref 25), (.ref 26), (.ref 27), (.ref 28), (.ref 29)]]
theorem eS3_11 : stepB 10 3 fT2_11 hT2_11 = .nx fS3_11 hS3_11 := by kernel_rfl
theorem door11 : DoorR (.cod 1 1 bd11) 2 5 hs11 := fun _ _ _ S0 rv => door_parts (n := 6) rfl eA11 gA11 eB11 gB11 (by kernel_rfl) eS0_11 gS0_11 eS1_11 gS1_11 eS2_11 gS2_11 eS3_11 (by kernel_rfl) (show hS3_11 = hs11 ++ hS3_11.drop 6 by kernel_rfl) S0 rv (fun _ h => h)
theorem row11 : Row (.tup [.cod 1 1 bd11, .ref 61, .ref 64]) := row_of (q := [59, 60, 61, 62, 63, 64]) door11 (by decide +kernel)
def hs12 : Hm := [.lst [(.int (0)), (.int (0))], .lst [(.tup [(.str "split"), (.int (0)), (.int (-1)), (.int (1))])], .lst [(.ref 0), (.ref 1)], .lst [(.int (0)), (.int (1))], .lst [(.tup [(.str "split"), (.int (0)), (.int (-1)), (.int (1))])], .lst [(.ref 3), (.ref 4)]]
def bd12 : E := (.isi (.cal 48 (.cons (.idx (.v 0) (.int (0))) (.cons (.idx (.v 0) (.int (1))) .nil))) (.own 3))
theorem door12 : DoorR (.cod 1 1 bd12) 2 5 hs12 := doorB_R (by decide +kernel)
theorem row12 : Row (.tup [.cod 1 1 bd12, .ref 67, .ref 70]) := row_of (q := [65, 66, 67, 68, 69, 70]) door12 (by decide +kernel)
def hs13 : Hm := [.lst [(.int (0)), (.int (0))], .lst [(.tup [(.str "split"), (.int (0)), (.int (-1)), (.int (1))])], .lst [(.ref 0), (.ref 1)], .lst [(.int (0)), (.int (0))], .lst [(.tup [(.str "split"), (.int (0)), (.int (-2)), (.int (1))])], .lst [(.ref 3), (.ref 4)]]
def bd13 : E := (.isi (.cal 48 (.cons (.idx (.v 0) (.int (0))) (.cons (.idx (.v 0) (.int (1))) .nil))) (.own 3))
theorem door13 : DoorR (.cod 1 1 bd13) 2 5 hs13 := doorB_R (by decide +kernel)
theorem row13 : Row (.tup [.cod 1 1 bd13, .ref 73, .ref 76]) := row_of (q := [71, 72, 73, 74, 75, 76]) door13 (by decide +kernel)
def hs14 : Hm := [.lst [(.tup [(.int (0)), (.int (1))])], .lst [(.tup [(.int (-1)), (.int (1))]), (.tup [(.int (1)), (.int (1))])], .lst [(.ref 0), (.ref 1)], .lst [(.tup [(.int (0)), (.int (1))])], .lst [(.tup [(.int (-1)), (.int (1))]), (.tup [(.int (2)), (.int (1))])], .lst [(.ref 3), (.ref 4)]]
def bd14 : E := (.mth 1 (.mk 1 (.cons (.lst (.cons (.lst (.cons (.tup (.cons (.int (1)) (.cons (.int (2)) .nil))) (.cons (.tup (.cons (.int (1)) (.cons (.int (2)) .nil))) .nil))) .nil)) .nil)) (.cons (.idx (.v 0) (.int (0))) (.cons (.idx (.v 0) (.int (1))) .nil)))
theorem door14 : DoorR (.cod 1 1 bd14) 2 5 hs14 := doorB_R (by decide +kernel)
theorem row14 : Row (.tup [.cod 1 1 bd14, .ref 79, .ref 82]) := row_of (q := [77, 78, 79, 80, 81, 82]) door14 (by decide +kernel)
def hs15 : Hm := [.lst [(.tup [(.int (0)), (.int (1))])], .lst [(.tup [(.int (-1)), (.int (1))]), (.tup [(.int (2)), (.int (1))])], .lst [(.ref 0), (.ref 1)], .lst [(.tup [(.int (0)), (.int (1))])], .lst [(.tup [(.int (-1)), (.int (1))]), (.tup [(.int (1)), (.int (1))])], .lst [(.ref 3), (.ref 4)]]
def bd15 : E := (.mth 1 (.mk 2 (.cons (.str "mean") (.cons .non .nil))) (.cons (.idx (.v 0) (.int (0))) (.cons (.idx (.v 0) (.int (1))) .nil)))
theorem door15 : DoorR (.cod 1 1 bd15) 2 5 hs15 := doorB_R (by decide +kernel)
theorem row15 : Row (.tup [.cod 1 1 bd15, .ref 85, .ref 88]) := row_of (q := [83, 84, 85, 86, 87, 88]) door15 (by decide +kernel)
def hs16 : Hm := [.lst [(.tup [(.int (-1)), (.int (1))]), (.tup [(.int (1)), (.int (1))])], .lst [(.tup [(.int (0)), (.int (1))])], .lst [(.ref 0), (.ref 1)], .lst [(.tup [(.int (0)), (.int (1))]), (.tup [(.int (1)), (.int (1))])], .lst [(.tup [(.int (0)), (.int (1))])], .lst [(.ref 3), (.ref 4)]]
def bd16 : E := (.mth 1 (.mk 2 (.cons (.str "short") (.cons (.int (0)) .nil))) (.cons (.idx (.v 0) (.int (0))) (.cons (.idx (.v 0) (.int (1))) .nil)))
theorem door16 : DoorR (.cod 1 1 bd16) 2 5 hs16 := doorB_R (by decide +kernel)
theorem row16 : Row (.tup [.cod 1 1 bd16, .ref 91, .ref 94]) := row_of (q := [89, 90, 91, 92, 93, 94]) door16 (by decide +kernel)
def hs17 : Hm := [.lst [(.int (0)), (.int (0))], .lst [(.tup [(.str "split"), (.int (0)), (.int (-1)), (.int (1))])], .lst [(.ref 0), (.ref 1)], .lst [(.int (0)), (.int (1))], .lst [(.tup [(.str "split"), (.int (0)), (.int (-1)), (.int (1))])], .lst [(.ref 3), (.ref 4)]]
def bd17 : E := (.mth 1 (.mk 3 .nil) (.cons (.idx (.v 0) (.int (0))) (.cons (.idx (.v 0) (.int (1))) .nil)))
theorem door17 : DoorR (.cod 1 1 bd17) 2 5 hs17 := doorB_R (by decide +kernel)
theorem row17 : Row (.tup [.cod 1 1 bd17, .ref 97, .ref 100]) := row_of (q := [95, 96, 97, 98, 99, 100]) door17 (by decide +kernel)
def hs18 : Hm := [.lst [(.int (0)), (.int (1))], .lst [(.tup [(.str "split"), (.int (0)), (.int (-1)), (.int (1))])], .lst [(.ref 0), (.ref 1)], .lst [(.int (0)), (.int (0))], .lst [(.tup [(.str "split"), (.int (0)), (.int (-1)), (.int (1))])], .lst [(.ref 3), (.ref 4)]]
def bd18 : E := (.mth 1 (.mk 4 (.cons (.int (0)) .nil)) (.cons (.idx (.v 0) (.int (0))) (.cons (.idx (.v 0) (.int (1))) .nil)))
theorem door18 : DoorR (.cod 1 1 bd18) 2 5 hs18 := doorB_R (by decide +kernel)
theorem row18 : Row (.tup [.cod 1 1 bd18, .ref 104, .ref 107]) := row_of (q := [102, 103, 104, 105, 106, 107]) door18 (by decide +kernel)
def rowsL : List W := [(.tup [.cod 1 1 bd0, .ref 2, .ref 4]), (.tup [.cod 1 1 bd1, .ref 6, .ref 8]), (.tup [.cod 1 1 bd2, .ref 11, .ref 14]), (.tup [.cod 1 1 bd3, .ref 17, .ref 20]), (.tup [.cod 1 1 bd4, .ref 23, .ref 26]), (.tup [.cod 1 1 bd5, .ref 29, .ref 32]), (.tup [.cod 1 1 bd6, .ref 35, .ref 38]), (.tup [.cod 1 1 bd7, .ref 41, .ref 44]), (.tup [.cod 1 1 bd8, .ref 46, .ref 48]), (.tup [.cod 1 1 bd9, .ref 50, .ref 52]), (.tup [.cod 1 1 bd10, .ref 55, .ref 58]), (.tup [.cod 1 1 bd11, .ref 61, .ref 64]), (.tup [.cod 1 1 bd12, .ref 67, .ref 70]), (.tup [.cod 1 1 bd13, .ref 73, .ref 76]), (.tup [.cod 1 1 bd14, .ref 79, .ref 82]), (.tup [.cod 1 1 bd15, .ref 85, .ref 88]), (.tup [.cod 1 1 bd16, .ref 91, .ref 94]), (.tup [.cod 1 1 bd17, .ref 97, .ref 100]), (.tup [.cod 1 1 bd18, .ref 104, .ref 107])]
theorem rows_ok : ∀ w ∈ rowsL, Row w := by
  intro w h
  simp only [rowsL, List.mem_cons, List.not_mem_nil, or_false] at h
  rcases h with rfl | rfl | rfl | rfl | rfl | rfl | rfl | rfl | rfl | rfl | rfl | rfl | rfl | rfl | rfl | rfl | rfl | rfl | rfl
  · exact row0
  · exact row1
  · exact row2
  · exact row3
  · exact row4
  · exact row5
  · exact row6
  · exact row7
  · exact row8
  · exact row9
  · exact row10
  · exact row11
  · exact row12
  · exact row13
  · exact row14
  · exact row15
  · exact row16
  · exact row17
  · exact row18
theorem Hr_rows : Hr[108]? = some (.lst rowsL) := by rfl
end WL

namespace WL
open PySem
theorem rows_run : ev (cbM Tl 39) (.bin .Add (.cal 59 .nil) (.cal 60 .nil)) (List.replicate 6 none) [] = .ok (.ref 108) Hr := by kernel_rfl
/-- the rows, laid in any heap -/
theorem rows_any {f : F} (hf : f.length = 6) (h : Hm) : ∃ (q : List Nat) (a : Nat) (t : Hm), ev (cbM Tl 39) (.bin .Add (.cal 59 .nil) (.cal 60 .nil)) f h = .ok (.ref a) (h ++ t) ∧ Sim q Hr (h ++ t) ∧ q[108]? = some a := by
  have z := ev_loc (.bin .Add (.cal 59 .nil) (.cal 60 .nil)) (cbM Tl 39) (cb_loc Tl 39).1 [] (List.replicate 6 none) f [] h ⟨by rw [hf]; rfl, fun i w e => by rw [List.getElem?_replicate] at e; split at e <;> cases e⟩ (sim_nil h)
  rw [rows_run] at z
  obtain ⟨q, v, h2, e2, g2, s2, a, rfl, ha⟩ := z
  obtain ⟨t, rfl⟩ := ext_of g2.len fun b hb => g2.keep b (fun n y => by simp at y) hb
  exact ⟨q, a, t, e2, s2, ha⟩
/-- the cell -/
theorem cell_run {k c : Nat} {h : Hm} {ns : List Int} (hc : h[c]? = some (.lst (ns.map W.int))) : callM Tl (k + 1) 54 [.ref c, .int 0] h = .ok (.int (ns.headD 0)) h := by
  show runF (cbM Tl k) 54 [.ref c, .int 0] h = _
  have e : (cbM Tl k).tb.fns[54]? = some fn54 := by rw [cbM_tb]; rfl
  unfold runF
  rw [e]
  cases ns with
  | nil => simp [fn54, exec, ev, evs, R.bind, R.asS, bltW, seqOf, lstOf, hc, cmpW, idxW]
  | cons n ns => simp [fn54, exec, ev, evs, R.bind, R.asS, bltW, seqOf, lstOf, hc, cmpW, idxW, atI, ixN]
theorem cut63 (ns : List Int) : cutW (ns.map W.int) none (some 63) = (ns.take 63).map W.int := by
  unfold cutW sIx
  simp [List.map_take]
theorem slice_run {C : Cb} {w : W} {h0 : Hm} {ns : List Int} {r : F} (hw : w = .scr ns ∨ ∃ a, w = .ref a ∧ h0[a]? = some (.lst (ns.map W.int))) :
    ev C (.sli (.v 0) .nil (.cons (.int 63) .nil)) (some w :: r) h0 = .ok (.ref h0.length) (h0 ++ [.lst ((ns.take 63).map W.int)]) := by
  rcases hw with rfl | ⟨a, rfl, ha⟩
  · simp [ev, evs, R.bind, optI, sliW, lstOf, alloc, cut63]
  · simp [ev, evs, R.bind, optI, sliW, lstOf, alloc, cut63, ha]
theorem begin_run {k c a : Nat} {h : Hm} {ns : List Int} {L : List W} {r : F} (hc : h[c]? = some (.lst (ns.map W.int))) (ha : h[a]? = some (.lst L)) (hL : 0 < L.length) :
    ∃ b : Int, ev (cbM Tl (k + 1)) (.bin .Mod (.blt .abs (.cons (.cal 54 (.cons (.v 0) (.cons (.int (0)) .nil))) .nil)) (.blt .len (.cons (.v 1) .nil))) (some (.ref c) :: some (.ref a) :: r) h = .ok (.int b) h := by
  have e : (cbM Tl (k + 1)).call 54 [.ref c, .int 0] h = .ok (.int (ns.headD 0)) h := cell_run hc
  refine ⟨(if ns.headD 0 < 0 then - ns.headD 0 else ns.headD 0) % (L.length : Int), ?_⟩
  simp only [ev, evs, R.bind, List.getElem?_cons_zero, e, bltW, List.getElem?_cons_succ, seqOf, lstOf, ha, binW]
  rw [if_pos (by omega)]
theorem mem_cut {L : List W} {lo hi : Option Int} {x : W} (h : x ∈ cutW L lo hi) : x ∈ L := List.mem_of_mem_drop (List.mem_of_mem_take h)
theorem bl_ite_nil {C : Cb} {c : E} {a : S} {f : F} {h h' : Hm} (e : ev C c f h = .ok (.bl false) h') : exec C (.seq (.ife c a .nil) .nil) f h = .nx f h' := by
  simp [exec, e, R.asS]
theorem mrun_any {w : W} {h0 : Hm} {ns : List Int} (hw : w = .scr ns ∨ ∃ a, w = .ref a ∧ h0[a]? = some (.lst (ns.map W.int))) : ∃ h, callM Tl 40 61 [w] h0 = .ok (.bl true) h := by
  show ∃ h, runF (cbM Tl 39) 61 [w] h0 = _
  have e : (cbM Tl 39).tb.fns[61]? = some fn61 := by rw [cbM_tb]; rfl
  unfold runF
  rw [e]
  show ∃ h, (match exec (cbM Tl 39) fn61.body [some w, none, none, none, none, none] h0 with
      | .rt w h1 => .ok w h1
      | .nx _ h1 => .ok .non h1
      | .ex c _ h1 => .exc c h1
      | _ => .bad) = R.ok (W.bl true) h
  suffices z : ∃ h, exec (cbM Tl 39) fn61.body [some w, none, none, none, none, none] h0 = .rt (.bl true) h by
    obtain ⟨h, z⟩ := z
    exact ⟨h, by rw [z]⟩
  unfold fn61
  show ∃ h, exec (cbM Tl 39) (.seq _ _) _ _ = _
  rw [exec_seq, exec_asg (slice_run hw) (by simp)]
  obtain ⟨q, a, t, e2, s2, qa⟩ := rows_any (f := [some (.ref h0.length), none, none, none, none, none]) rfl (h0 ++ [.lst ((ns.take 63).map W.int)])
  show ∃ h, exec (cbM Tl 39) (.seq _ _) [some (.ref h0.length), none, none, none, none, none] _ = _
  rw [exec_seq, exec_asg (f := [some (.ref h0.length), none, none, none, none, none]) e2 (by simp)]
  obtain ⟨o, ha, L, rfl, hL⟩ := s2.obj 108 a _ qa Hr_rows
  have hc : ((h0 ++ [.lst ((ns.take 63).map W.int)]) ++ t)[h0.length]? = some (O.lst ((ns.take 63).map W.int)) := by
    rw [List.getElem?_append_left (by simp), List.getElem?_append_right (Nat.le_refl _)]; simp
  have nL : L.length = 19 := hL.length
  obtain ⟨b, e3⟩ := begin_run (k := 38) (r := [none, none, none, none]) hc ha (by omega)
  generalize (h0 ++ [.lst ((ns.take 63).map W.int)]) ++ t = h2 at *
  show ∃ h, exec (cbM Tl 39) (.seq _ _) [some (.ref h0.length), some (.ref a), none, none, none, none] _ = _
  rw [exec_seq, exec_asg (f := [some (.ref h0.length), some (.ref a), none, none, none, none]) e3 (by simp)]
  show ∃ h, exec (cbM Tl 39) (.seq _ _) [some (.ref h0.length), some (.ref a), some (.int b), none, none, none] _ = _
  rw [exec_seq]
  have la : a < h2.length := (List.getElem?_eq_some_iff.mp ha).1
  have e4 : evI (cbM Tl 39) (.sq (.bin .Add (.sli (.v 1) (.cons (.v 2) .nil) .nil) (.sli (.v 1) .nil (.cons (.v 2) .nil)))) [some (.ref h0.length), some (.ref a), some (.int b), none, none, none] h2
      = .ok (.seq (.ref (h2.length + 2))) (h2 ++ [.lst (cutW L (some b) none), .lst (cutW L none (some b)), .lst (cutW L (some b) none ++ cutW L none (some b))]) := by
    have l1 : (cutW L (some b) none).length ≤ 19 := by unfold cutW; rw [List.length_take, List.length_drop]; omega
    have l2 : (cutW L none (some b)).length ≤ 19 := by unfold cutW; rw [List.length_take, List.length_drop]; omega
    have l3 : (cutW L (some b) none).length + (cutW L none (some b)).length ≤ line := by unfold line; omega
    have x1 : ∀ o : O, (h2 ++ [o])[a]? = some (.lst L) := fun o => by rw [List.getElem?_append_left la]; exact ha
    have x2 : ∀ o p : O, (h2 ++ [o] ++ [p])[h2.length]? = some o := fun o p => by simp
    have x3 : ∀ o p : O, (h2 ++ [o] ++ [p])[(h2 ++ [o]).length]? = some p := fun o p => by simp
    have x4 : ∀ o p r : O, (h2 ++ [o] ++ [p] ++ [r])[(h2 ++ [o] ++ [p]).length]? = some r := fun o p r => by simp
    simp only [evI, ev, evs, R.bind, optI, sliW, lstOf, alloc, ha, x1, binW, List.getElem?_cons_succ, List.getElem?_cons_zero, x2, x3, if_pos l3, seqOf, x4]
    simp
  have key : ∀ {q : List Nat}, True := fun {_} => trivial
  generalize hB : h2 ++ [.lst (cutW L (some b) none), .lst (cutW L none (some b)), .lst (cutW L (some b) none ++ cutW L none (some b))] = h3 at e4
  have h3c : ∀ t, (h3 ++ t)[h2.length + 2]? = some (O.lst (cutW L (some b) none ++ cutW L none (some b))) := fun t => by
    rw [← hB, List.getElem?_append_left (by simp), List.getElem?_append_right (by omega)]
    simp
  have s3 : ∀ t, Sim q Hr (h3 ++ t) := fun t => ⟨s2.len, s2.inj, fun n x o hn ho => by
    obtain ⟨o', k1, k2⟩ := s2.obj n x o hn ho
    have lx : x < h2.length := (List.getElem?_eq_some_iff.mp k1).1
    exact ⟨o', by rw [← hB, List.append_assoc, List.getElem?_append_left lx]; exact k1, k2⟩⟩
  have lp := forL_keep (b := exec (cbM Tl 39) (.seq (.ife (.not (.cal 58 (.cons (.v 3) (.cons (.v 4) (.cons (.v 5) .nil))))) (.seq (.ret (.bl false)) .nil) .nil) .nil))
    (bt := bindT (.tup (.cons (.v 3) (.cons (.v 4) (.cons (.v 5) .nil))))) (J := .seq (.ref (h2.length + 2))) (h0 := h3) (N := (cutW L (some b) none ++ cutW L none (some b)).length) (fun f => f.length = 6)
    (fun t => by
      show ((seqOf (.ref (h2.length + 2)) (h3 ++ t)).map List.length) = _
      simp only [seqOf, lstOf, h3c]; rfl) (fun i f t hi hf => by
      have hg := List.getElem?_eq_getElem hi
      have hm : (cutW L (some b) none ++ cutW L none (some b))[i] ∈ L := by
        rcases List.mem_append.mp (List.getElem_mem hi) with m | m <;> exact mem_cut m
      obtain ⟨j, hj⟩ := List.getElem?_of_mem hm
      have jl : j < rowsL.length := by rw [← hL.length]; exact (List.getElem?_eq_some_iff.mp hj).1
      obtain ⟨v, hv1, hv2⟩ := hL.get (i := j) (List.getElem?_eq_getElem jl)
      rw [hj] at hv1
      cases hv1
      obtain ⟨c, x, y, x', y', q1, hs, ew, er, sr, rr, hcc⟩ := rows_ok _ (List.getElem_mem jl)
      rw [ew] at hv2
      obtain ⟨vs, ev1, v1, vs1, rfl, r1, v2, vs2, rfl, r2, v3, vs3, rfl, r3, rfl⟩ := hv2
      have ec : v1 = c := hcc q v1 r1
      subst ec
      obtain ⟨t', e5⟩ := er _ _ _ (sr.comp (s3 t)) (rr.comp ⟨_, _, rfl, r1, _, _, rfl, r2, _, _, rfl, r3, rfl⟩)
      have l3 : 3 < f.length := by omega
      have l4 : 4 < f.length := by omega
      have l5 : 5 < f.length := by omega
      refine ⟨.tup [v1, v2, v3], ((f.set 3 (some v1)).set 4 (some v2)).set 5 (some v3), ((f.set 3 (some v1)).set 4 (some v2)).set 5 (some v3), t ++ t', ?_, ?_, ?_, by simp [hf]⟩
      · show (seqOf (.ref (h2.length + 2)) (h3 ++ t)).bind _ = _
        simp only [seqOf, lstOf, h3c]
        show (cutW L (some b) none ++ cutW L none (some b))[i]? = _
        rw [hg, ev1]
      · simp [bindT, bindTs, stV, l3, l4, l5]
      · refine bl_ite_nil ?_
        rw [← List.append_assoc]
        have e6 : (cbM Tl 39).call 58 [v1, v2, v3] (h3 ++ t) = .ok (.bl true) (h3 ++ t ++ t') := e5
        simp [ev, evs, R.bind, List.getElem?_set, l3, l4, l5, e6])
    (cutW L (some b) none ++ cutW L none (some b)).length 0 [some (.ref h0.length), some (.ref a), some (.int b), none, none, none] [] (by omega) rfl
  obtain ⟨f', t', e7, _⟩ := lp
  rw [List.append_nil] at e7
  have e8 : exec (cbM Tl 39) (.forS (.tup (.cons (.v 3) (.cons (.v 4) (.cons (.v 5) .nil)))) (.sq (.bin .Add (.sli (.v 1) (.cons (.v 2) .nil) .nil) (.sli (.v 1) .nil (.cons (.v 2) .nil)))) (.seq (.ife (.not (.cal 58 (.cons (.v 3) (.cons (.v 4) (.cons (.v 5) .nil))))) (.seq (.ret (.bl false)) .nil) .nil) .nil)) [some (.ref h0.length), some (.ref a), some (.int b), none, none, none] h2 = .nx f' (h3 ++ t') := by
    show (evI _ _ _ _).asS _ _ = _
    rw [e4]
    show (match (It.seq (.ref (h2.length + 2))).len h3 with | some n => forL _ _ _ n 0 _ _ | none => RS.bad) = _
    have e9 : (It.seq (.ref (h2.length + 2))).len h3 = some (cutW L (some b) none ++ cutW L none (some b)).length := by
      have z := h3c []
      rw [List.append_nil] at z
      show ((seqOf (.ref (h2.length + 2)) h3).map List.length) = _
      simp only [seqOf, lstOf, z]; rfl
    rw [e9]
    exact e7
  rw [e8]
  exact ⟨h3 ++ t', rfl⟩
theorem mrunL : ∀ ns : List Int, ns.length ≤ 63 → (∃ h, callM Tl 40 61 [.scr ns] [] = .ok (.bl true) h) ∧ ∃ h, callM Tl 40 61 [.ref 0] [.lst (ns.map W.int)] = .ok (.bl true) h := fun ns _ => ⟨mrun_any (.inl rfl), mrun_any (.inr ⟨0, rfl, rfl⟩)⟩
end WL

namespace WL
open PySem PySem.Spec PyProof.Rows L2
abbrev Rw : PySem.W.OpenRow := PySem.W.OpenLaw.row PySem.Challenge.rw_widerlots_k11_whole_handed
def ds : List He.DefD := Rw.prog.main.body.flatMap defD
def Gm : Nm := nmOf Rw.prog.main.body ["table_of", "_law_of_sum"]
def Tc : Tb := tbOf Rw.prog.main.body Gm ds
def fa : List He.Fa := faOf Gm Tc
def tf : List He.Defn := Gm.mkrs.map (·.1)
abbrev hk : PySem.W.Hook := He.hookX 4 fa ds [] tf (exB Gm Tc)
def ob (s : PySem.W.SharedT) : He.AlX := He.obsX 4 fa ds [] tf (exB Gm Tc) (HandSHeadRun.getT s)
theorem ob_eq (s : PySem.W.SharedT) : ob s = hk.obs s.abs := He.obsX_eq (HandSHeadRun.getT_eq s)
def li : Nat := Rw.prog.main.body.length - 1
noncomputable def endR (w : World) (os : OsState) : Option PySem.W.SharedT := HandSHeadRun.endF (HandSHeadRun.stepQ (HandSHeadRun.denQ HandSHeadRun.tabQ) Rw.prog w) 20000 Rw.prog w os
open PySem.W PySem.Calls HandSHeadRun in
theorem run1 (w : World) (os : OsState) : (endR w os).map (fun s => (HandSHeadRun.looksF Rw.prog (boot_heap w.params) s.abs, HandSHeadRun.seenQ (PySem.W.view Rw.prog [li]) (looseN Rw.prog.main.body) (PySem.importedModules Rw.prog.main.body) (fun s => PySem.W.xlAt (PySem.W.view Rw.prog [li]) [] s && PySem.W.recOk Rw.toRowW.records s) s.abs)) = some (true, PySem.W.openGood (PySem.W.view Rw.prog [li]) (looseN Rw.prog.main.body)) := by kernel_rfl
theorem run2 (w : World) (os : OsState) : (endR w os).map ob = some (hk.val w) := by kernel_rfl
open PySem.W PySem.Calls HandSHeadRun in
theorem run (w : World) : HandSHeadRun.RunEq Rw (PySem.W.view Rw.prog [li]) hk ob 20000 (looseN Rw.prog.main.body) w := by
  intro os
  have a := run1 w os
  have b := run2 w os
  show (endR w os).map _ = _
  generalize endR w os = x at a b
  cases x with
  | none => cases b
  | some s =>
    have a := Option.some.inj a
    have b := Option.some.inj b
    have a1 := congrArg Prod.fst a
    have a2 := congrArg Prod.snd a
    exact congrArg some (Prod.ext a1 (Prod.ext a2 b))
theorem ds_ok : ordB Gm Tc ds = true := by decide +kernel
def lawI : Nat := ds.length - 1
end WL

namespace WL
open PySem
theorem Tc_eq : Tc = Tl := by kernel_rfl
theorem lawI_eq : lawI = 61 := by kernel_rfl
theorem mrunC : ∀ ns : List Int, ns.length ≤ 63 → (∃ h, callM Tc 40 lawI [.scr ns] [] = .ok (.bl true) h) ∧ ∃ h, callM Tc 40 lawI [.ref 0] [.lst (ns.map W.int)] = .ok (.bl true) h := by
  rw [Tc_eq, lawI_eq]
  exact mrunL
end WL

namespace WL
open PySem PySem.Spec PyProof.Rows L2
theorem facts {P : Program} {w : World} {K : PySem.W.Frag} {h : Heap} {mg : Str → Option Value} {f : Addr} (X : K.In h) (G : h.Ns mainGlobals mg) (hfa : mg ("law" : Str) = some (.ref f)) (c : He.SaysX fa ds [] tf (exB Gm Tc) w h K) :
    ∃ fd : FuncData, (∀ (s : Shared) (v : Value), BindsTo s fd ⟨[v], []⟩ [("_law_script", v)]) ∧ ∀ base : Heap, TabsB Gm K mg base → FnOk P w K mg base L2.CX0 40 f fd ["_law_script"] (fun vs H Q (_ : XK) => spM Gm K Tc 40 lawI vs H Q fun _ _ _ => False) := by
  have S : Stat Gm Tc ds K mg := stat_of (b := Rw.prog.main.body) X G rfl rfl ds_ok c
  have hg : ds[lawI]? = some (ds.getD lawI ⟨("", none), "", "", default, [], default, [], []⟩) := by kernel_rfl
  have hF : Gm.fns[lawI]? = some (("law" : Str), (none : Option Str)) := by kernel_rfl
  have e := hfa.symm.trans (S.sta.glo lawI "law" hF)
  cases e
  obtain ⟨fd, F⟩ := S.defs _ (List.mem_of_getElem? hg)
  have hps : parN (ds.getD lawI ⟨("", none), "", "", default, [], default, [], []⟩).params = ([("_law_script" : Str)] : List Str) := by kernel_rfl
  have hpl : plainA (ds.getD lawI ⟨("", none), "", "", default, [], default, [], []⟩).params = true := by kernel_rfl
  have b := FunD.bindsA (ps := ["_law_script"]) F fun kV doc pm an cdv ct us hl => bind_plain hpl rfl hps (by decide) hl
  refine ⟨fd, fun s v => b s [v] rfl, fun base B => ?_⟩
  have Fo := fn_noexc (lev_fn (P := P) (w := w) S base B 40 hg F)
  rw [hps] at Fo
  have eA : fA Gm K lawI = He.fAd K (ds.getD lawI ⟨("", none), "", "", default, [], default, [], []⟩).at_ := fA_eq S hg
  rw [eA]
  exact Fo
end WL
open PySem PySem.W PySem.Calls PyProof.Rows
theorem PySem.Challenge.cw_widerlots_k11_whole_handed_holds : PySem.Challenge.rw_widerlots_k11_whole_handed.Holds := by
  w_on; o_law
  refine HandSHeadRun.head_any (r := WL.Rw) (q := view WL.Rw.prog [WL.li]) (H := WL.hk) (ob := WL.ob) (M := 20000) (loose := WL.looseN WL.Rw.prog.main.body) (d := HandSHeadRun.topDef WL.Rw.prog WL.li) (kwd := []) WL.ob_eq
    (by kernel_rfl) (fun s => by kernel_rfl) WL.run (by kernel_rfl) (by kernel_rfl) (by kernel_rfl) (by rfl) (by first | assumption | decide +kernel) (by decide +kernel) ⟨rfl, rfl, rfl, rfl, rfl, by decide +kernel⟩ ?hw ?hc
  case hw => w_witness2
  case hc =>
    refine WL.walk_T (l := PySem.Challenge.rw_widerlots_k11_whole_handed) (n := 63) (k := 40) (x := "_law_script") rfl (by decide) (by kernel_rfl) ⟨rfl, by decide, by decide⟩ ?F
    case F =>
      intro w mg fa h Y G hmg0
      obtain ⟨K, KX, c⟩ := Y
      have hmg : mg ("law" : PySem.Str) = some (.ref fa) := by
        have e : (HandSHeadRun.topDef WL.Rw.prog WL.li).name = ("law" : PySem.Str) := by kernel_rfl
        rw [← e]
        exact hmg0
      obtain ⟨fd, hb, hF⟩ := WL.facts (P := WL.Rw.prog) (w := w) KX G hmg c
      have at_ : ∀ p ∈ WL.Gm.mkrs.map (fun p => He.cT K p.1), ∃ d ∈ WL.tf, p = He.cT K d := fun p hp => by
        obtain ⟨d, hd, e⟩ := List.mem_map.mp hp
        exact ⟨d.1, List.mem_map.mpr ⟨d, hd, rfl⟩, e.symm⟩
      refine ⟨K, fd, WL.Gm.mkrs.map (fun p => He.cT K p.1), (fun vs H Q (_ : L2.XK) => WL.spM WL.Gm K WL.Tc 40 WL.lawI vs H Q fun _ _ _ => False), KX, ?_, ?_, ?_, hb, WL.law_spT WL.mrunC, fun base _ _ hT => hF base (fun p hp => hT _ (List.mem_map.mpr ⟨p, hp, rfl⟩))⟩
      · intro p hp
        obtain ⟨d, hd, e⟩ := at_ p hp
        rw [e]; exact c.empty d hd
      · intro p hp
        obtain ⟨d, hd, e⟩ := at_ p hp
        rw [e]; exact c.out d hd
      · intro p hp
        obtain ⟨d, hd, e⟩ := at_ p hp
        rw [e]; exact codeHd_of_K KX (c.hd d hd)

