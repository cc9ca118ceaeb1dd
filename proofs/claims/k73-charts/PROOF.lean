import PyProof.Rows.All
import Wide.All
import OpenK.AllK
import Wide.FinOn
import HandS.List
import HandS.ForMost
import HandS.IsInst
import HandS.Wide
import HandS.TupAny
import HandS.NoneIn
import HandS.Defaults
import HandS.EndBits
import HandS.HeadHook1
import HandS.HeadHook2
import PySem.Challenge.RW_scorestead_k73_charts
import KE.KStateDown
import Lean
import HandS.Head0
import HandS.Head1
import HandS.Head2
set_option Elab.async false
set_option linter.all false
set_option maxRecDepth 100000
/-! Z0: an abstract machine for plain defs: values (tuples by value), a heap of lists and objects by number, an own form of code, what it computes. -/
namespace Z
open PySem

/-- a value: a tuple is what it holds; a list is a number in the heap -/
inductive W where
  | non | bl (b : Bool) | int (i : Int) | str (s : Str) | tup (ws : List W) | scr (ws : List W) | ref (i : Nat) | rng (lo hi : Int)
  deriving Inhabited
/-- what stands in the heap -/
inductive O where
  | lst (ws : List W)
  deriving Inhabited
abbrev Hh := List O
abbrev Sl := List (Option W)
inductive Res (α : Type) where
  | ok (a : α) (h : Hh)
  | bad
def Res.bind {α β : Type} (r : Res α) (f : α → Hh → Res β) : Res β := match r with
  | .ok a h => f a h
  | .bad => .bad
theorem Res.bind_ok {α β : Type} (a : α) (h : Hh) (f : α → Hh → Res β) : (Res.ok a h).bind f = f a h := rfl
theorem Res.bind_assoc {α β γ : Type} (r : Res α) (f : α → Hh → Res β) (g : β → Hh → Res γ) : (r.bind f).bind g = r.bind fun a h => (f a h).bind g := by cases r <;> rfl
theorem Res.bind_bad {α β : Type} (f : α → Hh → Res β) : (Res.bad : Res α).bind f = .bad := rfl
def optR {α : Type} (o : Option α) (h : Hh) : Res α := match o with
  | some a => .ok a h
  | none => .bad

def lim : Nat := 1000000
def alloc (h : Hh) (o : O) : Res W := .ok (.ref h.length) (h ++ [o])

def lstAt (h : Hh) (i : Nat) : Option (List W) := match h[i]? with
  | some (.lst ws) => some ws
  | none => none
def seqOf (h : Hh) : W → Option (List W)
  | .tup ws => some ws
  | .scr ws => some ws
  | .ref i => lstAt h i
  | _ => none

/-! ### data -/
def toD (h : Hh) : Nat → W → Option PyData
  | _, .non => some .none
  | _, .bl b => some (.bool b)
  | _, .int i => some (.int i)
  | _, .str s => some (.str s)
  | n + 1, .tup ws => (ws.mapM (toD h n)).map .tuple
  | n + 1, .ref i => (match lstAt h i with
    | some ws => (ws.mapM (toD h n)).map .list
    | none => none)
  | _, _ => none
def eqW (h : Hh) (x y : W) : Option Bool := match toD h 60 x, toD h 60 y with
  | some d, some e => if SeqAt.shaped d && SeqAt.shaped e then some (PyData.eqv d e) else none
  | _, _ => none
def flatW : W → Bool
  | .non => true
  | .bl _ => true
  | .int _ => true
  | .str _ => true
  | _ => false
def eqF : W → W → Bool
  | .non, .non => true
  | .bl a, .bl b => a == b
  | .bl a, .int b => (if a then 1 else 0) == b
  | .int a, .bl b => a == (if b then 1 else 0)
  | .int a, .int b => a == b
  | .str a, .str b => a == b
  | _, _ => false
def inW (h : Hh) (x y : W) : Option Bool := match seqOf h y with
  | some ws => if flatW x && ws.all flatW then some (ws.any fun z => eqF z x) else none
  | none => none
def isNon : W → Bool
  | .non => true
  | _ => false

/-! ### operators -/
def addW (x y : W) (h : Hh) : Res W := match x, y with
  | .int i, .int j => .ok (.int (i + j)) h
  | .str a, .str b => if a.length + b.length ≤ lim then .ok (.str (a ++ b)) h else .bad
  | .tup a, .tup b => if a.length + b.length ≤ lim then .ok (.tup (a ++ b)) h else .bad
  | .ref a, .ref b => (match lstAt h a, lstAt h b with
    | some xs, some ys => if xs.length + ys.length ≤ lim then alloc h (.lst (xs ++ ys)) else .bad
    | _, _ => .bad)
  | _, _ => .bad
def mulW (x y : W) (h : Hh) : Res W := match x, y with
  | .int i, .int j => if i.natAbs.log2 + j.natAbs.log2 < 100000000 then .ok (.int (i * j)) h else .bad
  | .ref a, .int k => (match lstAt h a with
    | some xs => if k ≤ 1000000 ∧ -1000000 ≤ k ∧ xs.length * k.toNat ≤ lim then alloc h (.lst (List.replicate k.toNat xs).flatten) else .bad
    | none => .bad)
  | _, _ => .bad
def binW (op : Operator) (x y : W) (h : Hh) : Res W := match op with
  | .Add => addW x y h
  | .Sub => (match x, y with
    | .int i, .int j => .ok (.int (i - j)) h
    | _, _ => .bad)
  | .Mult => mulW x y h
  | .FloorDiv => (match x, y with
    | .int i, .int j => if 0 < j ∧ j.natAbs.log2 < 9000 then .ok (.int (i / j)) h else .bad
    | _, _ => .bad)
  | .Mod => (match x, y with
    | .int i, .int j => if 0 < j then .ok (.int (i % j)) h else .bad
    | _, _ => .bad)
  | .Pow => (match x, y with
    | .int i, .int j => if 0 ≤ j ∧ j ≤ 1000000 ∧ i.natAbs < 2 ^ 64 then .ok (.int (i ^ j.toNat)) h else .bad
    | _, _ => .bad)
  | _ => .bad
def negW (x : W) (h : Hh) : Res W := match x with
  | .int i => .ok (.int (-i)) h
  | _ => .bad
def iCmp (f : Int → Int → Bool) (x y : W) : Option Bool := match x, y with
  | .int i, .int j => some (f i j)
  | _, _ => none
def cmpW (op : CmpOp) (x y : W) (h : Hh) : Option Bool := match op with
  | .Eq => eqW h x y
  | .NotEq => (eqW h x y).map (!·)
  | .Lt => iCmp (fun i j => decide (i < j)) x y
  | .LtE => iCmp (fun i j => decide (i ≤ j)) x y
  | .Gt => iCmp (fun i j => decide (j < i)) x y
  | .GtE => iCmp (fun i j => decide (j ≤ i)) x y
  | .Is => (match y with
    | .non => some (isNon x)
    | _ => none)
  | .IsNot => (match y with
    | .non => some (!isNon x)
    | _ => none)
  | .In => inW h x y
  | .NotIn => (inW h x y).map (!·)
def augW (op : Operator) (a : Int) (y : W) : Option Int := match op with
  | .Add => (match y with
    | .int b => some (a + b)
    | _ => none)
  | .Sub => (match y with
    | .int b => some (a - b)
    | _ => none)
  | _ => none
/-- truth -/
def truW (h : Hh) : W → Option Bool
  | .non => some false
  | .bl b => some b
  | .int i => some (i != 0)
  | .str _ => none
  | .tup ws => some (!ws.isEmpty)
  | .ref i => (lstAt h i).map fun ws => !ws.isEmpty
  | .scr _ => none
  | .rng _ _ => none
inductive Ty where
  | int | bool | str | tuple | list
  deriving DecidableEq
def isiW (h : Hh) (t : Ty) : W → Option Bool
  | .non => some false
  | .bl _ => some (t == .bool || t == .int)
  | .int _ => some (t == .int)
  | .str _ => some (t == .str)
  | .tup _ => some (t == .tuple)
  | .ref i => (lstAt h i).map fun _ => t == .list
  | .scr _ => none
  | .rng _ _ => none
/-! ### built-ins -/
inductive Bi where
  | len | abs | int | min2 | max2 | list | tuple | maxL | minL | all
  deriving DecidableEq
def intsOf : List W → Option (List Int)
  | [] => some []
  | .int i :: r => (intsOf r).map (i :: ·)
  | _ => none
def blsOf : List W → Option (List Bool)
  | [] => some []
  | .bl b :: r => (blsOf r).map (b :: ·)
  | _ => none
def maxI : List Int → Int
  | [] => 0
  | [a] => a
  | a :: r => max a (maxI r)
def minI : List Int → Int
  | [] => 0
  | [a] => a
  | a :: r => min a (minI r)
def bi1 (b : Bi) (x : W) (h : Hh) : Res W := match b with
  | .len => (match seqOf h x with
    | some ws => .ok (.int ws.length) h
    | none => .bad)
  | .abs => (match x with
    | .int i => .ok (.int (if i < 0 then -i else i)) h
    | _ => .bad)
  | .int => (match x with
    | .int i => .ok (.int i) h
    | .bl k => .ok (.int (if k then 1 else 0)) h
    | _ => .bad)
  | .list => (match seqOf h x with
    | some ws => alloc h (.lst ws)
    | none => .bad)
  | .tuple => (match seqOf h x with
    | some ws => .ok (.tup ws) h
    | none => .bad)
  | .maxL => (match x with
    | .ref i => (match (lstAt h i).bind intsOf with
      | some ns => if ns.isEmpty then .bad else .ok (.int (maxI ns)) h
      | none => .bad)
    | _ => .bad)
  | .minL => (match x with
    | .ref i => (match (lstAt h i).bind intsOf with
      | some ns => if ns.isEmpty then .bad else .ok (.int (minI ns)) h
      | none => .bad)
    | _ => .bad)
  | .all => (match x with
    | .ref i => (match (lstAt h i).bind blsOf with
      | some bs => .ok (.bl (bs.all id)) h
      | none => .bad)
    | _ => .bad)
  | _ => .bad
def bi2 (b : Bi) (x y : W) (h : Hh) : Res W := match b, x, y with
  | .min2, .int i, .int j => .ok (.int (if j < i then j else i)) h
  | .max2, .int i, .int j => .ok (.int (if j > i then j else i)) h
  | _, _, _ => .bad
/-! ### subscripts -/
def cut {α : Type} (xs : List α) (lo hi : Option Int) : List α := (xs.drop (HT.sIx xs.length 0 lo)).take (HT.sIx xs.length xs.length hi - HT.sIx xs.length 0 lo)
def ixW (x y : W) (h : Hh) : Res W := match y with
  | .int i => (match seqOf h x with
    | some ws => optR (L2.atI ws i) h
    | none => .bad)
  | _ => .bad
def slW (x : W) (lo hi : Option Int) (h : Hh) : Res W := match x with
  | .tup ws => .ok (.tup (cut ws lo hi)) h
  | .ref i => (match lstAt h i with
    | some ws => alloc h (.lst (cut ws lo hi))
    | none => .bad)
  | _ => .bad
def setIW (o i v : W) (h : Hh) : Res Unit := match o, i with
  | .ref a, .int k => (match lstAt h a with
    | some ws => (match L2.ixN ws.length k with
      | some j => .ok () (h.set a (.lst (ws.set j v)))
      | none => .bad)
    | none => .bad)
  | _, _ => .bad
/-! ### lists' methods -/
def isL (h : Hh) : W → Bool
  | .ref i => (lstAt h i).isSome
  | _ => false
inductive Mt where
  | append | pop | reverse | extend
  deriving DecidableEq
def mt0 (m : Mt) (o : W) (h : Hh) : Res W := match m, o with
  | .pop, .ref a => (match lstAt h a with
    | some ws => (match ws[ws.length - 1]? with
      | some y => .ok y (h.set a (.lst ws.dropLast))
      | none => .bad)
    | none => .bad)
  | .reverse, .ref a => (match lstAt h a with
    | some ws => .ok .non (h.set a (.lst ws.reverse))
    | none => .bad)
  | _, _ => .bad
def mt1 (m : Mt) (o v : W) (h : Hh) : Res W := match m, o with
  | .append, .ref a => (match lstAt h a with
    | some ws => if ws.length < lim then .ok .non (h.set a (.lst (ws ++ [v]))) else .bad
    | none => .bad)
  | .extend, .ref a => (match v with
    | .ref b => (match lstAt h a, lstAt h b with
      | some xs, some ys => if xs.length + ys.length ≤ lim then .ok .non (h.set a (.lst (xs ++ ys))) else .bad
      | _, _ => .bad)
    | _ => .bad)
  | _, _ => .bad

/-! ### code -/
inductive Tg where
  | nm (i : Nat) | tp (is : List Nat)
mutual
inductive Ex where
  | var (i : Nat)
  | con (w : W)
  | bin (op : Operator) (a b : Ex)
  | neg (a : Ex)
  | cmp (op : CmpOp) (a b : Ex)
  | chn (op op' : CmpOp) (a b c : Ex)
  | and (a b : Ex)
  | or (a b : Ex)
  | not (a : Ex)
  | ife (c a b : Ex)
  | tup (es : List Ex)
  | lst (es : List Ex)
  | ix (a i : Ex)
  | sl (a : Ex) (lo hi : Option Ex)
  | call (f : Nat) (es ks : List Ex)
  | isi (t : Ty) (e : Ex)
  | bi (b : Bi) (es : List Ex)
  | mt (m : Mt) (o : Ex) (es : List Ex)
  | lc (t : Tg) (s : Sr) (test : Option Ex) (elt : Ex)
inductive Sr where
  | seq (e : Ex)
  | rng1 (e : Ex)
  | rng2 (a b : Ex)
end
inductive St where
  | set (i : Nat) (e : Ex)
  | setU (is : List Nat) (e : Ex)
  | setI (a i e : Ex)
  | aug (i : Nat) (op : Operator) (e : Ex)
  | exp (e : Ex)
  | ifs (c : Ex) (a b : List St)
  | for (t : Tg) (s : Sr) (body : List St)
  | whl (c : Ex) (body : List St)
  | ret (e : Ex)
  | retN
  | pass
  | brk
  | cnt
  | bad
/-- what is walked -/
inductive Wk where
  | fix (ws : List W)
  | live (a : Nat)
/-- the i-th item: none: not served; some none: the end -/
def Wk.at (k : Wk) (i : Nat) (h : Hh) : Option (Option W) := match k with
  | .fix ws => some ws[i]?
  | .live a => (lstAt h a).map fun ws => ws[i]?
def Wk.size (k : Wk) (h : Hh) : Nat := match k with
  | .fix ws => ws.length
  | .live a => ((lstAt h a).getD []).length
def rngL (lo : Int) (n : Nat) : List W := (List.range n).map fun (i : Nat) => W.int (lo + (i : Int))
def okR (i : Int) : Bool := decide (-1000000000 ≤ i) && decide (i ≤ 1000000000)
def setAll : List Nat → List W → Sl → Option Sl
  | [], [], σ => some σ
  | i :: is, w :: ws, σ => setAll is ws (σ.set i (some w))
  | _, _, _ => none
def bindT (t : Tg) (w : W) (h : Hh) (σ : Sl) : Option Sl := match t with
  | .nm i => some (σ.set i (some w))
  | .tp is => (match w with
    | .tup ws => setAll is ws σ
    | _ => none)
def Tg.slots : Tg → List Nat
  | .nm i => [i]
  | .tp is => is
def wipeW (σ : Sl) : List Nat → Sl
  | [] => σ
  | i :: is => (wipeW σ is).set i none
abbrev CallEnv := Nat → List W → Hh → Res W
inductive Fl where
  | nx (σ : Sl) | bk (σ : Sl) | ct (σ : Sl) | rt (w : W)
/-- a comprehension's element is put; its turn behind the test; its turns: n of them at most; d its list -/
def lcPut (rec : Hh → Res Unit) (d : Nat) (y : W) (h : Hh) : Res Unit := match lstAt h d with
  | some acc => if acc.length < lim then rec (h.set d (.lst (acc ++ [y]))) else .bad
  | none => .bad
def lcStep (rec : Hh → Res Unit) (elt : Hh → Res W) (d : Nat) (b : Bool) (h : Hh) : Res Unit := match b with
  | false => rec h
  | true => (elt h).bind (lcPut rec d)
def lcGo (k : Wk) (bnd : W → Hh → Option Sl) (test : Sl → Hh → Res Bool) (elt : Sl → Hh → Res W) (d : Nat) : Nat → Nat → Hh → Res Unit
  | 0, _, _ => .bad
  | n + 1, i, h => match k.at i h with
    | none => .bad
    | some none => .ok () h
    | some (some w) => match bnd w h with
      | none => .bad
      | some σ => (test σ h).bind (lcStep (lcGo k bnd test elt d n (i + 1)) (elt σ) d)
/-- behind a loop's body -/
def forNx (rec : Sl → Hh → Res Fl) (f : Fl) (h : Hh) : Res Fl := match f with
  | .nx σ => rec σ h
  | .ct σ => rec σ h
  | .bk σ => .ok (.nx σ) h
  | .rt w => .ok (.rt w) h
def forGo (k : Wk) (bnd : W → Hh → Sl → Option Sl) (body : Sl → Hh → Res Fl) : Nat → Nat → Sl → Hh → Res Fl
  | 0, _, _, _ => .bad
  | n + 1, i, σ, h => match k.at i h with
    | none => .bad
    | some none => .ok (.nx σ) h
    | some (some w) => match bnd w h σ with
      | none => .bad
      | some σ1 => (body σ1 h).bind (forNx (forGo k bnd body n (i + 1)))
def whlGo (test : Sl → Hh → Res Bool) (body : Sl → Hh → Res Fl) : Nat → Sl → Hh → Res Fl
  | 0, _, _ => .bad
  | n + 1, σ, h => (test σ h).bind fun b h1 => match b with
    | false => .ok (.nx σ) h1
    | true => (body σ h1).bind (forNx (whlGo test body n))
section
variable (F : CallEnv)
mutual
def ev : Ex → Sl → Hh → Res W
  | .var i, σ, h => (match σ[i]? with
    | some (some w) => .ok w h
    | _ => .bad)
  | .con w, _, h => .ok w h
  | .bin op a b, σ, h => (ev a σ h).bind fun x h1 => (ev b σ h1).bind fun y h2 => binW op x y h2
  | .neg a, σ, h => (ev a σ h).bind fun x h1 => negW x h1
  | .cmp op a b, σ, h => (ev a σ h).bind fun x h1 => (ev b σ h1).bind fun y h2 => optR ((cmpW op x y h2).map .bl) h2
  | .chn op op' a b c, σ, h => (ev a σ h).bind fun x h1 => (ev b σ h1).bind fun y h2 => (match cmpW op x y h2 with
    | some true => (ev c σ h2).bind fun z h3 => optR ((cmpW op' y z h3).map .bl) h3
    | some false => .ok (.bl false) h2
    | none => .bad)
  | .and a b, σ, h => (ev a σ h).bind fun x h1 => (match x with
    | .bl true => ev b σ h1
    | .bl false => .ok (.bl false) h1
    | _ => .bad)
  | .or a b, σ, h => (ev a σ h).bind fun x h1 => (match x with
    | .bl true => .ok (.bl true) h1
    | .bl false => ev b σ h1
    | _ => .bad)
  | .not a, σ, h => (ev a σ h).bind fun x h1 => (match x with
    | .bl b => .ok (.bl (!b)) h1
    | _ => .bad)
  | .ife c a b, σ, h => (evT c σ h).bind fun t h1 => (match t with
    | true => ev a σ h1
    | false => ev b σ h1)
  | .tup es, σ, h => (evs es σ h).bind fun ws h1 => if ws.length ≤ lim then .ok (.tup ws) h1 else .bad
  | .lst es, σ, h => (evs es σ h).bind fun ws h1 => if ws.length ≤ lim then alloc h1 (.lst ws) else .bad
  | .ix a i, σ, h => (ev a σ h).bind fun x h1 => (ev i σ h1).bind fun y h2 => ixW x y h2
  | .sl a lo hi, σ, h => (ev a σ h).bind fun x h1 => (evO lo σ h1).bind fun l h2 => (evO hi σ h2).bind fun u h3 => slW x l u h3
  | .call f es ks, σ, h => (evs es σ h).bind fun ws h1 => (evs ks σ h1).bind fun zs h2 => F f (ws ++ zs) h2
  | .isi t e, σ, h => (ev e σ h).bind fun x h1 => optR ((isiW h1 t x).map .bl) h1
  | .bi b es, σ, h => (evs es σ h).bind fun ws h1 => (match ws with
    | [x] => bi1 b x h1
    | [x, y] => bi2 b x y h1
    | _ => .bad)
  | .mt m o es, σ, h => (ev o σ h).bind fun x h1 => if isL h1 x then (evs es σ h1).bind fun ws h2 => (match ws with
    | [] => mt0 m x h2
    | [y] => mt1 m x y h2
    | _ => .bad) else .bad
  | .lc t s test elt, σ, h => (evR s σ h).bind fun k h1 =>
      if k.size h1 < lim then
        (lcGo k (fun w h' => bindT t w h' (wipeW σ t.slots)) (evP test) (ev elt) h1.length (k.size h1 + 1) 0 (h1 ++ [.lst []])).bind fun _ h2 => .ok (.ref h1.length) h2
      else .bad
def evs : List Ex → Sl → Hh → Res (List W)
  | [], _, h => .ok [] h
  | e :: es, σ, h => (ev e σ h).bind fun x h1 => (evs es σ h1).bind fun xs h2 => .ok (x :: xs) h2
def evO : Option Ex → Sl → Hh → Res (Option Int)
  | none, _, h => .ok none h
  | some e, σ, h => (ev e σ h).bind fun x h1 => (match x with
    | .int i => .ok (some i) h1
    | _ => .bad)
def evP : Option Ex → Sl → Hh → Res Bool
  | none, _, h => .ok true h
  | some e, σ, h => evT e σ h
def evT : Ex → Sl → Hh → Res Bool
  | .not a, σ, h => (evT a σ h).bind fun b h1 => .ok (!b) h1
  | .and a b, σ, h => (evT a σ h).bind fun c h1 => (match c with
    | true => evT b σ h1
    | false => .ok false h1)
  | .or a b, σ, h => (evT a σ h).bind fun c h1 => (match c with
    | true => .ok true h1
    | false => evT b σ h1)
  | .ife _ _ _, _, _ => .bad
  | .cmp op a b, σ, h => (ev a σ h).bind fun x h1 => (ev b σ h1).bind fun y h2 => optR (cmpW op x y h2) h2
  | .chn op op' a b c, σ, h => (ev a σ h).bind fun x h1 => (ev b σ h1).bind fun y h2 => (match cmpW op x y h2 with
    | some true => (ev c σ h2).bind fun z h3 => optR (cmpW op' y z h3) h3
    | some false => .ok false h2
    | none => .bad)
  | .var i, σ, h => (match σ[i]? with
    | some (some w) => optR (truW h w) h
    | _ => .bad)
  | .isi t e, σ, h => (ev e σ h).bind fun x h1 => optR (isiW h1 t x) h1
  | .call f es ks, σ, h => (evs es σ h).bind fun ws h1 => (evs ks σ h1).bind fun zs h2 => (F f (ws ++ zs) h2).bind fun x h3 => optR (truW h3 x) h3
  | _, _, _ => .bad
def evR : Sr → Sl → Hh → Res Wk
  | .seq e, σ, h => (ev e σ h).bind fun x h1 => (match x with
    | .tup ws => .ok (.fix ws) h1
    | .scr ws => .ok (.fix ws) h1
    | .ref a => (match lstAt h1 a with
      | some _ => .ok (.live a) h1
      | none => .bad)
    | _ => .bad)
  | .rng1 e, σ, h => (ev e σ h).bind fun x h1 => (match x with
    | .int n => if okR n then .ok (.fix (rngL 0 n.toNat)) h1 else .bad
    | _ => .bad)
  | .rng2 a b, σ, h => (ev a σ h).bind fun x h1 => (ev b σ h1).bind fun y h2 => (match x, y with
    | .int i, .int j => if okR i && okR j then .ok (.fix (rngL i (j - i).toNat)) h2 else .bad
    | _, _ => .bad)
end
variable (wf : Nat)
mutual
def exS : St → Sl → Hh → Res Fl
  | .set i e, σ, h => (ev F e σ h).bind fun w h1 => .ok (.nx (σ.set i (some w))) h1
  | .setU is e, σ, h => (ev F e σ h).bind fun w h1 => (match (seqOf h1 w).bind fun ws => setAll is ws σ with
    | some σ' => .ok (.nx σ') h1
    | none => .bad)
  | .setI a i e, σ, h => (ev F e σ h).bind fun v h1 => (ev F a σ h1).bind fun o h2 => (ev F i σ h2).bind fun k h3 => (setIW o k v h3).bind fun _ h4 => .ok (.nx σ) h4
  | .aug i op e, σ, h => (match σ[i]? with
    | some (some (.int a)) => (ev F e σ h).bind fun y h1 => (optR (augW op a y) h1).bind fun z h2 => .ok (.nx (σ.set i (some (.int z)))) h2
    | _ => .bad)
  | .exp e, σ, h => (ev F e σ h).bind fun _ h1 => .ok (.nx σ) h1
  | .ifs c a b, σ, h => (evT F c σ h).bind fun t h1 => (match t with
    | true => exB a σ h1
    | false => exB b σ h1)
  | .for t s body, σ, h => (evR F s σ h).bind fun k h1 => forGo k (bindT t) (fun σ' h' => exB body σ' h') (k.size h1 + 1) 0 σ h1
  | .whl c body, σ, h => whlGo (evT F c) (fun σ' h' => exB body σ' h') wf σ h
  | .ret e, σ, h => (ev F e σ h).bind fun w h1 => .ok (.rt w) h1
  | .retN, _, h => .ok (.rt .non) h
  | .pass, σ, h => .ok (.nx σ) h
  | .brk, σ, h => .ok (.bk σ) h
  | .cnt, σ, h => .ok (.ct σ) h
  | .bad, _, _ => .bad
def exB : List St → Sl → Hh → Res Fl
  | [], σ, h => .ok (.nx σ) h
  | s :: r, σ, h => (exS s σ h).bind fun f h1 => (match f with
    | .nx σ' => exB r σ' h1
    | f => .ok f h1)
end
end
/-- a def: how many names it has, its body -/
structure Df where
  n : Nat
  body : List St
def startW (n : Nat) (ws : List W) : Sl := ws.map some ++ List.replicate (n - ws.length) none
def run1 (F : CallEnv) (wf : Nat) (d : Df) (ws : List W) (h : Hh) : Res W := (exB F wf d.body (startW d.n ws) h).bind fun f h1 => match f with
  | .rt w => .ok w h1
  | .nx _ => .ok .non h1
  | _ => .bad
def runF (ds : List Df) (wf : Nat) : Nat → CallEnv
  | 0 => fun _ _ _ => .bad
  | k + 1 => fun f ws h => match ds[f]? with
    | some d => run1 (runF ds wf k) wf d ws h
    | none => .bad
end Z
set_option maxHeartbeats 2000000
/-! Z1: how the abstract machine's values and heap stand for the layer's; what each operator, built-in, method computes is right. -/
namespace Z
open PySem PySem.Spec PyProof.Rows L2

/-- what never changes -/
inductive Imm : HO → Prop
  | tup (xs : List V) : Imm (.tup xs)
  | rng (lo hi : Int) : Imm (.rng lo hi)
  | frz (o : Obj) (u : HO) : Imm (.frz o u)
def Kept (H H' : Hp) : Prop := ∀ b o, Imm o → H b = some o → H' b = some o
theorem Kept.refl (H : Hp) : Kept H H := fun _ _ _ h => h
theorem Kept.trans {H H1 H2 : Hp} (a : Kept H H1) (b : Kept H1 H2) : Kept H H2 := fun c o i h => b c o i (a c o i h)
theorem Kept.new {H : Hp} {p : Addr} {o : HO} (h : H p = none) : Kept H (upd H p o) := fun b u _ e => by
  rw [upd_ne (ne_of_none e h)]; exact e
theorem Kept.put {H : Hp} {p : Addr} {xs : List V} {o : HO} (h : H p = some (.lst xs)) : Kept H (upd H p o) := fun b u i e => by
  have : b ≠ p := by
    rintro rfl; rw [h] at e; cases e; cases i
  rw [upd_ne this]; exact e
theorem Kept.sqT {K : PySem.W.Frag} {H H' : Hp} {a : Addr} {xs : List V} (k : Kept H H') (h : SqT K H a xs) : SqT K H' a xs := by
  rcases h with (h | ⟨o, h⟩) | h
  · exact .inl (.inl (k _ _ (.tup _) h))
  · exact .inl (.inr ⟨o, k _ _ (.frz _ _) h⟩)
  · exact .inr h
/-- a list that is known to its object (the script) -/
def SqS (K : PySem.W.Frag) (H : Hp) (a : Addr) (xs : List V) : Prop := (∃ o, H a = some (.frz o (.lst xs))) ∨
    ∃ (o : Obj) (its : Array Value) (n : Nat), K.lookup a = some o ∧ o.cls = .type "list" ∧ o.dict = none ∧ o.data = .seq its n ∧ its.size ≤ sizeLine ∧ Vals xs its.toList
theorem SqS.sq {K : PySem.W.Frag} {H : Hp} {a : Addr} {xs : List V} (h : SqS K H a xs) : SqL K H a xs := by
  rcases h with ⟨o, h⟩ | h
  · exact .inl (.inr ⟨o, h⟩)
  · exact .inr h
theorem Kept.sqS {K : PySem.W.Frag} {H H' : Hp} {a : Addr} {xs : List V} (k : Kept H H') (h : SqS K H a xs) : SqS K H' a xs := by
  rcases h with ⟨o, h⟩ | h
  · exact .inl ⟨o, k _ _ (.frz _ _) h⟩
  · exact .inr h

mutual
inductive RW (K : PySem.W.Frag) (ρ : List Addr) (H : Hp) : W → V → Prop
  | non : RW K ρ H .non .non
  | bl (b : Bool) : RW K ρ H (.bl b) (.bl b)
  | int (i : Int) : RW K ρ H (.int i) (.int i)
  | str (s : Str) : RW K ρ H (.str s) (.str s)
  | tup {a : Addr} {ws : List W} {vs : List V} : SqT K H a vs → RWs K ρ H ws vs → RW K ρ H (.tup ws) (.ref a)
  | scr {a : Addr} {ws : List W} {vs : List V} : SqS K H a vs → RWs K ρ H ws vs → RW K ρ H (.scr ws) (.ref a)
  | ref {i : Nat} {a : Addr} : ρ[i]? = some a → RW K ρ H (.ref i) (.ref a)
  | rng {a : Addr} {lo hi : Int} : H a = some (.rng lo hi) → RW K ρ H (.rng lo hi) (.ref a)
inductive RWs (K : PySem.W.Frag) (ρ : List Addr) (H : Hp) : List W → List V → Prop
  | nil : RWs K ρ H [] []
  | cons {w : W} {ws : List W} {v : V} {vs : List V} : RW K ρ H w v → RWs K ρ H ws vs → RWs K ρ H (w :: ws) (v :: vs)
end
/-- later addresses, later heap -/
structure Ext (ρ : List Addr) (H : Hp) (ρ' : List Addr) (H' : Hp) : Prop where
  pre : ∀ (i : Nat) (a : Addr), ρ[i]? = some a → ρ'[i]? = some a
  kept : Kept H H'
theorem Ext.refl (ρ : List Addr) (H : Hp) : Ext ρ H ρ H := ⟨fun _ _ h => h, Kept.refl H⟩
theorem Ext.trans {ρ ρ1 ρ2 : List Addr} {H H1 H2 : Hp} (a : Ext ρ H ρ1 H1) (b : Ext ρ1 H1 ρ2 H2) : Ext ρ H ρ2 H2 := ⟨fun i x h => b.pre i x (a.pre i x h), a.kept.trans b.kept⟩
theorem Ext.imm {ρ : List Addr} {H H' : Hp} (k : Kept H H') : Ext ρ H ρ H' := ⟨fun _ _ h => h, k⟩
section
variable {K : PySem.W.Frag} {ρ ρ' : List Addr} {H H' : Hp}
mutual
theorem RW.mono (e : Ext ρ H ρ' H') : ∀ {w : W} {v : V}, RW K ρ H w v → RW K ρ' H' w v
  | _, _, .non => .non
  | _, _, .bl b => .bl b
  | _, _, .int i => .int i
  | _, _, .str s => .str s
  | _, _, .tup h r => .tup (e.kept.sqT h) (RWs.mono e r)
  | _, _, .scr h r => .scr (e.kept.sqS h) (RWs.mono e r)
  | _, _, .ref h => .ref (e.pre _ _ h)
  | _, _, .rng h => .rng (e.kept _ _ (.rng _ _) h)
theorem RWs.mono (e : Ext ρ H ρ' H') : ∀ {ws : List W} {vs : List V}, RWs K ρ H ws vs → RWs K ρ' H' ws vs
  | _, _, .nil => .nil
  | _, _, .cons h r => .cons (RW.mono e h) (RWs.mono e r)
end
theorem RWs.length : ∀ {ws : List W} {vs : List V}, RWs K ρ H ws vs → ws.length = vs.length
  | _, _, .nil => rfl
  | _, _, .cons _ r => congrArg Nat.succ (RWs.length r)
theorem RWs.get : ∀ {ws : List W} {vs : List V} {i : Nat} {w : W}, RWs K ρ H ws vs → ws[i]? = some w → ∃ v, vs[i]? = some v ∧ RW K ρ H w v
  | _, _, _, _, .nil, e => by simp at e
  | _, _, 0, _, .cons h _, e => by simp at e; subst e; exact ⟨_, rfl, h⟩
  | _, _, i + 1, _, .cons _ r, e => by
    obtain ⟨v, h1, h2⟩ := RWs.get (i := i) r (by simpa using e)
    exact ⟨v, by simpa using h1, h2⟩
theorem RWs.append : ∀ {ws us : List W} {vs zs : List V}, RWs K ρ H ws vs → RWs K ρ H us zs → RWs K ρ H (ws ++ us) (vs ++ zs)
  | _, _, _, _, .nil, r => r
  | _, _, _, _, .cons h t, r => .cons h (RWs.append t r)
theorem RWs.set : ∀ {ws : List W} {vs : List V} {w : W} {v : V} (i : Nat), RWs K ρ H ws vs → RW K ρ H w v → RWs K ρ H (ws.set i w) (vs.set i v)
  | _, _, _, _, _, .nil, _ => .nil
  | _, _, _, _, 0, .cons _ r, h => .cons h r
  | _, _, _, _, i + 1, .cons g r, h => .cons g (RWs.set i r h)
theorem RWs.take : ∀ {ws : List W} {vs : List V} (n : Nat), RWs K ρ H ws vs → RWs K ρ H (ws.take n) (vs.take n)
  | _, _, 0, _ => by simpa using .nil
  | _, _, _ + 1, .nil => .nil
  | _, _, n + 1, .cons h r => .cons h (RWs.take n r)
theorem RWs.drop : ∀ {ws : List W} {vs : List V} (n : Nat), RWs K ρ H ws vs → RWs K ρ H (ws.drop n) (vs.drop n)
  | _, _, 0, r => r
  | _, _, _ + 1, .nil => .nil
  | _, _, n + 1, .cons _ r => RWs.drop n r
theorem RWs.dropLast {ws : List W} {vs : List V} (r : RWs K ρ H ws vs) : RWs K ρ H ws.dropLast vs.dropLast := by
  rw [List.dropLast_eq_take, List.dropLast_eq_take, r.length]; exact r.take _
theorem RWs.reverse : ∀ {ws : List W} {vs : List V}, RWs K ρ H ws vs → RWs K ρ H ws.reverse vs.reverse
  | _, _, .nil => .nil
  | _, _, .cons h r => by
    rw [List.reverse_cons, List.reverse_cons]
    exact (RWs.reverse r).append (.cons h .nil)
theorem RWs.rep {ws : List W} {vs : List V} (r : RWs K ρ H ws vs) : ∀ k : Nat, RWs K ρ H (List.replicate k ws).flatten (List.replicate k vs).flatten
  | 0 => .nil
  | k + 1 => by
    rw [List.replicate_succ, List.replicate_succ, List.flatten_cons, List.flatten_cons]
    exact r.append (RWs.rep r k)
theorem RWs.empty {ws : List W} {vs : List V} (r : RWs K ρ H ws vs) : vs.isEmpty = ws.isEmpty := by cases r <;> rfl
theorem RWs.none {ws : List W} {vs : List V} {i : Nat} (r : RWs K ρ H ws vs) (h : ws[i]? = .none) : vs[i]? = .none := by
  have l := r.length
  rw [List.getElem?_eq_none_iff] at h ⊢
  omega
end
/-- the abstract heap h stands in H, its objects at ρ -/
structure HR (K : PySem.W.Frag) (ρ : List Addr) (h : Hh) (H : Hp) : Prop where
  len : ρ.length = h.length
  nd : ρ.Nodup
  at_ : ∀ (i : Nat) (ws : List W) (a : Addr), h[i]? = some (O.lst ws) → ρ[i]? = some a → ∃ vs, H a = some (.lst vs) ∧ RWs K ρ H ws vs
section
variable {K : PySem.W.Frag} {ρ ρ' : List Addr} {H H' : Hp} {h : Hh}
theorem HR.lst {i : Nat} {ws : List W} {v : V} (R : HR K ρ h H) (e : lstAt h i = some ws) (r : RW K ρ H (.ref i) v) : ∃ a vs, v = .ref a ∧ ρ[i]? = some a ∧ H a = some (.lst vs) ∧ RWs K ρ H ws vs := by
  cases r with
  | ref hρ =>
    rename_i a
    have e' : h[i]? = some (O.lst ws) := by
      unfold lstAt at e
      split at e
      · rename_i q; cases e; exact q
      · cases e
    obtain ⟨vs, h1, h2⟩ := R.at_ i ws a e' hρ
    exact ⟨a, vs, rfl, hρ, h1, h2⟩
/-- a tracked address -/
theorem HR.tracked {a : Addr} (R : HR K ρ h H) (ha : a ∈ ρ) : ∃ vs, H a = some (.lst vs) := by
  obtain ⟨i, hi, e⟩ := List.getElem_of_mem ha
  have hi' : i < h.length := by rw [← R.len]; exact hi
  have e1 : ρ[i]? = some a := by rw [List.getElem?_eq_getElem hi, e]
  cases q : h[i]? with
  | none => rw [List.getElem?_eq_none_iff] at q; omega
  | some o =>
    cases o with
    | lst ws =>
      obtain ⟨vs, h1, _⟩ := R.at_ i ws a q e1
      exact ⟨vs, h1⟩
/-- what is laid beside -/
theorem HR.beside (R : HR K ρ h H) (k : Kept H H') (s : ∀ a vs, a ∈ ρ → H a = some (.lst vs) → H' a = some (.lst vs)) : HR K ρ h H' := by
  refine ⟨R.len, R.nd, fun i ws a e1 e2 => ?_⟩
  obtain ⟨vs, h1, h2⟩ := R.at_ i ws a e1 e2
  exact ⟨vs, s a vs (List.mem_of_getElem? e2) h1, h2.mono (Ext.imm k)⟩
theorem HR.new {p : Addr} {o : HO} (R : HR K ρ h H) (hp : H p = none) : HR K ρ h (upd H p o) :=
  R.beside (Kept.new hp) fun a vs _ e => by rw [upd_ne (ne_of_none e hp)]; exact e
/-- a new list -/
theorem HR.alloc {p : Addr} {ws : List W} {vs : List V} (R : HR K ρ h H) (hp : H p = none) (r : RWs K ρ H ws vs) : HR K (ρ ++ [p]) (h ++ [O.lst ws]) (upd H p (.lst vs)) ∧ Ext ρ H (ρ ++ [p]) (upd H p (.lst vs)) ∧ RW K (ρ ++ [p]) (upd H p (.lst vs)) (.ref h.length) (.ref p) := by
  have ex : Ext ρ H (ρ ++ [p]) (upd H p (.lst vs)) := ⟨fun i a e => by
    rw [List.getElem?_append_left (List.getElem?_eq_some_iff.mp e).1]; exact e, Kept.new hp⟩
  have hpn : p ∉ ρ := fun z => by
    obtain ⟨vs, e⟩ := R.tracked z
    rw [hp] at e; cases e
  refine ⟨⟨by rw [List.length_append, List.length_append, R.len] <;> rfl, ?_, fun i us a e1 e2 => ?_⟩, ex, .ref (by rw [← R.len, List.getElem?_append_right (Nat.le_refl _), Nat.sub_self] <;> rfl)⟩
  · rw [List.nodup_append]
    exact ⟨R.nd, by simp, fun a ha b hb => by
      have : b = p := by simpa using hb
      rw [this]; intro z; rw [z] at ha; exact hpn ha⟩
  · by_cases hi : i < h.length
    · rw [List.getElem?_append_left hi] at e1
      rw [List.getElem?_append_left (by rw [R.len]; exact hi)] at e2
      obtain ⟨us', h1, h2⟩ := R.at_ i us a e1 e2
      exact ⟨us', by rw [upd_ne (ne_of_none h1 hp)]; exact h1, h2.mono ex⟩
    · have hi' : h.length ≤ i := by omega
      rw [List.getElem?_append_right hi'] at e1
      rw [List.getElem?_append_right (by rw [R.len]; exact hi'), R.len] at e2
      have hz : i - h.length = 0 := by
        have := (List.getElem?_eq_some_iff.mp e1).1
        simp at this; omega
      rw [hz] at e1 e2
      simp at e1 e2
      subst e1 e2
      exact ⟨vs, upd_same, r.mono ex⟩
/-- a list is written -/
theorem HR.put {i : Nat} {a : Addr} {us : List W} {vs zs : List V} (R : HR K ρ h H) (hi : ρ[i]? = some a) (hv : H a = some (.lst vs)) (r : RWs K ρ H us zs) : HR K ρ (h.set i (O.lst us)) (upd H a (.lst zs)) ∧ Ext ρ H ρ (upd H a (.lst zs)) := by
  have ex : Ext ρ H ρ (upd H a (.lst zs)) := Ext.imm (Kept.put hv)
  refine ⟨⟨by rw [List.length_set]; exact R.len, R.nd, fun j ys b e1 e2 => ?_⟩, ex⟩
  by_cases hj : j = i
  · subst hj
    rw [hi] at e2; cases e2
    rw [List.getElem?_set_self (by
      have := (List.getElem?_eq_some_iff.mp e1).1
      rw [List.length_set] at this; exact this)] at e1
    cases e1
    exact ⟨zs, upd_same, r.mono ex⟩
  · rw [List.getElem?_set_ne (Ne.symm hj)] at e1
    obtain ⟨ys', h1, h2⟩ := R.at_ j ys b e1 e2
    refine ⟨ys', ?_, h2.mono ex⟩
    rw [upd_ne]
    · exact h1
    · rintro rfl
      exact hj (nd_ix R.nd e2 hi)
end

/-! ### results -/
/-- behind a computation: what is wanted (Q) of every value and heap that stands for its result -/
def Post {α β : Type} (K : PySem.W.Frag) (rel : List Addr → Hp → α → β → Prop) (ρ : List Addr) (H : Hp) (r : Res α) (Q : β → Hp → Prop) : Prop := match r with
  | .ok w h' => ∀ (ρ' : List Addr) (H' : Hp) (v : β), Ext ρ H ρ' H' → HR K ρ' h' H' → rel ρ' H' w v → Q v H'
  | .bad => False
abbrev PostW (K : PySem.W.Frag) (ρ : List Addr) (H : Hp) (r : Res W) (Q : V → Hp → Prop) : Prop := Post K (RW K) ρ H r Q
abbrev PostWs (K : PySem.W.Frag) (ρ : List Addr) (H : Hp) (r : Res (List W)) (Q : List V → Hp → Prop) : Prop := Post K (RWs K) ρ H r Q
abbrev PostE {α : Type} (K : PySem.W.Frag) (ρ : List Addr) (H : Hp) (r : Res α) (Q : α → Hp → Prop) : Prop := Post K (fun _ _ (a b : α) => a = b) ρ H r Q
theorem Post.mono {α β : Type} {K : PySem.W.Frag} {rel : List Addr → Hp → α → β → Prop} {ρ ρ1 : List Addr} {H H1 : Hp} {r : Res α} {Q Q' : β → Hp → Prop} (p : Post K rel ρ H r Q) (e : Ext ρ H ρ1 H1) (q : ∀ v H', Q v H' → Q' v H') : Post K rel ρ1 H1 r Q' := by
  cases r with
  | bad => exact p
  | ok w h => exact fun ρ' H' v e' R r => q _ _ (p ρ' H' v (e.trans e') R r)
/-- the computation's first part, then its rest -/
theorem Post.bind {α β γ δ : Type} {K : PySem.W.Frag} {rel : List Addr → Hp → α → β → Prop} {rel2 : List Addr → Hp → γ → δ → Prop} {ρ : List Addr} {H : Hp} {r : Res α} {f : α → Hh → Res γ} {Q : δ → Hp → Prop} (p : Post K rel2 ρ H (r.bind f) Q) :
    Post K rel ρ H r (fun v H1 => ∃ w h1 ρ1, r = .ok w h1 ∧ Ext ρ H ρ1 H1 ∧ HR K ρ1 h1 H1 ∧ rel ρ1 H1 w v ∧ Post K rel2 ρ1 H1 (f w h1) Q) := by
  cases r with
  | bad => exact p
  | ok w h1 =>
    intro ρ1 H1 v e R r
    exact ⟨w, h1, ρ1, rfl, e, R, r, p.mono e fun _ _ z => z⟩
theorem Post.here {α β : Type} {K : PySem.W.Frag} {rel : List Addr → Hp → α → β → Prop} {ρ : List Addr} {H : Hp} {w : α} {v : β} {h : Hh} {Q : β → Hp → Prop} (p : Post K rel ρ H (.ok w h) Q) (R : HR K ρ h H) (r : rel ρ H w v) : Q v H := p ρ H v (Ext.refl _ _) R r
theorem Post.at {α β : Type} {K : PySem.W.Frag} {rel : List Addr → Hp → α → β → Prop} {ρ ρ' : List Addr} {H H' : Hp} {w : α} {v : β} {h : Hh} {Q : β → Hp → Prop} (p : Post K rel ρ H (.ok w h) Q) (e : Ext ρ H ρ' H') (R : HR K ρ' h H') (r : rel ρ' H' w v) : Q v H' := p ρ' H' v e R r

/-! ### the weakest readings -/
def sem (X : Cx) (e : Expr) : TE := fun σ H Q => ∀ pins s, Inv X pins σ H s → wpAny (model X.prog X.w) X.A (eval e X.env) (EP X pins σ Q) X.xe s
theorem PE.sem (X : Cx) (e : Expr) : PE X e (sem X e) := ⟨fun pins s σ H Q I h => h pins s I⟩
def semT (X : Cx) (e : Expr) : TT := fun σ H Q => ∀ pins s, Inv X pins σ H s → wpAny (model X.prog X.w) X.A (isTrue e X.env (eval e X.env)) (TP X pins σ Q) X.xe s
theorem PT.sem (X : Cx) (e : Expr) : PT X e (semT X e) := ⟨fun pins s σ H Q I h => h pins s I⟩
def semA (X : Cx) (es : List Expr) : TA := fun σ H Q => ∀ (pos : Pos) pins s, Inv X pins σ H s → wpAny (model X.prog X.w) X.A (spliced (backTo pos (starEach es X.env))) (AP X pins σ Q) X.xe s
theorem PA.sem (X : Cx) (es : List Expr) : PA X es (semA X es) := ⟨fun pos pins s σ H Q I h => h pos pins s I⟩
def semK (X : Cx) (kws : List Keyword) : TA := fun σ H Q => ∀ (pos : Pos) pins s, Inv X pins σ H s → wpAny (model X.prog X.w) X.A (evalAll ((backToKw pos (keywordEach kws X.env)).map (·.2))) (AP X pins σ Q) X.xe s
theorem PK.sem (X : Cx) (kws : List Keyword) : PK X kws (semK X kws) := ⟨fun pos pins s σ H Q I h => h pos pins s I⟩
def semS (X : Cx) (st : Stmt) : TS := fun D σ H => ∀ pins s, Inv X pins σ H s → wpAny (model X.prog X.w) X.A (exec st X.env) (SP X pins D) X.xe s
theorem PS.sem (X : Cx) (st : Stmt) : PS X st (semS X st) := ⟨fun pins s σ H D I h => h pins s I⟩
def semSs (X : Cx) (st : List Stmt) : TS := fun D σ H => ∀ pins s, Inv X pins σ H s → wpAny (model X.prog X.w) X.A (execs st X.env) (SP X pins D) X.xe s
theorem PSs.sem (X : Cx) (st : List Stmt) : PSs X st (semSs X st) := ⟨fun pins s σ H D I h => h pins s I⟩
def semO (X : Cx) (f : Value → Value → Sem Value) : R2 := fun x y H Q => ∀ pins s (σ : L2.St) v u, Inv X pins σ H s → RelV x v → RelV y u → wpAny (model X.prog X.w) X.A (f v u) (EP X pins σ Q) X.xe s
theorem OpR.sem (X : Cx) (f : Value → Value → Sem Value) : OpR X f (semO X f) := fun pins s σ H x y v u Q I rx ry h => h pins s σ v u I rx ry
theorem OpR.use {X : Cx} {f : Value → Value → Sem Value} {r : R2} (o : OpR X f r) {x y : V} {H : Hp} {Q : VK} (h : r x y H Q) : semO X f x y H Q := fun pins s σ v u I rx ry => o pins s σ H x y v u Q I rx ry h
def semC (X : Cx) (f : Value) : List V → Hp → VK → Prop := fun xs H Q => ∀ pins s (σ : L2.St) us, Inv X pins σ H s → Vals xs us → wpAny (model X.prog X.w) X.A (call f us []) (EP X pins σ Q) X.xe s
theorem PE.use {X : Cx} {e : Expr} {t : TE} (p : PE X e t) {σ : L2.St} {H : Hp} {Q : VK} (h : t σ H Q) : Z.sem X e σ H Q := fun pins s I => p.run pins s σ H Q I h
theorem PT.use {X : Cx} {e : Expr} {t : TT} (p : PT X e t) {σ : L2.St} {H : Hp} {Q : Bool → Hp → Prop} (h : t σ H Q) : Z.semT X e σ H Q := fun pins s I => p.run pins s σ H Q I h
theorem PA.use {X : Cx} {es : List Expr} {t : TA} (p : PA X es t) {σ : L2.St} {H : Hp} {Q : List V → Hp → Prop} (h : t σ H Q) : Z.semA X es σ H Q := fun pos pins s I => p.run pos pins s σ H Q I h
theorem PK.use {X : Cx} {es : List Keyword} {t : TA} (p : PK X es t) {σ : L2.St} {H : Hp} {Q : List V → Hp → Prop} (h : t σ H Q) : Z.semK X es σ H Q := fun pos pins s I => p.run pos pins s σ H Q I h
theorem PS.use {X : Cx} {st : Stmt} {t : TS} (p : PS X st t) {σ : L2.St} {H : Hp} {D : Ends} (h : t D σ H) : Z.semS X st D σ H := fun pins s I => p.run pins s σ H D I h
theorem PSs.use {X : Cx} {st : List Stmt} {t : TS} (p : PSs X st t) {σ : L2.St} {H : Hp} {D : Ends} (h : t D σ H) : Z.semSs X st D σ H := fun pins s I => p.run pins s σ H D I h

/-! ### operators -/
theorem lim_le {n : Nat} (h : n ≤ lim) : n ≤ sizeLine := Nat.le_trans h (by decide)
theorem lim_lt {n : Nat} (h : n < lim) : n < sizeLine := Nat.lt_of_lt_of_le h (by decide)
section
variable {X : Cx} {ρ : List Addr} {H : Hp} {h : Hh} {x y : W} {v u : V} {Q : VK}
abbrev Opk (X : Cx) (op : Operator) := semO X (binaryOp op)
theorem alloc_ok {xs : List W} {vs : List V} (R : HR X.K ρ h H) (r : RWs X.K ρ H xs vs) (p : PostW X.K ρ H (Z.alloc h (O.lst xs)) Q) : ∀ a, H a = none → Q (.ref a) (upd H a (.lst vs)) := fun a ha => by
  obtain ⟨R', e, rr⟩ := R.alloc ha r
  exact p.at e R' rr
theorem add_ok (R : HR X.K ρ h H) (rx : RW X.K ρ H x v) (ry : RW X.K ρ H y u) (p : PostW X.K ρ H (addW x y h) Q) : Opk X .Add v u H Q := by
  unfold addW at p
  split at p
  · cases rx; cases ry
    exact OpR.use op_add ⟨_, _, rfl, rfl, p.here R (.int _)⟩
  · cases rx; cases ry
    split at p
    · rename_i hl
      exact OpR.use op_add_str ⟨_, _, rfl, rfl, lim_le hl, p.here R (.str _)⟩
    · exact p.elim
  · cases rx with
    | tup h1 r1 =>
      cases ry with
      | tup h2 r2 =>
        split at p
        · rename_i hl
          refine OpR.use op_catA ⟨_, _, _, _, rfl, rfl, h1, h2, lim_le (by rw [← r1.length, ← r2.length]; exact hl), fun e => ?_, fun e1 e2 => ?_, fun e1 e2 a ha => ?_⟩
          all_goals skip
          · subst e; cases r1; exact p.here R (.tup h2 r2)
          · subst e2; cases r2; rw [List.append_nil] at p; exact p.here R (.tup h1 r1)
          · exact p.at (Ext.imm (Kept.new ha)) (R.new ha) (.tup (SqT.of upd_same) ((r1.append r2).mono (Ext.imm (Kept.new ha))))
        · exact p.elim
  · rename_i a b
    split at p
    · rename_i xs ys e1 e2
      split at p
      · rename_i hl
        obtain ⟨a', vs, rfl, _, h1, r1⟩ := R.lst e1 rx
        obtain ⟨b', us, rfl, _, h2, r2⟩ := R.lst e2 ry
        exact OpR.use op_cat ⟨_, _, _, _, rfl, rfl, h1, h2, lim_le (by rw [← r1.length, ← r2.length]; exact hl), alloc_ok R (r1.append r2) p⟩
      · exact p.elim
    · exact p.elim
  · exact p.elim
/-- * of two factors of together less than 100 million bits -/
theorem mul_lim {i j : Int} (h : i.natAbs.log2 + j.natAbs.log2 < 100000000) : IntMulOk i j := by
  have b : ∀ x : Int, Builtin.Int.intBits x ≤ x.natAbs.log2 + 1 := fun x => by
    unfold Builtin.Int.intBits
    split <;> omega
  have h1 := b i
  have h2 := b j
  have e : bitsLine = 134217728 := by decide
  unfold IntMulOk
  intro z
  rw [Bool.and_eq_true] at z
  have z2 := z.2
  unfold Builtin.Int.intTooBig at z2
  have z3 := of_decide_eq_true z2
  rw [e] at z3
  omega
theorem op_mulZ : OpR X (binaryOp .Mult) (rI (fun i j => i.natAbs.log2 + j.natAbs.log2 < 100000000) fun i j => .int (i * j)) := opI fun _ _ _ _ _ _ _ hc q => mul_int q (mul_lim hc)
theorem mul_ok (R : HR X.K ρ h H) (rx : RW X.K ρ H x v) (ry : RW X.K ρ H y u) (p : PostW X.K ρ H (mulW x y h) Q) : Opk X .Mult v u H Q := by
  unfold mulW at p
  split at p
  · cases rx; cases ry
    split at p
    · rename_i hl
      exact OpR.use op_mulZ ⟨_, _, rfl, rfl, hl, p.here R (.int _)⟩
    · exact p.elim
  · split at p
    · rename_i xs e1
      cases ry
      split at p
      · rename_i hl
        obtain ⟨a', vs, rfl, _, h1, r1⟩ := R.lst e1 rx
        exact OpR.use op_rep ⟨_, _, _, rfl, rfl, h1, by omega, by omega, lim_le (by rw [← r1.length]; exact hl.2.2), alloc_ok R (r1.rep _) p⟩
      · exact p.elim
    · exact p.elim
  · exact p.elim
theorem bin_ok {op : Operator} (R : HR X.K ρ h H) (rx : RW X.K ρ H x v) (ry : RW X.K ρ H y u) (p : PostW X.K ρ H (binW op x y h) Q) : Opk X op v u H Q := by
  unfold binW at p
  cases op with
  | Add => exact add_ok R rx ry p
  | Sub =>
    simp only at p
    split at p
    · cases rx; cases ry
      exact OpR.use op_sub ⟨_, _, rfl, rfl, p.here R (.int _)⟩
    · exact p.elim
  | Mult => exact mul_ok R rx ry p
  | FloorDiv =>
    simp only at p
    split at p
    · cases rx; cases ry
      split at p
      · rename_i hl
        exact OpR.use op_fdivW ⟨_, _, rfl, rfl, hl, p.here R (.int _)⟩
      · exact p.elim
    · exact p.elim
  | Mod =>
    simp only at p
    split at p
    · cases rx; cases ry
      split at p
      · rename_i hl
        exact OpR.use op_mod ⟨_, _, rfl, rfl, hl, p.here R (.int _)⟩
      · exact p.elim
    · exact p.elim
  | Pow =>
    simp only at p
    split at p
    · cases rx; cases ry
      split at p
      · rename_i hl
        exact OpR.use op_pow ⟨_, _, rfl, rfl, hl, p.here R (.int _)⟩
      · exact p.elim
    · exact p.elim
  | _ => exact p.elim
end
/-! ### comparisons -/
section
variable {X : Cx} {ρ : List Addr} {H : Hp} {h : Hh}
theorem mapM_cons_some {α β : Type} {f : α → Option β} {a : α} {l : List α} {r : List β} (e : (a :: l).mapM f = some r) : ∃ b r', f a = some b ∧ l.mapM f = some r' ∧ r = b :: r' := by
  rw [List.mapM_cons] at e
  cases q : f a with
  | none => rw [q] at e; cases e
  | some b =>
    rw [q] at e
    cases q2 : l.mapM f with
    | none => rw [q2] at e; cases e
    | some r' =>
      rw [q2] at e
      cases e
      exact ⟨b, r', rfl, rfl, rfl⟩
theorem dpAll_of {n : Nat} (ih : ∀ w v d, toD h n w = some d → RW X.K ρ H w v → Dp X.K H v d) : ∀ (ws : List W) (vs : List V) (ds : List PyData), ws.mapM (toD h n) = some ds → RWs X.K ρ H ws vs → DpAll X.K H vs ds
  | [], _, ds, e, .nil => by
    have : ds = [] := by
      rw [List.mapM_nil] at e; cases e; rfl
    subst this; exact .nil
  | w :: ws, _, ds, e, .cons r rr => by
    obtain ⟨b, r', e1, e2, rfl⟩ := mapM_cons_some e
    exact .cons (ih _ _ _ e1 r) (dpAll_of ih ws _ _ e2 rr)
theorem dp_of (R : HR X.K ρ h H) : ∀ (n : Nat) (w : W) (v : V) (d : PyData), toD h n w = some d → RW X.K ρ H w v → Dp X.K H v d := by
  intro n
  induction n with
  | zero =>
    intro w v d e r
    cases w with
    | non => simp [toD] at e; subst e; cases r; exact .non
    | bl b => simp [toD] at e; subst e; cases r; exact .bl b
    | int i => simp [toD] at e; subst e; cases r; exact .int i
    | str s => simp [toD] at e; subst e; cases r; exact .str s
    | _ => simp [toD] at e
  | succ n ih =>
    intro w v d e r
    cases w with
    | non => simp [toD] at e; subst e; cases r; exact .non
    | bl b => simp [toD] at e; subst e; cases r; exact .bl b
    | int i => simp [toD] at e; subst e; cases r; exact .int i
    | str s => simp [toD] at e; subst e; cases r; exact .str s
    | tup ws =>
      unfold toD at e
      obtain ⟨ds, e1, rfl⟩ := Option.map_eq_some_iff.mp e
      cases r with
      | tup hs rs => exact .tup hs (dpAll_of ih ws _ ds e1 rs)
    | ref i =>
      unfold toD at e
      split at e
      · rename_i ws e0
        obtain ⟨ds, e1, rfl⟩ := Option.map_eq_some_iff.mp e
        obtain ⟨a, vs, rfl, _, ha, rs⟩ := R.lst e0 r
        exact .lst (SqL.of ha) (dpAll_of ih ws _ ds e1 rs)
      · cases e
    | scr ws => simp [toD] at e
    | rng lo hi => simp [toD] at e
variable {x y : W} {v u : V} {Q : VK} {b : Bool}
theorem eq_data (R : HR X.K ρ h H) (rx : RW X.K ρ H x v) (ry : RW X.K ρ H y u) (e : eqW h x y = some b) : ∃ d e', Dp X.K H v d ∧ Dp X.K H u e' ∧ SeqAt.shaped d = true ∧ SeqAt.shaped e' = true ∧ PyData.eqv d e' = b := by
  unfold eqW at e
  split at e
  · rename_i d d' e1 e2
    split at e
    · rename_i hs
      rw [Bool.and_eq_true] at hs
      cases e
      exact ⟨d, d', dp_of R _ _ _ _ e1 rx, dp_of R _ _ _ _ e2 ry, hs.1, hs.2, rfl⟩
    · cases e
  · cases e
theorem flat_of (r : RW X.K ρ H x v) (f : flatW x = true) : flatV v = true := by
  cases r <;> first | rfl | cases f
theorem flats_of : ∀ {ws : List W} {vs : List V}, RWs X.K ρ H ws vs → ws.all flatW = true → vs.all flatV = true
  | _, _, .nil, _ => rfl
  | _, _, .cons r t, f => by
    rw [List.all_cons, Bool.and_eq_true] at f ⊢
    exact ⟨flat_of r f.1, flats_of t f.2⟩
theorem eqF_of (rx : RW X.K ρ H x v) (ry : RW X.K ρ H y u) (fx : flatW x = true) (fy : flatW y = true) : eqV v u = eqF x y := by
  cases rx <;> first | (cases fx; done) | (cases ry <;> first | (cases fy; done) | rfl)
theorem in_of {ws : List W} {vs : List V} (rx : RW X.K ρ H x v) (fx : flatW x = true) (r : RWs X.K ρ H ws vs) (f : ws.all flatW = true) : inV v vs = ws.any fun z => eqF z x := by
  unfold inV
  induction ws generalizing vs with
  | nil => cases r; rfl
  | cons w ws ih =>
    cases r with
    | cons r1 r2 =>
      rw [List.all_cons, Bool.and_eq_true] at f
      rw [List.any_cons, List.any_cons, ih r2 f.2, eqF_of r1 rx f.1 fx]
theorem isNon_of (r : RW X.K ρ H x v) : decide (v = V.non) = isNon x := by
  cases r <;> first | rfl | exact decide_eq_false (fun z => nomatch z) | exact decide_eq_true rfl
theorem seq_sq {ws : List W} (R : HR X.K ρ h H) (r : RW X.K ρ H x v) (e : seqOf h x = some ws) : ∃ a vs, v = .ref a ∧ (SqL X.K H a vs ∨ SqT X.K H a vs) ∧ RWs X.K ρ H ws vs := by
  unfold seqOf at e
  split at e
  · cases e
    cases r with
    | tup h1 r1 => exact ⟨_, _, rfl, .inr h1, r1⟩
  · cases e
    cases r with
    | scr h1 r1 => exact ⟨_, _, rfl, .inl h1.sq, r1⟩
  · obtain ⟨a, vs, rfl, _, ha, rr⟩ := R.lst e r
    exact ⟨a, vs, rfl, .inl (SqL.of ha), rr⟩
  · cases e
theorem iCmp_of {f : Int → Int → Bool} (rx : RW X.K ρ H x v) (ry : RW X.K ρ H y u) (e : iCmp f x y = some b) : ∃ i j, v = .int i ∧ u = .int j ∧ f i j = b := by
  unfold iCmp at e
  split at e
  · cases e; cases rx; cases ry; exact ⟨_, _, rfl, rfl, rfl⟩
  · cases e
theorem cmp_ok {op : CmpOp} (hu : X.A.units + 64 < cLine) (R : HR X.K ρ h H) (rx : RW X.K ρ H x v) (ry : RW X.K ρ H y u) (e : cmpW op x y h = some b) (q : Q (.bl b) H) : semO X (compareOp op) v u H Q := by
  unfold cmpW at e
  cases op with
  | Eq =>
    obtain ⟨d, d', h1, h2, s1, s2, e3⟩ := eq_data R rx ry e
    exact OpR.use (op_eqD hu) ⟨d, d', h1, h2, s1, s2, by rw [e3]; exact q⟩
  | NotEq =>
    obtain ⟨c, e0, e9⟩ := Option.map_eq_some_iff.mp e
    subst e9
    obtain ⟨d, d', h1, h2, s1, s2, e3⟩ := eq_data R rx ry e0
    exact OpR.use (op_neD hu) ⟨d, d', h1, h2, s1, s2, by rw [e3]; exact q⟩
  | Lt => obtain ⟨i, j, rfl, rfl, rfl⟩ := iCmp_of rx ry e; exact OpR.use op_lt ⟨_, _, rfl, rfl, q⟩
  | LtE => obtain ⟨i, j, rfl, rfl, rfl⟩ := iCmp_of rx ry e; exact OpR.use op_le ⟨_, _, rfl, rfl, q⟩
  | Gt => obtain ⟨i, j, rfl, rfl, rfl⟩ := iCmp_of rx ry e; exact OpR.use op_gt ⟨_, _, rfl, rfl, q⟩
  | GtE => obtain ⟨i, j, rfl, rfl, rfl⟩ := iCmp_of rx ry e; exact OpR.use op_ge ⟨_, _, rfl, rfl, q⟩
  | Is =>
    simp only at e
    split at e
    · cases e; cases ry
      exact OpR.use op_isN ⟨rfl, by rw [isNon_of rx]; exact q⟩
    · cases e
  | IsNot =>
    simp only at e
    split at e
    · cases e; cases ry
      exact OpR.use op_notN ⟨rfl, by rw [isNon_of rx]; exact q⟩
    · cases e
  | In =>
    simp only [inW] at e
    split at e
    · rename_i ws e1
      split at e
      · rename_i hf
        rw [Bool.and_eq_true] at hf
        cases e
        obtain ⟨a, vs, rfl, hs, rr⟩ := seq_sq R ry e1
        refine OpR.use op_in_seq ⟨a, vs, rfl, hs, flat_of rx hf.1, flats_of rr hf.2, ?_⟩
        rw [if_neg Bool.false_ne_true, in_of rx hf.1 rr hf.2]; exact q
      · cases e
    · cases e
  | NotIn =>
    obtain ⟨c, e0, e9⟩ := Option.map_eq_some_iff.mp e
    subst e9
    unfold inW at e0
    split at e0
    · rename_i ws e1
      split at e0
      · rename_i hf
        rw [Bool.and_eq_true] at hf
        cases e0
        obtain ⟨a, vs, rfl, hs, rr⟩ := seq_sq R ry e1
        refine OpR.use op_notIn_seq ⟨a, vs, rfl, hs, flat_of rx hf.1, flats_of rr hf.2, ?_⟩
        rw [if_pos rfl, in_of rx hf.1 rr hf.2]; exact q
      · cases e0
    · cases e0
theorem tru_of (R : HR X.K ρ h H) (r : RW X.K ρ H x v) (e : truW h x = some b) : TruV X.K v H b := by
  unfold truW at e
  split at e
  · cases e; cases r; rfl
  · cases e; cases r; rfl
  · cases e; cases r; rfl
  · cases e
  · cases e
    cases r with
    | tup h1 r1 => exact .inr (.inl ⟨_, h1, by rw [r1.empty]⟩)
  · obtain ⟨ws, e1, rfl⟩ := Option.map_eq_some_iff.mp e
    obtain ⟨a, vs, rfl, _, ha, rr⟩ := R.lst e1 r
    exact .inl ⟨vs, SqL.of ha, by rw [rr.empty]⟩
  · cases e
  · cases e
end
end Z
set_option maxHeartbeats 2000000
/-! Z2: built-ins, subscripts, slices, lists' methods, isinstance: what the abstract machine computes is right. -/
namespace Z
open PySem PySem.Spec PyProof.Rows L2
section
variable {X : Cx} {ρ : List Addr} {H : Hp} {h : Hh} {x y : W} {v u : V} {Q : VK}
theorem CallR.use {f : Value} {r : List V → Hp → VK → Prop} (c : CallR X f r) {xs : List V} (q : r xs H Q) : semC X f xs H Q := fun pins s σ us I rv => c pins s σ H xs us Q I rv q
theorem CallR.sem (f : Value) : CallR X f (semC X f) := fun pins s σ H xs us Q I rv q => q pins s σ us I rv
theorem ints_of : ∀ {ws : List W} {vs : List V} {ns : List Int}, RWs X.K ρ H ws vs → intsOf ws = some ns → vs = ns.map V.int
  | _, _, _, .nil, e => by cases e; rfl
  | _, _, _, .cons (w := w) r t, e => by
    unfold intsOf at e
    split at e
    · rename_i q; cases q
    · rename_i i r' q
      cases q
      obtain ⟨ns', e1, rfl⟩ := Option.map_eq_some_iff.mp e
      cases r
      rw [ints_of t e1] <;> rfl
    · cases e
theorem bls_of : ∀ {ws : List W} {vs : List V} {bs : List Bool}, RWs X.K ρ H ws vs → blsOf ws = some bs → vs = bs.map V.bl
  | _, _, _, .nil, e => by cases e; rfl
  | _, _, _, .cons (w := w) r t, e => by
    unfold blsOf at e
    split at e
    · rename_i q; cases q
    · rename_i i r' q
      cases q
      obtain ⟨ns', e1, rfl⟩ := Option.map_eq_some_iff.mp e
      cases r
      rw [bls_of t e1] <;> rfl
    · cases e
theorem maxI_spec : ∀ {ns : List Int} {m : Int}, m ∈ ns → (∀ y, y ∈ ns → y ≤ m) → m = maxI ns
  | [a], m, h1, _ => by
    have : m = a := by simpa using h1
    exact this
  | a :: b :: r, m, h1, h2 => by
    show m = max a (maxI (b :: r))
    have ha := h2 a (by simp)
    have hm : ∀ y, y ∈ (b :: r) → y ≤ m := fun y hy => h2 y (List.mem_cons_of_mem _ hy)
    have hle : ∀ (l : List Int) (k : Int), l ≠ [] → (∀ y, y ∈ l → y ≤ k) → maxI l ≤ k := by
      intro l
      induction l with
      | nil => intro k h; exact absurd rfl h
      | cons c l ih =>
        intro k _ hk
        cases l with
        | nil => exact hk c (by simp)
        | cons d l =>
          show max c (maxI (d :: l)) ≤ k
          have h1 := hk c (by simp)
          have h2 := ih k (by simp) fun y hy => hk y (List.mem_cons_of_mem _ hy)
          omega
    have h3 := hle (b :: r) m (by simp) hm
    rcases List.mem_cons.mp h1 with rfl | h1
    · omega
    · rw [← maxI_spec (ns := b :: r) h1 hm]; omega
theorem minI_spec : ∀ {ns : List Int} {m : Int}, m ∈ ns → (∀ y, y ∈ ns → m ≤ y) → m = minI ns
  | [a], m, h1, _ => by
    have : m = a := by simpa using h1
    exact this
  | a :: b :: r, m, h1, h2 => by
    show m = min a (minI (b :: r))
    have ha := h2 a (by simp)
    have hm : ∀ y, y ∈ (b :: r) → m ≤ y := fun y hy => h2 y (List.mem_cons_of_mem _ hy)
    have hle : ∀ (l : List Int) (k : Int), l ≠ [] → (∀ y, y ∈ l → k ≤ y) → k ≤ minI l := by
      intro l
      induction l with
      | nil => intro k h; exact absurd rfl h
      | cons c l ih =>
        intro k _ hk
        cases l with
        | nil => exact hk c (by simp)
        | cons d l =>
          show k ≤ min c (minI (d :: l))
          have h1 := hk c (by simp)
          have h2 := ih k (by simp) fun y hy => hk y (List.mem_cons_of_mem _ hy)
          omega
    have h3 := hle (b :: r) m (by simp) hm
    rcases List.mem_cons.mp h1 with rfl | h1
    · omega
    · rw [← minI_spec (ns := b :: r) h1 hm]; omega
def biV : Bi → Value
  | .len => .builtin "len"
  | .abs => .builtin "abs"
  | .int => .type "int"
  | .min2 => .builtin "min"
  | .max2 => .builtin "max"
  | .list => .type "list"
  | .tuple => .type "tuple"
  | .maxL => .builtin "max"
  | .minL => .builtin "min"
  | .all => .builtin "all"
theorem bi1_ok {b : Bi} (hc : X.calm = true) (R : HR X.K ρ h H) (rx : RW X.K ρ H x v) (p : PostW X.K ρ H (bi1 b x h) Q) : semC X (biV b) [v] H Q := by
  cases b with
  | len =>
    unfold bi1 at p
    simp only at p
    split at p
    · rename_i ws e
      obtain ⟨a, vs, rfl, hs, rr⟩ := seq_sq R rx e
      exact CallR.use call_len_seq ⟨a, vs, rfl, hs, by rw [← rr.length]; exact p.here R (.int _)⟩
    · exact p.elim
  | abs =>
    unfold bi1 at p
    simp only at p
    split at p
    · cases rx
      exact CallR.use call_abs ⟨_, rfl, p.here R (.int _)⟩
    · exact p.elim
  | int =>
    unfold bi1 at p
    simp only at p
    split at p
    · cases rx
      exact CallR.use call_int1 (.inl ⟨_, rfl, p.here R (.int _)⟩)
    · cases rx
      exact CallR.use call_int1 (.inr ⟨_, rfl, p.here R (.int _)⟩)
    · exact p.elim
  | list =>
    unfold bi1 at p
    simp only at p
    split at p
    · rename_i ws e
      obtain ⟨a, vs, rfl, hs, rr⟩ := seq_sq R rx e
      exact CallR.use call_list_of ⟨a, vs, rfl, hs, alloc_ok R rr p⟩
    · exact p.elim
  | tuple =>
    unfold bi1 at p
    simp only at p
    split at p
    · rename_i ws e
      cases rx with
      | tup hs rr =>
        cases e
        exact CallR.use call_tuple_of ⟨_, _, rfl, .inr ⟨hs, p.here R (.tup hs rr)⟩⟩
      | scr hs rr =>
        cases e
        exact CallR.use call_tuple_of ⟨_, _, rfl, .inl ⟨hs.sq, fun l hl => p.at (Ext.imm (Kept.new hl)) (R.new hl) (.tup (SqT.of upd_same) (rr.mono (Ext.imm (Kept.new hl))))⟩⟩
      | ref hi =>
        obtain ⟨a, vs, e2, _, ha, rr⟩ := R.lst e (.ref hi)
        cases e2
        exact CallR.use call_tuple_of ⟨_, _, rfl, .inl ⟨SqL.of ha, fun l hl => p.at (Ext.imm (Kept.new hl)) (R.new hl) (.tup (SqT.of upd_same) (rr.mono (Ext.imm (Kept.new hl))))⟩⟩
      | _ => cases e
    · exact p.elim
  | maxL =>
    unfold bi1 at p
    simp only at p
    split at p
    · split at p
      · rename_i ns e
        obtain ⟨ws, e1, e2⟩ := Option.bind_eq_some_iff.mp e
        obtain ⟨a, vs, rfl, _, ha, rr⟩ := R.lst e1 rx
        have ev := ints_of rr e2
        subst ev
        split at p
        · exact p.elim
        · rename_i hne
          refine CallR.use (cr_max hc) ⟨a, ns, rfl, SqL.of ha, ?_, fun m h1 h2 => ?_⟩
          · cases ns with
            | nil => exact absurd rfl hne
            | cons _ _ => simp
          · rw [maxI_spec h1 h2]; exact p.here R (.int _)
      · exact p.elim
    · exact p.elim
  | minL =>
    unfold bi1 at p
    simp only at p
    split at p
    · split at p
      · rename_i ns e
        obtain ⟨ws, e1, e2⟩ := Option.bind_eq_some_iff.mp e
        obtain ⟨a, vs, rfl, _, ha, rr⟩ := R.lst e1 rx
        have ev := ints_of rr e2
        subst ev
        split at p
        · exact p.elim
        · rename_i hne
          refine CallR.use (cr_min hc) ⟨a, ns, rfl, SqL.of ha, ?_, fun m h1 h2 => ?_⟩
          · cases ns with
            | nil => exact absurd rfl hne
            | cons _ _ => simp
          · rw [minI_spec h1 h2]; exact p.here R (.int _)
      · exact p.elim
    · exact p.elim
  | all =>
    unfold bi1 at p
    simp only at p
    split at p
    · split at p
      · rename_i ns e
        obtain ⟨ws, e1, e2⟩ := Option.bind_eq_some_iff.mp e
        obtain ⟨a, vs, rfl, _, ha, rr⟩ := R.lst e1 rx
        have ev := bls_of rr e2
        subst ev
        exact CallR.use (cr_all hc) ⟨a, ns, rfl, SqL.of ha, p.here R (.bl _)⟩
      · exact p.elim
    · exact p.elim
  | min2 => unfold bi1 at p; exact p.elim
  | max2 => unfold bi1 at p; exact p.elim
theorem bi2_ok {b : Bi} (hc : X.calm = true) (R : HR X.K ρ h H) (rx : RW X.K ρ H x v) (ry : RW X.K ρ H y u) (p : PostW X.K ρ H (bi2 b x y h) Q) : semC X (biV b) [v, u] H Q := by
  unfold bi2 at p
  split at p
  · cases rx; cases ry
    exact CallR.use (call_min2 hc) ⟨_, _, rfl, p.here R (.int _)⟩
  · cases rx; cases ry
    exact CallR.use (call_max2 hc) ⟨_, _, rfl, p.here R (.int _)⟩
  · exact p.elim
/-! ### subscripts -/
def semI (X : Cx) : R2 := fun x y H Q => ∀ (value slice : Expr) pins s (σ : L2.St) v u, Inv X pins σ H s → RelV x v → RelV y u → subscripted slice false v u = operate [v, u] (getItem v u) → wpAny (model X.prog X.w) X.A (subscriptTail value slice v u) (EP X pins σ Q) X.xe s
theorem IxR.sem : IxR X (semI X) := fun a b pins s σ H x y v u Q I rx ry h e => h a b pins s σ v u I rx ry e
theorem IxR.use {r : R2} (o : IxR X r) {x y : V} (q : r x y H Q) : semI X x y H Q := fun a b pins s σ v u I rx ry e => o a b pins s σ H x y v u Q I rx ry q e
theorem atI_rws {ws : List W} {vs : List V} {i : Int} {w : W} (r : RWs X.K ρ H ws vs) (e : atI ws i = some w) : ∃ z, atI vs i = some z ∧ RW X.K ρ H w z := by
  unfold atI at e ⊢
  rw [← r.length]
  obtain ⟨j, e1, e2⟩ := Option.bind_eq_some_iff.mp e
  obtain ⟨z, h1, h2⟩ := r.get e2
  exact ⟨z, Option.bind_eq_some_iff.mpr ⟨j, e1, h1⟩, h2⟩
theorem ix_ok (R : HR X.K ρ h H) (rx : RW X.K ρ H x v) (ry : RW X.K ρ H y u) (p : PostW X.K ρ H (ixW x y h) Q) : semI X v u H Q := by
  unfold ixW at p
  split at p
  · split at p
    · rename_i ws e
      cases ry
      obtain ⟨a, vs, rfl, hs, rr⟩ := seq_sq R rx e
      unfold optR at p
      split at p
      · rename_i i w e2
        obtain ⟨z, e3, rz⟩ := atI_rws rr e2
        have q := p.here R rz
        rcases hs with hs | hs
        · exact IxR.use ix_list ⟨_, _, _, _, rfl, rfl, hs, e3, q⟩
        · exact IxR.use ix_tup ⟨_, _, _, _, rfl, rfl, hs, e3, q⟩
      · exact p.elim
    · exact p.elim
  · exact p.elim
theorem cut_rws {ws : List W} {vs : List V} {lo hi : Option Int} (r : RWs X.K ρ H ws vs) : RWs X.K ρ H (cut ws lo hi) (cutV vs lo hi) := by
  unfold cut cutV
  rw [← r.length]
  exact (r.drop _).take _
def semSl (X : Cx) : V → Option Int → Option Int → Hp → VK → Prop := fun x lo hi H Q => ∀ pins s (σ : L2.St) (v vl vu : Value) (sl : Addr), Inv X pins σ H s → RelV x v → s.heap.IsSliceOf sl vl vu .none → IsPart vl lo → IsPart vu hi →
    ∃ T id, typeLookup (.type T) "__getitem__" = pure (some (.builtin id)) ∧ s.TypeIs v T ∧ wpAny (model X.prog X.w) X.A (getItem v (.ref sl)) (EP X pins σ Q) X.xe s
theorem SlR.sem : SlR X (semSl X) := fun pins s σ H x v vl vu lo hi sl Q I rx hs pl pu h => h pins s σ v vl vu sl I rx hs pl pu
theorem SlR.use {r : V → Option Int → Option Int → Hp → VK → Prop} (o : SlR X r) {x : V} {lo hi : Option Int} (q : r x lo hi H Q) : semSl X x lo hi H Q := fun pins s σ v vl vu sl I rx hs pl pu => o pins s σ H x v vl vu lo hi sl Q I rx hs pl pu q
theorem sl_ok {lo hi : Option Int} (R : HR X.K ρ h H) (rx : RW X.K ρ H x v) (p : PostW X.K ρ H (slW x lo hi h) Q) : semSl X v lo hi H Q := by
  unfold slW at p
  split at p
  · cases rx with
    | tup hs rr =>
      refine SlR.use sl_tupA ⟨_, _, rfl, hs, fun e => ?_, fun _ a ha => ?_⟩
      · refine p.here R (.tup hs ?_)
        have z := cut_rws (lo := lo) (hi := hi) rr
        unfold cutV at z
        rw [e.1, e.2, List.drop_zero, Nat.sub_zero, List.take_length] at z
        exact z
      · exact p.at (Ext.imm (Kept.new ha)) (R.new ha) (.tup (SqT.of upd_same) ((cut_rws rr).mono (Ext.imm (Kept.new ha))))
  · split at p
    · rename_i ws e
      obtain ⟨a, vs, rfl, _, ha, rr⟩ := R.lst e rx
      exact SlR.use sl_list ⟨_, _, rfl, SqL.of ha, alloc_ok R (cut_rws rr) p⟩
    · exact p.elim
  · exact p.elim
def semSet (X : Cx) : TSet := fun o i x H Q => ∀ pins s (σ : L2.St) (ov iv u : Value), Inv X pins σ H s → RelV o ov → RelV i iv → RelV x u → wpAny (model X.prog X.w) X.A (setItem ov iv u) (fun _ s' => ∃ H', Inv X pins σ H' s' ∧ Q H') X.xe s
theorem PSet.sem : PSet X (semSet X) := fun pins s σ H o i x ov iv u Q I ro ri rx h => h pins s σ ov iv u I ro ri rx
theorem setI_ok {o i w : W} {ov iv wv : V} {Q : Hp → Prop} (R : HR X.K ρ h H) (ro : RW X.K ρ H o ov) (ri : RW X.K ρ H i iv) (rw' : RW X.K ρ H w wv) (p : PostE X.K ρ H (setIW o i w h) (fun _ H' => Q H')) : semSet X ov iv wv H Q := by
  unfold setIW at p
  split at p
  · split at p
    · rename_i ws e
      split at p
      · rename_i j e2
        cases ri
        obtain ⟨a, vs, rfl, hρ, ha, rr⟩ := R.lst e ro
        obtain ⟨R', ex⟩ := R.put hρ ha (rr.set j rw')
        have q := p.at ex R' rfl
        exact fun pins s σ ov' iv' u I r1 r2 r3 => set_list pins s σ H _ _ _ ov' iv' u Q I r1 r2 r3 ⟨_, _, _, j, rfl, rfl, ha, by rw [← rr.length]; exact e2, q⟩
      · exact p.elim
    · exact p.elim
  · exact p.elim
/-! ### lists' methods -/
def mtN : Mt → Str × String
  | .append => ("append", "list.append")
  | .pop => ("pop", "list.pop")
  | .reverse => ("reverse", "list.reverse")
  | .extend => ("extend", "list.extend")
def semM (X : Cx) (id : String) : V → List V → Hp → VK → Prop := fun x xs H Q => ∀ pins s (σ : L2.St) (v : Value) (us : List Value), Inv X pins σ H s → RelV x v → Vals xs us → wpAny (model X.prog X.w) X.A (call (.builtin id) (v :: us)) (EP X pins σ Q) X.xe s
theorem MtR.sem (id : String) : MtR X id (semM X id) := fun pins s σ H x xs v us Q I rx rv h => h pins s σ v us I rx rv
theorem MtR.use {id : String} {r : V → List V → Hp → VK → Prop} (m : MtM X id r) {x : V} {xs : List V} (q : r x xs H Q) : semM X id x xs H Q := fun pins s σ v us I rx rv => m pins s σ H x xs v us Q I rx rv q
theorem mt0_ok {m : Mt} (R : HR X.K ρ h H) (rx : RW X.K ρ H x v) (p : PostW X.K ρ H (mt0 m x h) Q) : semM X (mtN m).2 v [] H Q := by
  unfold mt0 at p
  split at p
  · split at p
    · rename_i ws e
      split at p
      · rename_i y e2
        obtain ⟨a, vs, rfl, hρ, ha, rr⟩ := R.lst e rx
        obtain ⟨z, e3, rz⟩ := rr.get e2
        obtain ⟨R', ex⟩ := R.put hρ ha rr.dropLast
        exact MtR.use mt_pop ⟨a, vs, z, rfl, rfl, ha, by rw [← rr.length]; exact e3, p.at ex R' (rz.mono ex)⟩
      · exact p.elim
    · exact p.elim
  · split at p
    · rename_i ws e
      obtain ⟨a, vs, rfl, hρ, ha, rr⟩ := R.lst e rx
      obtain ⟨R', ex⟩ := R.put hρ ha rr.reverse
      exact MtR.use mt_reverse ⟨a, vs, rfl, rfl, ha, p.at ex R' .non⟩
    · exact p.elim
  · exact p.elim
theorem mt1_ok {m : Mt} (R : HR X.K ρ h H) (rx : RW X.K ρ H x v) (ry : RW X.K ρ H y u) (p : PostW X.K ρ H (mt1 m x y h) Q) : semM X (mtN m).2 v [u] H Q := by
  unfold mt1 at p
  split at p
  · split at p
    · rename_i ws e
      split at p
      · rename_i hl
        obtain ⟨a, vs, rfl, hρ, ha, rr⟩ := R.lst e rx
        obtain ⟨R', ex⟩ := R.put hρ ha (rr.append (.cons ry .nil))
        exact MtR.use mt_append ⟨a, vs, u, rfl, rfl, ha, lim_lt (by rw [← rr.length]; exact hl), p.at ex R' .non⟩
      · exact p.elim
    · exact p.elim
  · split at p
    · split at p
      · rename_i xs ys e1 e2
        split at p
        · rename_i hl
          obtain ⟨a, vs, rfl, hρ, ha, rr⟩ := R.lst e1 rx
          obtain ⟨b, us, rfl, _, hb, rs⟩ := R.lst e2 ry
          obtain ⟨R', ex⟩ := R.put hρ ha (rr.append rs)
          exact MtR.use mt_extend ⟨a, b, vs, us, rfl, rfl, ha, hb, lim_le (by rw [← rr.length, ← rs.length]; exact hl), p.at ex R' .non⟩
        · exact p.elim
      · exact p.elim
    · exact p.elim
  · exact p.elim
/-! ### isinstance -/
def tyN : Ty → String
  | .int => "int"
  | .bool => "bool"
  | .str => "str"
  | .tuple => "tuple"
  | .list => "list"
theorem tyx_tup {K : PySem.W.Frag} {a : Addr} {vs : List V} (h : SqT K H a vs) : TyX K H (.ref a) (.type "tuple") := by
  rcases h with (h | ⟨o, h⟩) | ⟨o, its, n, h1, h2, _⟩
  · exact .base (.tup h)
  · exact .fTuple h
  · exact .kTuple h1 h2
theorem isi_ok {t : Ty} {b : Bool} (R : HR X.K ρ h H) (rx : RW X.K ρ H x v) (e : isiW h t x = some b) (q : Q (.bl b) H) : semC X (.builtin "isinstance") [v, .ty (tyN t)] H Q := by
  have go : ∀ {s : String}, TyX X.K H v (.type s) → kitB s (tyN t) = some b → semC X (.builtin "isinstance") [v, .ty (tyN t)] H Q := fun {s} hx hk =>
    CallR.use call_isi ⟨v, .ty (tyN t), .type s, .type (tyN t), b, rfl, .ty _, hx, kit_ty hk, q⟩
  unfold isiW at e
  split at e
  · cases rx; cases e
    exact go (.base .non) (by cases t <;> decide +kernel)
  · cases rx; cases e
    exact go (.base (.bl _)) (by cases t <;> decide +kernel)
  · cases rx; cases e
    exact go (.base (.int _)) (by cases t <;> decide +kernel)
  · cases rx; cases e
    exact go (.base (.str _)) (by cases t <;> decide +kernel)
  · cases e
    cases rx with
    | tup hs _ => exact go (tyx_tup hs) (by cases t <;> decide +kernel)
  · obtain ⟨ws, e1, e2⟩ := Option.map_eq_some_iff.mp e
    subst e2
    obtain ⟨a, vs, rfl, _, ha, _⟩ := R.lst e1 rx
    exact go (.base (.lst ha)) (by cases t <;> decide +kernel)
  · cases e
  · cases e
end
end Z
set_option maxHeartbeats 4000000
/-! Z3: from the text to the code (cmp), expressions: what the code computes is what the text does. -/
namespace Z
open PySem PySem.Spec PyProof.Rows L2

/-! ### from the text to the code -/
structure Cc where
  N : List Str
  sc : Scope
  fx : List (Str × Nat × Nat × List Str)
  cs : List (Str × W)
def dbg (x : Str) : Bool := x == ("__debug__" : Str) || x == ("__classdict__" : Str) || x == ("__name__" : Str)
def varIx (N : List Str) (sc : Scope) (x : Str) : Option Nat := match sc.names.lookup x with
  | some .local => if dbg x then none else N.findIdx? (· == x)
  | some .cell => if dbg x then none else N.findIdx? (· == x)
  | some .free => if dbg x then none else N.findIdx? (· == x)
  | _ => none
def locIx (N : List Str) (sc : Scope) (x : Str) : Option Nat := match sc.names.lookup x with
  | some .local => if dbg x then none else N.findIdx? (· == x)
  | some .cell => if dbg x then none else N.findIdx? (· == x)
  | _ => none
def isGl (sc : Scope) (x : Str) : Bool := (sc.names.lookup x == some .globalImplicit) && !dbg x
def biN : Bi → Str
  | .len => "len"
  | .abs => "abs"
  | .int => "int"
  | .min2 => "min"
  | .max2 => "max"
  | .list => "list"
  | .tuple => "tuple"
  | .maxL => "max"
  | .minL => "min"
  | .all => "all"
def biK : Bi → Nat
  | .min2 => 2
  | .max2 => 2
  | _ => 1
def allBi : List Bi := [.len, .abs, .int, .min2, .max2, .list, .tuple, .maxL, .minL, .all]
def biFind (x : Str) (k : Nat) : Option Bi := allBi.find? fun b => biN b == x && biK b == k
def tyS : Ty → Str
  | .int => "int"
  | .bool => "bool"
  | .str => "str"
  | .tuple => "tuple"
  | .list => "list"
def tyFind (x : Str) : Option Ty := [Ty.int, .bool, .str, .tuple, .list].find? fun t => tyS t == x
def frees : List Str := ["len", "abs", "int", "min", "max", "list", "tuple", "all", "isinstance", "bool", "str", "range"]
def mtFind (x : Str) (k : Nat) : Option Mt := [Mt.append, .pop, .reverse, .extend].find? fun m => (mtN m).1 == x && (match m with
  | .append => k == 1
  | .extend => k == 1
  | _ => k == 0)
/-- no call of a name without arguments stands there (super()) -/
def plainBase : Expr → Bool
  | .Call (.Name _ _) [] [] _ => false
  | _ => true
def notSlice : Expr → Bool
  | .Slice .. => false
  | _ => true
def nameOf : Expr → Option Str
  | .Name x _ => some x
  | _ => none
def ownOf (N : List Str) (sc : Scope) (x : Str) : Option (Str × Nat) := (locIx N sc x).map fun i => (x, i)
def cmpT (N : List Str) (sc : Scope) : Expr → Option (Tg × List (Str × Nat))
  | .Name x _ => (locIx N sc x).map fun i => (.nm i, [(x, i)])
  | .Tuple es _ _ => do
    let xs ← es.mapM nameOf
    let own ← xs.mapM (ownOf N sc)
    pure (.tp (own.map (·.2)), own)
  | _ => none
mutual
def cmpE : Nat → Cc → Expr → Option Ex
  | 0, _, _ => none
  | n + 1, c, e => match e with
    | .Name x _ => (match varIx c.N c.sc x with
      | some i => some (.var i)
      | none => if isGl c.sc x then (c.cs.lookup x).map .con else none)
    | .Constant (.int i) _ _ => some (.con (.int i))
    | .Constant (.bool b) _ _ => some (.con (.bl b))
    | .Constant (.str z) _ _ => some (.con (.str z))
    | .Constant .none _ _ => some (.con .non)
    | .BinOp a op b _ => do
      let x ← cmpE n c a
      let y ← cmpE n c b
      pure (.bin op x y)
    | .UnaryOp .USub a _ => (cmpE n c a).map .neg
    | .UnaryOp .Not a _ => (cmpE n c a).map .not
    | .BoolOp op [a] pos => cmpE n c a
    | .BoolOp .And (a :: b :: r) pos => do
      let x ← cmpE n c a
      let y ← cmpE n c (.BoolOp .And (b :: r) pos)
      pure (.and x y)
    | .BoolOp .Or (a :: b :: r) pos => do
      let x ← cmpE n c a
      let y ← cmpE n c (.BoolOp .Or (b :: r) pos)
      pure (.or x y)
    | .IfExp t a b _ => do
      let z ← cmpE n c t
      let x ← cmpE n c a
      let y ← cmpE n c b
      pure (.ife z x y)
    | .Compare a [op] [b] _ => if behindInMarks op b then none else do
      let x ← cmpE n c a
      let y ← cmpE n c b
      pure (.cmp op x y)
    | .Compare a [op, op'] [b, d] _ => if lastMarks [op, op'] [b, d] then none else do
      let x ← cmpE n c a
      let y ← cmpE n c b
      let z ← cmpE n c d
      pure (.chn op op' x y z)
    | .Tuple es _ _ => (es.mapM (cmpE n c)).map .tup
    | .List es _ => (es.mapM (cmpE n c)).map .lst
    | .Subscript a (.Slice lo hi none _) _ => do
      let x ← cmpE n c a
      let l ← cmpO n c lo
      let u ← cmpO n c hi
      pure (.sl x l u)
    | .Subscript a i _ => do
      let x ← cmpE n c a
      let y ← cmpE n c i
      pure (.ix x y)
    | .Call (.Name f _) args kws _ => if isGl c.sc f then (match c.fx.lookup f with
      | some (i, np, ks) => if args.length == np && decide (0 < np) && kws.map (·.arg) == ks.map some then do
          let es ← args.mapM (cmpE n c)
          let zs ← kws.mapM fun k => cmpE n c k.value
          pure (.call i es zs)
        else none
      | none => (match kws, args with
        | [], [e, .Name T _] => if f == ("isinstance" : Str) && isGl c.sc T && (c.fx.lookup T).isNone then (match tyFind T with
            | some t => (cmpE n c e).map (.isi t)
            | none => none)
          else (match biFind f 2 with
            | some b => (args.mapM (cmpE n c)).map (.bi b)
            | none => none)
        | [], es => (match biFind f es.length with
          | some b => (es.mapM (cmpE n c)).map (.bi b)
          | none => none)
        | _, _ => none)) else none
    | .Call (.Attribute o m apos) args [] cpos => (match mtFind m args.length with
      | some k => if plainBase o && apos.endLine == cpos.line then do
          let x ← cmpE n c o
          let es ← args.mapM (cmpE n c)
          pure (.mt k x es)
        else none
      | none => none)
    | .ListComp elt [⟨tg, iter, ifs, 0⟩] scope _ => (match cmpT c.N scope tg with
      | some (t, own) => if blkC c.N c.sc scope own then do
          let s ← cmpR n c iter
          let p ← cmpP n { c with sc := relS scope c.sc } ifs
          let x ← cmpE n { c with sc := relS scope c.sc } elt
          pure (.lc t s p x)
        else none
      | none => none)
    | _ => none
def cmpO : Nat → Cc → Option Expr → Option (Option Ex)
  | 0, _, _ => none
  | _ + 1, _, none => some none
  | n + 1, c, some e => (cmpE n c e).map some
def cmpP : Nat → Cc → List Expr → Option (Option Ex)
  | 0, _, _ => none
  | _ + 1, _, [] => some none
  | n + 1, c, [e] => (cmpE n c e).map some
  | _ + 1, _, _ => none
def cmpR : Nat → Cc → Expr → Option Sr
  | 0, _, _ => none
  | n + 1, c, e => match e with
    | .Call (.Name f _) [a] [] _ => if f == ("range" : Str) && isGl c.sc f && (c.fx.lookup f).isNone then (cmpE n c a).map .rng1 else (cmpE n c e).map .seq
    | .Call (.Name f _) [a, b] [] _ => if f == ("range" : Str) && isGl c.sc f && (c.fx.lookup f).isNone then do
        let x ← cmpE n c a
        let y ← cmpE n c b
        pure (.rng2 x y)
      else (cmpE n c e).map .seq
    | .Set _ _ _ => none
    | e => (cmpE n c e).map .seq
end
/-! ### statements -/
def isComp : Expr → Bool
  | .ListComp .. => true
  | .SetComp .. => true
  | .DictComp .. => true
  | _ => false
def isTupE : Expr → Bool
  | .Tuple .. => true
  | .List .. => true
  | _ => false
/-- name = [..]: the store's form (same line, a local, not the block's own) -/
def setForm (sc : Scope) (y : Str) (py : Pos) (l : Nat) : Expr → Bool
  | .ListComp _ _ scope pos => (sc.names.lookup y == some .local) && (py.line == pos.line) && !(scope.names.any fun (n, k) => n == y && (k == .local || k == .cell))
  | .SetComp .. => false
  | .DictComp .. => false
  | _ => true
def cmpS : Nat → Cc → Stmt → Option St
  | 0, _, _ => none
  | n + 1, c, st => match st with
    | .Assign [.Name x py] e pos => if setForm c.sc x py pos.line e then do
        let i ← locIx c.N c.sc x
        let y ← cmpE n c e
        pure (.set i y)
      else none
    | .Assign [.Subscript a i _] e _ => if notSlice i then do
        let x ← cmpE n c a
        let k ← cmpE n c i
        let y ← cmpE n c e
        pure (.setI x k y)
      else none
    | .Assign [.Tuple ts _ _] e _ => if isTupE e then none else do
        let xs ← ts.mapM nameOf
        let own ← xs.mapM (ownOf c.N c.sc)
        let y ← cmpE n c e
        pure (.setU (own.map (·.2)) y)
    | .AugAssign (.Name x _) op e _ => do
        let i ← locIx c.N c.sc x
        let y ← cmpE n c e
        pure (.aug i op y)
    | .Expr e _ => if isComp e then none else (cmpE n c e).map .exp
    | .If t a b _ => do
        let z ← cmpE n c t
        let x ← a.mapM (cmpS n c)
        let y ← b.mapM (cmpS n c)
        pure (.ifs z x y)
    | .For tg iter body [] _ => do
        let (t, _) ← cmpT c.N c.sc tg
        let s ← cmpR n c iter
        let b ← body.mapM (cmpS n c)
        pure (.for t s b)
    | .While t body [] _ => do
        let z ← cmpE n c t
        let b ← body.mapM (cmpS n c)
        pure (.whl z b)
    | .Return (some e) _ => (cmpE n c e).map .ret
    | .Return none _ => some .retN
    | .Pass _ => some .pass
    | .Break _ => some .brk
    | .Continue _ => some .cnt
    | .Raise _ _ _ => some .bad
    | _ => none
def cmpB (n : Nat) (c : Cc) (b : List Stmt) : Option (List St) := b.mapM (cmpS n c)
end Z
set_option maxHeartbeats 4000000
/-! Z4: expressions: what the code computes is what the text does. -/
namespace Z
open PySem PySem.Spec PyProof.Rows L2

/-! ### slots -/
structure SR (K : PySem.W.Frag) (ρ : List Addr) (H : Hp) (σ : Sl) (σv : L2.St) : Prop where
  len : σ.length = σv.length
  at_ : ∀ (i : Nat) (w : W), σ[i]? = some (some w) → ∃ v, σv[i]? = some (some v) ∧ RW K ρ H w v
section
variable {K : PySem.W.Frag} {ρ ρ' : List Addr} {H H' : Hp} {σ : Sl} {σv : L2.St}
theorem SR.mono (S : SR K ρ H σ σv) (e : Ext ρ H ρ' H') : SR K ρ' H' σ σv := ⟨S.len, fun i w q => by
  obtain ⟨v, h1, h2⟩ := S.at_ i w q
  exact ⟨v, h1, h2.mono e⟩⟩
theorem SR.set (S : SR K ρ H σ σv) (i : Nat) {w : W} {v : V} (r : RW K ρ H w v) : SR K ρ H (σ.set i (some w)) (σv.set i (some v)) := ⟨by rw [List.length_set, List.length_set]; exact S.len, fun j u q => by
  by_cases hj : i = j
  · subst hj
    have hi : i < σ.length := by
      have := (List.getElem?_eq_some_iff.mp q).1
      rw [List.length_set] at this; exact this
    rw [List.getElem?_set_self hi] at q
    cases q
    exact ⟨v, List.getElem?_set_self (by rw [← S.len]; exact hi), r⟩
  · rw [List.getElem?_set_ne hj] at q
    obtain ⟨z, h1, h2⟩ := S.at_ j u q
    exact ⟨z, by rw [List.getElem?_set_ne hj]; exact h1, h2⟩⟩
theorem SR.unset (S : SR K ρ H σ σv) (i : Nat) : SR K ρ H (σ.set i none) (σv.set i none) := ⟨by rw [List.length_set, List.length_set]; exact S.len, fun j u q => by
  by_cases hj : i = j
  · subst hj
    have hi : i < σ.length := by
      have := (List.getElem?_eq_some_iff.mp q).1
      rw [List.length_set] at this; exact this
    rw [List.getElem?_set_self hi] at q
    cases q
  · rw [List.getElem?_set_ne hj] at q
    obtain ⟨z, h1, h2⟩ := S.at_ j u q
    exact ⟨z, by rw [List.getElem?_set_ne hj]; exact h1, h2⟩⟩
theorem SR.wipe (S : SR K ρ H σ σv) : ∀ is : List Nat, SR K ρ H (wipeW σ is) (L2.wipe σv is)
  | [] => S
  | i :: is => (SR.wipe S is).unset i
end
/-! ### the context -/
def lift (K : PySem.W.Frag) (f : List W → Hh → Res W) (n : Nat) : Sp := fun vs H Q _ => vs.length = n ∧ ∃ ρ h ws, HR K ρ h H ∧ RWs K ρ H ws vs ∧ PostW K ρ H (f ws h) Q
structure FnHere (X : Cx) (f : List W → Hh → Res W) (x : Str) (np : Nat) (ks : List Str) (d : Nat) (a : Addr) (fd : FuncData) (ps : List Str) : Prop where
  ok : FnOk X.prog X.w X.K X.mg X.base CX0 d a fd ps (lift X.K f (np + ks.length))
  room : Room d X.A
  mg : X.mg x = some (.ref a)
  kp : PySem.W.keepIn X.K (.ref a) = true
  bn : KBn X.K fd ps np ks (fun us ws => us ++ ws) (fun vs zs => vs ++ zs)
  b0 : ks = [] → Binds X.K fd ps []
structure Ctx (X : Cx) (c : Cc) (F : CallEnv) : Prop where
  N : X.N = c.N
  nd : c.N.Nodup
  sc : X.env.scope = c.sc
  kind : c.sc.kind = .function
  calm : X.calm = true
  xe : X.xe = fun _ _ => False
  hu : X.A.units + 64 < cLine
  free : ∀ x ∈ frees, X.mg x = none
  cs : ∀ x w, c.cs.lookup x = some w → ∃ v u, X.mg x = some u ∧ RelV v u ∧ ∀ ρ H, RW X.K ρ H w v
  fn : ∀ x i np ks, c.fx.lookup x = some (i, np, ks) → ∃ d a fd ps, FnHere X (F i) x np ks d a fd ps
def AE (X : Cx) (e : Expr) (f : Sl → Hh → Res W) : Prop := ∀ σ h ρ σv H Q, SR X.K ρ H σ σv → HR X.K ρ h H → PostW X.K ρ H (f σ h) Q → sem X e σv H Q
def AT (X : Cx) (e : Expr) (f : Sl → Hh → Res Bool) : Prop := ∀ σ h ρ σv H Q, SR X.K ρ H σ σv → HR X.K ρ h H → PostE X.K ρ H (f σ h) Q → semT X e σv H Q
def AA (X : Cx) (es : List Expr) (f : Sl → Hh → Res (List W)) : Prop := ∀ σ h ρ σv H Q, SR X.K ρ H σ σv → HR X.K ρ h H → PostWs X.K ρ H (f σ h) Q → semA X es σv H Q
def AKw (X : Cx) (es : List Keyword) (f : Sl → Hh → Res (List W)) : Prop := ∀ σ h ρ σv H Q, SR X.K ρ H σ σv → HR X.K ρ h H → PostWs X.K ρ H (f σ h) Q → semK X es σv H Q
section
variable {X : Cx} {c : Cc} {F : CallEnv} {a b d e : Expr} {es : List Expr} {pos : Pos} {f g k : Sl → Hh → Res W} {fs gs : Sl → Hh → Res (List W)} {t : Sl → Hh → Res Bool}
theorem AE.go {α β : Type} {rel2 : List Addr → Hp → α → β → Prop} {k : W → Hh → Res α} {Q2 : β → Hp → Prop} {Q' : VK} {σ : Sl} {h : Hh} {ρ : List Addr} {σv : L2.St} {H : Hp} (ha : AE X a f) (S : SR X.K ρ H σ σv) (R : HR X.K ρ h H) (p : Post X.K rel2 ρ H ((f σ h).bind k) Q2)
    (q : ∀ w h1 ρ1 v H1, Ext ρ H ρ1 H1 → HR X.K ρ1 h1 H1 → RW X.K ρ1 H1 w v → Post X.K rel2 ρ1 H1 (k w h1) Q2 → Q' v H1) : sem X a σv H Q' :=
  ha σ h ρ σv H Q' S R (p.bind.mono (Ext.refl _ _) fun v H1 ⟨w, h1, ρ1, _, e1, R1, r1, p1⟩ => q w h1 ρ1 v H1 e1 R1 r1 p1)
theorem AT.go {α β : Type} {rel2 : List Addr → Hp → α → β → Prop} {k : Bool → Hh → Res α} {Q2 : β → Hp → Prop} {Q' : Bool → Hp → Prop} {σ : Sl} {h : Hh} {ρ : List Addr} {σv : L2.St} {H : Hp} (ha : AT X a t) (S : SR X.K ρ H σ σv) (R : HR X.K ρ h H) (p : Post X.K rel2 ρ H ((t σ h).bind k) Q2)
    (q : ∀ w h1 ρ1 H1, Ext ρ H ρ1 H1 → HR X.K ρ1 h1 H1 → Post X.K rel2 ρ1 H1 (k w h1) Q2 → Q' w H1) : semT X a σv H Q' :=
  ha σ h ρ σv H Q' S R (p.bind.mono (Ext.refl _ _) fun v H1 ⟨w, h1, ρ1, _, e1, R1, r1, p1⟩ => by
    cases r1
    exact q _ h1 ρ1 H1 e1 R1 p1)
theorem AA.go {α β : Type} {rel2 : List Addr → Hp → α → β → Prop} {k : List W → Hh → Res α} {Q2 : β → Hp → Prop} {Q' : List V → Hp → Prop} {σ : Sl} {h : Hh} {ρ : List Addr} {σv : L2.St} {H : Hp} (ha : AA X es fs) (S : SR X.K ρ H σ σv) (R : HR X.K ρ h H) (p : Post X.K rel2 ρ H ((fs σ h).bind k) Q2)
    (q : ∀ w h1 ρ1 v H1, Ext ρ H ρ1 H1 → HR X.K ρ1 h1 H1 → RWs X.K ρ1 H1 w v → Post X.K rel2 ρ1 H1 (k w h1) Q2 → Q' v H1) : semA X es σv H Q' :=
  ha σ h ρ σv H Q' S R (p.bind.mono (Ext.refl _ _) fun v H1 ⟨w, h1, ρ1, _, e1, R1, r1, p1⟩ => q w h1 ρ1 v H1 e1 R1 r1 p1)
theorem AKw.go {α β : Type} {es : List Keyword} {rel2 : List Addr → Hp → α → β → Prop} {k : List W → Hh → Res α} {Q2 : β → Hp → Prop} {Q' : List V → Hp → Prop} {σ : Sl} {h : Hh} {ρ : List Addr} {σv : L2.St} {H : Hp} (ha : AKw X es fs) (S : SR X.K ρ H σ σv) (R : HR X.K ρ h H) (p : Post X.K rel2 ρ H ((fs σ h).bind k) Q2)
    (q : ∀ w h1 ρ1 v H1, Ext ρ H ρ1 H1 → HR X.K ρ1 h1 H1 → RWs X.K ρ1 H1 w v → Post X.K rel2 ρ1 H1 (k w h1) Q2 → Q' v H1) : semK X es σv H Q' :=
  ha σ h ρ σv H Q' S R (p.bind.mono (Ext.refl _ _) fun v H1 ⟨w, h1, ρ1, _, e1, R1, r1, p1⟩ => q w h1 ρ1 v H1 e1 R1 r1 p1)
theorem optR_post {α β : Type} {K : PySem.W.Frag} {rel : List Addr → Hp → α → β → Prop} {o : Option α} {h : Hh} {ρ : List Addr} {H : Hp} {Q : β → Hp → Prop} (p : Post K rel ρ H (optR o h) Q) : ∃ x, o = some x ∧ Post K rel ρ H (.ok x h) Q := by
  cases o with
  | none => exact p.elim
  | some x => exact ⟨x, rfl, p⟩
theorem optRm_post {K : PySem.W.Frag} {o : Option Bool} {h : Hh} {ρ : List Addr} {H : Hp} {Q : VK} (p : PostW K ρ H (optR (o.map W.bl) h) Q) : ∃ b, o = some b ∧ PostW K ρ H (.ok (.bl b) h) Q := by
  cases o with
  | none => exact p.elim
  | some x => exact ⟨x, rfl, p⟩
theorem ae_bin {op : Operator} (ha : AE X a f) (hb : AE X b g) : AE X (.BinOp a op b pos) (fun σ h => (f σ h).bind fun x h1 => (g σ h1).bind fun y h2 => binW op x y h2) := fun σ h ρ σv H Q S R p =>
  PE.use (pe_op (OpR.sem X _) (PE.sem X a) (PE.sem X b)) (ha.go S R p fun x h1 ρ1 v H1 e1 R1 r1 p1 => hb.go (S.mono e1) R1 p1 fun y h2 ρ2 u H2 e2 R2 r2 p2 => bin_ok R2 (r1.mono e2) r2 p2)
theorem ae_neg (ha : AE X a f) : AE X (.UnaryOp .USub a pos) (fun σ h => (f σ h).bind fun x h1 => negW x h1) := fun σ h ρ σv H Q S R p =>
  PE.use (pe_un un_neg (PE.sem X a)) (ha.go S R p fun x h1 ρ1 v H1 e1 R1 r1 p1 => by
    unfold negW at p1
    split at p1
    · cases r1
      exact ⟨_, rfl, p1.here R1 (.int _)⟩
    · exact p1.elim)
theorem ae_cmp {op : CmpOp} (hu : X.A.units + 64 < cLine) (hm : behindInMarks op b = false) (ha : AE X a f) (hb : AE X b g) : AE X (.Compare a [op] [b] pos) (fun σ h => (f σ h).bind fun x h1 => (g σ h1).bind fun y h2 => optR ((cmpW op x y h2).map .bl) h2) := fun σ h ρ σv H Q S R p =>
  PE.use (pe_cmpR (OpR.sem X _) (PE.sem X a) (PE.sem X b) hm) (ha.go S R p fun x h1 ρ1 v H1 e1 R1 r1 p1 => hb.go (S.mono e1) R1 p1 fun y h2 ρ2 u H2 e2 R2 r2 p2 => by
    obtain ⟨k, e, p3⟩ := optRm_post p2
    exact cmp_ok hu R2 (r1.mono e2) r2 e (p3.here R2 (.bl _)))
theorem at_cmp {op : CmpOp} (hu : X.A.units + 64 < cLine) (hm : behindInMarks op b = false) (ha : AE X a f) (hb : AE X b g) : AT X (.Compare a [op] [b] pos) (fun σ h => (f σ h).bind fun x h1 => (g σ h1).bind fun y h2 => optR (cmpW op x y h2) h2) := fun σ h ρ σv H Q S R p =>
  PT.use (pt_cmpR (OpR.sem X _) (PE.sem X a) (PE.sem X b) hm) (ha.go S R p fun x h1 ρ1 v H1 e1 R1 r1 p1 => hb.go (S.mono e1) R1 p1 fun y h2 ρ2 u H2 e2 R2 r2 p2 => by
    obtain ⟨k, e, p3⟩ := optR_post p2
    exact cmp_ok hu R2 (r1.mono e2) r2 e ⟨k, rfl, p3.here R2 rfl⟩)
theorem ae_chn {op op' : CmpOp} (hu : X.A.units + 64 < cLine) (hm : lastMarks [op, op'] [b, d] = false) (ha : AE X a f) (hb : AE X b g) (hd : AE X d k) : AE X (.Compare a [op, op'] [b, d] pos) (fun σ h => (f σ h).bind fun x h1 => (g σ h1).bind fun y h2 => (match cmpW op x y h2 with
    | some true => (k σ h2).bind fun z h3 => optR ((cmpW op' y z h3).map .bl) h3
    | some false => .ok (.bl false) h2
    | none => .bad)) := fun σ h ρ σv H Q S R p =>
  PE.use (pe_chain (OpR.sem X _) (OpR.sem X _) (PE.sem X a) (PE.sem X b) (PE.sem X d) hm) (ha.go S R p fun x h1 ρ1 v H1 e1 R1 r1 p1 => hb.go (S.mono e1) R1 p1 fun y h2 ρ2 u H2 e2 R2 r2 p2 => by
    split at p2
    · rename_i e
      refine cmp_ok hu R2 (r1.mono e2) r2 e ⟨true, rfl, ?_⟩
      rw [if_pos rfl]
      exact hd.go ((S.mono e1).mono e2) R2 p2 fun z h3 ρ3 w H3 e3 R3 r3 p3 => by
        obtain ⟨k, e, p4⟩ := optRm_post p3
        exact cmp_ok hu R3 (r2.mono e3) r3 e (p4.here R3 (.bl _))
    · rename_i e
      refine cmp_ok hu R2 (r1.mono e2) r2 e ⟨false, rfl, ?_⟩
      rw [if_neg Bool.false_ne_true]
      exact p2.here R2 (.bl _)
    · exact p2.elim)
theorem at_chn {op op' : CmpOp} (hu : X.A.units + 64 < cLine) (hm : lastMarks [op, op'] [b, d] = false) (ha : AE X a f) (hb : AE X b g) (hd : AE X d k) : AT X (.Compare a [op, op'] [b, d] pos) (fun σ h => (f σ h).bind fun x h1 => (g σ h1).bind fun y h2 => (match cmpW op x y h2 with
    | some true => (k σ h2).bind fun z h3 => optR (cmpW op' y z h3) h3
    | some false => .ok false h2
    | none => .bad)) := fun σ h ρ σv H Q S R p =>
  PT.use (pt_chain (OpR.sem X _) (OpR.sem X _) (PE.sem X a) (PE.sem X b) (PE.sem X d) hm) (ha.go S R p fun x h1 ρ1 v H1 e1 R1 r1 p1 => hb.go (S.mono e1) R1 p1 fun y h2 ρ2 u H2 e2 R2 r2 p2 => by
    split at p2
    · rename_i e
      refine cmp_ok hu R2 (r1.mono e2) r2 e ⟨true, rfl, ?_⟩
      rw [if_pos rfl]
      exact hd.go ((S.mono e1).mono e2) R2 p2 fun z h3 ρ3 w H3 e3 R3 r3 p3 => by
        obtain ⟨k, e, p4⟩ := optR_post p3
        exact cmp_ok hu R3 (r2.mono e3) r3 e ⟨k, rfl, p4.here R3 rfl⟩
    · rename_i e
      refine cmp_ok hu R2 (r1.mono e2) r2 e ⟨false, rfl, ?_⟩
      rw [if_neg Bool.false_ne_true]
      exact ⟨false, rfl, p2.here R2 rfl⟩
    · exact p2.elim)
theorem ae_and {r : List Expr} (ha : AE X a f) (hb : AE X (.BoolOp .And (b :: r) pos) g) : AE X (.BoolOp .And (a :: b :: r) pos) (fun σ h => (f σ h).bind fun x h1 => (match x with
    | .bl true => g σ h1
    | .bl false => .ok (.bl false) h1
    | _ => .bad)) := fun σ h ρ σv H Q S R p =>
  PE.use (pe_and (PE.sem X a) (PE.sem X _)) (ha.go S R p fun x h1 ρ1 v H1 e1 R1 r1 p1 => by
    split at p1
    · cases r1
      refine ⟨true, rfl, ?_⟩
      rw [if_pos rfl]
      exact hb _ _ _ _ _ _ (S.mono e1) R1 p1
    · cases r1
      refine ⟨false, rfl, ?_⟩
      rw [if_neg Bool.false_ne_true]
      exact p1.here R1 (.bl _)
    · exact p1.elim)
theorem ae_or {r : List Expr} (ha : AE X a f) (hb : AE X (.BoolOp .Or (b :: r) pos) g) : AE X (.BoolOp .Or (a :: b :: r) pos) (fun σ h => (f σ h).bind fun x h1 => (match x with
    | .bl true => .ok (.bl true) h1
    | .bl false => g σ h1
    | _ => .bad)) := fun σ h ρ σv H Q S R p =>
  PE.use (pe_or (PE.sem X a) (PE.sem X _)) (ha.go S R p fun x h1 ρ1 v H1 e1 R1 r1 p1 => by
    split at p1
    · cases r1
      refine ⟨true, rfl, ?_⟩
      rw [if_pos rfl]
      exact p1.here R1 (.bl _)
    · cases r1
      refine ⟨false, rfl, ?_⟩
      rw [if_neg Bool.false_ne_true]
      exact hb _ _ _ _ _ _ (S.mono e1) R1 p1
    · exact p1.elim)
theorem ae_one {op : BoolOp} (ha : AE X a f) : AE X (.BoolOp op [a] pos) f := fun σ h ρ σv H Q S R p => PE.use (pe_one (PE.sem X a)) (ha _ _ _ _ _ _ S R p)
theorem at_one {op : BoolOp} (ha : AT X a t) : AT X (.BoolOp op [a] pos) t := fun σ h ρ σv H Q S R p => by
  cases op with
  | And => exact PT.use (pw_and1 (PT.sem X a)).pt (ha _ _ _ _ _ _ S R p)
  | Or => exact PT.use (pw_or1 (PT.sem X a)).pt (ha _ _ _ _ _ _ S R p)
theorem ae_not (ha : AE X a f) : AE X (.UnaryOp .Not a pos) (fun σ h => (f σ h).bind fun x h1 => (match x with
    | .bl b => .ok (.bl (!b)) h1
    | _ => .bad)) := fun σ h ρ σv H Q S R p =>
  PE.use (pe_not (PE.sem X a)) (ha.go S R p fun x h1 ρ1 v H1 e1 R1 r1 p1 => by
    split at p1
    · cases r1
      exact ⟨_, rfl, p1.here R1 (.bl _)⟩
    · exact p1.elim)
theorem at_not (ha : AT X a t) : AT X (.UnaryOp .Not a pos) (fun σ h => (t σ h).bind fun b h1 => .ok (!b) h1) := fun σ h ρ σv H Q S R p =>
  PT.use (pt_not (PT.sem X a)) (ha.go S R p fun b h1 ρ1 H1 e1 R1 p1 => p1.here R1 rfl)
/-- a test of and, or: what stands behind is one, too -/
def AW (X : Cx) (e : Expr) (f : Sl → Hh → Res Bool) : Prop := ∀ σ h ρ σv H Q, SR X.K ρ H σ σv → HR X.K ρ h H → PostE X.K ρ H (f σ h) Q → ∀ whole pins s, Inv X pins σv H s → wpAny (model X.prog X.w) X.A (isTrue e X.env whole) (TP X pins σv Q) X.xe s
def semW (X : Cx) (e : Expr) : TT := fun σ H Q => ∀ whole pins s, Inv X pins σ H s → wpAny (model X.prog X.w) X.A (isTrue e X.env whole) (TP X pins σ Q) X.xe s
theorem PW.sem (X : Cx) (e : Expr) : PW X e (semW X e) := ⟨fun whole pins s σ H Q I h => h whole pins s I⟩
theorem PW.use {X : Cx} {e : Expr} {t : TT} (p : PW X e t) {σ : L2.St} {H : Hp} {Q : Bool → Hp → Prop} (h : t σ H Q) : Z.semW X e σ H Q := fun whole pins s I => p.run whole pins s σ H Q I h
theorem AW.at {u : Sl → Hh → Res Bool} (ha : AW X a u) : AT X a u := fun σ h ρ σv H Q S R p => PT.use (PW.sem X a).pt (ha _ _ _ _ _ _ S R p)
theorem aw_one {op : BoolOp} (ha : AT X a t) : AW X (.BoolOp op [a] pos) t := fun σ h ρ σv H Q S R p => by
  cases op with
  | And => exact PW.use (pw_and1 (PT.sem X a)) (ha _ _ _ _ _ _ S R p)
  | Or => exact PW.use (pw_or1 (PT.sem X a)) (ha _ _ _ _ _ _ S R p)
theorem aw_and {u : Sl → Hh → Res Bool} {r : List Expr} (ha : AT X a t) (hb : AW X (.BoolOp .And (b :: r) pos) u) : AW X (.BoolOp .And (a :: b :: r) pos) (fun σ h => (t σ h).bind fun c h1 => (match c with
    | true => u σ h1
    | false => .ok false h1)) := fun σ h ρ σv H Q S R p =>
  PW.use (pw_and (PT.sem X a) (PW.sem X _)) (ha.go S R p fun x h1 ρ1 H1 e1 R1 p1 => by
    cases x with
    | true => show (if true = true then _ else _); rw [if_pos rfl]; exact hb _ _ _ _ _ _ (S.mono e1) R1 p1
    | false => show (if false = true then _ else _); rw [if_neg Bool.false_ne_true]; exact p1.here R1 rfl)
theorem aw_or {u : Sl → Hh → Res Bool} {r : List Expr} (ha : AT X a t) (hb : AW X (.BoolOp .Or (b :: r) pos) u) : AW X (.BoolOp .Or (a :: b :: r) pos) (fun σ h => (t σ h).bind fun c h1 => (match c with
    | true => .ok true h1
    | false => u σ h1)) := fun σ h ρ σv H Q S R p =>
  PW.use (pw_or (PT.sem X a) (PW.sem X _)) (ha.go S R p fun x h1 ρ1 H1 e1 R1 p1 => by
    cases x with
    | true => show (if true = true then _ else _); rw [if_pos rfl]; exact p1.here R1 rfl
    | false => show (if false = true then _ else _); rw [if_neg Bool.false_ne_true]; exact hb _ _ _ _ _ _ (S.mono e1) R1 p1)
theorem ae_ife (hd : AT X d t) (ha : AE X a f) (hb : AE X b g) : AE X (.IfExp d a b pos) (fun σ h => (t σ h).bind fun t h1 => (match t with
    | true => f σ h1
    | false => g σ h1)) := fun σ h ρ σv H Q S R p =>
  PE.use (pe_ifExp (PT.sem X d) (PE.sem X a) (PE.sem X b)) (hd.go S R p fun x h1 ρ1 H1 e1 R1 p1 => by
    cases x with
    | true => show (if true = true then _ else _); rw [if_pos rfl]; exact ha _ _ _ _ _ _ (S.mono e1) R1 p1
    | false => show (if false = true then _ else _); rw [if_neg Bool.false_ne_true]; exact hb _ _ _ _ _ _ (S.mono e1) R1 p1)
/-! ### lists of expressions -/
theorem aa_nil : AA X [] (fun _ h => .ok [] h) := fun σ h ρ σv H Q S R p => PA.use pa_nil (p.here R .nil)
theorem aa_cons (hs : starEach (e :: es) X.env = (false, eval e X.env) :: starEach es X.env) (ha : AE X e f) (hb : AA X es fs) : AA X (e :: es) (fun σ h => (f σ h).bind fun x h1 => (fs σ h1).bind fun xs h2 => .ok (x :: xs) h2) := fun σ h ρ σv H Q S R p =>
  PA.use (pa_cons (PE.sem X e) (PA.sem X es) hs) (ha.go S R p fun x h1 ρ1 v H1 e1 R1 r1 p1 => hb.go (S.mono e1) R1 p1 fun y h2 ρ2 u H2 e2 R2 r2 p2 => p2.here R2 (.cons (r1.mono e2) r2))
theorem ak_nil : AKw X [] (fun _ h => .ok [] h) := fun σ h ρ σv H Q S R p => PK.use pk_nil (p.here R .nil)
theorem ak_cons {nm : Option Str} {kp : Pos} {ks : List Keyword} (ha : AE X e f) (hb : AKw X ks fs) : AKw X (⟨nm, e, kp⟩ :: ks) (fun σ h => (f σ h).bind fun x h1 => (fs σ h1).bind fun xs h2 => .ok (x :: xs) h2) := fun σ h ρ σv H Q S R p =>
  PK.use (pk_cons (PE.sem X e) (PK.sem X ks)) (ha.go S R p fun x h1 ρ1 v H1 e1 R1 r1 p1 => hb.go (S.mono e1) R1 p1 fun y h2 ρ2 u H2 e2 R2 r2 p2 => p2.here R2 (.cons (r1.mono e2) r2))
theorem ae_tup {z : Nat} (ha : AA X es fs) : AE X (.Tuple es z pos) (fun σ h => (fs σ h).bind fun ws h1 => if ws.length ≤ lim then .ok (.tup ws) h1 else .bad) := fun σ h ρ σv H Q S R p =>
  PE.use (pe_tup (PA.sem X es)) (ha.go S R p fun ws h1 ρ1 vs H1 e1 R1 r1 p1 => by
    split at p1
    · rename_i hl
      exact ⟨lim_le (by rw [← r1.length]; exact hl), fun a ha => p1.at (Ext.imm (Kept.new ha)) (R1.new ha) (.tup (SqT.of upd_same) (r1.mono (Ext.imm (Kept.new ha))))⟩
    · exact p1.elim)
theorem ae_lst (ha : AA X es fs) : AE X (.List es pos) (fun σ h => (fs σ h).bind fun ws h1 => if ws.length ≤ lim then alloc h1 (.lst ws) else .bad) := fun σ h ρ σv H Q S R p =>
  PE.use (pe_lst (PA.sem X es)) (ha.go S R p fun ws h1 ρ1 vs H1 e1 R1 r1 p1 => by
    split at p1
    · rename_i hl
      exact ⟨lim_le (by rw [← r1.length]; exact hl), alloc_ok R1 r1 p1⟩
    · exact p1.elim)
/-! ### subscripts -/
theorem ae_ix (hs : PlainIx b) (ha : AE X a f) (hb : AE X b g) : AE X (.Subscript a b pos) (fun σ h => (f σ h).bind fun x h1 => (g σ h1).bind fun y h2 => ixW x y h2) := fun σ h ρ σv H Q S R p =>
  PE.use (pe_ix IxR.sem (PE.sem X a) (PE.sem X b) hs) (ha.go S R p fun x h1 ρ1 v H1 e1 R1 r1 p1 => hb.go (S.mono e1) R1 p1 fun y h2 ρ2 u H2 e2 R2 r2 p2 => ix_ok R2 (r1.mono e2) r2 p2)
def tO (X : Cx) : Option Expr → TO
  | none => tNoPart
  | some e => tPart (sem X e)
theorem PO.sem : ∀ o : Option Expr, PO X o (tO X o)
  | none => po_none
  | some e => po_some (PE.sem X e)
def AO (X : Cx) (o : Option Expr) (f : Sl → Hh → Res (Option Int)) : Prop := ∀ σ h ρ σv H Q, SR X.K ρ H σ σv → HR X.K ρ h H → PostE X.K ρ H (f σ h) Q → tO X o σv H Q
theorem ao_none : AO X none (fun _ h => .ok none h) := fun σ h ρ σv H Q S R p => p.here R rfl
theorem ao_some (ha : AE X a f) : AO X (some a) (fun σ h => (f σ h).bind fun x h1 => (match x with
    | .int i => .ok (some i) h1
    | _ => .bad)) := fun σ h ρ σv H Q S R p => ha.go S R p fun x h1 ρ1 v H1 e1 R1 r1 p1 => by
  split at p1
  · cases r1
    exact ⟨_, rfl, p1.here R1 rfl⟩
  · exact p1.elim
theorem ae_sl {lo hi : Option Expr} {p2 : Pos} {fl fh : Sl → Hh → Res (Option Int)} (ha : AE X a f) (hl : AO X lo fl) (hh : AO X hi fh) : AE X (.Subscript a (.Slice lo hi none p2) pos) (fun σ h => (f σ h).bind fun x h1 => (fl σ h1).bind fun l h2 => (fh σ h2).bind fun u h3 => slW x l u h3) := fun σ h ρ σv H Q S R p =>
  PE.use (pe_slice SlR.sem (PE.sem X a) (PO.sem lo) (PO.sem hi)) (ha.go S R p fun x h1 ρ1 v H1 e1 R1 r1 p1 =>
    hl _ _ _ _ _ _ (S.mono e1) R1 (p1.bind.mono (Ext.refl _ _) fun l H2 ⟨l', h2, ρ2, _, e2, R2, el, p2⟩ => by
      cases el
      exact hh _ _ _ _ _ _ ((S.mono e1).mono e2) R2 (p2.bind.mono (Ext.refl _ _) fun u H3 ⟨u', h3, ρ3, _, e3, R3, eu, p3⟩ => by
        cases eu
        exact sl_ok R3 ((r1.mono e2).mono e3) p3)))
end
end Z
set_option maxHeartbeats 4000000
/-! Z5: calls, built-ins, methods, what is walked, comprehensions. -/
namespace Z
open PySem PySem.Spec PyProof.Rows L2

/-! ### arguments without stars -/
def NS (e : Expr) : Prop := ∀ (es : List Expr) (env : Env), starEach (e :: es) env = (false, eval e env) :: starEach es env
theorem ns_all {env : Env} : ∀ {es : List Expr}, (∀ e ∈ es, NS e) → starEach es env = es.map fun e => (false, eval e env)
  | [], _ => rfl
  | e :: es, h => by
    rw [h e (List.mem_cons_self ..) es env, ns_all (es := es) fun x hx => h x (List.mem_cons_of_mem _ hx)]
    rfl
theorem ns_any {env : Env} {pos : Pos} {es : List Expr} (h : ∀ e ∈ es, NS e) : (backTo pos (starEach es env)).any (·.1) = false := by
  rw [ns_all h]
  unfold backTo
  rw [List.map_map, List.any_map]
  exact List.any_eq_false.mpr fun x _ => by simp
theorem kwEach {env : Env} : ∀ kws : List Keyword, keywordEach kws env = kws.map fun k => (k.arg, eval k.value env)
  | [] => rfl
  | ⟨n, v, p⟩ :: r => by
    show (n, eval v env) :: keywordEach r env = _
    rw [kwEach r]
    rfl
theorem kw_all {env : Env} {pos : Pos} {kws : List Keyword} {ks : List Str} (h : kws.map (·.arg) = ks.map some) : (backToKw pos (keywordEach kws env)).map (·.1) = ks.map some := by
  rw [kwEach]
  unfold backToKw
  rw [List.map_map, List.map_map, ← h]
  rfl
theorem kw_isSome {α : Type} {l : List (Option Str × α)} {ks : List Str} (h : l.map (·.1) = ks.map some) : l.all (·.1.isSome) = true := by
  rw [List.all_eq_true]
  intro x hx
  have : x.1 ∈ ks.map some := h ▸ List.mem_map_of_mem hx
  obtain ⟨k, _, e⟩ := List.mem_map.mp this
  rw [← e] <;> rfl
theorem kw_isNone {α : Type} {l : List (Option Str × α)} {ks : List Str} (h : l.map (·.1) = ks.map some) : l.any (·.1.isNone) = false := by
  rw [List.any_eq_false]
  intro x hx
  have : x.1 ∈ ks.map some := h ▸ List.mem_map_of_mem hx
  obtain ⟨k, _, e⟩ := List.mem_map.mp this
  rw [← e]; simp
theorem kw_filter {α : Type} : ∀ {l : List (Option Str × α)} {ks : List Str}, l.map (·.1) = ks.map some → l.filterMap (·.1) = ks
  | [], [], _ => rfl
  | [], _ :: _, h => by cases h
  | _ :: _, [], h => by cases h
  | x :: l, k :: ks, h => by
    rw [List.map_cons, List.map_cons] at h
    injection h with h1 h2
    rw [List.filterMap_cons, h1, kw_filter h2]
section
variable {X : Cx} {c : Cc} {F : CallEnv} {a b d e : Expr} {es : List Expr} {pos p : Pos} {f g k : Sl → Hh → Res W} {fs gs : Sl → Hh → Res (List W)} {t : Sl → Hh → Res Bool}
theorem AA.goE {α β : Type} {rel2 : List Addr → Hp → α → β → Prop} {k : List W → Hh → Res α} {Q2 : β → Hp → Prop} {Q' : List V → Hp → Prop} {σ : Sl} {h : Hh} {ρ : List Addr} {σv : L2.St} {H : Hp} (ha : AA X es fs) (S : SR X.K ρ H σ σv) (R : HR X.K ρ h H) (p : Post X.K rel2 ρ H ((fs σ h).bind k) Q2)
    (q : ∀ w h1 ρ1 v H1, fs σ h = .ok w h1 → Ext ρ H ρ1 H1 → HR X.K ρ1 h1 H1 → RWs X.K ρ1 H1 w v → Post X.K rel2 ρ1 H1 (k w h1) Q2 → Q' v H1) : semA X es σv H Q' :=
  ha σ h ρ σv H Q' S R (p.bind.mono (Ext.refl _ _) fun v H1 ⟨w, h1, ρ1, e0, e1, R1, r1, p1⟩ => q w h1 ρ1 v H1 e0 e1 R1 r1 p1)
theorem AKw.goE {α β : Type} {es : List Keyword} {rel2 : List Addr → Hp → α → β → Prop} {k : List W → Hh → Res α} {Q2 : β → Hp → Prop} {Q' : List V → Hp → Prop} {σ : Sl} {h : Hh} {ρ : List Addr} {σv : L2.St} {H : Hp} (ha : AKw X es fs) (S : SR X.K ρ H σ σv) (R : HR X.K ρ h H) (p : Post X.K rel2 ρ H ((fs σ h).bind k) Q2)
    (q : ∀ w h1 ρ1 v H1, fs σ h = .ok w h1 → Ext ρ H ρ1 H1 → HR X.K ρ1 h1 H1 → RWs X.K ρ1 H1 w v → Post X.K rel2 ρ1 H1 (k w h1) Q2 → Q' v H1) : semK X es σv H Q' :=
  ha σ h ρ σv H Q' S R (p.bind.mono (Ext.refl _ _) fun v H1 ⟨w, h1, ρ1, e0, e1, R1, r1, p1⟩ => q w h1 ρ1 v H1 e0 e1 R1 r1 p1)
/-! ### a def's call -/
theorem ae_call {fW : List W → Hh → Res W} {x : Str} {np dl : Nat} {ks : List Str} {ad : Addr} {fd : FuncData} {ps : List Str} {kws : List Keyword} (fh : FnHere X fW x np ks dl ad fd ps) (hg : Gl X x) (hd : (x == ("__debug__" : Str)) = false)
    (ha : AA X (e :: es) fs) (hk : AKw X kws gs) (la : ∀ σ h ws h1, fs σ h = .ok ws h1 → ws.length = np) (lk : ∀ σ h ws h1, gs σ h = .ok ws h1 → ws.length = ks.length) (ns : ∀ z ∈ e :: es, NS z) (hks : kws.map (·.arg) = ks.map some) :
    AE X (.Call (.Name x p) (e :: es) kws pos) (fun σ h => (fs σ h).bind fun ws h1 => (gs σ h1).bind fun zs h2 => fW (ws ++ zs) h2) := fun σ h ρ σv H Q S R p0 => by
  have kw := kw_all (env := X.env) (pos := pos) hks
  refine PE.use (pe_callN (E := E0) fh.ok fh.room hg fh.mg fh.kp fh.bn pass0 (PA.sem X (e :: es)) (PK.sem X kws) (kw_isSome kw) (kw_filter kw) hd (ns e (List.mem_cons_self ..) es X.env) ?_) ?_
  · rw [ns_any ns, kw_isNone kw] <;> rfl
  · exact ha.goE S R p0 fun ws h1 ρ1 vs H1 ee e1 R1 r1 p1 => hk.goE (S.mono e1) R1 p1 fun zs h2 ρ2 us H2 ee2 e2 R2 r2 p2 => by
      have l1 : vs.length = np := by rw [← r1.length]; exact la _ _ _ _ ee
      have l2 : us.length = ks.length := by rw [← r2.length]; exact lk _ _ _ _ ee2
      exact ⟨l1, l2, by rw [List.length_append, l1, l2], ρ2, h2, ws ++ zs, R2, (r1.mono e2).append r2, p2⟩
/-! ### built-ins -/
theorem boot_bi : ∀ b : Bi, bootBuiltins (biN b) = some (biV b) := by
  intro b
  cases b <;> decide +kernel
theorem pe_bi {es : List Expr} {x : Str} (b : Bi) (hx : x = biN b) (hg : Gl X x) (hm : X.mg x = none) (ns : ∀ z ∈ e :: es, NS z) : PE X (.Call (.Name x p) (e :: es) [] pos) (tCB (semC X (biV b)) (semA X (e :: es))) := by
  subst hx
  have he := ns e (List.mem_cons_self ..) es X.env
  have hp := ns_any (env := X.env) (pos := pos) (es := es) fun z hz => ns z (List.mem_cons_of_mem _ hz)
  have hb := boot_bi b
  cases b
  · exact pe_callB (CallR.sem _) hg hm hb (PA.sem X _) (by decide) (by decide) he hp
  · exact pe_callB (CallR.sem _) hg hm hb (PA.sem X _) (by decide) (by decide) he hp
  · exact pe_callTy (CallR.sem _) hg hm hb (PA.sem X _) (by decide) (by decide) he hp
  · exact pe_callB (CallR.sem _) hg hm hb (PA.sem X _) (by decide) (by decide) he hp
  · exact pe_callB (CallR.sem _) hg hm hb (PA.sem X _) (by decide) (by decide) he hp
  · exact pe_callTy (CallR.sem _) hg hm hb (PA.sem X _) (by decide) (by decide) he hp
  · exact pe_callTy (CallR.sem _) hg hm hb (PA.sem X _) (by decide) (by decide) he hp
  · exact pe_callB (CallR.sem _) hg hm hb (PA.sem X _) (by decide) (by decide) he hp
  · exact pe_callB (CallR.sem _) hg hm hb (PA.sem X _) (by decide) (by decide) he hp
  · exact pe_callB (CallR.sem _) hg hm hb (PA.sem X _) (by decide) (by decide) he hp
theorem ae_bi {x : Str} (hc : X.calm = true) (bi : Bi) (hx : x = biN bi) (hg : Gl X x) (hm : X.mg x = none) (ns : ∀ z ∈ e :: es, NS z) (ha : AA X (e :: es) fs) :
    AE X (.Call (.Name x p) (e :: es) [] pos) (fun σ h => (fs σ h).bind fun ws h1 => (match ws with
    | [x] => bi1 bi x h1
    | [x, y] => bi2 bi x y h1
    | _ => .bad)) := fun σ h ρ σv H Q S R p0 =>
  PE.use (pe_bi bi hx hg hm ns) (ha.go S R p0 fun ws h1 ρ1 vs H1 e1 R1 r1 p1 => by
    split at p1
    · cases r1 with
      | cons r r' => cases r'; exact bi1_ok hc R1 r p1
    · cases r1 with
      | cons r r' =>
        cases r' with
        | cons r2 r3 => cases r3; exact bi2_ok hc R1 r r2 p1
    · exact p1.elim)
theorem boot_ty : ∀ t : Ty, bootBuiltins (tyS t) = some (.type (tyN t)) := by
  intro t
  cases t <;> decide +kernel
theorem ae_isi {x y : Str} {p2 : Pos} {t : Ty} (hx : x = "isinstance") (hy : y = tyS t) (hg : Gl X x) (hm : X.mg x = none) (hg2 : Gl X y) (hm2 : X.mg y = none) (ns : NS e) (ha : AE X e f) :
    AE X (.Call (.Name x p) [e, .Name y p2] [] pos) (fun σ h => (f σ h).bind fun x h1 => optR ((isiW h1 t x).map .bl) h1) := fun σ h ρ σv H Q S R p0 => by
  subst hx hy
  have pt : PE X (.Name (tyS t) p2) (tC (.ty (tyN t))) := by
    have hb := boot_ty t
    cases t <;> exact pe_bltn hg2 hm2 hb rfl (by decide) (by decide)
  refine PE.use (pe_callB (CallR.sem (.builtin "isinstance")) hg hm boot_isinstance (pa_cons (PE.sem X e) (pa_cons pt pa_nil rfl) (ns _ _)) (by decide) (by decide) (ns _ _) rfl) ?_
  exact ha.go S R p0 fun w h1 ρ1 v H1 e1 R1 r1 p1 => by
    obtain ⟨k, ek, p2⟩ := optRm_post p1
    exact isi_ok R1 r1 ek (p2.here R1 (.bl _))
/-! ### lists' methods -/
theorem isL_ty {K : PySem.W.Frag} {ρ : List Addr} {H : Hp} {h : Hh} {w : W} {v : V} (R : HR K ρ h H) (r : RW K ρ H w v) (e : isL h w = true) : tyV K "list" v H := by
  unfold isL at e
  split at e
  · rename_i i
    obtain ⟨ws, e1⟩ := Option.isSome_iff_exists.mp e
    obtain ⟨a, vs, rfl, _, ha, _⟩ := R.lst e1 r
    exact .inl ⟨rfl, vs, SqL.of ha⟩
  · cases e
theorem base_ok {o : Expr} {m : Str} {env : Env} {whole : Sem Value} (h : plainBase o = true) : attributeBase o m env whole = whole := by
  unfold plainBase at h
  unfold attributeBase
  split at h
  · cases h
  · rename_i hn
    cases o with
    | Call fn args kws ps =>
      cases fn with
      | Name id q =>
        cases args with
        | nil =>
          cases kws with
          | nil => exact absurd rfl (hn id q ps)
          | cons _ _ => rfl
        | cons _ _ => rfl
      | _ => rfl
    | _ => rfl
theorem ae_mt0 {o : Expr} {m : Str} {ap cp : Pos} (k : Mt) (hm : m = (mtN k).1) (hk : mtFind m 0 = some k) (hb : plainBase o = true) (hl : (ap.endLine == cp.line) = true) (ha : AE X o f) :
    AE X (.Call (.Attribute o m ap) [] [] cp) (fun σ h => (f σ h).bind fun x h1 => if isL h1 x then mt0 k x h1 else .bad) := fun σ h ρ σv H Q S R p0 => by
  subst hm
  have hp : PE X (.Call (.Attribute o (mtN k).1 ap) [] [] cp) (tBM0 X.K "list" (semM X (mtN k).2) (sem X o)) := by
    cases k
    · cases hk
    · exact pe_bm0 PySem.F.plainAttrs_list PySem.F.slot_list_pop PySem.F.type_list_pop (MtR.sem _) (PE.sem X o) (base_ok hb) hl
    · exact pe_bm0 PySem.F.plainAttrs_list PySem.F.slot_list_reverse PySem.F.type_list_reverse (MtR.sem _) (PE.sem X o) (base_ok hb) hl
    · cases hk
  refine PE.use hp (ha.go S R p0 fun x h1 ρ1 v H1 e1 R1 r1 p1 => ?_)
  split at p1
  · rename_i hi
    exact ⟨isL_ty R1 r1 hi, mt0_ok R1 r1 p1⟩
  · exact p1.elim
theorem ae_mt1 {o : Expr} {m : Str} {ap cp : Pos} (k : Mt) (hm : m = (mtN k).1) (hk : mtFind m 1 = some k) (hb : plainBase o = true) (hl : (ap.endLine == cp.line) = true) (ns : NS e) (ha : AE X o f) (hg : AE X e g) :
    AE X (.Call (.Attribute o m ap) [e] [] cp) (fun σ h => (f σ h).bind fun x h1 => if isL h1 x then (g σ h1).bind fun y h2 => mt1 k x y h2 else .bad) := fun σ h ρ σv H Q S R p0 => by
  subst hm
  have hs : starEach [e] X.env = (false, eval e X.env) :: starEach [] X.env := ns _ _
  have hfew : ((backTo cp (starEach [e] X.env)).all (fun x => !x.1) && (backToKw cp (keywordEach [] X.env)).all (fun x => x.1.isSome)
      && decide ([e].length + ([] : List Keyword).length + (if ([] : List Keyword).isEmpty then 0 else 1) < 30)) = true := by
    rw [hs] <;> rfl
  have hp : PE X (.Call (.Attribute o (mtN k).1 ap) [e] [] cp) (tBM X.K "list" (semM X (mtN k).2) (sem X o) (semA X [e])) := by
    cases k
    · exact pe_bm PySem.F.plainAttrs_list PySem.F.slot_list_append PySem.F.type_list_append (MtR.sem _) (PE.sem X o) (PA.sem X [e]) (base_ok hb) hfew hl hs rfl
    · cases hk
    · cases hk
    · exact pe_bm PySem.F.plainAttrs_list PySem.F.slot_list_extend PySem.F.type_list_extend (MtR.sem _) (PE.sem X o) (PA.sem X [e]) (base_ok hb) hfew hl hs rfl
  refine PE.use hp (ha.go S R p0 fun x h1 ρ1 v H1 e1 R1 r1 p1 => ?_)
  split at p1
  · rename_i hi
    refine ⟨isL_ty R1 r1 hi, ?_⟩
    refine PA.use (pa_cons (PE.sem X e) pa_nil hs) (hg.go (S.mono e1) R1 p1 fun y h2 ρ2 u H2 e2 R2 r2 p2 => ?_)
    exact mt1_ok R2 (r1.mono e2) r2 p2
  · exact p1.elim
end
/-! ### what is walked -/
inductive ItR (K : PySem.W.Frag) (ρ : List Addr) (H : Hp) : Wk → It → Prop
  | tup {a : Addr} {ws : List W} {vs : List V} : SqT K H a vs → RWs K ρ H ws vs → ItR K ρ H (.fix ws) (Itt K a)
  | scr {a : Addr} {ws : List W} {vs : List V} : SqS K H a vs → RWs K ρ H ws vs → ItR K ρ H (.fix ws) (Itl K a)
  | live {i : Nat} {a : Addr} : ρ[i]? = some a → ItR K ρ H (.live i) (Itl K a)
  | rng {lo : Int} {n : Nat} : ItR K ρ H (.fix (rngL lo n)) (Itr lo n)
section
variable {K : PySem.W.Frag} {ρ ρ' : List Addr} {H H' : Hp} {h : Hh} {k : Wk} {J : It} {i : Nat}
theorem ItR.mono (r : ItR K ρ H k J) (e : Ext ρ H ρ' H') : ItR K ρ' H' k J := by
  cases r with
  | tup h1 r1 => exact .tup (e.kept.sqT h1) (r1.mono e)
  | scr h1 r1 => exact .scr (e.kept.sqS h1) (r1.mono e)
  | live h1 => exact .live (e.pre _ _ h1)
  | rng => exact .rng
theorem rngL_get {lo : Int} {n i : Nat} : (rngL lo n)[i]? = if i < n then some (.int (lo + (i : Int))) else none := by
  unfold rngL
  rw [List.getElem?_map]
  by_cases hi : i < n
  · rw [List.getElem?_range hi, if_pos hi] <;> rfl
  · rw [if_neg hi, List.getElem?_eq_none (by rw [List.length_range]; omega)] <;> rfl
theorem ItR.stop (r : ItR K ρ H k J) (R : HR K ρ h H) (e : k.at i h = some none) : J.stop i H := by
  cases r with
  | tup h1 r1 =>
    have e' : _ = none := Option.some.inj e
    rw [List.getElem?_eq_none_iff, r1.length] at e'
    exact ⟨_, h1, e'⟩
  | scr h1 r1 =>
    have e' : _ = none := Option.some.inj e
    rw [List.getElem?_eq_none_iff, r1.length] at e'
    exact ⟨_, h1.sq, e'⟩
  | live h1 =>
    obtain ⟨ws, e1, e2⟩ := Option.map_eq_some_iff.mp e
    obtain ⟨a', vs, e3, _, ha, rr⟩ := R.lst e1 (.ref h1)
    cases e3
    rw [List.getElem?_eq_none_iff, rr.length] at e2
    exact ⟨vs, SqL.of ha, e2⟩
  | rng =>
    have e' : _ = none := Option.some.inj e
    rw [rngL_get] at e'
    show _ ≤ _
    split at e'
    · cases e'
    · omega
theorem ItR.go {w : W} (r : ItR K ρ H k J) (R : HR K ρ h H) (e : k.at i h = some (some w)) : J.go i H ∧ ∀ x H', J.yld i H x H' → ∃ ρ', Ext ρ H ρ' H' ∧ HR K ρ' h H' ∧ RW K ρ' H' w x := by
  cases r with
  | tup h1 r1 =>
    have e' : _ = some w := Option.some.inj e
    obtain ⟨v, e2, rv⟩ := r1.get e'
    refine ⟨⟨_, v, h1, e2⟩, fun x H' ⟨e3, y⟩ => ?_⟩
    subst e3
    have := y _ h1
    rw [e2] at this
    cases this
    exact ⟨ρ, Ext.refl _ _, R, rv⟩
  | scr h1 r1 =>
    have e' : _ = some w := Option.some.inj e
    obtain ⟨v, e2, rv⟩ := r1.get e'
    refine ⟨⟨_, v, h1.sq, e2⟩, fun x H' ⟨e3, y⟩ => ?_⟩
    subst e3
    have := y _ h1.sq
    rw [e2] at this
    cases this
    exact ⟨ρ, Ext.refl _ _, R, rv⟩
  | live h1 =>
    obtain ⟨ws, e1, e2⟩ := Option.map_eq_some_iff.mp e
    obtain ⟨a', vs, e3, _, ha, rr⟩ := R.lst e1 (.ref h1)
    cases e3
    obtain ⟨v, e4, rv⟩ := rr.get e2
    refine ⟨⟨_, v, SqL.of ha, e4⟩, fun x H' ⟨e5, y⟩ => ?_⟩
    subst e5
    have := y _ (SqL.of ha)
    rw [e4] at this
    cases this
    exact ⟨ρ, Ext.refl _ _, R, rv⟩
  | rng =>
    have e' : _ = some w := Option.some.inj e
    rw [rngL_get] at e'
    split at e'
    · cases e'
      refine ⟨by assumption, fun x H' ⟨e3, y⟩ => ?_⟩
      subst e3 y
      exact ⟨ρ, Ext.refl _ _, R, .int _⟩
    · cases e'
end
def semP (X : Cx) (tg e : Expr) : TI := fun σ H R => ∀ pins s, Inv X pins σ H s → wpAny (model X.prog X.w) X.A (eval e X.env) (fun v s1 => wpAny (model X.prog X.w) X.A (pyIter v) (PIE X pins σ tg R) X.xe s1) X.xe s
theorem PI.sem (X : Cx) (tg e : Expr) : PI X tg e (semP X tg e) := ⟨fun pins s σ H R I h => h pins s I⟩
theorem PI.use {X : Cx} {tg e : Expr} {t : TI} (p : PI X tg e t) {σ : L2.St} {H : Hp} {R : It → Hp → Prop} (h : t σ H R) : semP X tg e σ H R := fun pins s I => p.run pins s σ H R I h
def AR (X : Cx) (tg e : Expr) (f : Sl → Hh → Res Wk) : Prop := ∀ σ h ρ σv H R, SR X.K ρ H σ σv → HR X.K ρ h H → Post X.K (ItR X.K) ρ H (f σ h) R → semP X tg e σv H R
section
variable {X : Cx} {c : Cc} {F : CallEnv} {tg a b d e : Expr} {es : List Expr} {pos p : Pos} {f g k : Sl → Hh → Res W} {fs gs : Sl → Hh → Res (List W)} {t : Sl → Hh → Res Bool}
theorem ar_seq (ha : AE X a f) : AR X tg a (fun σ h => (f σ h).bind fun x h1 => (match x with
    | .tup ws => .ok (.fix ws) h1
    | .scr ws => .ok (.fix ws) h1
    | .ref a => (match lstAt h1 a with
      | some _ => .ok (.live a) h1
      | none => .bad)
    | _ => .bad)) := fun σ h ρ σv H Rr S R p0 => by
  have p1 : Post X.K (ItR X.K) ρ H ((f σ h).bind fun x h1 => (match x with
    | .tup ws => .ok (.fix ws) h1
    | .scr ws => .ok (.fix ws) h1
    | .ref a => (match lstAt h1 a with
      | some _ => .ok (.live a) h1
      | none => .bad)
    | _ => .bad)) Rr := p0
  cases ee : f σ h with
  | bad => rw [ee] at p1; exact p1.elim
  | ok x h1 =>
    rw [ee, Res.bind_ok] at p1
    split at p1
    · refine PI.use (pi_tup (PE.sem X a)) (ha σ h ρ σv H _ S R ?_)
      rw [ee]
      intro ρ1 H1 v e1 R1 r1
      cases r1 with
      | tup hs rr => exact ⟨_, rfl, ⟨_, hs⟩, p1.at e1 R1 (.tup hs rr)⟩
    · refine PI.use (pi_list (PE.sem X a)) (ha σ h ρ σv H _ S R ?_)
      rw [ee]
      intro ρ1 H1 v e1 R1 r1
      cases r1 with
      | scr hs rr => exact ⟨_, rfl, ⟨_, hs.sq⟩, p1.at e1 R1 (.scr hs rr)⟩
    · split at p1
      · rename_i ws el
        refine PI.use (pi_list (PE.sem X a)) (ha σ h ρ σv H _ S R ?_)
        rw [ee]
        intro ρ1 H1 v e1 R1 r1
        obtain ⟨ad, vs, rfl, hρ, hv, rr⟩ := R1.lst el r1
        exact ⟨_, rfl, ⟨_, SqL.of hv⟩, p1.at e1 R1 (.live hρ)⟩
      · exact p1.elim
    · exact p1.elim
theorem okR_of {i : Int} (h : okR i = true) : -(2 ^ 62) ≤ i ∧ i < 2 ^ 62 := by
  unfold okR at h
  rw [Bool.and_eq_true] at h
  have h1 := of_decide_eq_true h.1
  have h2 := of_decide_eq_true h.2
  omega
theorem ar_rng1 {x : Str} (hx : x = "range") (hg : Gl X x) (hm : X.mg x = none) (ns : NS a) (ha : AE X a f) : AR X tg (.Call (.Name x p) [a] [] pos) (fun σ h => (f σ h).bind fun x h1 => (match x with
    | .int n => if okR n then .ok (.fix (rngL 0 n.toNat)) h1 else .bad
    | _ => .bad)) := fun σ h ρ σv H Rr S R p0 => by
  subst hx
  refine PI.use (pi_range1 hg hm (pa_cons (PE.sem X a) pa_nil (ns _ _)) (ns _ _)) ?_
  exact ha.go S R p0 fun w h1 ρ1 v H1 e1 R1 r1 p1 => by
    split at p1
    · cases r1
      split at p1
      · rename_i hk
        obtain ⟨b1, b2⟩ := okR_of hk
        exact ⟨_, rfl, b1, b2, p1.here R1 .rng⟩
      · exact p1.elim
    · exact p1.elim
theorem ar_rng2 {x : Str} (hx : x = "range") (hg : Gl X x) (hm : X.mg x = none) (ns : NS a) (ns2 : NS b) (ha : AE X a f) (hb : AE X b g) : AR X tg (.Call (.Name x p) [a, b] [] pos) (fun σ h => (f σ h).bind fun x h1 => (g σ h1).bind fun y h2 => (match x, y with
    | .int i, .int j => if okR i && okR j then .ok (.fix (rngL i (j - i).toNat)) h2 else .bad
    | _, _ => .bad)) := fun σ h ρ σv H Rr S R p0 => by
  subst hx
  have hs2 : starEach [b] X.env = [(false, eval b X.env)] := ns2 _ _
  have hs1 : starEach [a, b] X.env = [(false, eval a X.env), (false, eval b X.env)] := (ns [b] X.env).trans (by rw [hs2])
  refine PI.use (pi_range2 hg hm (pa_cons (PE.sem X a) (pa_cons (PE.sem X b) pa_nil (ns2 _ _)) (ns _ _)) hs1 hs2) ?_
  exact ha.go S R p0 fun w h1 ρ1 v H1 e1 R1 r1 p1 => hb.go (S.mono e1) R1 p1 fun w2 h2 ρ2 v2 H2 e2 R2 r2 p2 => by
    split at p2
    · cases r1; cases r2
      split at p2
      · rename_i hk
        rw [Bool.and_eq_true] at hk
        obtain ⟨b1, b2⟩ := okR_of hk.1
        obtain ⟨b3, b4⟩ := okR_of hk.2
        exact ⟨_, _, rfl, ⟨b1, b2, b3, b4⟩, p2.here R2 .rng⟩
      · exact p2.elim
    · exact p2.elim
end
/-! ### targets -/
structure StoreOk (X : Cx) (x : Str) (i : Nat) : Prop where
  N : X.N[i]? = some x
  loc : Loc X.env.scope x
  fn : X.fn x = true ∨ X.env.scope.names.lookup x = some .local
def gAll : List Nat → TGs
  | [] => gNil
  | i :: is => gCons (gName i) (gAll is)
def gT (K : PySem.W.Frag) : Tg → TG
  | .nm i => gName i
  | .tp is => gTup K is.length (gAll is)
section
variable {X : Cx}
theorem pgs_all (nd : X.N.Nodup) : ∀ {ts : List Expr} {xs : List Str} {own : List (Str × Nat)}, ts.mapM nameOf = some xs → own.map (·.1) = xs → (∀ q ∈ own, StoreOk X q.1 q.2) →
    PGs X ts (gAll (own.map (·.2))) ∧ (assignEach ts X.env).length = own.length ∧ (assignEach ts X.env).findIdx? (·.1) = none
  | [], xs, own, e, e2, _ => by
    rw [List.mapM_nil] at e
    cases e
    have : own = [] := List.map_eq_nil_iff.mp e2
    subst this
    exact ⟨pgs_nil, rfl, rfl⟩
  | t :: ts, xs, own, e, e2, ho => by
    obtain ⟨x, xs', h1, h2, rfl⟩ := mapM_cons_some e
    cases own with
    | nil => cases e2
    | cons q own =>
      rw [List.map_cons] at e2
      injection e2 with e3 e4
      obtain ⟨ih1, ih2, ih3⟩ := pgs_all nd h2 e4 fun z hz => ho z (List.mem_cons_of_mem _ hz)
      have hq := ho q (List.mem_cons_self ..)
      cases t with
      | Name y py =>
        have hy : y = q.1 := (Option.some.inj h1).trans e3.symm
        subst hy
        refine ⟨pgs_cons (pg_name nd hq.N hq.loc hq.fn) ih1 rfl, ?_, ?_⟩
        · show (assignEach ts X.env).length + 1 = own.length + 1
          rw [ih2]
        · show ((false, assign (.Name q.1 py) X.env) :: assignEach ts X.env).findIdx? (·.1) = none
          rw [List.findIdx?_cons, ih3] <;> rfl
      | _ => cases h1
theorem pg_T (nd : X.N.Nodup) (hc : X.calm = true) {N : List Str} {sc : Scope} {tg : Expr} {t : Tg} {own : List (Str × Nat)} (e : cmpT N sc tg = some (t, own)) (ho : ∀ q ∈ own, StoreOk X q.1 q.2) : PG X tg (gT X.K t) ∧ t.slots = own.map (·.2) := by
  unfold cmpT at e
  split at e
  · obtain ⟨i, h1, h2⟩ := Option.map_eq_some_iff.mp e
    cases h2
    have hq := ho _ (List.mem_cons_self ..)
    exact ⟨pg_name nd hq.N hq.loc hq.fn, rfl⟩
  · rename_i es _ _
    cases e1 : es.mapM nameOf with
    | none => rw [e1] at e; cases e
    | some xs =>
      rw [e1] at e
      cases e2 : xs.mapM (ownOf N sc) with
      | none =>
        have e' : (xs.mapM (ownOf N sc)).bind (fun own => (pure (Tg.tp (own.map (·.2)), own) : Option (Tg × List (Str × Nat)))) = some (t, own) := e
        rw [e2] at e'; cases e'
      | some own' =>
        have e' : (xs.mapM (ownOf N sc)).bind (fun own => (pure (Tg.tp (own.map (·.2)), own) : Option (Tg × List (Str × Nat)))) = some (t, own) := e
        rw [e2] at e'
        cases e'
        have hn : ∀ {xs : List Str} {own : List (Str × Nat)}, xs.mapM (ownOf N sc) = some own → own.map (·.1) = xs := by
          intro xs
          induction xs with
          | nil => intro own h; rw [List.mapM_nil] at h; cases h; rfl
          | cons x xs ih =>
            intro own h
            obtain ⟨b, r', h1, h2, rfl⟩ := mapM_cons_some h
            obtain ⟨i, _, hb⟩ := Option.map_eq_some_iff.mp h1
            subst hb
            rw [List.map_cons, ih h2]
        obtain ⟨h1, h2, h3⟩ := pgs_all nd e1 (hn e2) ho
        exact ⟨pg_tup hc h1 (h2.trans (by rw [List.length_map])) h3, rfl⟩
  · cases e
variable {ρ : List Addr} {H : Hp} {σ : Sl} {σv : L2.St}
theorem setAll_ok {K : PySem.W.Frag} {Q : L2.St → Hp → Prop} : ∀ {is : List Nat} {ws : List W} {vs : List V} {σ σ' : Sl} {σv : L2.St}, setAll is ws σ = some σ' → RWs K ρ H ws vs → SR K ρ H σ σv → (∀ σv', SR K ρ H σ' σv' → Q σv' H) → gAll is vs σv H Q
  | [], [], _, σ, σ', σv, e, .nil, S, q => by
    cases e
    exact ⟨rfl, q _ S⟩
  | i :: is, w :: ws, _, σ, σ', σv, e, .cons r rr, S, q => ⟨_, _, rfl, setAll_ok (is := is) e rr (S.set i r) q⟩
  | [], _ :: _, _, _, _, _, e, _, _, _ => by cases e
  | _ :: _, [], _, _, _, _, e, _, _, _ => by cases e
theorem setAll_len : ∀ {is : List Nat} {ws : List W} {σ σ' : Sl}, setAll is ws σ = some σ' → ws.length = is.length
  | [], [], _, _, _ => rfl
  | _ :: is, _ :: ws, σ, σ', e => congrArg Nat.succ (setAll_len (is := is) e)
  | [], _ :: _, _, _, e => by cases e
  | _ :: _, [], _, _, e => by cases e
theorem bindT_ok {K : PySem.W.Frag} {Q : L2.St → Hp → Prop} {t : Tg} {w : W} {v : V} {h : Hh} {σ' : Sl} (e : bindT t w h σ = some σ') (r : RW K ρ H w v) (S : SR K ρ H σ σv) (q : ∀ σv', SR K ρ H σ' σv' → Q σv' H) : gT K t v σv H Q := by
  unfold bindT at e
  cases t with
  | nm i => cases e; exact q _ (S.set i r)
  | tp is =>
    simp only at e
    split at e
    · cases r with
      | tup hs rr => exact ⟨_, _, rfl, hs, by rw [← rr.length]; exact setAll_len e, setAll_ok e rr S q⟩
    · cases e
end
/-! ### a block's own slots -/
theorem wipe_get (σ : L2.St) : ∀ (vs : List Nat) (j : Nat), (L2.wipe σ vs)[j]? = if j ∈ vs ∧ j < σ.length then some none else σ[j]?
  | [], j => by simp [L2.wipe]
  | v :: vs, j => by
    unfold L2.wipe
    by_cases hv : v = j
    · subst hv
      by_cases hl : v < σ.length
      · rw [List.getElem?_set_self (by rw [wipe_length]; exact hl), if_pos ⟨by simp, hl⟩]
      · rw [List.getElem?_eq_none (by rw [List.length_set, wipe_length]; omega), if_neg (fun z => hl z.2), List.getElem?_eq_none (by omega)]
    · rw [List.getElem?_set_ne hv, wipe_get σ vs j]
      have : (j ∈ v :: vs) ↔ j ∈ vs := by
        rw [List.mem_cons]
        exact ⟨fun z => z.elim (fun y => absurd y.symm hv) id, .inr⟩
      simp only [this]
theorem wipe_again {σ τ : L2.St} {vs : List Nat} (hl : τ.length = σ.length) (h : ∀ j, j ∉ vs → τ[j]? = (L2.wipe σ vs)[j]?) : L2.wipe τ vs = L2.wipe σ vs := by
  apply List.ext_getElem?
  intro j
  rw [wipe_get τ vs j]
  by_cases hj : j ∈ vs
  · rw [wipe_get σ vs j, hl]
    by_cases hl2 : j < σ.length
    · rw [if_pos ⟨hj, hl2⟩, if_pos ⟨hj, hl2⟩]
    · rw [if_neg (fun z => hl2 z.2), if_neg (fun z => hl2 z.2), List.getElem?_eq_none (by omega), List.getElem?_eq_none (by omega)]
  · rw [if_neg (fun z => hj z.1), h j hj]
/-- a store into a target's slots, and nothing else -/
def OnlyAt (is : List Nat) (τ τ' : L2.St) : Prop := τ'.length = τ.length ∧ ∀ j, j ∉ is → τ'[j]? = τ[j]?
theorem OnlyAt.set {is : List Nat} {τ τ' : L2.St} {i : Nat} {x : Option V} (o : OnlyAt is τ τ') (hi : i ∈ is) : OnlyAt is τ (τ'.set i x) := ⟨by rw [List.length_set]; exact o.1, fun j hj => by
  rw [List.getElem?_set_ne (fun e : i = j => hj (by rw [← e]; exact hi))]; exact o.2 j hj⟩
theorem gAll_only {is0 : List Nat} {τ : L2.St} {Q : L2.St → Hp → Prop} {H : Hp} : ∀ {is : List Nat} {vs : List V} {τ' : L2.St}, (∀ i ∈ is, i ∈ is0) → OnlyAt is0 τ τ' → gAll is vs τ' H Q → gAll is vs τ' H (fun τ2 H2 => OnlyAt is0 τ τ2 ∧ Q τ2 H2)
  | [], _, _, _, o, ⟨e, q⟩ => ⟨e, o, q⟩
  | i :: is, _, _, hs, o, ⟨v, r, e, q⟩ => ⟨v, r, e, gAll_only (is := is) (fun j hj => hs j (List.mem_cons_of_mem _ hj)) (o.set (hs i (List.mem_cons_self ..))) q⟩
theorem gT_only {K : PySem.W.Frag} {t : Tg} {v : V} {τ : L2.St} {H : Hp} {Q : L2.St → Hp → Prop} (q : gT K t v τ H Q) : gT K t v τ H (fun τ2 H2 => OnlyAt t.slots τ τ2 ∧ Q τ2 H2) := by
  cases t with
  | nm i => exact ⟨OnlyAt.set ⟨rfl, fun _ _ => rfl⟩ (List.mem_cons_self ..), q⟩
  | tp is =>
    obtain ⟨a, xs, e, hs, hl, q⟩ := q
    exact ⟨a, xs, e, hs, hl, gAll_only (fun _ h => h) ⟨rfl, fun _ _ => rfl⟩ q⟩
/-! ### comprehensions -/
section
variable {X : Cx} {tg iter elt : Expr} {ifs : List Expr} {scope : Scope} {own : List (Str × Nat)} {pos : Pos}
/-- over all blocks of this text -/
abbrev InBlk (X : Cx) (scope : Scope) (G : Cx → Prop) : Prop := ∀ (s : Shared) (H : Hp) (C : Addr) (cl : List (Str × Addr)) (fp : List Addr), G (X.blk s H scope (compEnvC scope cl C X.env) fp)
def teB (X : Cx) (scope : Scope) (elt : Expr) : TE := fun σ H Q => InBlk X scope fun Y => sem Y elt σ H Q
def ttB (X : Cx) (scope : Scope) : List Expr → TT
  | [] => tYes
  | [c] => fun σ H Q => InBlk X scope fun Y => semT Y c σ H Q
  | _ => fun _ _ _ => False
def APB (X : Cx) (scope : Scope) (ifs : List Expr) (f : Sl → Hh → Res Bool) : Prop := match ifs with
  | [] => f = fun _ h => .ok true h
  | [c] => InBlk X scope fun Y => AT Y c f
  | _ => False
theorem pts_B {ifs : List Expr} (s : Shared) (H : Hp) (C : Addr) (cl : List (Str × Addr)) (fp : List Addr) (hi : ifs.length ≤ 1) : PTs (X.blk s H scope (compEnvC scope cl C X.env) fp) ifs (ttB X scope ifs) := by
  match ifs, hi with
  | [], _ => exact pts_nil
  | [c], _ => exact pts_one ⟨fun pins s1 σ H1 Q I h => (h s H C cl fp) pins s1 I⟩
theorem lc_read {t : Tg} {fk : Sl → Hh → Res Wk} {fp : Sl → Hh → Res Bool} {fe : Sl → Hh → Res W} (hr : AR X tg iter fk) (hp : APB X scope ifs fp) (he : InBlk X scope fun Y => AE Y elt fe) (hsl : t.slots = own.map (·.2))
    {σ : Sl} {h : Hh} {ρ : List Addr} {σv : L2.St} {H : Hp} {Q : VK} (S : SR X.K ρ H σ σv) (R : HR X.K ρ h H) (p0 : PostW X.K ρ H ((fk σ h).bind fun k h1 =>
      if k.size h1 < lim then
        (lcGo k (fun w h' => bindT t w h' (wipeW σ t.slots)) fp fe h1.length (k.size h1 + 1) 0 (h1 ++ [.lst []])).bind fun _ h2 => .ok (.ref h1.length) h2
      else .bad) Q) : tLc (semP X tg iter) (gT X.K t) (ttB X scope ifs) (teB X scope elt) (own.map (·.2)) σv H Q := by
  refine hr _ _ _ _ _ _ S R (p0.bind.mono (Ext.refl _ _) fun J H1 ⟨k, h1, ρ1, _, e1, R1, r1, p1⟩ => fun D hD => ?_)
  split at p1
  · rename_i hz
    obtain ⟨R2, e2, rD⟩ := R1.alloc (ws := []) hD .nil
    have hρD : (ρ1 ++ [D])[h1.length]? = some D := by cases rD; assumption
    refine ⟨fun i m H' => ∃ h' ρ', HR X.K ρ' h' H' ∧ Ext (ρ1 ++ [D]) (upd H1 D (.lst [])) ρ' H' ∧ PostW X.K ρ' H' ((lcGo k (fun w h' => bindT t w h' (wipeW σ t.slots)) fp fe h1.length m i h').bind fun _ h2 => .ok (.ref h1.length) h2) Q, ⟨k.size h1 + 1, _, _, R2, Ext.refl _ _, p1.mono e2 fun _ _ z => z⟩, ?_⟩
    rintro i m H' ⟨h', ρ', R', e', p⟩
    cases m with
    | zero => exact p.elim
    | succ n =>
      unfold lcGo at p
      have rk : ItR X.K ρ' H' k J := r1.mono (e2.trans e')
      split at p
      · exact p.elim
      · rename_i eat
        exact .inl ⟨rk.stop R' eat, p.here R' (.ref (e'.pre _ _ hρD))⟩
      · rename_i w eat
        obtain ⟨hgo, hyld⟩ := rk.go R' eat
        refine .inr ⟨hgo, fun H3 => ∃ m', m' < n + 1 ∧ ∃ h' ρ', HR X.K ρ' h' H3 ∧ Ext (ρ1 ++ [D]) (upd H1 D (.lst [])) ρ' H3 ∧ PostW X.K ρ' H3 ((lcGo k (fun w h' => bindT t w h' (wipeW σ t.slots)) fp fe h1.length m' (i + 1) h').bind fun _ h2 => .ok (.ref h1.length) h2) Q, fun _ z => z, fun x H3 y => ?_⟩
        obtain ⟨ρ3, e3, R3, r3⟩ := hyld x H3 y
        split at p
        · exact p.elim
        · rename_i σ' eb
          have S3 : SR X.K ρ3 H3 (wipeW σ t.slots) (L2.wipe σv (own.map (·.2))) := by
            rw [← hsl]
            exact ((((S.mono e1).mono e2).mono e').mono e3).wipe t.slots
          have hon := gT_only (bindT_ok (K := X.K) (t := t) (Q := fun σ2 H2 => ttB X scope ifs σ2 H2 fun b H4 =>
            if b = true then teB X scope elt σ2 H4 fun y H5 => ∃ acc, H5 D = some (.lst acc) ∧ acc.length < sizeLine ∧ ∃ m', m' < n + 1 ∧ ∃ h' ρ', HR X.K ρ' h' (upd H5 D (.lst (acc ++ [y]))) ∧ Ext (ρ1 ++ [D]) (upd H1 D (.lst [])) ρ' (upd H5 D (.lst (acc ++ [y]))) ∧ PostW X.K ρ' (upd H5 D (.lst (acc ++ [y]))) ((lcGo k (fun w h' => bindT t w h' (wipeW σ t.slots)) fp fe h1.length m' (i + 1) h').bind fun _ h2 => .ok (.ref h1.length) h2) Q
            else ∃ m', m' < n + 1 ∧ ∃ h' ρ', HR X.K ρ' h' H4 ∧ Ext (ρ1 ++ [D]) (upd H1 D (.lst [])) ρ' H4 ∧ PostW X.K ρ' H4 ((lcGo k (fun w h' => bindT t w h' (wipeW σ t.slots)) fp fe h1.length m' (i + 1) h').bind fun _ h2 => .ok (.ref h1.length) h2) Q) eb r3 S3 fun σv' S4 => ?_)
          · cases t with
            | nm i0 =>
              refine ⟨wipe_again (by rw [hon.1.1, wipe_length]) fun j hj => ?_, hon.2⟩
              exact hon.1.2 j (by rw [hsl]; exact hj)
            | tp is =>
              obtain ⟨a, xs, ex, hs, hl, q⟩ := hon
              refine ⟨a, xs, ex, hs, hl, ?_⟩
              have im : ∀ {is : List Nat} {vs : List V} {τ : L2.St} {G G' : L2.St → Hp → Prop}, (∀ τ2 H2, G τ2 H2 → G' τ2 H2) → gAll is vs τ H3 G → gAll is vs τ H3 G' := by
                intro is
                induction is with
                | nil => intro vs τ G G' hg q; exact ⟨q.1, hg _ _ q.2⟩
                | cons i is ih => intro vs τ G G' hg q; obtain ⟨v, r, e, q⟩ := q; exact ⟨v, r, e, ih hg q⟩
              exact im (fun τ2 H2 ⟨o, q⟩ => ⟨wipe_again (by rw [o.1, wipe_length]) fun j hj => o.2 j (by rw [hsl]; exact hj), q⟩) q
          · -- the test, then the element
            rw [Res.bind_assoc] at p
            have pm := p.mono e3 fun _ _ z => z
            have fin : ∀ b h4 ρ4 H4, Ext ρ3 H3 ρ4 H4 → HR X.K ρ4 h4 H4 → PostW X.K ρ4 H4 ((lcStep (lcGo k (fun w h' => bindT t w h' (wipeW σ t.slots)) fp fe h1.length n (i + 1)) (fe σ') h1.length b h4).bind fun _ h2 => (.ok (.ref h1.length) h2 : Res W)) Q →
              if b = true then teB X scope elt σv' H4 fun y H5 => ∃ acc, H5 D = some (.lst acc) ∧ acc.length < sizeLine ∧ ∃ m', m' < n + 1 ∧ ∃ h' ρ', HR X.K ρ' h' (upd H5 D (.lst (acc ++ [y]))) ∧ Ext (ρ1 ++ [D]) (upd H1 D (.lst [])) ρ' (upd H5 D (.lst (acc ++ [y]))) ∧ PostW X.K ρ' (upd H5 D (.lst (acc ++ [y]))) ((lcGo k (fun w h' => bindT t w h' (wipeW σ t.slots)) fp fe h1.length m' (i + 1) h').bind fun _ h2 => .ok (.ref h1.length) h2) Q
              else ∃ m', m' < n + 1 ∧ ∃ h' ρ', HR X.K ρ' h' H4 ∧ Ext (ρ1 ++ [D]) (upd H1 D (.lst [])) ρ' H4 ∧ PostW X.K ρ' H4 ((lcGo k (fun w h' => bindT t w h' (wipeW σ t.slots)) fp fe h1.length m' (i + 1) h').bind fun _ h2 => .ok (.ref h1.length) h2) Q := by
              intro b h4 ρ4 H4 e4 R4 p4
              cases b with
              | false =>
                rw [if_neg Bool.false_ne_true]
                exact ⟨n, Nat.lt_succ_self n, h4, ρ4, R4, (e'.trans e3).trans e4, p4⟩
              | true =>
                rw [if_pos rfl]
                intro s0 H0 C0 cl0 fp0
                unfold lcStep at p4
                rw [Res.bind_assoc] at p4
                refine (he s0 H0 C0 cl0 fp0).go (S4.mono e4) R4 p4 fun y h5 ρ5 u H5 e5 R5 r5 p6 => ?_
                unfold lcPut at p6
                split at p6
                · rename_i acc el
                  split at p6
                  · rename_i hl
                    have hρ5 := e5.pre _ _ (e4.pre _ _ (e3.pre _ _ (e'.pre _ _ hρD)))
                    obtain ⟨a, vs, e6, hρ6, ha, rr⟩ := R5.lst el (.ref hρ5)
                    cases e6
                    obtain ⟨R6, e7⟩ := R5.put hρ5 ha (rr.append (.cons r5 .nil))
                    exact ⟨vs, ha, lim_lt (by rw [← rr.length]; exact hl), n, Nat.lt_succ_self n, _, ρ5, R6, (((e'.trans e3).trans e4).trans e5).trans e7, p6.mono e7 fun _ _ z => z⟩
                  · exact p6.elim
                · exact p6.elim
            match ifs, hp with
            | [], hp =>
              have hf : fp = fun _ h => .ok true h := hp
              have hf2 : fp σ' h' = .ok true h' := by rw [hf]
              rw [hf2, Res.bind_ok] at pm
              exact fin true h' ρ3 H3 (Ext.refl _ _) R3 pm
            | [c], hp =>
              intro s0 H0 C0 cl0 fp0
              exact AT.go (hp s0 H0 C0 cl0 fp0) S4 R3 pm fun b h4 ρ4 H4 e4 R4 p4 => fin b h4 ρ4 H4 e4 R4 p4
            | _ :: _ :: _, hp => exact hp.elim
  · exact p1.elim
end
end Z
set_option maxHeartbeats 8000000
/-! Z6: the code that cmpE gives computes what the text does. -/
namespace Z
open PySem PySem.Spec PyProof.Rows L2

theorem dbg_of {x : Str} (h : dbg x = false) : (x == ("__debug__" : Str)) = false ∧ (x == ("__classdict__" : Str)) = false ∧ x ≠ ("__name__" : Str) := by
  unfold dbg at h
  rw [Bool.or_eq_false_iff, Bool.or_eq_false_iff] at h
  exact ⟨h.1.1, h.1.2, fun e => by rw [e] at h; exact absurd h.2 (by simp)⟩
theorem findIdx_get {N : List Str} {x : Str} {i : Nat} (h : N.findIdx? (· == x) = some i) : N[i]? = some x := by
  obtain ⟨hi, h1, _⟩ := List.findIdx?_eq_some_iff_getElem.mp h
  have : N[i] = x := by simpa using h1
  rw [List.getElem?_eq_getElem hi, this]
theorem varIx_ok {N : List Str} {sc : Scope} {x : Str} {i : Nat} (h : varIx N sc x = some i) : N[i]? = some x ∧ Vis sc x ∧ dbg x = false := by
  unfold varIx at h
  split at h
  · rename_i e
    split at h
    · cases h
    · rename_i hd; exact ⟨findIdx_get h, .inl e, by simpa using hd⟩
  · rename_i e
    split at h
    · cases h
    · rename_i hd; exact ⟨findIdx_get h, .inr (.inl e), by simpa using hd⟩
  · rename_i e
    split at h
    · cases h
    · rename_i hd; exact ⟨findIdx_get h, .inr (.inr e), by simpa using hd⟩
  · cases h
theorem locIx_ok {N : List Str} {sc : Scope} {x : Str} {i : Nat} (h : locIx N sc x = some i) : N[i]? = some x ∧ Loc sc x := by
  unfold locIx at h
  split at h
  · rename_i e
    split at h
    · cases h
    · exact ⟨findIdx_get h, .inl e⟩
  · rename_i e
    split at h
    · cases h
    · exact ⟨findIdx_get h, .inr e⟩
  · cases h
section
variable {X : Cx} {c : Cc} {F : CallEnv} {a b d e : Expr} {es : List Expr} {pos p : Pos} {f g k : Sl → Hh → Res W} {fs gs : Sl → Hh → Res (List W)} {t : Sl → Hh → Res Bool}
theorem gl_ok (C : Ctx X c F) {x : Str} (h : isGl c.sc x = true) : Gl X x ∧ dbg x = false := by
  unfold isGl at h
  rw [Bool.and_eq_true] at h
  have e : c.sc.names.lookup x = some .globalImplicit := by simpa using h.1
  refine ⟨?_, by simpa using h.2⟩
  show X.env.scope.names.lookup x = some .globalImplicit
  rw [C.sc]; exact e
theorem at_tru (he : ∀ whole, isTrue a X.env whole = (do let v ← whole; standAt a.pos; holding [v] (truthy v))) (ha : AE X a f) : AT X a (fun σ h => (f σ h).bind fun x h1 => optR (truW h1 x) h1) := fun σ h ρ σv H Q S R p =>
  PT.use (pt_truth (PE.sem X a) he) (ha.go S R p fun x h1 ρ1 v H1 e1 R1 r1 p1 => by
    obtain ⟨k, e, p2⟩ := optR_post p1
    exact ⟨k, tru_of R1 r1 e, p2.here R1 rfl⟩)
theorem ae_var {i : Nat} {x : Str} (C : Ctx X c F) (h : varIx c.N c.sc x = some i) : AE X (.Name x pos) (ev F (.var i)) := fun σ h' ρ σv H Q S R p0 => by
  obtain ⟨h1, h2, h3⟩ := varIx_ok h
  obtain ⟨d1, d2, _⟩ := dbg_of h3
  refine PE.use (pe_var (i := i) (by rw [C.N]; exact h1) (by rw [C.sc]; exact h2) d1 d2) ?_
  unfold ev at p0
  split at p0
  · rename_i w e
    obtain ⟨v, e1, r⟩ := S.at_ i w e
    exact ⟨v, e1, p0.here R r⟩
  · exact p0.elim
theorem ae_con {w : W} {e : Expr} {v : V} (h : PE X e (tC v)) (r : ∀ ρ H, RW X.K ρ H w v) : AE X e (ev F (.con w)) := fun σ h' ρ σv H Q S R p0 => by
  unfold ev at p0
  exact PE.use h (p0.here R (r _ _))
theorem evs_len (F : CallEnv) : ∀ (irs : List Ex) (σ : Sl) (h : Hh) (ws : List W) (h1 : Hh), evs F irs σ h = .ok ws h1 → ws.length = irs.length
  | [], σ, h, ws, h1, e => by
    unfold evs at e
    cases e; rfl
  | ir :: irs, σ, h, ws, h1, e => by
    unfold evs at e
    cases e1 : ev F ir σ h with
    | bad => rw [e1] at e; cases e
    | ok x h2 =>
      rw [e1, Res.bind_ok] at e
      cases e2 : evs F irs σ h2 with
      | bad => rw [e2] at e; cases e
      | ok xs h3 =>
        rw [e2, Res.bind_ok] at e
        cases e
        rw [List.length_cons, List.length_cons, evs_len F irs _ _ _ _ e2]
theorem ns_of {n : Nat} {ir : Ex} (h : cmpE n c e = some ir) : NS e := by
  cases n with
  | zero => simp [cmpE] at h
  | succ n =>
    cases e with
    | Starred v p => simp [cmpE] at h
    | _ => intro es env; rfl
/-- what is shown of an expression -/
structure Ok3 (X : Cx) (F : CallEnv) (e : Expr) (ir : Ex) : Prop where
  ns : NS e
  ae : AE X e (ev F ir)
  at_ : AT X e (evT F ir)
  aw : ∀ op vs pos, e = .BoolOp op vs pos → AW X e (evT F ir)
theorem aa_all {n : Nat} {c : Cc} {F : CallEnv} (ih : ∀ e ir, cmpE n c e = some ir → Ok3 X F e ir) : ∀ (es : List Expr) (irs : List Ex), es.mapM (cmpE n c) = some irs → AA X es (evs F irs) ∧ (∀ e ∈ es, NS e) ∧ irs.length = es.length
  | [], irs, h => by
    rw [List.mapM_nil] at h
    cases h
    exact ⟨aa_nil, (fun _ z => nomatch z), rfl⟩
  | e :: es, irs, h => by
    obtain ⟨ir, irs', h1, h2, rfl⟩ := mapM_cons_some h
    obtain ⟨i1, i2, i3⟩ := aa_all ih es irs' h2
    have o := ih e ir h1
    refine ⟨aa_cons (o.ns _ _) o.ae i1, fun z hz => ?_, congrArg Nat.succ i3⟩
    rcases List.mem_cons.mp hz with rfl | hz
    · exact o.ns
    · exact i2 z hz
theorem ak_all {n : Nat} {c : Cc} {F : CallEnv} (ih : ∀ e ir, cmpE n c e = some ir → Ok3 X F e ir) : ∀ (es : List Keyword) (irs : List Ex), es.mapM (fun k => cmpE n c k.value) = some irs → AKw X es (evs F irs) ∧ irs.length = es.length
  | [], irs, h => by
    rw [List.mapM_nil] at h
    cases h
    exact ⟨ak_nil, rfl⟩
  | ⟨nm, e, kp⟩ :: es, irs, h => by
    obtain ⟨ir, irs', h1, h2, rfl⟩ := mapM_cons_some h
    obtain ⟨i1, i3⟩ := ak_all ih es irs' h2
    exact ⟨ak_cons (ih e ir h1).ae i1, congrArg Nat.succ i3⟩
theorem at_bad {e : Expr} : AT X e (fun _ _ => .bad) := fun σ h ρ σv H Q S R p => p.elim
theorem Ctx.blk (C : Ctx X c F) {scope : Scope} (hk : scope.kind = .function) : InBlk X scope fun Y => Ctx Y { c with sc := relS scope c.sc } F := fun s H A cl fp =>
  { N := C.N, nd := C.nd, sc := by show relS scope X.env.scope = _; rw [C.sc], kind := hk, calm := C.calm, xe := rfl, hu := C.hu, free := C.free, cs := C.cs,
    fn := fun x i np ks h => by
      obtain ⟨d, a, fd, ps, q⟩ := C.fn x i np ks h
      exact ⟨d, a, fd, ps, ⟨q.ok, q.room, q.mg, q.kp, q.bn, q.b0⟩⟩ }
theorem mtFind_ok {x : Str} {k : Nat} {m : Mt} (h : mtFind x k = some m) : x = (mtN m).1 ∧ ((k = 0 ∧ (m = .pop ∨ m = .reverse)) ∨ (k = 1 ∧ (m = .append ∨ m = .extend))) := by
  unfold mtFind at h
  have q := List.find?_some h
  rw [Bool.and_eq_true] at q
  have e : (mtN m).1 = x := by simpa using q.1
  refine ⟨e.symm, ?_⟩
  have q2 := q.2
  cases m
  · exact .inr ⟨by simpa using q2, .inl rfl⟩
  · exact .inl ⟨by simpa using q2, .inl rfl⟩
  · exact .inl ⟨by simpa using q2, .inr rfl⟩
  · exact .inr ⟨by simpa using q2, .inr rfl⟩
theorem tyFind_ok {x : Str} {t : Ty} (h : tyFind x = some t) : x = tyS t ∧ x ∈ frees := by
  unfold tyFind at h
  have q := List.find?_some h
  have e : tyS t = x := by simpa using q
  refine ⟨e.symm, ?_⟩
  rw [← e]
  cases t <;> decide +kernel
theorem biFind_ok {x : Str} {k : Nat} {b : Bi} (h : biFind x k = some b) : x = biN b ∧ x ∈ frees := by
  unfold biFind at h
  have q := List.find?_some h
  rw [Bool.and_eq_true] at q
  have e : biN b = x := by simpa using q.1
  refine ⟨e.symm, ?_⟩
  rw [← e]
  cases b <;> decide +kernel
theorem opt_bind2 {α β γ : Type} {x : Option α} {y : Option β} {f : α → β → γ} {r : γ} (h : (do let a ← x; let b ← y; pure (f a b)) = some r) : ∃ a b, x = some a ∧ y = some b ∧ f a b = r := by
  cases x with
  | none => cases h
  | some a =>
    cases y with
    | none => cases h
    | some b => cases h; exact ⟨a, b, rfl, rfl, rfl⟩
theorem opt_bind3 {α β γ δ : Type} {x : Option α} {y : Option β} {z : Option γ} {f : α → β → γ → δ} {r : δ} (h : (do let a ← x; let b ← y; let c ← z; pure (f a b c)) = some r) : ∃ a b c, x = some a ∧ y = some b ∧ z = some c ∧ f a b c = r := by
  cases x with
  | none => cases h
  | some a =>
    cases y with
    | none => cases h
    | some b =>
      cases z with
      | none => cases h
      | some c => cases h; exact ⟨a, b, c, rfl, rfl, rfl, rfl⟩
theorem evT_cases (F : CallEnv) (ir : Ex) (h : ∀ a, ir ≠ .not a) (h2 : ∀ a b, ir ≠ .and a b) (h3 : ∀ a b, ir ≠ .or a b) (h4 : ∀ o a b, ir ≠ .cmp o a b) (h5 : ∀ o o' a b c, ir ≠ .chn o o' a b c) (h6 : ∀ i, ir ≠ .var i) (h7 : ∀ t e, ir ≠ .isi t e) (h8 : ∀ f e k, ir ≠ .call f e k) : evT F ir = fun _ _ => .bad := by
  funext σ h'
  cases ir
  all_goals first
    | rfl
    | exact absurd rfl (h _)
    | exact absurd rfl (h2 _ _)
    | exact absurd rfl (h3 _ _)
    | exact absurd rfl (h4 _ _ _)
    | exact absurd rfl (h5 _ _ _ _ _)
    | exact absurd rfl (h6 _)
    | exact absurd rfl (h7 _ _)
    | exact absurd rfl (h8 _ _ _)
theorem ok3_plain {e : Expr} {ir : Ex} (ns : NS e) (ha : AE X e (ev F ir)) (hb : evT F ir = fun _ _ => .bad) (hn : ∀ op vs pos, e ≠ .BoolOp op vs pos) : Ok3 X F e ir := ⟨ns, ha, by rw [hb]; exact at_bad, fun op vs pos z => absurd z (hn op vs pos)⟩
theorem cmpT_slots {N : List Str} {sc : Scope} {tg : Expr} {t : Tg} {own : List (Str × Nat)} (e : cmpT N sc tg = some (t, own)) : t.slots = own.map (·.2) := by
  unfold cmpT at e
  split at e
  · obtain ⟨i, h1, h2⟩ := Option.map_eq_some_iff.mp e
    cases h2
    rfl
  · rename_i es _ _
    cases e1 : es.mapM nameOf with
    | none => rw [e1] at e; cases e
    | some xs =>
      rw [e1] at e
      have e' : (xs.mapM (ownOf N sc)).bind (fun own => (pure (Tg.tp (own.map (·.2)), own) : Option (Tg × List (Str × Nat)))) = some (t, own) := e
      cases e2 : xs.mapM (ownOf N sc) with
      | none => rw [e2] at e'; cases e'
      | some own' => rw [e2] at e'; cases e'; rfl
  · cases e
theorem cmpT_own {N : List Str} {sc : Scope} {tg : Expr} {t : Tg} {own : List (Str × Nat)} (e : cmpT N sc tg = some (t, own)) (q : Str × Nat) (hq : q ∈ own) : locIx N sc q.1 = some q.2 := by
  unfold cmpT at e
  split at e
  · obtain ⟨i, h1, h2⟩ := Option.map_eq_some_iff.mp e
    cases h2
    rw [List.mem_singleton.mp hq]
    exact h1
  · rename_i es _ _
    cases e1 : es.mapM nameOf with
    | none => rw [e1] at e; cases e
    | some xs =>
      rw [e1] at e
      have e' : (xs.mapM (ownOf N sc)).bind (fun own => (pure (Tg.tp (own.map (·.2)), own) : Option (Tg × List (Str × Nat)))) = some (t, own) := e
      cases e2 : xs.mapM (ownOf N sc) with
      | none => rw [e2] at e'; cases e'
      | some own' =>
        rw [e2] at e'
        cases e'
        have go : ∀ {xs : List Str} {own : List (Str × Nat)}, xs.mapM (ownOf N sc) = some own → ∀ q ∈ own, locIx N sc q.1 = some q.2 := by
          intro xs
          induction xs with
          | nil => intro own h q hq; rw [List.mapM_nil] at h; cases h; cases hq
          | cons x xs ih =>
            intro own h q hq
            obtain ⟨b, r', g1, g2, rfl⟩ := mapM_cons_some h
            obtain ⟨i, g3, g4⟩ := Option.map_eq_some_iff.mp g1
            subst g4
            rcases List.mem_cons.mp hq with rfl | hq
            · exact g3
            · exact ih g2 q hq
        exact go e2 q hq
  · cases e
/-- what is shown for a depth -/
structure IH (n : Nat) : Prop where
  e : ∀ X c F e ir, Ctx X c F → cmpE n c e = some ir → Ok3 X F e ir
  o : ∀ X c F o ir, Ctx X c F → cmpO n c o = some ir → AO X o (evO F ir)
  p : ∀ X c F scope ifs p, Ctx X c F → scope.kind = .function → cmpP n { c with sc := relS scope c.sc } ifs = some p → APB X scope ifs (evP F p) ∧ ifs.length ≤ 1
  r : ∀ X c F tg e ir, Ctx X c F → cmpR n c e = some ir → AR X tg e (evR F ir) ∧ ∀ x, foldedSetIterable e X.env x = pure x
theorem step_call {n : Nat} (I : IH n) (C : Ctx X c F) {f : Str} {args : List Expr} {kws : List Keyword} {ir : Ex} (hgl : isGl c.sc f = true) {i np : Nat} {ks : List Str} (hf : c.fx.lookup f = some (i, np, ks))
    (h : (if args.length == np && decide (0 < np) && kws.map (·.arg) == ks.map some then do
          let es ← args.mapM (cmpE n c)
          let zs ← kws.mapM fun k => cmpE n c k.value
          pure (.call i es zs)
        else none) = some ir) : Ok3 X F (.Call (.Name f p) args kws pos) ir := by
  split at h
  · rename_i hc
    rw [Bool.and_eq_true, Bool.and_eq_true] at hc
    obtain ⟨es, zs, h1, h2, rfl⟩ := opt_bind2 h
    obtain ⟨a1, a2, a3⟩ := aa_all (fun e ir q => I.e X c F e ir C q) args es h1
    obtain ⟨k1, k3⟩ := ak_all (fun e ir q => I.e X c F e ir C q) kws zs h2
    obtain ⟨d, a, fd, ps, fh⟩ := C.fn f i np ks hf
    obtain ⟨g1, g2⟩ := gl_ok C hgl
    have hnp : args.length = np := by simpa using hc.1.1
    have hks : kws.map (·.arg) = ks.map some := by simpa using hc.2
    have ae : AE X (.Call (.Name f p) args kws pos) (ev F (.call i es zs)) := by
      cases args with
      | nil =>
        have := hc.1.2
        simp at this hnp
        omega
      | cons e0 es0 =>
        exact ae_call fh g1 (dbg_of g2).1 a1 k1 (fun σ h ws h1 q => by rw [evs_len F es σ h ws h1 q, a3]; exact hnp) (fun σ h ws h1 q => by
          rw [evs_len F zs σ h ws h1 q, k3]
          have := congrArg List.length hks
          rw [List.length_map, List.length_map] at this
          exact this) a2 hks
    refine ⟨fun _ _ => rfl, ae, ?_, fun op vs pos z => nomatch z⟩
    have at0 := at_tru (fun _ => rfl) ae
    have e : (fun σ h => (ev F (.call i es zs) σ h).bind fun x h1 => optR (truW h1 x) h1) = evT F (.call i es zs) := by
      funext σ h'
      show ((evs F es σ h').bind fun ws h1 => (evs F zs σ h1).bind fun us h2 => F i (ws ++ us) h2).bind (fun x h1 => optR (truW h1 x) h1) = _
      rw [Res.bind_assoc]
      show _ = (evs F es σ h').bind fun ws h1 => (evs F zs σ h1).bind fun us h2 => (F i (ws ++ us) h2).bind fun x h3 => optR (truW h3 x) h3
      congr 1
      funext ws h1
      rw [Res.bind_assoc]
    rw [← e]
    exact at0
  · cases h
theorem step_bi {n : Nat} (I : IH n) (C : Ctx X c F) {f : Str} {args : List Expr} {b : Bi} {es : List Ex} (hgl : isGl c.sc f = true) (hb : biFind f args.length = some b) (h : args.mapM (cmpE n c) = some es) : Ok3 X F (.Call (.Name f p) args [] pos) (.bi b es) := by
  obtain ⟨a1, a2, a3⟩ := aa_all (fun e ir q => I.e X c F e ir C q) args es h
  obtain ⟨g1, g2⟩ := gl_ok C hgl
  obtain ⟨b1, b2⟩ := biFind_ok hb
  refine ok3_plain (fun _ _ => rfl) ?_ rfl fun op vs pos z => nomatch z
  cases args with
  | nil =>
    exfalso
    unfold biFind at hb
    have q := List.find?_some hb
    rw [Bool.and_eq_true] at q
    have := q.2
    cases b <;> simp [biK] at this
  | cons e0 es0 => exact ae_bi C.calm b b1 g1 (C.free _ b2) a2 a1
theorem step_isi {n : Nat} (I : IH n) (C : Ctx X c F) {f T : Str} {p2 : Pos} {t : Ty} {x : Ex} (hgl : isGl c.sc f = true) (hgT : isGl c.sc T = true) (hi : f = "isinstance") (ht : tyFind T = some t) (h1 : cmpE n c e = some x) : Ok3 X F (.Call (.Name f p) [e, .Name T p2] [] pos) (.isi t x) := by
  obtain ⟨g1, g2⟩ := gl_ok C hgl
  obtain ⟨g3, g4⟩ := gl_ok C hgT
  obtain ⟨t1, t2⟩ := tyFind_ok ht
  have o := I.e _ _ _ _ _ C h1
  have ae : AE X (.Call (.Name f p) [e, .Name T p2] [] pos) (ev F (.isi t x)) := ae_isi hi t1 g1 (C.free _ (by rw [hi]; decide +kernel)) g3 (C.free _ t2) o.ns o.ae
  refine ⟨fun _ _ => rfl, ae, ?_, fun op vs pos z => nomatch z⟩
  have at0 := at_tru (fun _ => rfl) ae
  have ee : (fun σ h => (ev F (.isi t x) σ h).bind fun x h1 => optR (truW h1 x) h1) = evT F (.isi t x) := by
    funext σ h'
    show ((ev F x σ h').bind fun y h1 => optR ((isiW h1 t y).map .bl) h1).bind (fun x h1 => optR (truW h1 x) h1) = (ev F x σ h').bind fun y h1 => optR (isiW h1 t y) h1
    rw [Res.bind_assoc]
    congr 1
    funext y h1
    cases isiW h1 t y <;> rfl
  rw [← ee]
  exact at0
theorem step_e {n : Nat} (I : IH n) : ∀ X c F e ir, Ctx X c F → cmpE (n + 1) c e = some ir → Ok3 X F e ir := by
  intro X c F e ir C h
  simp only [cmpE] at h
  split at h
  · -- Name
    rename_i x pos
    split at h
    · rename_i i hi
      cases h
      refine ⟨fun _ _ => rfl, ae_var C hi, ?_, fun op vs pos z => nomatch z⟩
      have at0 := at_tru (a := .Name x pos) (fun _ => rfl) (ae_var (pos := pos) C hi)
      have e : (fun σ h => (ev F (.var i) σ h).bind fun x h1 => optR (truW h1 x) h1) = evT F (.var i) := by
        funext σ h'
        show (match σ[i]? with
          | some (some w) => Res.ok w h'
          | _ => (Res.bad : Res W)).bind (fun x h1 => optR (truW h1 x) h1) = (match σ[i]? with
          | some (some w) => optR (truW h' w) h'
          | _ => Res.bad)
        split <;> rfl
      rw [← e]
      exact at0
    · split at h
      · rename_i hg
        obtain ⟨w, h1, rfl⟩ := Option.map_eq_some_iff.mp h
        obtain ⟨v, u, m1, r1, r2⟩ := C.cs x w h1
        obtain ⟨g1, g2⟩ := gl_ok C hg
        exact ok3_plain (fun _ _ => rfl) (ae_con (pe_glob g1 m1 r1 (dbg_of g2).1) r2) rfl fun op vs pos z => nomatch z
      · cases h
  · cases h; exact ok3_plain (fun _ _ => rfl) (ae_con pe_int fun _ _ => .int _) rfl fun op vs pos z => nomatch z
  · cases h; exact ok3_plain (fun _ _ => rfl) (ae_con pe_bl fun _ _ => .bl _) rfl fun op vs pos z => nomatch z
  · cases h; exact ok3_plain (fun _ _ => rfl) (ae_con pe_str fun _ _ => .str _) rfl fun op vs pos z => nomatch z
  · cases h; exact ok3_plain (fun _ _ => rfl) (ae_con pe_non fun _ _ => .non) rfl fun op vs pos z => nomatch z
  · -- BinOp
    obtain ⟨x, y, h1, h2, rfl⟩ := opt_bind2 h
    exact ok3_plain (fun _ _ => rfl) (ae_bin (I.e _ _ _ _ _ C h1).ae (I.e _ _ _ _ _ C h2).ae) rfl fun op vs pos z => nomatch z
  · obtain ⟨x, h1, rfl⟩ := Option.map_eq_some_iff.mp h
    exact ok3_plain (fun _ _ => rfl) (ae_neg (I.e _ _ _ _ _ C h1).ae) rfl fun op vs pos z => nomatch z
  · obtain ⟨x, h1, rfl⟩ := Option.map_eq_some_iff.mp h
    exact ⟨fun _ _ => rfl, ae_not (I.e _ _ _ _ _ C h1).ae, at_not (I.e _ _ _ _ _ C h1).at_, fun op vs pos z => nomatch z⟩
  · -- BoolOp of one
    have o := I.e _ _ _ _ _ C h
    refine ⟨fun _ _ => rfl, ae_one o.ae, at_one o.at_, fun op vs pos z => ?_⟩
    cases z
    exact aw_one o.at_
  · obtain ⟨x, y, h1, h2, rfl⟩ := opt_bind2 h
    have o1 := I.e _ _ _ _ _ C h1
    have o2 := I.e _ _ _ _ _ C h2
    have w := aw_and o1.at_ (o2.aw _ _ _ rfl)
    refine ⟨fun _ _ => rfl, ae_and o1.ae o2.ae, w.at, fun op vs pos z => ?_⟩
    cases z
    exact w
  · obtain ⟨x, y, h1, h2, rfl⟩ := opt_bind2 h
    have o1 := I.e _ _ _ _ _ C h1
    have o2 := I.e _ _ _ _ _ C h2
    have w := aw_or o1.at_ (o2.aw _ _ _ rfl)
    refine ⟨fun _ _ => rfl, ae_or o1.ae o2.ae, w.at, fun op vs pos z => ?_⟩
    cases z
    exact w
  · obtain ⟨z, x, y, h0, h1, h2, rfl⟩ := opt_bind3 h
    exact ok3_plain (fun _ _ => rfl) (ae_ife (I.e _ _ _ _ _ C h0).at_ (I.e _ _ _ _ _ C h1).ae (I.e _ _ _ _ _ C h2).ae) rfl fun op vs pos z => nomatch z
  · split at h
    · cases h
    · rename_i hm
      obtain ⟨x, y, h1, h2, rfl⟩ := opt_bind2 h
      have hm' := Bool.eq_false_iff.mpr hm
      exact ⟨fun _ _ => rfl, ae_cmp C.hu hm' (I.e _ _ _ _ _ C h1).ae (I.e _ _ _ _ _ C h2).ae, at_cmp C.hu hm' (I.e _ _ _ _ _ C h1).ae (I.e _ _ _ _ _ C h2).ae, fun op vs pos z => nomatch z⟩
  · split at h
    · cases h
    · rename_i hm
      obtain ⟨x, y, z, h1, h2, h3, rfl⟩ := opt_bind3 h
      have hm' := Bool.eq_false_iff.mpr hm
      exact ⟨fun _ _ => rfl, ae_chn C.hu hm' (I.e _ _ _ _ _ C h1).ae (I.e _ _ _ _ _ C h2).ae (I.e _ _ _ _ _ C h3).ae, at_chn C.hu hm' (I.e _ _ _ _ _ C h1).ae (I.e _ _ _ _ _ C h2).ae (I.e _ _ _ _ _ C h3).ae, fun op vs pos z => nomatch z⟩
  · obtain ⟨x, h1, rfl⟩ := Option.map_eq_some_iff.mp h
    obtain ⟨a1, a2, a3⟩ := aa_all (fun e ir q => I.e _ c F e ir C q) _ _ h1
    exact ok3_plain (fun _ _ => rfl) (ae_tup a1) rfl fun op vs pos z => nomatch z
  · obtain ⟨x, h1, rfl⟩ := Option.map_eq_some_iff.mp h
    obtain ⟨a1, a2, a3⟩ := aa_all (fun e ir q => I.e _ c F e ir C q) _ _ h1
    exact ok3_plain (fun _ _ => rfl) (ae_lst a1) rfl fun op vs pos z => nomatch z
  · obtain ⟨x, l, u, h1, h2, h3, rfl⟩ := opt_bind3 h
    exact ok3_plain (fun _ _ => rfl) (ae_sl (I.e _ _ _ _ _ C h1).ae (I.o _ _ _ _ _ C h2) (I.o _ _ _ _ _ C h3)) rfl fun op vs pos z => nomatch z
  · rename_i a i ps hns
    obtain ⟨x, y, h1, h2, rfl⟩ := opt_bind2 h
    have pl : PlainIx i := by
      intro o k
      cases i with
      | Slice lo hi st p2 =>
        exfalso
        cases n with
        | zero => simp [cmpE] at h2
        | succ n => simp [cmpE] at h2
      | _ => rfl
    exact ok3_plain (fun _ _ => rfl) (ae_ix pl (I.e _ _ _ _ _ C h1).ae (I.e _ _ _ _ _ C h2).ae) rfl fun op vs pos z => nomatch z
  · -- Call of a name
    split at h
    · rename_i hgl
      split at h
      · rename_i hf
        exact step_call I C hgl hf h
      · split at h
        · rename_i e T pT
          split at h
          · rename_i hc
            rw [Bool.and_eq_true, Bool.and_eq_true] at hc
            split at h
            · rename_i t ht
              obtain ⟨x, h1, rfl⟩ := Option.map_eq_some_iff.mp h
              exact step_isi I C hgl hc.1.2 (beq_iff_eq.mp hc.1.1) ht h1
            · cases h
          · split at h
            · rename_i b hb
              obtain ⟨irs, h1, rfl⟩ := Option.map_eq_some_iff.mp h
              exact step_bi I C hgl hb h1
            · cases h
        · rename_i es hx
          split at h
          · rename_i b hb
            obtain ⟨irs, h1, rfl⟩ := Option.map_eq_some_iff.mp h
            exact step_bi I C hgl hb h1
          · cases h
        · cases h
    · cases h
  · -- a method
    rename_i o m ap args cp
    split at h
    · rename_i k hk
      split at h
      · rename_i hc
        rw [Bool.and_eq_true] at hc
        obtain ⟨x, es, h1, h2, rfl⟩ := opt_bind2 h
        obtain ⟨m1, m2⟩ := mtFind_ok hk
        refine ok3_plain (fun _ _ => rfl) ?_ rfl fun op vs pos z => nomatch z
        rcases m2 with ⟨m2, _⟩ | ⟨m2, _⟩
        · have ea : args = [] := List.length_eq_zero_iff.mp m2
          subst ea
          rw [List.mapM_nil] at h2
          cases h2
          have := ae_mt0 k m1 hk hc.1 hc.2 (I.e _ _ _ _ _ C h1).ae
          exact this
        · match args, m2 with
          | [e], _ =>
            obtain ⟨y, r', h3, h4, rfl⟩ := mapM_cons_some h2
            rw [List.mapM_nil] at h4
            cases h4
            have o2 := I.e _ _ _ _ _ C h3
            have q := ae_mt1 k m1 hk hc.1 hc.2 o2.ns (I.e _ _ _ _ _ C h1).ae o2.ae
            have ee : (fun σ h => (ev F x σ h).bind fun x h1 => if isL h1 x then (ev F y σ h1).bind fun y h2 => mt1 k x y h2 else .bad) = ev F (.mt k x [y]) := by
              funext σ h'
              show _ = (ev F x σ h').bind fun x h1 => if isL h1 x then ((ev F y σ h1).bind fun z h2 => .ok [z] h2).bind (fun ws h2 => (match ws with
                | [] => mt0 k x h2
                | [y] => mt1 k x y h2
                | _ => .bad)) else .bad
              congr 1
              funext z h1
              rw [Res.bind_assoc]
              rfl
            rw [← ee]
            exact q
      · cases h
    · cases h
  · -- a comprehension
    rename_i elt tg iter ifs scope ps
    split at h
    · rename_i t own ht
      split at h
      · rename_i hb
        obtain ⟨s, pp, x, h1, h2, h3, rfl⟩ := opt_bind3 h
        have hbk := blkOk_by hb
        obtain ⟨r1, r2⟩ := I.r _ _ _ tg _ _ C h1
        obtain ⟨p1, p2⟩ := I.p _ _ _ _ _ _ C hbk.kind h2
        have so : InBlk X scope fun Y => ∀ q ∈ own, StoreOk Y q.1 q.2 := by
          intro s0 H0 A0 cl0 fp0 q hq
          have hl : locIx c.N scope q.1 = some q.2 := cmpT_own ht q hq
          obtain ⟨l1, l2⟩ := locIx_ok hl
          refine ⟨by show X.N[q.2]? = some q.1; rw [C.N]; exact l1, ?_, ?_⟩
          · rcases l2 with l2 | l2
            · exact .inl (lookup_relS_keep (sc := X.env.scope) (by decide) l2)
            · exact .inr (lookup_relS_keep (sc := X.env.scope) (by decide) l2)
          · rcases l2 with l2 | l2
            · exact .inr (lookup_relS_keep (sc := X.env.scope) (by decide) l2)
            · refine .inl ?_
              show (scope.names.lookup q.1 == some .cell) = true
              rw [l2] <;> rfl
        have nd : X.N.Nodup := by rw [C.N]; exact C.nd
        have hsl : t.slots = own.map (·.2) := cmpT_slots ht
        refine ok3_plain (fun _ _ => rfl) (fun σ h' ρ σv H Q S R p0 => ?_) rfl fun op vs pos z => nomatch z
        refine PE.use (pe_lc (own := own) (g := gT X.K t) (tt := ttB X scope ifs) (te := teB X scope elt) C.calm nd (PI.sem X tg iter) (by rw [C.N, C.sc]; exact hbk) (fun s0 H0 A0 cl0 fp0 => (pg_T (X := X.blk s0 H0 scope (compEnvC scope cl0 A0 X.env) fp0) nd C.calm ht (so s0 H0 A0 cl0 fp0)).1) (fun s0 H0 A0 cl0 fp0 => pts_B s0 H0 A0 cl0 fp0 p2) (fun s0 H0 A0 cl0 fp0 => ⟨fun pins s1 σ1 H1 Q1 I1 q1 => (q1 s0 H0 A0 cl0 fp0) pins s1 I1⟩) r2) ?_
        exact lc_read r1 p1 (fun s0 H0 A0 cl0 fp0 => (I.e _ _ _ _ _ (C.blk hbk.kind s0 H0 A0 cl0 fp0) h3).ae) hsl S R p0
      · cases h
    · cases h
  · cases h
end
end Z
set_option maxHeartbeats 8000000
/-! Z7: statements, defs, the whole text. -/
namespace Z
open PySem PySem.Spec PyProof.Rows L2
section
variable {n : Nat}
theorem step_o (I : IH n) : ∀ X c F o ir, Ctx X c F → cmpO (n + 1) c o = some ir → AO X o (evO F ir) := by
  intro X c F o ir C h
  cases o with
  | none =>
    simp only [cmpO] at h
    cases h
    exact ao_none
  | some e =>
    simp only [cmpO] at h
    obtain ⟨x, h1, rfl⟩ := Option.map_eq_some_iff.mp h
    exact ao_some (I.e _ _ _ _ _ C h1).ae
theorem step_p (I : IH n) : ∀ X c F scope ifs p, Ctx X c F → scope.kind = .function → cmpP (n + 1) { c with sc := relS scope c.sc } ifs = some p → APB X scope ifs (evP F p) ∧ ifs.length ≤ 1 := by
  intro X c F scope ifs p C hk h
  match ifs with
  | [] =>
    simp only [cmpP] at h
    cases h
    exact ⟨rfl, by simp⟩
  | [e] =>
    simp only [cmpP] at h
    obtain ⟨x, h1, rfl⟩ := Option.map_eq_some_iff.mp h
    exact ⟨fun s0 H0 A0 cl0 fp0 => (I.e _ _ _ _ _ (C.blk hk s0 H0 A0 cl0 fp0) h1).at_, by simp⟩
  | _ :: _ :: _ => simp only [cmpP] at h; cases h
theorem seq_r (I : IH n) {X : Cx} {c : Cc} {F : CallEnv} {tg e : Expr} {ir : Sr} (C : Ctx X c F) (hf : ∀ x, foldedSetIterable e X.env x = pure x) (h : (cmpE n c e).map .seq = some ir) : AR X tg e (evR F ir) ∧ ∀ x, foldedSetIterable e X.env x = pure x := by
  obtain ⟨x, h1, rfl⟩ := Option.map_eq_some_iff.mp h
  exact ⟨ar_seq (I.e _ _ _ _ _ C h1).ae, hf⟩
theorem step_r (I : IH n) : ∀ X c F tg e ir, Ctx X c F → cmpR (n + 1) c e = some ir → AR X tg e (evR F ir) ∧ ∀ x, foldedSetIterable e X.env x = pure x := by
  intro X c F tg e ir C h
  simp only [cmpR] at h
  split at h
  · split at h
    · rename_i hc
      rw [Bool.and_eq_true, Bool.and_eq_true] at hc
      have hr := beq_iff_eq.mp hc.1.1
      obtain ⟨x, h1, rfl⟩ := Option.map_eq_some_iff.mp h
      obtain ⟨g1, g2⟩ := gl_ok C hc.1.2
      have o := I.e _ _ _ _ _ C h1
      exact ⟨ar_rng1 hr g1 (C.free _ (by rw [hr]; decide +kernel)) o.ns o.ae, fun _ => rfl⟩
    · exact seq_r I C (fun _ => rfl) h
  · split at h
    · rename_i hc
      rw [Bool.and_eq_true, Bool.and_eq_true] at hc
      have hr := beq_iff_eq.mp hc.1.1
      obtain ⟨x, y, h1, h2, rfl⟩ := opt_bind2 h
      obtain ⟨g1, g2⟩ := gl_ok C hc.1.2
      have o := I.e _ _ _ _ _ C h1
      have o2 := I.e _ _ _ _ _ C h2
      exact ⟨ar_rng2 hr g1 (C.free _ (by rw [hr]; decide +kernel)) o.ns o2.ns o.ae o2.ae, fun _ => rfl⟩
    · exact seq_r I C (fun _ => rfl) h
  · cases h
  · rename_i hn1 hn2 hn3
    refine seq_r I C (fun x => ?_) h
    cases e with
    | Set es k p => exact absurd rfl (hn3 es k p)
    | _ => rfl
end
theorem cmp_all : ∀ n, IH n
  | 0 => ⟨fun X c F e ir C h => by simp [cmpE] at h, fun X c F e ir C h => by simp [cmpO] at h, fun X c F s e ir C k h => by simp [cmpP] at h, fun X c F t e ir C h => by simp [cmpR] at h⟩
  | n + 1 => ⟨step_e (cmp_all n), step_o (cmp_all n), step_p (cmp_all n), step_r (cmp_all n)⟩

/-! ### statements -/
/-- what is wanted behind a statement's computation -/
def PostF (K : PySem.W.Frag) (ρ : List Addr) (H : Hp) (r : Res Fl) (D : Ends) : Prop := match r with
  | .ok (.nx σ) h => ∀ ρ' H' σv, Ext ρ H ρ' H' → HR K ρ' h H' → SR K ρ' H' σ σv → D.nx σv H'
  | .ok (.bk σ) h => ∀ ρ' H' σv, Ext ρ H ρ' H' → HR K ρ' h H' → SR K ρ' H' σ σv → D.bk σv H'
  | .ok (.ct σ) h => ∀ ρ' H' σv, Ext ρ H ρ' H' → HR K ρ' h H' → SR K ρ' H' σ σv → D.ct σv H'
  | .ok (.rt w) h => ∀ ρ' H' v, Ext ρ H ρ' H' → HR K ρ' h H' → RW K ρ' H' w v → D.rt v H'
  | .bad => False
theorem PostF.mono {K : PySem.W.Frag} {ρ ρ1 : List Addr} {H H1 : Hp} {r : Res Fl} {D : Ends} (p : PostF K ρ H r D) (e : Ext ρ H ρ1 H1) : PostF K ρ1 H1 r D := by
  cases r with
  | bad => exact p
  | ok f h => cases f <;> exact fun ρ' H' v e' R r => p ρ' H' v (e.trans e') R r
theorem PostF.bind {α β : Type} {K : PySem.W.Frag} {rel : List Addr → Hp → α → β → Prop} {ρ : List Addr} {H : Hp} {r : Res α} {f : α → Hh → Res Fl} {D : Ends} (p : PostF K ρ H (r.bind f) D) :
    Post K rel ρ H r (fun v H1 => ∃ w h1 ρ1, r = .ok w h1 ∧ Ext ρ H ρ1 H1 ∧ HR K ρ1 h1 H1 ∧ rel ρ1 H1 w v ∧ PostF K ρ1 H1 (f w h1) D) := by
  cases r with
  | bad => exact p
  | ok w h1 =>
    intro ρ1 H1 v e R r
    exact ⟨w, h1, ρ1, rfl, e, R, r, p.mono e⟩
def AS (X : Cx) (st : Stmt) (f : Sl → Hh → Res Fl) : Prop := ∀ σ h ρ σv H D, SR X.K ρ H σ σv → HR X.K ρ h H → PostF X.K ρ H (f σ h) D → semS X st D σv H
def AB (X : Cx) (st : List Stmt) (f : Sl → Hh → Res Fl) : Prop := ∀ σ h ρ σv H D, SR X.K ρ H σ σv → HR X.K ρ h H → PostF X.K ρ H (f σ h) D → semSs X st D σv H
section
variable {X : Cx} {c : Cc} {F : CallEnv} {a b d e : Expr} {es : List Expr} {pos p : Pos} {f g k : Sl → Hh → Res W} {t : Sl → Hh → Res Bool} {st : Stmt} {sts : List Stmt}
theorem AE.goF {k : W → Hh → Res Fl} {D : Ends} {Q' : VK} {σ : Sl} {h : Hh} {ρ : List Addr} {σv : L2.St} {H : Hp} (ha : AE X a f) (S : SR X.K ρ H σ σv) (R : HR X.K ρ h H) (p : PostF X.K ρ H ((f σ h).bind k) D)
    (q : ∀ w h1 ρ1 v H1, Ext ρ H ρ1 H1 → HR X.K ρ1 h1 H1 → RW X.K ρ1 H1 w v → PostF X.K ρ1 H1 (k w h1) D → Q' v H1) : sem X a σv H Q' :=
  ha σ h ρ σv H Q' S R (p.bind.mono (Ext.refl _ _) fun v H1 ⟨w, h1, ρ1, _, e1, R1, r1, p1⟩ => q w h1 ρ1 v H1 e1 R1 r1 p1)
theorem AT.goF {k : Bool → Hh → Res Fl} {D : Ends} {Q' : Bool → Hp → Prop} {σ : Sl} {h : Hh} {ρ : List Addr} {σv : L2.St} {H : Hp} (ha : AT X a t) (S : SR X.K ρ H σ σv) (R : HR X.K ρ h H) (p : PostF X.K ρ H ((t σ h).bind k) D)
    (q : ∀ w h1 ρ1 H1, Ext ρ H ρ1 H1 → HR X.K ρ1 h1 H1 → PostF X.K ρ1 H1 (k w h1) D → Q' w H1) : semT X a σv H Q' :=
  ha σ h ρ σv H Q' S R (p.bind.mono (Ext.refl _ _) fun v H1 ⟨w, h1, ρ1, _, e1, R1, r1, p1⟩ => by
    cases r1
    exact q _ h1 ρ1 H1 e1 R1 p1)
theorem ab_nil : AB X [] (fun σ h => .ok (.nx σ) h) := fun σ h ρ σv H D S R p => PSs.use pss_nil (p ρ H σv (Ext.refl _ _) R S)
theorem ab_cons {fs fb : Sl → Hh → Res Fl} (hs : AS X st fs) (hb : AB X sts fb) : AB X (st :: sts) (fun σ h => (fs σ h).bind fun f h1 => (match f with
    | .nx σ' => fb σ' h1
    | f => .ok f h1)) := fun σ h ρ σv H D S R p => by
  refine PSs.use (pss_cons (PS.sem X st) (PSs.sem X sts)) ?_
  have p' : PostF X.K ρ H ((fs σ h).bind fun f h1 => (match f with
    | .nx σ' => fb σ' h1
    | f => .ok f h1)) D := p
  refine hs σ h ρ σv H _ S R ?_
  cases ee : fs σ h with
  | bad => rw [ee] at p'; exact p'.elim
  | ok fl h1 =>
    rw [ee, Res.bind_ok] at p'
    cases fl with
    | nx σ' => exact fun ρ' H' σv' e1 R1 S1 => hb σ' h1 ρ' σv' H' D S1 R1 (PostF.mono p' e1)
    | bk σ' => exact p'
    | ct σ' => exact p'
    | rt w => exact p'
theorem as_ret (ha : AE X a f) : AS X (.Return (some a) pos) (fun σ h => (f σ h).bind fun w h1 => .ok (.rt w) h1) := fun σ h ρ σv H D S R p =>
  PS.use (ps_ret (PE.sem X a)) (ha.goF S R p fun w h1 ρ1 v H1 e1 R1 r1 p1 => p1 ρ1 H1 v (Ext.refl _ _) R1 r1)
theorem as_retN : AS X (.Return none pos) (fun _ h => .ok (.rt .non) h) := fun σ h ρ σv H D S R p => PS.use ps_retN (p ρ H .non (Ext.refl _ _) R .non)
theorem as_pass : AS X (.Pass pos) (fun σ h => .ok (.nx σ) h) := fun σ h ρ σv H D S R p => PS.use ps_pass (p ρ H σv (Ext.refl _ _) R S)
theorem as_brk : AS X (.Break pos) (fun σ h => .ok (.bk σ) h) := fun σ h ρ σv H D S R p => PS.use ps_break (p ρ H σv (Ext.refl _ _) R S)
theorem as_cnt : AS X (.Continue pos) (fun σ h => .ok (.ct σ) h) := fun σ h ρ σv H D S R p => PS.use ps_continue (p ρ H σv (Ext.refl _ _) R S)
theorem as_bad : AS X st (fun _ _ => .bad) := fun σ h ρ σv H D S R p => p.elim
theorem as_exp (hn : isComp a = false) (ha : AE X a f) : AS X (.Expr a pos) (fun σ h => (f σ h).bind fun _ h1 => .ok (.nx σ) h1) := fun σ h ρ σv H D S R p => by
  refine PS.use (ps_expr (PE.sem X a) ?_) (ha.goF S R p fun w h1 ρ1 v H1 e1 R1 r1 p1 => p1 ρ1 H1 σv (Ext.refl _ _) R1 (S.mono e1))
  cases a with
  | ListComp _ _ _ _ => cases hn
  | SetComp _ _ _ _ => cases hn
  | DictComp _ _ _ _ _ => cases hn
  | _ => rfl
theorem as_ifs {A B : List Stmt} {fa fb : Sl → Hh → Res Fl} (hc : AT X a t) (ha : AB X A fa) (hb : AB X B fb) : AS X (.If a A B pos) (fun σ h => (t σ h).bind fun t h1 => (match t with
    | true => fa σ h1
    | false => fb σ h1)) := fun σ h ρ σv H D S R p =>
  PS.use (ps_if (PT.sem X a) (PSs.sem X A) (PSs.sem X B)) (hc.goF S R p fun k h1 ρ1 H1 e1 R1 p1 => by
    cases k with
    | true => rw [if_pos rfl]; exact ha _ _ _ _ _ _ (S.mono e1) R1 p1
    | false => rw [if_neg Bool.false_ne_true]; exact hb _ _ _ _ _ _ (S.mono e1) R1 p1)
/-- a store to a name -/
theorem sw_none {e : Expr} {y : Str} {py : Pos} {l : Nat} {env : Env} (h : isComp e = false) : swapsWith e (some (.Name y py)) l env = pure false := by
  cases e with
  | ListComp _ _ _ _ => cases h
  | SetComp _ _ _ _ => cases h
  | DictComp _ _ _ _ _ => cases h
  | _ => rfl
theorem as_set {i : Nat} {x : Str} {py : Pos} (so : StoreOk X x i) (nd : X.N.Nodup) (hn : isComp a = false) (ha : AE X a f) : AS X (.Assign [.Name x py] a pos) (fun σ h => (f σ h).bind fun w h1 => .ok (.nx (σ.set i (some w))) h1) := fun σ h ρ σv H D S R p =>
  PS.use (ps_set nd so.N so.loc (PE.sem X a) (sw_none hn) so.fn) (ha.goF S R p fun w h1 ρ1 v H1 e1 R1 r1 p1 => p1 ρ1 H1 _ (Ext.refl _ _) R1 ((S.mono e1).set i r1))
theorem swS_none {e : Expr} {tg : Expr} {l : Nat} {env : Env} (h : nameOf tg = none) : swapsWithSole [tg] e l env = pure false := by
  show swapsWith e (some tg) l env = pure false
  unfold swapsWith
  cases e <;> first
    | rfl
    | (cases tg <;> first | rfl | cases h)
theorem as_setI {o i : Expr} {py : Pos} (hs : notSlice i = true) (ho : AE X o g) (hi : AE X i k) (ha : AE X a f) : AS X (.Assign [.Subscript o i py] a pos) (fun σ h => (f σ h).bind fun v h1 => (g σ h1).bind fun o h2 => (k σ h2).bind fun k h3 => (setIW o k v h3).bind fun _ h4 => .ok (.nx σ) h4) := fun σ h ρ σv H D S R p => by
  refine PS.use (ps_asg (PE.sem X a) (pg_sub (PE.sem X o) (PE.sem X i) PSet.sem ?_) (swS_none rfl) rfl rfl) ?_
  · intro v
    cases i with
    | Slice _ _ _ _ => cases hs
    | _ => rfl
  · exact ha.goF S R p fun w h1 ρ1 v H1 e1 R1 r1 p1 => ho.goF (S.mono e1) R1 p1 fun w2 h2 ρ2 v2 H2 e2 R2 r2 p2 => hi.goF ((S.mono e1).mono e2) R2 p2 fun w3 h3 ρ3 v3 H3 e3 R3 r3 p3 =>
      setI_ok (Q := fun H' => D.nx σv H') R3 (r2.mono e3) r3 ((r1.mono e2).mono e3) (p3.bind.mono (Ext.refl _ _) fun u H4 ⟨w4, h4, ρ4, _, e4, R4, _, p4⟩ => p4 ρ4 H4 σv (Ext.refl _ _) R4 ((((S.mono e1).mono e2).mono e3).mono e4))
theorem as_aug {i : Nat} {x : Str} {py : Pos} {op : Operator} (so : StoreOk X x i) (nd : X.N.Nodup) (ha : AE X a f) : AS X (.AugAssign (.Name x py) op a pos) (fun σ h => (match σ[i]? with
    | some (some (.int a)) => (f σ h).bind fun y h1 => (optR (augW op a y) h1).bind fun z h2 => .ok (.nx (σ.set i (some (.int z)))) h2
    | _ => .bad)) := fun σ h ρ σv H D S R p => by
  have p' : PostF X.K ρ H (match σ[i]? with
    | some (some (.int a)) => (f σ h).bind fun y h1 => (optR (augW op a y) h1).bind fun z h2 => .ok (.nx (σ.set i (some (.int z)))) h2
    | _ => .bad) D := p
  split at p'
  · rename_i z ez
    obtain ⟨v0, e0, r0⟩ := S.at_ i _ ez
    cases r0
    cases op with
    | Add =>
      refine PS.use (ps_aug nd so.N so.loc (PE.sem X a) ip_add so.fn) ⟨_, e0, ?_⟩
      exact ha.goF S R p' fun w h1 ρ1 v H1 e1 R1 r1 p1 => by
        cases r1 with
        | int j => exact ⟨_, _, rfl, rfl, p1 ρ1 H1 _ (Ext.refl _ _) R1 ((S.mono e1).set i (.int _))⟩
        | _ => exact p1.elim
    | Sub =>
      refine PS.use (ps_aug nd so.N so.loc (PE.sem X a) ip_sub so.fn) ⟨_, e0, ?_⟩
      exact ha.goF S R p' fun w h1 ρ1 v H1 e1 R1 r1 p1 => by
        cases r1 with
        | int j => exact ⟨_, _, rfl, rfl, p1 ρ1 H1 _ (Ext.refl _ _) R1 ((S.mono e1).set i (.int _))⟩
        | _ => exact p1.elim
    | _ =>
      exfalso
      revert p'
      cases f σ h with
      | bad => exact fun z => z
      | ok w h1 => exact fun z => z
  · exact p'.elim
/-- a comprehension is stored on one line -/
theorem as_setLc {i : Nat} {y : Str} {py ps : Pos} {elt tg iter : Expr} {ifs : List Expr} {scope : Scope} {own : List (Str × Nat)} {t : Tg} {fk : Sl → Hh → Res Wk} {fp : Sl → Hh → Res Bool} {fe : Sl → Hh → Res W} (C : Ctx X c F) (so : StoreOk X y i) (hyl : c.sc.names.lookup y = some .local)
    (hl : (py.line == ps.line) = true) (hcl : (scope.names.any fun (n, k) => n == y && (k == .local || k == .cell)) = false) (hb : blkC c.N c.sc scope own = true) (ht : cmpT c.N scope tg = some (t, own)) (hr : AR X tg iter fk) (hfs : ∀ x, foldedSetIterable iter X.env x = pure x) (hp : APB X scope ifs fp) (hp1 : ifs.length ≤ 1)
    (he : InBlk X scope fun Y => AE Y elt fe) (sob : InBlk X scope fun Y => ∀ q ∈ own, StoreOk Y q.1 q.2) :
    AS X (.Assign [.Name y py] (.ListComp elt [⟨tg, iter, ifs, 0⟩] scope ps) pos) (fun σ h => ((fk σ h).bind fun k h1 =>
      if k.size h1 < lim then
        (lcGo k (fun w h' => bindT t w h' (wipeW σ t.slots)) fp fe h1.length (k.size h1 + 1) 0 (h1 ++ [.lst []])).bind fun _ h2 => .ok (.ref h1.length) h2
      else .bad).bind fun w h1 => .ok (.nx (σ.set i (some w))) h1) := fun σ h ρ σv H D S R p => by
  have nd : X.N.Nodup := by rw [C.N]; exact C.nd
  have hbk := blkOk_by hb
  have sw : swapsWith (.ListComp elt [⟨tg, iter, ifs, 0⟩] scope ps) (some (.Name y py)) pos.line X.env = pure true := sw_true (by rw [C.sc]; exact C.kind) (by rw [C.sc]; exact hyl) hl hcl
  refine PS.use (ps_setLc (own := own) (g := gT X.K t) (tt := ttB X scope ifs) (te := teB X scope elt) C.calm nd so.N (by rw [C.sc]; exact hyl) sw (PI.sem X tg iter) (by rw [C.N, C.sc]; exact hbk) (fun s0 H0 A0 cl0 fp0 => (pg_T (X := X.blk s0 H0 scope (compEnvC scope cl0 A0 X.env) fp0) nd C.calm ht (sob s0 H0 A0 cl0 fp0)).1) (fun s0 H0 A0 cl0 fp0 => pts_B s0 H0 A0 cl0 fp0 hp1) (fun s0 H0 A0 cl0 fp0 => ⟨fun pins s1 σ1 H1 Q1 I1 q1 => (q1 s0 H0 A0 cl0 fp0) pins s1 I1⟩) hfs) ?_
  refine lc_read (Q := fun x H1 => gName i x σv H1 D.nx) hr hp he (cmpT_slots ht) S R ?_
  have p' := (PostF.bind (rel := RW X.K) p)
  refine p'.mono (Ext.refl _ _) fun v H1 ⟨w, h1, ρ1, _, e1, R1, r1, p1⟩ => ?_
  exact p1 ρ1 H1 _ (Ext.refl _ _) R1 ((S.mono e1).set i r1)
/-! ### loops -/
theorem as_for {tg iter : Expr} {body : List Stmt} {t : Tg} {own : List (Str × Nat)} {fk : Sl → Hh → Res Wk} {fb : Sl → Hh → Res Fl} (C : Ctx X c F) (ht : cmpT c.N c.sc tg = some (t, own)) (so : ∀ q ∈ own, StoreOk X q.1 q.2) (hr : AR X tg iter fk) (hfs : ∀ x, foldedSetIterable iter X.env x = pure x) (hb : AB X body fb) :
    AS X (.For tg iter body [] pos) (fun σ h => (fk σ h).bind fun k h1 => forGo k (bindT t) fb (k.size h1 + 1) 0 σ h1) := fun σ h ρ σv H D S R p => by
  have nd : X.N.Nodup := by rw [C.N]; exact C.nd
  refine PS.use (ps_for (by rw [C.xe]; exact PassesOwn.never) C.calm (PI.sem X tg iter) (pg_T nd C.calm ht so).1 (PSs.sem X body) hfs) ?_
  refine hr _ _ _ _ _ _ S R ((PostF.bind (rel := ItR X.K) p).mono (Ext.refl _ _) fun J H1 ⟨k, h1, ρ1, _, e1, R1, r1, p1⟩ => ?_)
  refine ⟨fun i m σv' H' => ∃ σ' h' ρ', SR X.K ρ' H' σ' σv' ∧ HR X.K ρ' h' H' ∧ Ext ρ1 H1 ρ' H' ∧ PostF X.K ρ' H' (forGo k (bindT t) fb m i σ' h') D, ⟨_, σ, h1, ρ1, S.mono e1, R1, Ext.refl _ _, p1⟩, ?_⟩
  rintro i m σv' H' ⟨σ', h', ρ', S', R', e', p'⟩
  cases m with
  | zero => exact p'.elim
  | succ n =>
    unfold forGo at p'
    have rk : ItR X.K ρ' H' k J := r1.mono e'
    split at p'
    · exact p'.elim
    · rename_i eat
      exact .inl ⟨rk.stop R' eat, p' ρ' H' σv' (Ext.refl _ _) R' S'⟩
    · rename_i w eat
      obtain ⟨hgo, hyld⟩ := rk.go R' eat
      refine .inr ⟨hgo, fun σv3 H3 => ∃ m', m' < n + 1 ∧ ∃ σ' h' ρ', SR X.K ρ' H3 σ' σv3 ∧ HR X.K ρ' h' H3 ∧ Ext ρ1 H1 ρ' H3 ∧ PostF X.K ρ' H3 (forGo k (bindT t) fb m' (i + 1) σ' h') D, fun _ _ z => z, fun x H3 y => ?_⟩
      obtain ⟨ρ3, e3, R3, r3⟩ := hyld x H3 y
      split at p'
      · exact p'.elim
      · rename_i σ1 eb
        refine bindT_ok (K := X.K) eb r3 (S'.mono e3) fun σv4 S4 => ?_
        refine hb σ1 h' ρ3 σv4 H3 _ S4 R3 ?_
        have p3 := p'.mono e3
        cases ee : fb σ1 h' with
        | bad => rw [ee] at p3; exact p3.elim
        | ok fl h2 =>
          rw [ee, Res.bind_ok] at p3
          cases fl with
          | nx σ2 => exact fun ρ5 H5 σv5 e5 R5 S5 => ⟨n, Nat.lt_succ_self n, σ2, h2, ρ5, S5, R5, (e'.trans e3).trans e5, PostF.mono p3 e5⟩
          | ct σ2 => exact fun ρ5 H5 σv5 e5 R5 S5 => ⟨n, Nat.lt_succ_self n, σ2, h2, ρ5, S5, R5, (e'.trans e3).trans e5, PostF.mono p3 e5⟩
          | bk σ2 => exact p3
          | rt w2 => exact p3
theorem as_whl {body : List Stmt} {fb : Sl → Hh → Res Fl} (wf : Nat) (hx : X.xe = fun _ _ => False) (ha : AT X a t) (hb : AB X body fb) : AS X (.While a body [] pos) (fun σ h => whlGo t fb wf σ h) := fun σ h ρ σv H D S R p => by
  refine PS.use (ps_while (by rw [hx]; exact PassesOwn.never) (PT.sem X a) (PSs.sem X body)) ?_
  refine ⟨fun m σv' H' => ∃ σ' h' ρ', SR X.K ρ' H' σ' σv' ∧ HR X.K ρ' h' H' ∧ PostF X.K ρ' H' (whlGo t fb m σ' h') D, ⟨_, σ, h, ρ, S, R, p⟩, ?_⟩
  rintro m σv' H' ⟨σ', h', ρ', S', R', p'⟩
  cases m with
  | zero => exact p'.elim
  | succ n =>
    unfold whlGo at p'
    refine ha.goF S' R' p' fun k h1 ρ1 H1 e1 R1 p1 => ?_
    cases k with
    | false => rw [if_neg Bool.false_ne_true]; exact p1 ρ1 H1 σv' (Ext.refl _ _) R1 (S'.mono e1)
    | true =>
      rw [if_pos rfl]
      refine ⟨fun σv3 H3 => ∃ m', m' < n + 1 ∧ ∃ σ' h' ρ', SR X.K ρ' H3 σ' σv3 ∧ HR X.K ρ' h' H3 ∧ PostF X.K ρ' H3 (whlGo t fb m' σ' h') D, fun _ _ z => z, ?_⟩
      refine hb σ' h1 ρ1 σv' H1 _ (S'.mono e1) R1 ?_
      have p3 : PostF X.K ρ1 H1 ((fb σ' h1).bind (forNx (whlGo t fb n))) D := p1
      cases ee : fb σ' h1 with
      | bad => rw [ee] at p3; exact p3.elim
      | ok fl h2 =>
        rw [ee, Res.bind_ok] at p3
        cases fl with
        | nx σ2 => exact fun ρ5 H5 σv5 e5 R5 S5 => ⟨n, Nat.lt_succ_self n, σ2, h2, ρ5, S5, R5, PostF.mono p3 e5⟩
        | ct σ2 => exact fun ρ5 H5 σv5 e5 R5 S5 => ⟨n, Nat.lt_succ_self n, σ2, h2, ρ5, S5, R5, PostF.mono p3 e5⟩
        | bk σ2 => exact p3
        | rt w2 => exact p3
end
end Z
set_option maxHeartbeats 8000000
/-! Z8: the code that cmpS gives; defs; a law. -/
namespace Z
open PySem PySem.Spec PyProof.Rows L2
section
variable {X : Cx} {c : Cc} {F : CallEnv} {a b d e : Expr} {es : List Expr} {pos p : Pos} {f g k : Sl → Hh → Res W} {t : Sl → Hh → Res Bool} {st : Stmt} {sts : List Stmt}
theorem store_of (C : Ctx X c F) (hf : ∀ x, X.fn x = true) {x : Str} {i : Nat} (h : locIx c.N c.sc x = some i) : StoreOk X x i := by
  obtain ⟨h1, h2⟩ := locIx_ok h
  exact ⟨by rw [C.N]; exact h1, by rw [C.sc]; exact h2, .inl (hf x)⟩
theorem own_mem {N : List Str} {sc : Scope} : ∀ {xs : List Str} {own : List (Str × Nat)}, xs.mapM (ownOf N sc) = some own → own.map (·.1) = xs ∧ ∀ q ∈ own, locIx N sc q.1 = some q.2 := by
  intro xs
  induction xs with
  | nil => intro own h; rw [List.mapM_nil] at h; cases h; exact ⟨rfl, fun q hq => nomatch hq⟩
  | cons x xs ih =>
    intro own h
    obtain ⟨b, r', g1, g2, rfl⟩ := mapM_cons_some h
    obtain ⟨i, g3, g4⟩ := Option.map_eq_some_iff.mp g1
    subst g4
    obtain ⟨h1, h2⟩ := ih g2
    refine ⟨by rw [List.map_cons, h1], fun q hq => ?_⟩
    rcases List.mem_cons.mp hq with rfl | hq
    · exact g3
    · exact h2 q hq
theorem sst_none {ts : List Expr} {z : Nat} {pt : Pos} {e : Expr} {env : Env} (h : isTupE e = false) : swappedStores [.Tuple ts z pt] e env = pure none := by
  cases e with
  | Tuple _ _ _ => cases h
  | _ => rfl
theorem as_setU {ts : List Expr} {z : Nat} {pt : Pos} {xs : List Str} {own : List (Str × Nat)} (C : Ctx X c F) (hn : isTupE a = false) (h1 : ts.mapM nameOf = some xs) (h2 : own.map (·.1) = xs) (so : ∀ q ∈ own, StoreOk X q.1 q.2) (ha : AE X a f) :
    AS X (.Assign [.Tuple ts z pt] a pos) (fun σ h => (f σ h).bind fun w h1 => (match (seqOf h1 w).bind fun ws => setAll (own.map (·.2)) ws σ with
    | some σ' => .ok (.nx σ') h1
    | none => .bad)) := fun σ h ρ σv H D S R p => by
  have nd : X.N.Nodup := by rw [C.N]; exact C.nd
  obtain ⟨q1, q2, q3⟩ := pgs_all nd h1 h2 so
  have q2' : (assignEach ts X.env).length = (own.map (·.2)).length := q2.trans (by rw [List.length_map])
  have p' : PostF X.K ρ H ((f σ h).bind fun w h1 => (match (seqOf h1 w).bind fun ws => setAll (own.map (·.2)) ws σ with
    | some σ' => .ok (.nx σ') h1
    | none => .bad)) D := p
  cases ee : f σ h with
  | bad => rw [ee] at p'; exact p'.elim
  | ok w h1 =>
    rw [ee, Res.bind_ok] at p'
    split at p'
    · rename_i σ' es
      obtain ⟨ws, e1, e2⟩ := Option.bind_eq_some_iff.mp es
      have fin : ∀ ρ1 H1 vs, Ext ρ H ρ1 H1 → HR X.K ρ1 h1 H1 → RWs X.K ρ1 H1 ws vs → vs.length = (own.map (·.2)).length ∧ gAll (own.map (·.2)) vs σv H1 D.nx := fun ρ1 H1 vs e1 R1 rr =>
        ⟨by rw [← rr.length]; exact setAll_len e2, setAll_ok e2 rr (S.mono e1) fun σv' S' => p' ρ1 H1 σv' e1 R1 S'⟩
      cases w with
      | tup us =>
        cases e1
        refine PS.use (ps_asg (PE.sem X a) (pg_tup C.calm q1 q2' q3) (swS_none rfl) (sst_none hn) rfl) (ha σ h ρ σv H _ S R ?_)
        rw [ee]
        intro ρ1 H1 v e1 R1 r1
        cases r1 with
        | tup hs rr => obtain ⟨l, q⟩ := fin ρ1 H1 _ e1 R1 rr; exact ⟨_, _, rfl, hs, l, q⟩
      | scr us =>
        cases e1
        refine PS.use (ps_asg (PE.sem X a) (pg_unl C.calm q1 q2' q3) (swS_none rfl) (sst_none hn) rfl) (ha σ h ρ σv H _ S R ?_)
        rw [ee]
        intro ρ1 H1 v e1 R1 r1
        cases r1 with
        | scr hs rr => obtain ⟨l, q⟩ := fin ρ1 H1 _ e1 R1 rr; exact ⟨_, _, rfl, hs.sq, l, q⟩
      | ref i =>
        refine PS.use (ps_asg (PE.sem X a) (pg_unl C.calm q1 q2' q3) (swS_none rfl) (sst_none hn) rfl) (ha σ h ρ σv H _ S R ?_)
        rw [ee]
        intro ρ1 H1 v e3 R1 r1
        obtain ⟨ad, vs, rfl, _, hv, rr⟩ := R1.lst e1 r1
        obtain ⟨l, q⟩ := fin ρ1 H1 _ e3 R1 rr
        exact ⟨_, _, rfl, SqL.of hv, l, q⟩
      | _ => cases e1
    · exact p'.elim
theorem ab_all {n : Nat} {c : Cc} {F : CallEnv} {wf : Nat} (ih : ∀ st ir, cmpS n c st = some ir → AS X st (exS F wf ir)) : ∀ (sts : List Stmt) (irs : List St), sts.mapM (cmpS n c) = some irs → AB X sts (exB F wf irs)
  | [], irs, h => by
    rw [List.mapM_nil] at h
    cases h
    exact ab_nil
  | st :: sts, irs, h => by
    obtain ⟨ir, irs', h1, h2, rfl⟩ := mapM_cons_some h
    exact ab_cons (ih st ir h1) (ab_all ih sts irs' h2)
theorem lc_parts {n : Nat} {elt : Expr} {gens : List Comprehension} {scope : Scope} {ps : Pos} {ir : Ex} (h : cmpE (n + 1) c (.ListComp elt gens scope ps) = some ir) : ∃ tg iter ifs t own s pp x, gens = [⟨tg, iter, ifs, 0⟩] ∧ cmpT c.N scope tg = some (t, own) ∧ blkC c.N c.sc scope own = true ∧
    cmpR n c iter = some s ∧ cmpP n { c with sc := relS scope c.sc } ifs = some pp ∧ cmpE n { c with sc := relS scope c.sc } elt = some x ∧ ir = .lc t s pp x := by
  simp only [cmpE] at h
  split at h
  all_goals first
    | (rename_i q; cases q; done)
    | skip
  · rename_i q
    injection q with q1 q2 q3 q4
    subst q1 q2 q3 q4
    split at h
    · rename_i t own ht
      split at h
      · rename_i hb
        obtain ⟨s, pp, x, h1, h2, h3, rfl⟩ := opt_bind3 h
        exact ⟨_, _, _, t, own, s, pp, x, rfl, ht, hb, h1, h2, h3, rfl⟩
      · cases h
    · cases h
  · cases h
theorem blk_store (C : Ctx X c F) {scope : Scope} {tg : Expr} {t : Tg} {own : List (Str × Nat)} (ht : cmpT c.N scope tg = some (t, own)) : InBlk X scope fun Y => ∀ q ∈ own, StoreOk Y q.1 q.2 := by
  intro s0 H0 A0 cl0 fp0 q hq
  obtain ⟨l1, l2⟩ := locIx_ok (cmpT_own ht q hq)
  refine ⟨by show X.N[q.2]? = some q.1; rw [C.N]; exact l1, ?_, ?_⟩
  · rcases l2 with l2 | l2
    · exact .inl (lookup_relS_keep (sc := X.env.scope) (by decide) l2)
    · exact .inr (lookup_relS_keep (sc := X.env.scope) (by decide) l2)
  · rcases l2 with l2 | l2
    · exact .inr (lookup_relS_keep (sc := X.env.scope) (by decide) l2)
    · refine .inl ?_
      show (scope.names.lookup q.1 == some .cell) = true
      rw [l2] <;> rfl
end
theorem cmpS_ok (wf : Nat) : ∀ (n : Nat) (X : Cx) (c : Cc) (F : CallEnv) (st : Stmt) (ir : St), Ctx X c F → (∀ x, X.fn x = true) → cmpS n c st = some ir → AS X st (exS F wf ir)
  | 0, _, _, _, _, _, _, _, h => by simp [cmpS] at h
  | n + 1, X, c, F, st, ir, C, hf, h => by
    have I := cmp_all n
    have nd : X.N.Nodup := by rw [C.N]; exact C.nd
    have all := fun (sts : List Stmt) (irs : List St) => ab_all (X := X) (n := n) (c := c) (F := F) (wf := wf) (fun st ir q => cmpS_ok wf n X c F st ir C hf q) sts irs
    simp only [cmpS] at h
    split at h
    · -- name = e
      split at h
      · rename_i x py e pos hform
        obtain ⟨i, y, h1, h2, rfl⟩ := opt_bind2 h
        have so := store_of C hf h1
        cases hc : isComp e with
        | false => exact as_set so nd hc (I.e _ _ _ _ _ C h2).ae
        | true =>
          cases e with
          | ListComp elt gens scope ps =>
            cases n with
            | zero => simp [cmpE] at h2
            | succ m =>
              obtain ⟨tg, iter, ifs, t, own, s, pp, x', rfl, ht, hb, g1, g2, g3, rfl⟩ := lc_parts h2
              have J := cmp_all m
              have hform' : ((c.sc.names.lookup x == some .local) && (py.line == ps.line) && !(scope.names.any fun (n, k) => n == x && (k == .local || k == .cell))) = true := hform
              rw [Bool.and_eq_true, Bool.and_eq_true] at hform'
              have hbk := blkOk_by hb
              obtain ⟨r1, r2⟩ := J.r _ _ _ tg _ _ C g1
              obtain ⟨p1, p2⟩ := J.p _ _ _ _ _ _ C hbk.kind g2
              exact as_setLc C so (beq_iff_eq.mp hform'.1.1) hform'.1.2 (by simpa using hform'.2) hb ht r1 r2 p1 p2 (fun s0 H0 A0 cl0 fp0 => (J.e _ _ _ _ _ (C.blk hbk.kind s0 H0 A0 cl0 fp0) g3).ae) (blk_store C ht)
          | SetComp _ _ _ _ => cases hform
          | DictComp _ _ _ _ _ => cases hform
          | _ => cases hc
      · cases h
    · split at h
      · rename_i hs
        obtain ⟨x, k, y, h1, h2, h3, rfl⟩ := opt_bind3 h
        exact as_setI hs (I.e _ _ _ _ _ C h1).ae (I.e _ _ _ _ _ C h2).ae (I.e _ _ _ _ _ C h3).ae
      · cases h
    · split at h
      · cases h
      · rename_i hn
        obtain ⟨xs, own, y, h1, h2, h3, rfl⟩ : ∃ xs own y, _ ∧ _ ∧ _ ∧ _ = ir := by
          rename_i ts z pt e ps
          cases q1 : ts.mapM nameOf with
          | none => rw [q1] at h; cases h
          | some xs =>
            rw [q1] at h
            cases q2 : xs.mapM (ownOf c.N c.sc) with
            | none =>
              have h' : (xs.mapM (ownOf c.N c.sc)).bind (fun own => (cmpE n c e).bind fun y => (pure (St.setU (own.map (·.2)) y) : Option St)) = some ir := h
              rw [q2] at h'; cases h'
            | some own =>
              have h' : (xs.mapM (ownOf c.N c.sc)).bind (fun own => (cmpE n c e).bind fun y => (pure (St.setU (own.map (·.2)) y) : Option St)) = some ir := h
              rw [q2] at h'
              cases q3 : cmpE n c e with
              | none =>
                have h'' : (cmpE n c e).bind (fun y => (pure (St.setU (own.map (·.2)) y) : Option St)) = some ir := h'
                rw [q3] at h''; cases h''
              | some y =>
                have h'' : (cmpE n c e).bind (fun y => (pure (St.setU (own.map (·.2)) y) : Option St)) = some ir := h'
                rw [q3] at h''
                exact ⟨xs, own, y, q1, q2, q3, Option.some.inj h''⟩
        obtain ⟨o1, o2⟩ := own_mem h2
        exact as_setU C (Bool.eq_false_iff.mpr hn) h1 o1 (fun q hq => store_of C hf (o2 q hq)) (I.e _ _ _ _ _ C h3).ae
    · obtain ⟨i, y, h1, h2, rfl⟩ := opt_bind2 h
      exact as_aug (store_of C hf h1) nd (I.e _ _ _ _ _ C h2).ae
    · split at h
      · cases h
      · rename_i hn
        obtain ⟨x, h1, rfl⟩ := Option.map_eq_some_iff.mp h
        exact as_exp (Bool.eq_false_iff.mpr hn) (I.e _ _ _ _ _ C h1).ae
    · obtain ⟨z, x, y, h0, h1, h2, rfl⟩ := opt_bind3 h
      exact as_ifs (I.e _ _ _ _ _ C h0).at_ (all _ _ h1) (all _ _ h2)
    · rename_i tg iter body ps
      cases q0 : cmpT c.N c.sc tg with
      | none => rw [q0] at h; cases h
      | some to =>
        obtain ⟨t, own⟩ := to
        rw [q0] at h
        have h' : (do
          let s ← cmpR n c iter
          let b ← body.mapM (cmpS n c)
          pure (St.for t s b)) = some ir := h
        obtain ⟨s, b, h1, h2, rfl⟩ := opt_bind2 h'
        obtain ⟨r1, r2⟩ := I.r _ _ _ tg _ _ C h1
        exact as_for C q0 (fun q hq => store_of C hf (cmpT_own q0 q hq)) r1 r2 (all _ _ h2)
    · obtain ⟨z, b, h1, h2, rfl⟩ := opt_bind2 h
      exact as_whl wf C.xe (I.e _ _ _ _ _ C h1).at_ (all _ _ h2)
    · obtain ⟨x, h1, rfl⟩ := Option.map_eq_some_iff.mp h
      exact as_ret (I.e _ _ _ _ _ C h1).ae
    · cases h; exact as_retN
    · cases h; exact as_pass
    · cases h; exact as_brk
    · cases h; exact as_cnt
    · cases h; exact as_bad
    · cases h
theorem cmpB_ok {wf n : Nat} {X : Cx} {c : Cc} {F : CallEnv} {b : List Stmt} {ir : List St} (C : Ctx X c F) (hf : ∀ x, X.fn x = true) (h : cmpB n c b = some ir) : AB X b (exB F wf ir) :=
  ab_all (fun st ir q => cmpS_ok wf n X c F st ir C hf q) b ir h

/-! ### the whole text -/
structure FnI where
  name : Str
  np : Nat
  ks : List Str
  ps : List Str
  N : List Str
  args : Arguments
  body : List Stmt
  scope : Scope
  code : List St
def FnI.df (f : FnI) : Df := ⟨f.N.length, f.code⟩
def fxOf (T : List FnI) : List (Str × Nat × Nat × List Str) := T.zipIdx.map fun p => (p.1.name, p.2, p.1.np, p.1.ks)
structure FnI.Good (T : List FnI) (cs : List (Str × W)) (f : FnI) : Prop where
  sc : FnScope f.N f.ps f.scope
  code : cmpB 60 ⟨f.N, f.scope, fxOf T, cs⟩ f.body = some f.code
  np : f.ps.length = f.np + f.ks.length
  bn : ∀ (kV doc pm : Value) (an : Option Addr) (cdv ct : Value) (us ws : List Value), us.length = f.np → ws.length = f.ks.length → bindArgs (PySem.W.fnOf f.name f.name f.args f.body f.scope .none kV doc pm an cdv ct) ⟨us, f.ks.zip ws⟩ = pure (f.ps.zip (us ++ ws))
/-- what the top has left -/
structure Wld (K : PySem.W.Frag) (mg : Str → Option Value) (T : List FnI) (cs : List (Str × W)) : Prop where
  fn : ∀ (i : Nat) (f : FnI), T[i]? = some f → ∃ a fd, FunD K f.name f.name f.args f.body f.scope [] [] a fd ∧ mg f.name = some (.ref a)
  free : ∀ x ∈ frees, mg x = none
  cs : ∀ x w, cs.lookup x = some w → ∃ v u, mg x = some u ∧ RelV v u ∧ ∀ ρ H, RW K ρ H w v
theorem lookup_mem {α : Type} {l : List (Str × α)} {x : Str} {v : α} (h : l.lookup x = some v) : (x, v) ∈ l := by
  induction l with
  | nil => cases h
  | cons p l ih =>
    obtain ⟨y, w⟩ := p
    rw [List.lookup_cons] at h
    split at h
    · rename_i e
      cases h
      rw [beq_iff_eq.mp e]
      exact List.mem_cons_self ..
    · exact List.mem_cons_of_mem _ (ih h)
theorem fx_mem {T : List FnI} {x : Str} {i np : Nat} {ks : List Str} (h : (fxOf T).lookup x = some (i, np, ks)) : ∃ f, T[i]? = some f ∧ f.name = x ∧ f.np = np ∧ f.ks = ks := by
  have m := lookup_mem h
  unfold fxOf at m
  obtain ⟨q, hq, e⟩ := List.mem_map.mp m
  obtain ⟨f, j⟩ := q
  have := List.mk_mem_zipIdx_iff_getElem?.mp hq
  injection e with e1 e2
  injection e2 with e2 e3
  injection e3 with e3 e4
  subst e1 e2 e3 e4
  exact ⟨f, this, rfl, rfl, rfl⟩
theorem SR.start {K : PySem.W.Frag} {ρ : List Addr} {H : Hp} {ws : List W} {vs : List V} (r : RWs K ρ H ws vs) (N : List Str) : SR K ρ H (startW N.length ws) (L2.start N vs) := by
  have l := r.length
  refine ⟨?_, fun i w e => ?_⟩
  · unfold startW L2.start
    rw [List.length_append, List.length_append, List.length_map, List.length_map, List.length_replicate, List.length_replicate, l]
  · unfold startW at e
    unfold L2.start
    by_cases hi : i < ws.length
    · rw [List.getElem?_append_left (by rw [List.length_map]; exact hi), List.getElem?_map] at e
      cases q : ws[i]? with
      | none => rw [q] at e; cases e
      | some w' =>
        rw [q] at e
        have : w' = w := by simpa using e
        subst this
        obtain ⟨v, h1, h2⟩ := r.get q
        refine ⟨v, ?_, h2⟩
        rw [List.getElem?_append_left (by rw [List.length_map, ← l]; exact hi), List.getElem?_map, h1] <;> rfl
    · rw [List.getElem?_append_right (by rw [List.length_map]; omega)] at e
      have := List.mem_of_getElem? e
      rw [List.mem_replicate] at this
      exact absurd this.2 (by simp)
section
variable {P : Program} {w : World} {K : PySem.W.Frag} {mg : Str → Option Value} {base : Heap} {T : List FnI} {cs : List (Str × W)}
theorem fn_ok (wf : Nat) (WL : Wld K mg T cs) (G : ∀ f ∈ T, f.Good T cs) : ∀ (d i : Nat) (f : FnI) (a : Addr) (fd : FuncData), T[i]? = some f → FunD K f.name f.name f.args f.body f.scope [] [] a fd →
    FnOk P w K mg base CX0 d a fd f.ps (lift K (runF (T.map FnI.df) wf d i) (f.np + f.ks.length)) := by
  intro d
  induction d with
  | zero =>
    intro i f a fd hi hF
    refine ⟨fun vs H Q E h => ?_, fun A outer s H args us vs Q E hr e0 hb hv h => ?_⟩
    · obtain ⟨_, ρ, h', ws, _, _, p⟩ := h
      exact p.elim
    · obtain ⟨_, ρ, h', ws, _, _, p⟩ := h
      exact p.elim
  | succ d ih =>
    intro i f a fd hi hF
    have g := G f (List.mem_of_getElem? hi)
    refine hF.ok g.sc (fun vs H Q E h => by rw [h.1, g.np]) (fun cdv A outer s H vs Q E hr h => ?_)
    obtain ⟨hl, ρ, h', ws, R, r, p⟩ := h
    refine ⟨semSs (cxOf CX0 P w K mg base f.N f.name f.scope a cdv A outer s H E).nox f.body, PSs.nox (PSs.sem _ _), ?_⟩
    have C : Ctx (cxOf CX0 P w K mg base f.N f.name f.scope a cdv A outer s H E).nox ⟨f.N, f.scope, fxOf T, cs⟩ (runF (T.map FnI.df) wf d) :=
      { N := rfl, nd := g.sc.nd, sc := rfl, kind := g.sc.kind, calm := rfl, xe := rfl, hu := hr.units, free := WL.free, cs := WL.cs,
        fn := fun x j np ks hx => by
          obtain ⟨f', hj, rfl, rfl, rfl⟩ := fx_mem hx
          obtain ⟨a', fd', hF', hm'⟩ := WL.fn j f' hj
          have g' := G f' (List.mem_of_getElem? hj)
          refine ⟨d, a', fd', f'.ps, ⟨ih j f' a' fd' hj hF', hr, hm', hF'.kp, ⟨fun s us ws _ l1 l2 => ?_, fun r1 r2 => r1.append r2⟩, fun e => ?_⟩⟩
          · obtain ⟨oc, od, dV, kV, doc, pm, an, cdv, ct, osl, rfl, lk, hcd, hD, hK⟩ := hF'.ex
            rcases hD with ⟨_, rfl⟩ | ⟨z, _⟩
            · exact .of_eq (g'.bn kV doc pm an cdv ct us ws l1 l2)
            · exact absurd rfl z
          · refine hF'.bindsN fun kV doc pm an cdv ct us hl => ?_
            have := g'.bn kV doc pm an cdv ct us [] (by rw [hl, g'.np, e]; rfl) (by rw [e]; rfl)
            rw [e, List.append_nil] at this
            exact this }
    have ab := cmpB_ok (wf := wf) C (fun _ => rfl) g.code
    refine ab (startW f.N.length ws) h' ρ _ H _ (SR.start r f.N) R ?_
    -- the def's end
    have hd : (T.map FnI.df)[i]? = some f.df := by rw [List.getElem?_map, hi] <;> rfl
    have p' : PostW K ρ H (run1 (runF (T.map FnI.df) wf d) wf f.df ws h') Q := by
      have e : runF (T.map FnI.df) wf (d + 1) i ws h' = run1 (runF (T.map FnI.df) wf d) wf f.df ws h' := by
        show (match (T.map FnI.df)[i]? with
          | some d' => run1 (runF (T.map FnI.df) wf d) wf d' ws h'
          | none => .bad) = _
        rw [hd]
      rw [← e]; exact p
    unfold run1 at p'
    have p2 : PostW K ρ H ((exB (runF (T.map FnI.df) wf d) wf f.code (startW f.N.length ws) h').bind fun f h1 => match f with
      | .rt w => .ok w h1
      | .nx _ => .ok .non h1
      | _ => .bad) Q := p'
    cases ee : exB (runF (T.map FnI.df) wf d) wf f.code (startW f.N.length ws) h' with
    | bad => rw [ee] at p2; exact p2.elim
    | ok fl h1 =>
      rw [ee, Res.bind_ok] at p2
      cases fl with
      | rt w => exact p2
      | nx σ => exact fun ρ' H' σv e R S => p2.at e R .non
      | bk σ => exact p2.elim
      | ct σ => exact p2.elim
end
/-- the script's ints -/
def scrW (ns : List Int) : W := .scr (ns.map .int)
theorem rws_ints {K : PySem.W.Frag} {ρ : List Addr} {H : Hp} : ∀ ns : List Int, RWs K ρ H (ns.map W.int) (ns.map V.int)
  | [] => .nil
  | n :: ns => .cons (.int n) (rws_ints ns)
theorem sqS_of {K : PySem.W.Frag} {H : Hp} {a : Addr} {xs : List V} (hO : Only H) (h : SqL K H a xs) : SqS K H a xs := by
  rcases h with (h | h) | h
  · rcases hO a with z | ⟨o, ys, z⟩
    · rw [z] at h; cases h
    · rw [z] at h; cases h
  · exact .inl h
  · exact .inr h
/-- THE END: what the machine answers for the law's def is what the def answers -/
theorem law_sp {K : PySem.W.Frag} {fW : List W → Hh → Res W} {H : Hp} {a : Addr} {ns : List Int} (hO : Only H) (hS : SqL K H a (ns.map V.int)) (h : ∃ h', fW [scrW ns] [] = .ok (.bl true) h') : lift K fW 1 [.ref a] H (fun v _ => v = .bl true) fun _ _ _ => False := by
  obtain ⟨h', e⟩ := h
  refine ⟨rfl, [], [], [scrW ns], ⟨rfl, List.nodup_nil, fun i ws a e _ => by simp at e⟩, .cons (.scr (sqS_of hO hS) (rws_ints ns)) .nil, ?_⟩
  rw [e]
  intro ρ' H' v _ _ r
  cases r
  rfl
end Z
set_option maxHeartbeats 4000000
/-! Z9: a law's end: the head's facts give the text; the machine's answer gives the law. -/
namespace Z
open PySem PySem.Spec PyProof.Rows L2
def fnOf (T : List FnI) : List He.DefD := T.map fun f => ⟨(f.name, none), f.name, f.name, f.args, f.body, f.scope, [], []⟩
def faOf (T : List FnI) (cs : List (Str × Int)) : List He.Fa := T.map (fun f => .glo f.name) ++ (frees.map .free ++ cs.map fun p => .int p.1 p.2)
def csW (cs : List (Str × Int)) : List (Str × W) := cs.map fun p => (p.1, .int p.2)
theorem wld_of {K : PySem.W.Frag} {h : Heap} {mg : Str → Option Value} {T : List FnI} {cs : List (Str × Int)} (X : K.In h) (G : h.Ns mainGlobals mg) (c : He.SaysD (faOf T cs) (fnOf T) K) : Wld K mg T (csW cs) := by
  have fact : ∀ f ∈ faOf T cs, f.ok K = true := fun f hf => by
    obtain ⟨i, hi, e⟩ := List.getElem_of_mem hf
    exact c.fact i (f := f) (by rw [List.getElem?_eq_getElem hi, e])
  refine ⟨fun i f hi => ?_, fun x hx => ?_, fun x w hx => ?_⟩
  · obtain ⟨fd, F⟩ := c.def_ i (d := ⟨(f.name, none), f.name, f.name, f.args, f.body, f.scope, [], []⟩) (by unfold fnOf; rw [List.getElem?_map, hi] <;> rfl)
    exact ⟨_, fd, F, He.glo_ok X G (fact (.glo f.name) (List.mem_append_left _ (List.mem_map_of_mem (f := fun f => He.Fa.glo f.name) (List.mem_of_getElem? hi))))⟩
  · exact He.free_ok X G (fact (.free x) (List.mem_append_right _ (List.mem_append_left _ (List.mem_map_of_mem hx))))
  · have m := lookup_mem hx
    unfold csW at m
    obtain ⟨q, hq, e⟩ := List.mem_map.mp m
    injection e with e1 e2
    subst e1 e2
    obtain ⟨t, ht⟩ := He.int_ok X G (fact (.int q.1 q.2) (List.mem_append_right _ (List.mem_append_right _ (List.mem_map_of_mem (f := fun p : Str × Int => He.Fa.int p.1 p.2) hq))))
    exact ⟨.int q.2, _, ht, ⟨t, rfl⟩, fun _ _ => .int _⟩
/-- a law's end over a head by facts, the script's bits told -/
theorem walk_end {l : PySem.W.OpenLaw} {q : Program} {loose : List Str} {XP : (Str → Option Value) → Heap → Prop} {d : DefRec} {T : List FnI} {cs : List (Str × Int)} {wf k i : Nat} {f : FnI}
    (hn : l.most = some 63) (hdf : d.params.defaults = []) (hr : Room k callerA) (hname : d.name = ("law" : Str)) (hi : T[i]? = some f) (hf : f.name = ("law" : Str)) (hp : f.ps = [("script" : Str)]) (hnp : f.np = 1) (hks : f.ks = [])
    (G : ∀ f ∈ T, f.Good T (csW cs))
    (law : ∀ ns : List Int, ns.length ≤ 63 → (∀ z ∈ ns, Builtin.Int.intBits z ≤ 1048576) → ∃ h', runF (T.map FnI.df) wf k i [scrW ns] [] = .ok (.bl true) h') :
    PySem.W.WalkO q loose XP (fun _ h => ∃ K : PySem.W.Frag, K.In h ∧ He.SaysD (faOf T cs) (fnOf T) K) l.row.toRowW d [] (fun f vs => PySem.call f vs) := by
  refine Att.attach_callB hn hdf fun w s₀ s₁ mg mb fa o pm cd doc a vs ns G0 Y ho hd hcd hmg hobj hints hlen hbits hg => ?_
  obtain ⟨K, KX, c⟩ := Y
  have WL := wld_of KX G0.T.g c
  obtain ⟨a', fd, F, hm⟩ := WL.fn i f hi
  have e : a' = fa := by
    rw [hf, ← hname, hmg] at hm
    exact (Value.ref.inj (Option.some.inj hm)).symm
  subst e
  have g := G f (List.mem_of_getElem? hi)
  have hb : ∀ (s : Shared) (u : Value), BindsTo s fd ⟨[u], []⟩ [(("script" : Str), u)] := fun s u => by
    have b := F.bindsA (ps := f.ps) (fun kV doc pm an cdv ct us hl => by
      have := g.bn kV doc pm an cdv ct us [] (by rw [hl, g.np, hks]; rfl) (by rw [hks]; rfl)
      rw [hks, List.append_nil] at this
      exact this) s [u] (by rw [hp]; rfl)
    rw [hp] at b
    exact b
  refine law_call (CX := CX0) (x := "script") (sp := lift K (runF (T.map FnI.df) wf k i) 1) KX G0.T.g G0.T.b G0.T.builtins G0.T.nolimit hg hobj hints (Nat.le_trans hlen (by decide)) hr (fun base hK hM => ?_) hb (fun H hO hS => law_sp hO hS (law ns hlen hbits)) fun H e s' z => z
  have z := fn_ok (P := l.prog) (w := w) (base := base) wf WL G k i f a' fd hi F
  rw [hp, hnp, hks] at z
  exact z
end Z
set_option maxHeartbeats 2000000
/-! ZA: reckoning with the abstract machine: Ok r Q: r is a result, and Q holds of it. -/
namespace Z
open PySem
def Ok {α : Type} (r : Res α) (Q : α → Hh → Prop) : Prop := match r with
  | .ok a h => Q a h
  | .bad => False
theorem Ok.imp {α : Type} {r : Res α} {Q Q' : α → Hh → Prop} (p : Ok r Q) (q : ∀ a h, Q a h → Q' a h) : Ok r Q' := by
  cases r with
  | bad => exact p
  | ok a h => exact q a h p
theorem Ok.get {α : Type} {r : Res α} {Q : α → Hh → Prop} (p : Ok r Q) : ∃ a h, r = .ok a h ∧ Q a h := by
  cases r with
  | bad => exact p.elim
  | ok a h => exact ⟨a, h, rfl, p⟩
theorem ok_bind {α β : Type} {r : Res α} {f : α → Hh → Res β} {Q : β → Hh → Prop} (p : Ok r fun a h => Ok (f a h) Q) : Ok (r.bind f) Q := by
  cases r with
  | bad => exact p
  | ok a h => exact p
theorem ok_ok {α : Type} {a : α} {h : Hh} {Q : α → Hh → Prop} (q : Q a h) : Ok (.ok a h) Q := q
/-- the continuations -/
def NxK (F : CallEnv) (wf : Nat) (r : List St) (Q : Fl → Hh → Prop) : Fl → Hh → Prop := fun f h => match f with
  | .nx σ => Ok (exB F wf r σ h) Q
  | f => Q f h
def RtK (Q : W → Hh → Prop) : Fl → Hh → Prop := fun f h => match f with
  | .rt w => Q w h
  | .nx _ => Q .non h
  | _ => False
def LpK (I : Sl → Hh → Prop) (Q : Fl → Hh → Prop) : Fl → Hh → Prop := fun f h => match f with
  | .nx σ => I σ h
  | .ct σ => I σ h
  | .bk σ => Q (.nx σ) h
  | .rt w => Q (.rt w) h
theorem ok_run {ds : List Df} {wf k i : Nat} {d : Df} {ws : List W} {h : Hh} {Q : W → Hh → Prop} (e : ds[i]? = some d) (p : Ok (exB (runF ds wf k) wf d.body (startW d.n ws) h) (RtK Q)) : Ok (runF ds wf (k + 1) i ws h) Q := by
  have e' : runF ds wf (k + 1) i ws h = run1 (runF ds wf k) wf d ws h := by
    show (match ds[i]? with
      | some d => run1 (runF ds wf k) wf d ws h
      | none => .bad) = _
    rw [e]
  rw [e']
  unfold run1
  refine ok_bind (p.imp fun f h1 q => ?_)
  cases f <;> first | exact q | exact q.elim
section
variable {F : CallEnv} {wf : Nat} {a b c e o : Ex} {es ks : List Ex} {σ : Sl} {h : Hh} {Q : W → Hh → Prop} {i j : Nat}
/-! ### expressions -/
theorem o_var {w : W} (e : σ[i]? = some (some w)) (q : Q w h) : Ok (ev F (.var i) σ h) Q := by
  unfold ev
  rw [e]
  exact q
theorem o_con {w : W} (q : Q w h) : Ok (ev F (.con w) σ h) Q := by
  unfold ev
  exact q
theorem o_bin {op : Operator} (q : Ok (ev F a σ h) fun x h1 => Ok (ev F b σ h1) fun y h2 => Ok (binW op x y h2) Q) : Ok (ev F (.bin op a b) σ h) Q := by
  unfold ev
  exact ok_bind (q.imp fun _ _ q => ok_bind q)
theorem o_neg (q : Ok (ev F a σ h) fun x h1 => Ok (negW x h1) Q) : Ok (ev F (.neg a) σ h) Q := by
  unfold ev
  exact ok_bind q
theorem ok_optRm {r : Option Bool} (q : Ok (optR r h) fun b h => Q (.bl b) h) : Ok (optR (r.map W.bl) h) Q := by
  cases r with
  | none => exact q
  | some b => exact q
theorem o_cmp {op : CmpOp} (q : Ok (ev F a σ h) fun x h1 => Ok (ev F b σ h1) fun y h2 => Ok (optR (cmpW op x y h2) h2) fun b h => Q (.bl b) h) : Ok (ev F (.cmp op a b) σ h) Q := by
  unfold ev
  exact ok_bind (q.imp fun _ _ q => ok_bind (q.imp fun _ _ q => ok_optRm q))
theorem o_chn {op op' : CmpOp} (q : Ok (ev F a σ h) fun x h1 => Ok (ev F b σ h1) fun y h2 => Ok (optR (cmpW op x y h2) h2) fun t h3 => (t = true → Ok (ev F c σ h3) fun z h4 => Ok (optR (cmpW op' y z h4) h4) fun b h => Q (.bl b) h) ∧ (t = false → Q (.bl false) h3)) : Ok (ev F (.chn op op' a b c) σ h) Q := by
  unfold ev
  refine ok_bind (q.imp fun x h1 q => ok_bind (q.imp fun y h2 q => ?_))
  cases e1 : cmpW op x y h2 with
  | none => rw [e1] at q; exact q
  | some t =>
    rw [e1] at q
    cases t with
    | true => exact ok_bind ((q.1 rfl).imp fun _ _ q => ok_optRm q)
    | false => exact q.2 rfl
theorem o_and (q : Ok (ev F a σ h) fun x h1 => ∃ c, x = .bl c ∧ (c = true → Ok (ev F b σ h1) Q) ∧ (c = false → Q (.bl false) h1)) : Ok (ev F (.and a b) σ h) Q := by
  unfold ev
  refine ok_bind (q.imp fun x h1 q => ?_)
  obtain ⟨c, rfl, q1, q2⟩ := q
  cases c with
  | true => exact q1 rfl
  | false => exact q2 rfl
theorem o_or (q : Ok (ev F a σ h) fun x h1 => ∃ c, x = .bl c ∧ (c = true → Q (.bl true) h1) ∧ (c = false → Ok (ev F b σ h1) Q)) : Ok (ev F (.or a b) σ h) Q := by
  unfold ev
  refine ok_bind (q.imp fun x h1 q => ?_)
  obtain ⟨c, rfl, q1, q2⟩ := q
  cases c with
  | true => exact q1 rfl
  | false => exact q2 rfl
theorem o_not (q : Ok (ev F a σ h) fun x h1 => ∃ c, x = .bl c ∧ Q (.bl (!c)) h1) : Ok (ev F (.not a) σ h) Q := by
  unfold ev
  refine ok_bind (q.imp fun x h1 q => ?_)
  obtain ⟨c, rfl, q1⟩ := q
  exact q1
theorem o_ife (q : Ok (evT F c σ h) fun t h1 => (t = true → Ok (ev F a σ h1) Q) ∧ (t = false → Ok (ev F b σ h1) Q)) : Ok (ev F (.ife c a b) σ h) Q := by
  unfold ev
  refine ok_bind (q.imp fun t h1 q => ?_)
  cases t with
  | true => exact q.1 rfl
  | false => exact q.2 rfl
theorem o_tup (q : Ok (evs F es σ h) fun ws h1 => ws.length ≤ lim ∧ Q (.tup ws) h1) : Ok (ev F (.tup es) σ h) Q := by
  unfold ev
  refine ok_bind (q.imp fun ws h1 q => ?_)
  rw [if_pos q.1]
  exact q.2
theorem o_lst (q : Ok (evs F es σ h) fun ws h1 => ws.length ≤ lim ∧ Q (.ref h1.length) (h1 ++ [.lst ws])) : Ok (ev F (.lst es) σ h) Q := by
  unfold ev
  refine ok_bind (q.imp fun ws h1 q => ?_)
  rw [if_pos q.1]
  exact q.2
theorem o_ix (q : Ok (ev F a σ h) fun x h1 => Ok (ev F b σ h1) fun y h2 => Ok (ixW x y h2) Q) : Ok (ev F (.ix a b) σ h) Q := by
  unfold ev
  exact ok_bind (q.imp fun _ _ q => ok_bind q)
theorem o_sl {lo hi : Option Ex} (q : Ok (ev F a σ h) fun x h1 => Ok (evO F lo σ h1) fun l h2 => Ok (evO F hi σ h2) fun u h3 => Ok (slW x l u h3) Q) : Ok (ev F (.sl a lo hi) σ h) Q := by
  unfold ev
  exact ok_bind (q.imp fun _ _ q => ok_bind (q.imp fun _ _ q => ok_bind q))
theorem oo_none {Q : Option Int → Hh → Prop} (q : Q none h) : Ok (evO F none σ h) Q := by
  unfold evO
  exact q
theorem oo_some {Q : Option Int → Hh → Prop} (q : Ok (ev F a σ h) fun x h1 => ∃ i, x = .int i ∧ Q (some i) h1) : Ok (evO F (some a) σ h) Q := by
  unfold evO
  refine ok_bind (q.imp fun x h1 q => ?_)
  obtain ⟨i, rfl, q⟩ := q
  exact q
theorem o_call {f : Nat} (q : Ok (evs F es σ h) fun ws h1 => Ok (F f ws h1) Q) : Ok (ev F (.call f es []) σ h) Q := by
  unfold ev
  refine ok_bind (q.imp fun ws h1 q => ?_)
  unfold evs
  rw [Res.bind_ok, List.append_nil]
  exact q
theorem o_kcall {f : Nat} (q : Ok (evs F es σ h) fun ws h1 => Ok (evs F ks σ h1) fun zs h2 => Ok (F f (ws ++ zs) h2) Q) : Ok (ev F (.call f es ks) σ h) Q := by
  unfold ev
  exact ok_bind (q.imp fun _ _ q => ok_bind q)
theorem o_isi {t : Ty} (q : Ok (ev F a σ h) fun x h1 => Ok (optR (isiW h1 t x) h1) fun b h => Q (.bl b) h) : Ok (ev F (.isi t a) σ h) Q := by
  unfold ev
  exact ok_bind (q.imp fun _ _ q => ok_optRm q)
theorem o_bi1 {k : Bi} (q : Ok (ev F a σ h) fun x h1 => Ok (bi1 k x h1) Q) : Ok (ev F (.bi k [a]) σ h) Q := by
  unfold ev evs evs
  refine ok_bind (ok_bind (q.imp fun x h1 q => ?_))
  exact q
theorem o_bi2 {k : Bi} (q : Ok (ev F a σ h) fun x h1 => Ok (ev F b σ h1) fun y h2 => Ok (bi2 k x y h2) Q) : Ok (ev F (.bi k [a, b]) σ h) Q := by
  unfold ev evs evs evs
  refine ok_bind (ok_bind (q.imp fun x h1 q => ok_bind (ok_bind (q.imp fun y h2 q => ?_))))
  exact q
theorem o_mt0 {m : Mt} (q : Ok (ev F o σ h) fun x h1 => isL h1 x = true ∧ Ok (mt0 m x h1) Q) : Ok (ev F (.mt m o []) σ h) Q := by
  unfold ev evs
  refine ok_bind (q.imp fun x h1 q => ?_)
  rw [if_pos q.1]
  exact q.2
theorem o_mt1 {m : Mt} (q : Ok (ev F o σ h) fun x h1 => isL h1 x = true ∧ Ok (ev F a σ h1) fun y h2 => Ok (mt1 m x y h2) Q) : Ok (ev F (.mt m o [a]) σ h) Q := by
  unfold ev evs evs
  refine ok_bind (q.imp fun x h1 q => ?_)
  rw [if_pos q.1]
  refine ok_bind (ok_bind (q.2.imp fun y h2 q => ?_))
  exact q
theorem os_nil {Q : List W → Hh → Prop} (q : Q [] h) : Ok (evs F [] σ h) Q := by
  unfold evs
  exact q
theorem os_cons {Q : List W → Hh → Prop} (q : Ok (ev F a σ h) fun x h1 => Ok (evs F es σ h1) fun xs h2 => Q (x :: xs) h2) : Ok (evs F (a :: es) σ h) Q := by
  unfold evs
  exact ok_bind (q.imp fun _ _ q => ok_bind q)
/-! ### tests -/
variable {QB : Bool → Hh → Prop}
theorem t_not (q : Ok (evT F a σ h) fun t h1 => QB (!t) h1) : Ok (evT F (.not a) σ h) QB := by
  unfold evT
  exact ok_bind q
theorem t_and (q : Ok (evT F a σ h) fun t h1 => (t = true → Ok (evT F b σ h1) QB) ∧ (t = false → QB false h1)) : Ok (evT F (.and a b) σ h) QB := by
  unfold evT
  refine ok_bind (q.imp fun t h1 q => ?_)
  cases t with
  | true => exact q.1 rfl
  | false => exact q.2 rfl
theorem t_or (q : Ok (evT F a σ h) fun t h1 => (t = true → QB true h1) ∧ (t = false → Ok (evT F b σ h1) QB)) : Ok (evT F (.or a b) σ h) QB := by
  unfold evT
  refine ok_bind (q.imp fun t h1 q => ?_)
  cases t with
  | true => exact q.1 rfl
  | false => exact q.2 rfl
theorem t_cmp {op : CmpOp} (q : Ok (ev F a σ h) fun x h1 => Ok (ev F b σ h1) fun y h2 => Ok (optR (cmpW op x y h2) h2) QB) : Ok (evT F (.cmp op a b) σ h) QB := by
  unfold evT
  exact ok_bind (q.imp fun _ _ q => ok_bind q)
theorem t_chn {op op' : CmpOp} (q : Ok (ev F a σ h) fun x h1 => Ok (ev F b σ h1) fun y h2 => Ok (optR (cmpW op x y h2) h2) fun t h3 => (t = true → Ok (ev F c σ h3) fun z h4 => Ok (optR (cmpW op' y z h4) h4) QB) ∧ (t = false → QB false h3)) : Ok (evT F (.chn op op' a b c) σ h) QB := by
  unfold evT
  refine ok_bind (q.imp fun x h1 q => ok_bind (q.imp fun y h2 q => ?_))
  cases e1 : cmpW op x y h2 with
  | none => rw [e1] at q; exact q
  | some t =>
    rw [e1] at q
    cases t with
    | true => exact ok_bind (q.1 rfl)
    | false => exact q.2 rfl
theorem t_var {w : W} (e : σ[i]? = some (some w)) (q : Ok (optR (truW h w) h) QB) : Ok (evT F (.var i) σ h) QB := by
  unfold evT
  rw [e]
  exact q
theorem t_isi {t : Ty} (q : Ok (ev F a σ h) fun x h1 => Ok (optR (isiW h1 t x) h1) QB) : Ok (evT F (.isi t a) σ h) QB := by
  unfold evT
  exact ok_bind q
theorem t_call {f : Nat} (q : Ok (evs F es σ h) fun ws h1 => Ok (F f ws h1) fun x h2 => Ok (optR (truW h2 x) h2) QB) : Ok (evT F (.call f es []) σ h) QB := by
  unfold evT
  refine ok_bind (q.imp fun ws h1 q => ?_)
  unfold evs
  rw [Res.bind_ok, List.append_nil]
  exact ok_bind q
theorem t_kcall {f : Nat} (q : Ok (evs F es σ h) fun ws h1 => Ok (evs F ks σ h1) fun zs h2 => Ok (F f (ws ++ zs) h2) fun x h2 => Ok (optR (truW h2 x) h2) QB) : Ok (evT F (.call f es ks) σ h) QB := by
  unfold evT
  exact ok_bind (q.imp fun _ _ q => ok_bind (q.imp fun _ _ q => ok_bind q))
theorem op_none {QB : Bool → Hh → Prop} (q : QB true h) : Ok (evP F none σ h) QB := by
  unfold evP
  exact q
theorem op_some {QB : Bool → Hh → Prop} (q : Ok (evT F a σ h) QB) : Ok (evP F (some a) σ h) QB := by
  unfold evP
  exact q
/-! ### on values -/
theorem v_opt {α : Type} {r : Option α} {x : α} {Q : α → Hh → Prop} (e : r = some x) (q : Q x h) : Ok (optR r h) Q := by
  rw [e]; exact q
variable {x y : Int}
theorem v_add (q : Q (.int (x + y)) h) : Ok (binW .Add (.int x) (.int y) h) Q := q
theorem v_sub (q : Q (.int (x - y)) h) : Ok (binW .Sub (.int x) (.int y) h) Q := q
theorem v_mul (hl : x.natAbs.log2 + y.natAbs.log2 < 100000000) (q : Q (.int (x * y)) h) : Ok (binW .Mult (.int x) (.int y) h) Q := by
  show Ok (if x.natAbs.log2 + y.natAbs.log2 < 100000000 then .ok (.int (x * y)) h else .bad) Q
  rw [if_pos hl]; exact q
theorem v_fdiv (hl : 0 < y ∧ y.natAbs.log2 < 9000) (q : Q (.int (x / y)) h) : Ok (binW .FloorDiv (.int x) (.int y) h) Q := by
  show Ok (if 0 < y ∧ y.natAbs.log2 < 9000 then .ok (.int (x / y)) h else .bad) Q
  rw [if_pos hl]; exact q
theorem v_mod (hl : 0 < y) (q : Q (.int (x % y)) h) : Ok (binW .Mod (.int x) (.int y) h) Q := by
  show Ok (if 0 < y then .ok (.int (x % y)) h else .bad) Q
  rw [if_pos hl]; exact q
theorem v_pow (hl : 0 ≤ y ∧ y ≤ 1000000 ∧ x.natAbs < 2 ^ 64) (q : Q (.int (x ^ y.toNat)) h) : Ok (binW .Pow (.int x) (.int y) h) Q := by
  show Ok (if 0 ≤ y ∧ y ≤ 1000000 ∧ x.natAbs < 2 ^ 64 then .ok (.int (x ^ y.toNat)) h else .bad) Q
  rw [if_pos hl]; exact q
theorem v_neg (q : Q (.int (-x)) h) : Ok (negW (.int x) h) Q := q
theorem v_addT {xs ys : List W} (hl : xs.length + ys.length ≤ lim) (q : Q (.tup (xs ++ ys)) h) : Ok (binW .Add (.tup xs) (.tup ys) h) Q := by
  show Ok (if xs.length + ys.length ≤ lim then .ok (.tup (xs ++ ys)) h else .bad) Q
  rw [if_pos hl]; exact q
theorem v_addL {xs ys : List W} (e1 : lstAt h i = some xs) (e2 : lstAt h j = some ys) (hl : xs.length + ys.length ≤ lim) (q : Q (.ref h.length) (h ++ [.lst (xs ++ ys)])) : Ok (binW .Add (.ref i) (.ref j) h) Q := by
  show Ok (match lstAt h i, lstAt h j with
    | some xs, some ys => if xs.length + ys.length ≤ lim then alloc h (.lst (xs ++ ys)) else .bad
    | _, _ => .bad) Q
  rw [e1, e2]
  show Ok (if xs.length + ys.length ≤ lim then alloc h (.lst (xs ++ ys)) else .bad) Q
  rw [if_pos hl]; exact q
theorem v_eqi (q : QB (decide (x = y)) h) : Ok (optR (cmpW .Eq (.int x) (.int y) h) h) QB := by
  have e : cmpW .Eq (.int x) (.int y) h = some (x == y) := rfl
  rw [e, Bool.beq_eq_decide_eq]; exact q
theorem v_nei (q : QB (decide (x ≠ y)) h) : Ok (optR (cmpW .NotEq (.int x) (.int y) h) h) QB := by
  have e : cmpW .NotEq (.int x) (.int y) h = some (!(x == y)) := rfl
  rw [e, Bool.beq_eq_decide_eq]
  have e2 : (!decide (x = y)) = decide (x ≠ y) := by simp
  show QB (!decide (x = y)) h
  rw [e2]; exact q
theorem v_lt (q : QB (decide (x < y)) h) : Ok (optR (cmpW .Lt (.int x) (.int y) h) h) QB := q
theorem v_le (q : QB (decide (x ≤ y)) h) : Ok (optR (cmpW .LtE (.int x) (.int y) h) h) QB := q
theorem v_gt (q : QB (decide (y < x)) h) : Ok (optR (cmpW .Gt (.int x) (.int y) h) h) QB := q
theorem v_ge (q : QB (decide (y ≤ x)) h) : Ok (optR (cmpW .GtE (.int x) (.int y) h) h) QB := q
theorem v_is {w : W} (q : QB (isNon w) h) : Ok (optR (cmpW .Is w .non h) h) QB := q
theorem v_isnot {w : W} (q : QB (!isNon w) h) : Ok (optR (cmpW .IsNot w .non h) h) QB := q
theorem v_eq {u w : W} {b : Bool} (e : eqW h u w = some b) (q : QB b h) : Ok (optR (cmpW .Eq u w h) h) QB := v_opt e q
theorem v_ne {u w : W} {b : Bool} (e : eqW h u w = some b) (q : QB (!b) h) : Ok (optR (cmpW .NotEq u w h) h) QB := by
  have e' : cmpW .NotEq u w h = some (!b) := by
    show (eqW h u w).map (!·) = _
    rw [e] <;> rfl
  exact v_opt e' q
theorem v_ixT {ws : List W} {w : W} (e : L2.atI ws x = some w) (q : Q w h) : Ok (ixW (.tup ws) (.int x) h) Q := by
  show Ok (optR (L2.atI ws x) h) Q
  rw [e]; exact q
theorem v_ixL {ws : List W} {w : W} (e1 : lstAt h i = some ws) (e : L2.atI ws x = some w) (q : Q w h) : Ok (ixW (.ref i) (.int x) h) Q := by
  show Ok (match lstAt h i with
    | some ws => optR (L2.atI ws x) h
    | none => .bad) Q
  rw [e1]
  show Ok (optR (L2.atI ws x) h) Q
  rw [e]; exact q
theorem v_lenT {ws : List W} (q : Q (.int ws.length) h) : Ok (bi1 .len (.tup ws) h) Q := q
theorem v_lenS {ws : List W} (q : Q (.int ws.length) h) : Ok (bi1 .len (.scr ws) h) Q := q
theorem v_lenL {ws : List W} (e : lstAt h i = some ws) (q : Q (.int ws.length) h) : Ok (bi1 .len (.ref i) h) Q := by
  show Ok (match lstAt h i with
    | some ws => .ok (.int ws.length) h
    | none => .bad) Q
  rw [e]; exact q
theorem v_abs (q : Q (.int (if x < 0 then -x else x)) h) : Ok (bi1 .abs (.int x) h) Q := q
theorem v_int (q : Q (.int x) h) : Ok (bi1 .int (.int x) h) Q := q
theorem v_intb {b : Bool} (q : Q (.int (if b then 1 else 0)) h) : Ok (bi1 .int (.bl b) h) Q := q
theorem v_listT {ws : List W} (q : Q (.ref h.length) (h ++ [.lst ws])) : Ok (bi1 .list (.tup ws) h) Q := q
theorem v_listL {ws : List W} (e : lstAt h i = some ws) (q : Q (.ref h.length) (h ++ [.lst ws])) : Ok (bi1 .list (.ref i) h) Q := by
  show Ok (match lstAt h i with
    | some ws => alloc h (.lst ws)
    | none => .bad) Q
  rw [e]; exact q
theorem v_tupleT {ws : List W} (q : Q (.tup ws) h) : Ok (bi1 .tuple (.tup ws) h) Q := q
theorem v_tupleL {ws : List W} (e : lstAt h i = some ws) (q : Q (.tup ws) h) : Ok (bi1 .tuple (.ref i) h) Q := by
  show Ok (match lstAt h i with
    | some ws => .ok (.tup ws) h
    | none => .bad) Q
  rw [e]; exact q
theorem v_min2 (q : Q (.int (if y < x then y else x)) h) : Ok (bi2 .min2 (.int x) (.int y) h) Q := q
theorem v_max2 (q : Q (.int (if y > x then y else x)) h) : Ok (bi2 .max2 (.int x) (.int y) h) Q := q
theorem v_isL {ws : List W} (e : lstAt h i = some ws) : isL h (.ref i) = true := by
  show (lstAt h i).isSome = true
  rw [e] <;> rfl
theorem v_append {ws : List W} {w : W} (e : lstAt h i = some ws) (hl : ws.length < lim) (q : Q .non (h.set i (.lst (ws ++ [w])))) : Ok (mt1 .append (.ref i) w h) Q := by
  show Ok (match lstAt h i with
    | some ws => if ws.length < lim then .ok .non (h.set i (.lst (ws ++ [w]))) else .bad
    | none => .bad) Q
  rw [e]
  show Ok (if ws.length < lim then .ok .non (h.set i (.lst (ws ++ [w]))) else .bad) Q
  rw [if_pos hl]; exact q
theorem v_pop {ws : List W} {w : W} (e : lstAt h i = some ws) (e2 : ws[ws.length - 1]? = some w) (q : Q w (h.set i (.lst ws.dropLast))) : Ok (mt0 .pop (.ref i) h) Q := by
  show Ok (match lstAt h i with
    | some ws => (match ws[ws.length - 1]? with
      | some y => .ok y (h.set i (.lst ws.dropLast))
      | none => .bad)
    | none => .bad) Q
  rw [e]
  show Ok (match ws[ws.length - 1]? with
      | some y => .ok y (h.set i (.lst ws.dropLast))
      | none => .bad) Q
  rw [e2]; exact q
theorem v_slT {ws : List W} {l u : Option Int} (q : Q (.tup (cut ws l u)) h) : Ok (slW (.tup ws) l u h) Q := q
theorem v_slL {ws : List W} {l u : Option Int} (e : lstAt h i = some ws) (q : Q (.ref h.length) (h ++ [.lst (cut ws l u)])) : Ok (slW (.ref i) l u h) Q := by
  show Ok (match lstAt h i with
    | some ws => alloc h (.lst (cut ws l u))
    | none => .bad) Q
  rw [e]; exact q
/-! ### statements -/
variable {r A B : List St} {QF : Fl → Hh → Prop}
theorem b_nil (q : QF (.nx σ) h) : Ok (exB F wf [] σ h) QF := by
  unfold exB
  exact q
theorem b_cons {s : St} (q : Ok (exS F wf s σ h) (NxK F wf r QF)) : Ok (exB F wf (s :: r) σ h) QF := by
  unfold exB
  refine ok_bind (q.imp fun f h1 q => ?_)
  cases f <;> exact q
theorem b_set (q : Ok (ev F e σ h) fun w h1 => Ok (exB F wf r (σ.set i (some w)) h1) QF) : Ok (exB F wf (.set i e :: r) σ h) QF := by
  refine b_cons ?_
  unfold exS
  exact ok_bind q
theorem b_ret (q : Ok (ev F e σ h) fun w h1 => QF (.rt w) h1) : Ok (exB F wf (.ret e :: r) σ h) QF := by
  refine b_cons ?_
  unfold exS
  exact ok_bind q
theorem b_retN (q : QF (.rt .non) h) : Ok (exB F wf (.retN :: r) σ h) QF := by
  refine b_cons ?_
  unfold exS
  exact q
theorem b_exp (q : Ok (ev F e σ h) fun w h1 => Ok (exB F wf r σ h1) QF) : Ok (exB F wf (.exp e :: r) σ h) QF := by
  refine b_cons ?_
  unfold exS
  exact ok_bind q
theorem b_pass (q : Ok (exB F wf r σ h) QF) : Ok (exB F wf (.pass :: r) σ h) QF := by
  refine b_cons ?_
  unfold exS
  exact q
theorem b_brk (q : QF (.bk σ) h) : Ok (exB F wf (.brk :: r) σ h) QF := by
  refine b_cons ?_
  unfold exS
  exact q
theorem b_cnt (q : QF (.ct σ) h) : Ok (exB F wf (.cnt :: r) σ h) QF := by
  refine b_cons ?_
  unfold exS
  exact q
/-- an if: the two ways -/
theorem b_ifs (q : Ok (evT F c σ h) fun t h1 => (t = true → Ok (exB F wf A σ h1) (NxK F wf r QF)) ∧ (t = false → Ok (exB F wf B σ h1) (NxK F wf r QF))) : Ok (exB F wf (.ifs c A B :: r) σ h) QF := by
  refine b_cons ?_
  unfold exS
  refine ok_bind (q.imp fun t h1 q => ?_)
  cases t with
  | true => exact q.1 rfl
  | false => exact q.2 rfl
theorem b_when (q : Ok (evT F c σ h) fun t h1 => (t = true → Ok (exB F wf A σ h1) (NxK F wf r QF)) ∧ (t = false → Ok (exB F wf r σ h1) QF)) : Ok (exB F wf (.ifs c A [] :: r) σ h) QF :=
  b_ifs (q.imp fun t h1 q => ⟨q.1, fun z => b_nil (q.2 z)⟩)
theorem b_setU {is : List Nat} (q : Ok (ev F e σ h) fun w h1 => ∃ ws σ', seqOf h1 w = some ws ∧ setAll is ws σ = some σ' ∧ Ok (exB F wf r σ' h1) QF) : Ok (exB F wf (.setU is e :: r) σ h) QF := by
  refine b_cons ?_
  unfold exS
  refine ok_bind (q.imp fun w h1 q => ?_)
  obtain ⟨ws, σ', e1, e2, q⟩ := q
  rw [e1, Option.bind_some, e2]
  exact q
theorem b_setI {a k : Ex} (q : Ok (ev F e σ h) fun v h1 => Ok (ev F a σ h1) fun o h2 => Ok (ev F k σ h2) fun i h3 => Ok (setIW o i v h3) fun _ h4 => Ok (exB F wf r σ h4) QF) : Ok (exB F wf (.setI a k e :: r) σ h) QF := by
  refine b_cons ?_
  unfold exS
  exact ok_bind (q.imp fun _ _ q => ok_bind (q.imp fun _ _ q => ok_bind (q.imp fun _ _ q => ok_bind (q.imp fun _ _ q => q))))
theorem v_setI {ws : List W} {v : W} {k : Nat} {Q : Unit → Hh → Prop} (e : lstAt h i = some ws) (e2 : L2.ixN ws.length x = some k) (q : Q () (h.set i (.lst (ws.set k v)))) : Ok (setIW (.ref i) (.int x) v h) Q := by
  show Ok (match lstAt h i with
    | some ws => (match L2.ixN ws.length x with
      | some j => .ok () (h.set i (.lst (ws.set j v)))
      | none => .bad)
    | none => .bad) Q
  rw [e]
  show Ok (match L2.ixN ws.length x with
      | some j => .ok () (h.set i (.lst (ws.set j v)))
      | none => .bad) Q
  rw [e2]; exact q
theorem b_aug {op : Operator} {a : Int} (e1 : σ[i]? = some (some (.int a))) (q : Ok (ev F e σ h) fun y h1 => ∃ z, augW op a y = some z ∧ Ok (exB F wf r (σ.set i (some (.int z))) h1) QF) : Ok (exB F wf (.aug i op e :: r) σ h) QF := by
  refine b_cons ?_
  unfold exS
  rw [e1]
  refine ok_bind (q.imp fun y h1 q => ?_)
  obtain ⟨z, e2, q⟩ := q
  rw [e2]
  exact q
/-! ### what is walked -/
variable {QK : Wk → Hh → Prop}
theorem r_seq (q : Ok (ev F e σ h) fun x h1 => match x with
    | .tup ws => QK (.fix ws) h1
    | .scr ws => QK (.fix ws) h1
    | .ref a => ∃ ws, lstAt h1 a = some ws ∧ QK (.live a) h1
    | _ => False) : Ok (evR F (.seq e) σ h) QK := by
  unfold evR
  refine ok_bind (q.imp fun x h1 q => ?_)
  cases x with
  | tup ws => exact q
  | scr ws => exact q
  | ref a =>
    obtain ⟨ws, e1, q⟩ := q
    show Ok (match lstAt h1 a with
      | some _ => .ok (.live a) h1
      | none => .bad) QK
    rw [e1]; exact q
  | _ => exact q.elim
theorem r_rng1 (q : Ok (ev F e σ h) fun x h1 => ∃ n, x = .int n ∧ okR n = true ∧ QK (.fix (rngL 0 n.toNat)) h1) : Ok (evR F (.rng1 e) σ h) QK := by
  unfold evR
  refine ok_bind (q.imp fun x h1 q => ?_)
  obtain ⟨n, rfl, e1, q⟩ := q
  show Ok (if okR n then .ok (.fix (rngL 0 n.toNat)) h1 else .bad) QK
  rw [if_pos e1]; exact q
theorem r_rng2 (q : Ok (ev F a σ h) fun x h1 => Ok (ev F b σ h1) fun y h2 => ∃ n m, x = .int n ∧ y = .int m ∧ okR n = true ∧ okR m = true ∧ QK (.fix (rngL n (m - n).toNat)) h2) : Ok (evR F (.rng2 a b) σ h) QK := by
  unfold evR
  refine ok_bind (q.imp fun x h1 q => ok_bind (q.imp fun y h2 q => ?_))
  obtain ⟨n, m, rfl, rfl, e1, e2, q⟩ := q
  show Ok (if okR n && okR m then .ok (.fix (rngL n (m - n).toNat)) h2 else .bad) QK
  rw [e1, e2]; exact q
theorem b_for {t : Tg} {s : Sr} (q : Ok (evR F s σ h) fun k h1 => Ok (forGo k (bindT t) (fun σ' h' => exB F wf A σ' h') (k.size h1 + 1) 0 σ h1) (NxK F wf r QF)) : Ok (exB F wf (.for t s A :: r) σ h) QF := by
  refine b_cons ?_
  unfold exS
  exact ok_bind q
theorem b_whl (q : Ok (whlGo (evT F c) (fun σ' h' => exB F wf A σ' h') wf σ h) (NxK F wf r QF)) : Ok (exB F wf (.whl c A :: r) σ h) QF := by
  refine b_cons ?_
  unfold exS
  exact q
theorem forGo_ok {k : Wk} {bnd : W → Hh → Sl → Option Sl} {body : Sl → Hh → Res Fl} {ws : List W} (I : Nat → Sl → Hh → Prop) (al : ∀ i σ h, i ≤ ws.length → I i σ h → k.at i h = some ws[i]?)
    (st : ∀ i w σ h, ws[i]? = some w → I i σ h → ∃ σ1, bnd w h σ = some σ1 ∧ Ok (body σ1 h) (LpK (I (i + 1)) QF)) (dn : ∀ σ h, I ws.length σ h → QF (.nx σ) h) : ∀ (n i : Nat) (σ : Sl) (h : Hh), i + n = ws.length → I i σ h → Ok (forGo k bnd body (n + 1) i σ h) QF := by
  intro n
  induction n with
  | zero =>
    intro i σ h hi p
    unfold forGo
    rw [al i σ h (by omega) p, List.getElem?_eq_none (by omega)]
    have : i = ws.length := by omega
    subst this
    exact dn σ h p
  | succ n ih =>
    intro i σ h hi p
    unfold forGo
    have hl : i < ws.length := by omega
    rw [al i σ h (by omega) p, List.getElem?_eq_getElem hl]
    obtain ⟨σ1, e1, q⟩ := st i ws[i] σ h (List.getElem?_eq_getElem hl) p
    show Ok (match bnd ws[i] h σ with
      | none => .bad
      | some σ1 => (body σ1 h).bind (forNx (forGo k bnd body (n + 1) (i + 1)))) QF
    rw [e1]
    refine ok_bind (q.imp fun f h2 q => ?_)
    cases f with
    | nx σ2 => exact ih (i + 1) σ2 h2 (by omega) q
    | ct σ2 => exact ih (i + 1) σ2 h2 (by omega) q
    | bk σ2 => exact q
    | rt w => exact q
/-- for over a tuple, a range -/
theorem for_fix {bnd : W → Hh → Sl → Option Sl} {body : Sl → Hh → Res Fl} {ws : List W} (I : Nat → Sl → Hh → Prop) (h0 : I 0 σ h)
    (st : ∀ i w σ h, ws[i]? = some w → I i σ h → ∃ σ1, bnd w h σ = some σ1 ∧ Ok (body σ1 h) (LpK (I (i + 1)) QF)) (dn : ∀ σ h, I ws.length σ h → QF (.nx σ) h) : Ok (forGo (.fix ws) bnd body (Wk.size (.fix ws) h + 1) 0 σ h) QF :=
  forGo_ok I (fun _ _ _ _ _ => rfl) st dn ws.length 0 σ h (Nat.zero_add _) h0
/-- for over a list that stays -/
theorem for_live {bnd : W → Hh → Sl → Option Sl} {body : Sl → Hh → Res Fl} {ws : List W} {a : Nat} (I : Nat → Sl → Hh → Prop) (e : lstAt h a = some ws) (al : ∀ i σ h, I i σ h → lstAt h a = some ws) (h0 : I 0 σ h)
    (st : ∀ i w σ h, ws[i]? = some w → I i σ h → ∃ σ1, bnd w h σ = some σ1 ∧ Ok (body σ1 h) (LpK (I (i + 1)) QF)) (dn : ∀ σ h, I ws.length σ h → QF (.nx σ) h) : Ok (forGo (.live a) bnd body (Wk.size (.live a) h + 1) 0 σ h) QF := by
  have ez : Wk.size (.live a) h = ws.length := by
    show ((lstAt h a).getD []).length = _
    rw [e] <;> rfl
  rw [ez]
  exact forGo_ok I (fun i σ h _ p => by
    show (lstAt h a).map (fun ws => ws[i]?) = _
    rw [al i σ h p] <;> rfl) st dn ws.length 0 σ h (Nat.zero_add _) h0
/-- while, by a measure -/
theorem whl_ok {test : Sl → Hh → Res Bool} {body : Sl → Hh → Res Fl} (I : Sl → Hh → Prop) (m : Sl → Hh → Nat) (st : ∀ σ h, I σ h → Ok (test σ h) fun t h1 => (t = false → QF (.nx σ) h1) ∧ (t = true → Ok (body σ h1) (LpK (fun σ2 h2 => I σ2 h2 ∧ m σ2 h2 < m σ h) QF))) :
    ∀ (n : Nat) (σ : Sl) (h : Hh), m σ h < n → I σ h → Ok (whlGo test body n σ h) QF := by
  intro n
  induction n with
  | zero => intro σ h hm; omega
  | succ n ih =>
    intro σ h hm p
    unfold whlGo
    refine ok_bind ((st σ h p).imp fun t h1 q => ?_)
    cases t with
    | false => exact q.1 rfl
    | true =>
      refine ok_bind ((q.2 rfl).imp fun f h2 q => ?_)
      cases f with
      | nx σ2 => exact ih σ2 h2 (by have := q.2; omega) q.1
      | ct σ2 => exact ih σ2 h2 (by have := q.2; omega) q.1
      | bk σ2 => exact q
      | rt w => exact q
/-! ### comprehensions -/
theorem o_lc {t : Tg} {s : Sr} {p : Option Ex} (q : Ok (evR F s σ h) fun k h1 => k.size h1 < lim ∧ Ok (lcGo k (fun w h' => bindT t w h' (wipeW σ t.slots)) (evP F p) (ev F e) h1.length (k.size h1 + 1) 0 (h1 ++ [.lst []])) fun _ h2 => Q (.ref h1.length) h2) : Ok (ev F (.lc t s p e) σ h) Q := by
  unfold ev
  refine ok_bind (q.imp fun k h1 q => ?_)
  rw [if_pos q.1]
  exact ok_bind q.2
theorem lcGo_ok {k : Wk} {bnd : W → Hh → Option Sl} {test : Sl → Hh → Res Bool} {elt : Sl → Hh → Res W} {d : Nat} {ws : List W} {QU : Unit → Hh → Prop} (I : Nat → List W → Hh → Prop) (al : ∀ i acc h, i ≤ ws.length → I i acc h → k.at i h = some ws[i]?)
    (st : ∀ i w acc h, ws[i]? = some w → I i acc h → lstAt h d = some acc → ∃ σ1, bnd w h = some σ1 ∧ Ok (test σ1 h) fun b h2 => (b = false → I (i + 1) acc h2 ∧ lstAt h2 d = some acc) ∧ (b = true → Ok (elt σ1 h2) fun y h3 => lstAt h3 d = some acc ∧ acc.length < lim ∧ I (i + 1) (acc ++ [y]) (h3.set d (.lst (acc ++ [y])))))
    (dn : ∀ acc h, I ws.length acc h → lstAt h d = some acc → QU () h) : ∀ (n i : Nat) (acc : List W) (h : Hh), i + n = ws.length → I i acc h → lstAt h d = some acc → Ok (lcGo k bnd test elt d (n + 1) i h) QU := by
  intro n
  induction n with
  | zero =>
    intro i acc h hi p hd
    unfold lcGo
    rw [al i acc h (by omega) p, List.getElem?_eq_none (by omega)]
    have : i = ws.length := by omega
    subst this
    exact dn acc h p hd
  | succ n ih =>
    intro i acc h hi p hd
    unfold lcGo
    have hl : i < ws.length := by omega
    rw [al i acc h (by omega) p, List.getElem?_eq_getElem hl]
    obtain ⟨σ1, e1, q⟩ := st i ws[i] acc h (List.getElem?_eq_getElem hl) p hd
    show Ok (match bnd ws[i] h with
      | none => .bad
      | some σ1 => (test σ1 h).bind (lcStep (lcGo k bnd test elt d (n + 1) (i + 1)) (elt σ1) d)) QU
    rw [e1]
    refine ok_bind (q.imp fun b h2 q => ?_)
    cases b with
    | false => exact ih (i + 1) acc h2 (by omega) (q.1 rfl).1 (q.1 rfl).2
    | true =>
      refine ok_bind ((q.2 rfl).imp fun y h3 q => ?_)
      show Ok (match lstAt h3 d with
        | some acc => if acc.length < lim then lcGo k bnd test elt d (n + 1) (i + 1) (h3.set d (.lst (acc ++ [y]))) else .bad
        | none => .bad) QU
      rw [q.1]
      show Ok (if acc.length < lim then lcGo k bnd test elt d (n + 1) (i + 1) (h3.set d (.lst (acc ++ [y]))) else .bad) QU
      rw [if_pos q.2.1]
      refine ih (i + 1) (acc ++ [y]) _ (by omega) q.2.2 ?_
      have e3 : h3[d]? = some (.lst acc) := by
        have := q.1
        unfold lstAt at this
        split at this
        · rename_i z; cases this; exact z
        · cases this
      have hd3 : d < h3.length := (List.getElem?_eq_some_iff.mp e3).1
      unfold lstAt
      rw [List.getElem?_set_self hd3]
/-! ### what stands behind -/
theorem k_nx (q : Ok (exB F wf r σ h) QF) : NxK F wf r QF (.nx σ) h := q
theorem k_rt {w : W} (q : QF (.rt w) h) : NxK F wf r QF (.rt w) h := q
theorem k_bk (q : QF (.bk σ) h) : NxK F wf r QF (.bk σ) h := q
theorem k_ct (q : QF (.ct σ) h) : NxK F wf r QF (.ct σ) h := q
theorem l_nx {I : Sl → Hh → Prop} (q : I σ h) : LpK I QF (.nx σ) h := q
theorem l_ct {I : Sl → Hh → Prop} (q : I σ h) : LpK I QF (.ct σ) h := q
theorem l_bk {I : Sl → Hh → Prop} (q : QF (.nx σ) h) : LpK I QF (.bk σ) h := q
theorem l_rt {I : Sl → Hh → Prop} {w : W} (q : QF (.rt w) h) : LpK I QF (.rt w) h := q
theorem f_rt {w : W} (q : Q w h) : RtK Q (.rt w) h := q
theorem f_nx (q : Q .non h) : RtK Q (.nx σ) h := q
end
/-! ### heaps -/
theorem lst_get {h : Hh} {i : Nat} {ws : List W} (e : lstAt h i = some ws) : h[i]? = some (.lst ws) := by
  unfold lstAt at e
  split at e
  · rename_i z; cases e; exact z
  · cases e
theorem lst_of {h : Hh} {i : Nat} {ws : List W} (e : h[i]? = some (.lst ws)) : lstAt h i = some ws := by
  unfold lstAt
  rw [e]
theorem lst_lt {h : Hh} {i : Nat} {ws : List W} (e : lstAt h i = some ws) : i < h.length := (List.getElem?_eq_some_iff.mp (lst_get e)).1
theorem lst_app {h l : Hh} {i : Nat} {ws : List W} (e : lstAt h i = some ws) : lstAt (h ++ l) i = some ws := lst_of (by rw [List.getElem?_append_left (lst_lt e)]; exact lst_get e)
theorem lst_new {h : Hh} {ws : List W} : lstAt (h ++ [.lst ws]) h.length = some ws := lst_of (by rw [List.getElem?_append_right (Nat.le_refl _), Nat.sub_self] <;> rfl)
theorem lst_set {h : Hh} {i : Nat} {ws us : List W} (e : lstAt h i = some ws) : lstAt (h.set i (.lst us)) i = some us := lst_of (List.getElem?_set_self (lst_lt e))
theorem lst_set_ne {h : Hh} {i j : Nat} {o : O} {ws : List W} (hn : j ≠ i) (e : lstAt h j = some ws) : lstAt (h.set i o) j = some ws := lst_of (by rw [List.getElem?_set_ne (Ne.symm hn)]; exact lst_get e)
/-- what stands from lo on, stands -/
structure Kp (lo : Nat) (h h' : Hh) : Prop where
  len : h.length ≤ h'.length
  at_ : ∀ k, lo ≤ k → k < h.length → h'[k]? = h[k]?
theorem Kp.refl (lo : Nat) (h : Hh) : Kp lo h h := ⟨Nat.le_refl _, fun _ _ _ => rfl⟩
theorem Kp.trans {lo : Nat} {h h1 h2 : Hh} (a : Kp lo h h1) (b : Kp lo h1 h2) : Kp lo h h2 := ⟨Nat.le_trans a.len b.len, fun k h3 h4 => (b.at_ k h3 (Nat.lt_of_lt_of_le h4 a.len)).trans (a.at_ k h3 h4)⟩
theorem Kp.mono {lo lo' : Nat} {h h' : Hh} (a : Kp lo h h') (l : lo ≤ lo') : Kp lo' h h' := ⟨a.len, fun k h1 h2 => a.at_ k (Nat.le_trans l h1) h2⟩
theorem Kp.lst {lo : Nat} {h h' : Hh} {k : Nat} {ws : List W} (a : Kp lo h h') (l : lo ≤ k) (e : lstAt h k = some ws) : lstAt h' k = some ws := lst_of ((a.at_ k l (lst_lt e)).trans (lst_get e))
theorem Kp.app (lo : Nat) (h l : Hh) : Kp lo h (h ++ l) := ⟨by rw [List.length_append]; omega, fun k _ h2 => List.getElem?_append_left h2⟩
theorem Kp.addl {lo : Nat} {h h' : Hh} (a : Kp lo h h') (l : Hh) : Kp lo h (h' ++ l) := a.trans (Kp.app lo h' l)
theorem Kp.put {lo : Nat} {h h' : Hh} {k : Nat} {o : O} (a : Kp lo h h') (hk : h.length ≤ k ∨ k < lo) : Kp lo h (h'.set k o) := ⟨by rw [List.length_set]; exact a.len, fun j h1 h2 => by
  rw [List.getElem?_set_ne (by omega)]; exact a.at_ j h1 h2⟩
/-- a comprehension whose elements leave the heap as it is -/
theorem lc_pure {k : Wk} {bnd : W → Hh → Option Sl} {test : Sl → Hh → Res Bool} {elt : Sl → Hh → Res W} {ws : List W} {QU : Unit → Hh → Prop} {h : Hh} (g : W → Bool) (f : W → W) (hz : ws.length < lim) (al : ∀ (i : Nat) (acc : List W), i ≤ ws.length → k.at i (h ++ [.lst acc]) = some ws[i]?)
    (st : ∀ (i : Nat) (w : W) (acc : List W), ws[i]? = some w → ∃ σ1, bnd w (h ++ [.lst acc]) = some σ1 ∧ Ok (test σ1 (h ++ [.lst acc])) fun b h2 => b = g w ∧ h2 = h ++ [.lst acc] ∧ (b = true → Ok (elt σ1 (h ++ [.lst acc])) fun y h3 => y = f w ∧ h3 = h ++ [.lst acc]))
    (dn : QU () (h ++ [.lst ((ws.filter g).map f)])) : Ok (lcGo k bnd test elt h.length (ws.length + 1) 0 (h ++ [.lst []])) QU := by
  refine lcGo_ok (ws := ws) (fun i acc h' => h' = h ++ [.lst acc] ∧ acc = ((ws.take i).filter g).map f ∧ i ≤ ws.length) (fun i acc h' hi p => by rw [p.1]; exact al i acc hi) (fun i w acc h' hw p hd => ?_) (fun acc h' p hd => ?_) ws.length 0 [] _ (Nat.zero_add _) ⟨rfl, by simp, Nat.zero_le _⟩ lst_new
  · obtain ⟨rfl, rfl, hi⟩ := p
    have hlt := (List.getElem?_eq_some_iff.mp hw).1
    obtain ⟨σ1, e1, q⟩ := st i w _ hw
    have tk : ws.take (i + 1) = ws.take i ++ [w] := by
      rw [List.take_succ, hw] <;> rfl
    refine ⟨σ1, e1, q.imp fun b h2 ⟨e2, e3, q⟩ => ⟨fun hb => ?_, fun hb => ?_⟩⟩
    · subst e3
      refine ⟨⟨rfl, ?_, hlt⟩, lst_new⟩
      rw [tk, List.filter_append, List.filter_cons, ← e2, hb]
      simp
    · subst e3
      refine (q hb).imp fun y h3 ⟨e4, e5⟩ => ?_
      subst e4 e5
      refine ⟨lst_new, ?_, ?_, ?_, hlt⟩
      · rw [List.length_map]
        have := List.length_filter_le g (ws.take i)
        rw [List.length_take] at this
        omega
      · rw [List.set_append, if_neg (Nat.lt_irrefl _), Nat.sub_self] <;> rfl
      · rw [tk, List.filter_append, List.map_append, List.filter_cons, ← e2, hb]
        simp
  · obtain ⟨rfl, rfl, hi⟩ := p
    rw [List.take_length]
    exact dn
end Z
set_option maxHeartbeats 4000000
namespace C73
open PySem PySem.Spec PyProof.Rows L2 Z
def top (i : Nat) : Stmt := PySem.Challenge.pw_scorestead_k73_charts.main.body.getD i (.Pass ⟨0, 0, 0, 0⟩)
/-- is_number: 0 value -/
def c_is_number : List Z.St := [
  .ret (.and (.isi .int (.var 0)) (.not (.isi .bool (.var 0))))]
def f_is_number : FnI := ⟨"is_number", 1, [], ["value"], ["value"], defArgs (top 1), defBody (top 1), defScope (top 1), c_is_number⟩
/-- two_charts: 0 p 1 c 2 late 3 far 4 gap 5 first 6 second -/
def c_two_charts : List Z.St := [
  .set 4 (.bin .Add (.bin .Add (.ix (.var 2) (.var 1)) (.ix (.ix (.var 3) (.var 1)) (.var 0))) (.ix (.var 2) (.var 0))),
  .ifs (.cmp .Eq (.var 4) (.con (.int 0))) [.ret (.con .non)] [],
  .set 5 (.tup [.ix (.var 2) (.var 0), .bin .Add (.ix (.var 2) (.var 0)) (.var 4), .con (.int 0), .con (.int 0), .con (.int 0), .ix (.var 2) (.var 1), .ix (.ix (.var 3) (.var 1)) (.var 0)]),
  .set 6 (.tup [.con (.int 0), .var 4, .ix (.var 2) (.var 0), .ix (.var 2) (.var 0), .con (.int 1), .con (.int 0), .con (.int 0)]),
  .ret (.tup [.var 5, .var 6])]
def f_two_charts : FnI := ⟨"two_charts", 2, ["late", "far"], ["p", "c", "late", "far"], ["p", "c", "late", "far", "gap", "first", "second"], defArgs (top 4), defBody (top 4), defScope (top 4), c_two_charts⟩
/-- is_chart: 0 p 1 c 2 chart 3 late 4 far 5 gap 6 member 7 b0 8 b1 9 d0 10 d1 11 beat 12 e 13 f -/
def c_is_chart : List Z.St := [
  .ifs (.cmp .NotEq (.bi .len [.var 2]) (.con (.int 7))) [.ret (.con (.bl false))] [],
  .for (.nm 6) (.seq (.var 2)) [.ifs (.not (.call 0 [.var 6] [])) [.ret (.con (.bl false))] []],
  .setU [7, 8, 9, 10, 11, 12, 13] (.var 2),
  .ifs (.or (.cmp .Lt (.var 7) (.con (.int 0))) (.cmp .Lt (.var 8) (.bin .Add (.var 7) (.var 5)))) [.ret (.con (.bl false))] [],
  .ifs (.or (.not (.chn .LtE .LtE (.con (.int 0)) (.var 9) (.ix (.var 3) (.var 0)))) (.not (.chn .LtE .LtE (.con (.int 0)) (.var 10) (.ix (.var 3) (.var 0))))) [.ret (.con (.bl false))] [],
  .ifs (.cmp .NotIn (.var 11) (.tup [.con (.int 0), .con (.int 1)])) [.ret (.con (.bl false))] [],
  .ret (.and (.chn .LtE .LtE (.con (.int 0)) (.var 12) (.ix (.var 3) (.var 1))) (.chn .LtE .LtE (.con (.int 0)) (.var 13) (.ix (.ix (.var 4) (.var 1)) (.var 0))))]
def f_is_chart : FnI := ⟨"is_chart", 6, [], ["p", "c", "chart", "late", "far", "gap"], ["p", "c", "chart", "late", "far", "gap", "member", "b0", "b1", "d0", "d1", "beat", "e", "f"], defArgs (top 5), defBody (top 5), defScope (top 5), c_is_chart⟩
/-- chart_moments: 0 chart 1 b0 2 b1 3 d0 4 d1 5 beat 6 e 7 f 8 sounded -/
def c_chart_moments : List Z.St := [
  .setU [1, 2, 3, 4, 5, 6, 7] (.var 0),
  .set 8 (.ife (.cmp .Eq (.var 5) (.con (.int 0))) (.var 1) (.var 2)),
  .ret (.tup [.bin .Add (.var 1) (.var 3), .bin .Add (.var 2) (.var 4), .bin .Add (.bin .Add (.var 8) (.var 6)) (.var 7)])]
def f_chart_moments : FnI := ⟨"chart_moments", 1, [], ["chart"], ["chart", "b0", "b1", "d0", "d1", "beat", "e", "f", "sounded"], defArgs (top 6), defBody (top 6), defScope (top 6), c_chart_moments⟩
/-- charts_clash: 0 p 1 c 2 first 3 second 4 late 5 far 6 gap -/
def c_charts_clash : List Z.St := [
  .ifs (.or (.not (.call 2 [.var 0, .var 1, .var 2, .var 4, .var 5, .var 6] [])) (.not (.call 2 [.var 0, .var 1, .var 3, .var 4, .var 5, .var 6] []))) [.ret (.con (.bl false))] [],
  .ret (.and (.cmp .Eq (.call 3 [.var 2] []) (.call 3 [.var 3] [])) (.cmp .NotEq (.ix (.var 2) (.con (.int 4))) (.ix (.var 3) (.con (.int 4)))))]
def f_charts_clash : FnI := ⟨"charts_clash", 4, ["late", "far", "gap"], ["p", "c", "first", "second", "late", "far", "gap"], ["p", "c", "first", "second", "late", "far", "gap"], defArgs (top 7), defBody (top 7), defScope (top 7), c_charts_clash⟩
/-- _law_start: 0 script 1 seed 2 great 3 cell -/
def c_law_start : List Z.St := [
  .set 1 (.bi .len [.var 0]),
  .set 2 (.lst []),
  .for (.nm 3) (.seq (.var 0)) [.set 1 (.bin .Mod (.bi .int [.bin .Add (.bin .Add (.bin .Mult (.var 1) (.con (.int 1000003))) (.bin .Mult (.bi .abs [.var 3]) (.con (.int 2)))) (.bi .int [.cmp .Lt (.var 3) (.con (.int 0))])]) (.con (.int 2305843009213693951))), .ifs (.cmp .GtE (.bi .abs [.var 3]) (.bin .Pow (.con (.int 10)) (.con (.int 18)))) [.set 2 (.bin .Add (.lst [.bin .Sub (.bi .abs [.var 3]) (.bin .Pow (.con (.int 10)) (.con (.int 18)))]) (.var 2))] []],
  .ret (.lst [.var 1, .con (.int 0), .var 2])]
def f_law_start : FnI := ⟨"_law_start", 1, [], ["script"], ["script", "seed", "great", "cell"], defArgs (top 9), defBody (top 9), defScope (top 9), c_law_start⟩
/-- _law_draw: 0 st 1 many 2 rest 3 k 4 number 5 t -/
def c_law_draw : List Z.St := [
  .set 2 (.ix (.var 0) (.con (.int 2))),
  .for (.nm 3) (.rng1 (.bi .len [.var 2])) [.ifs (.cmp .Gt (.ix (.var 2) (.neg (.con (.int 1)))) (.con (.int 0))) [.set 4 (.ix (.var 2) (.neg (.con (.int 1)))), .setI (.var 2) (.neg (.con (.int 1))) (.bin .FloorDiv (.var 4) (.var 1)), .ret (.bin .Mod (.bi .int [.var 4]) (.var 1))] [], .exp (.mt .pop (.var 2) [])],
  .setI (.var 0) (.con (.int 1)) (.bin .Add (.ix (.var 0) (.con (.int 1))) (.con (.int 1))),
  .set 5 (.bin .Mod (.bi .int [.bin .Add (.bin .Add (.ix (.var 0) (.con (.int 0))) (.bin .Mult (.ix (.var 0) (.con (.int 1))) (.con (.int 69621)))) (.con (.int 11))]) (.con (.int 2147483647))),
  .set 5 (.bin .Mod (.bi .int [.bin .Add (.bin .Add (.bin .Mult (.var 5) (.var 5)) (.bin .Mult (.ix (.var 0) (.con (.int 1))) (.con (.int 16807)))) (.ix (.var 0) (.con (.int 0)))]) (.con (.int 2147483629))),
  .set 5 (.bin .Mod (.bi .int [.bin .Add (.bin .Add (.bin .Mult (.var 5) (.var 5)) (.bin .Mult (.ix (.var 0) (.con (.int 1))) (.con (.int 48271)))) (.con (.int 12345))]) (.con (.int 2147483587))),
  .ret (.bin .Mod (.bi .int [.bin .FloorDiv (.var 5) (.con (.int 7))]) (.var 1))]
def f_law_draw : FnI := ⟨"_law_draw", 2, [], ["st", "many"], ["st", "many", "rest", "k", "number", "t"], defArgs (top 10), defBody (top 10), defScope (top 10), c_law_draw⟩
/-- _law_int: 0 x -/
def c_law_int : List Z.St := [
  .ret (.and (.isi .int (.var 0)) (.not (.isi .bool (.var 0))))]
def f_law_int : FnI := ⟨"_law_int", 1, [], ["x"], ["x"], defArgs (top 11), defBody (top 11), defScope (top 11), c_law_int⟩
/-- _law_same: 0 told 1 due 2 k -/
def c_law_same : List Z.St := [
  .ifs (.cmp .Is (.var 1) (.con .non)) [.ret (.cmp .Is (.var 0) (.con .non))] [],
  .ifs (.isi .bool (.var 1)) [.ret (.and (.isi .bool (.var 0)) (.cmp .Eq (.var 0) (.var 1)))] [],
  .ifs (.isi .int (.var 1)) [.ret (.and (.call 7 [.var 0] []) (.cmp .Eq (.var 0) (.var 1)))] [],
  .ifs (.isi .str (.var 1)) [.ret (.and (.isi .str (.var 0)) (.cmp .Eq (.var 0) (.var 1)))] [],
  .ifs (.and (.isi .tuple (.var 1)) (.not (.isi .tuple (.var 0)))) [.ret (.con (.bl false))] [],
  .ifs (.and (.isi .list (.var 1)) (.not (.isi .list (.var 0)))) [.ret (.con (.bl false))] [],
  .ifs (.cmp .NotEq (.bi .len [.var 0]) (.bi .len [.var 1])) [.ret (.con (.bl false))] [],
  .for (.nm 2) (.rng1 (.bi .len [.var 1])) [.ifs (.not (.call 8 [.ix (.var 0) (.var 2), .ix (.var 1) (.var 2)] [])) [.ret (.con (.bl false))] []],
  .ret (.con (.bl true))]
def f_law_same : FnI := ⟨"_law_same", 2, [], ["told", "due"], ["told", "due", "k"], defArgs (top 12), defBody (top 12), defScope (top 12), c_law_same⟩
/-- _law_copy: 0 thing 1 x -/
def c_law_copy : List Z.St := [
  .ifs (.isi .list (.var 0)) [.ret (.lc (.nm 1) (.seq (.var 0)) none (.call 9 [.var 1] []))] [],
  .ret (.var 0)]
def f_law_copy : FnI := ⟨"_law_copy", 1, [], ["thing"], ["thing", "x"], defArgs (top 13), defBody (top 13), defScope (top 13), c_law_copy⟩
/-- _law_great: 0 st -/
def c_law_great : List Z.St := [
  .ret (.bin .Add (.bin .Mult (.call 6 [.var 0, .bin .Pow (.con (.int 10)) (.con (.int 6))] []) (.bin .Pow (.con (.int 10)) (.con (.int 33)))) (.call 6 [.var 0, .bin .Pow (.con (.int 10)) (.con (.int 33))] []))]
def f_law_great : FnI := ⟨"_law_great", 1, [], ["st"], ["st"], defArgs (top 14), defBody (top 14), defScope (top 14), c_law_great⟩
/-- _law_within: 0 st 1 bound -/
def c_law_within : List Z.St := [
  .ret (.ix (.lst [.con (.int 0), .var 1, .call 6 [.var 0, .bin .Add (.var 1) (.con (.int 1))] []]) (.call 6 [.var 0, .con (.int 3)] []))]
def f_law_within : FnI := ⟨"_law_within", 2, [], ["st", "bound"], ["st", "bound"], defArgs (top 15), defBody (top 15), defScope (top 15), c_law_within⟩
/-- _law_bounds: 0 st 1 lines 2 span 3 lates 4 p 5 c -/
def c_law_bounds : List Z.St := [
  .set 2 (.ix (.lst [.con (.int 1), .con (.int 4), .con (.int 21)]) (.call 6 [.var 0, .con (.int 3)] [])),
  .set 3 (.bin .Add (.lst [.con (.int 0)]) (.lc (.nm 4) (.rng1 (.bin .Sub (.var 1) (.con (.int 1)))) none (.call 6 [.var 0, .var 2] []))),
  .ret (.lst [.var 3, .lc (.nm 5) (.rng1 (.var 1)) none (.lc (.nm 4) (.rng1 (.var 1)) none (.call 6 [.var 0, .var 2] []))])]
def f_law_bounds : FnI := ⟨"_law_bounds", 2, [], ["st", "lines"], ["st", "lines", "span", "lates", "p", "c"], defArgs (top 16), defBody (top 16), defScope (top 16), c_law_bounds⟩
/-- _law_possible: 0 chart 1 ends 2 size 3 x -/
def c_law_possible : List Z.St := [
  .ifs (.or (.not (.isi .tuple (.var 0))) (.cmp .NotEq (.bi .len [.var 0]) (.con (.int 7)))) [.ret (.con (.bl false))] [],
  .for (.nm 3) (.seq (.var 0)) [.ifs (.not (.call 7 [.var 3] [])) [.ret (.con (.bl false))] []],
  .ifs (.or (.cmp .Lt (.ix (.var 0) (.con (.int 0))) (.con (.int 0))) (.cmp .Lt (.bin .Sub (.ix (.var 0) (.con (.int 1))) (.ix (.var 0) (.con (.int 0)))) (.var 2))) [.ret (.con (.bl false))] [],
  .ifs (.or (.cmp .Lt (.bi .min2 [.ix (.var 0) (.con (.int 2)), .ix (.var 0) (.con (.int 3))]) (.con (.int 0))) (.cmp .Gt (.bi .max2 [.ix (.var 0) (.con (.int 2)), .ix (.var 0) (.con (.int 3))]) (.ix (.var 1) (.con (.int 0))))) [.ret (.con (.bl false))] [],
  .ifs (.and (.cmp .NotEq (.ix (.var 0) (.con (.int 4))) (.con (.int 0))) (.cmp .NotEq (.ix (.var 0) (.con (.int 4))) (.con (.int 1)))) [.ret (.con (.bl false))] [],
  .ifs (.or (.cmp .Lt (.ix (.var 0) (.con (.int 5))) (.con (.int 0))) (.cmp .Gt (.ix (.var 0) (.con (.int 5))) (.ix (.var 1) (.con (.int 1))))) [.ret (.con (.bl false))] [],
  .ret (.and (.cmp .GtE (.ix (.var 0) (.con (.int 6))) (.con (.int 0))) (.cmp .LtE (.ix (.var 0) (.con (.int 6))) (.ix (.var 1) (.con (.int 2)))))]
def f_law_possible : FnI := ⟨"_law_possible", 3, [], ["chart", "ends", "size"], ["chart", "ends", "size", "x"], defArgs (top 17), defBody (top 17), defScope (top 17), c_law_possible⟩
/-- _law_moments: 0 chart -/
def c_law_moments : List Z.St := [
  .ret (.tup [.bin .Add (.ix (.var 0) (.con (.int 0))) (.ix (.var 0) (.con (.int 2))), .bin .Add (.ix (.var 0) (.con (.int 1))) (.ix (.var 0) (.con (.int 3))), .bin .Add (.bin .Add (.ix (.var 0) (.ix (.var 0) (.con (.int 4)))) (.ix (.var 0) (.con (.int 5)))) (.ix (.var 0) (.con (.int 6)))])]
def f_law_moments : FnI := ⟨"_law_moments", 1, [], ["chart"], ["chart"], defArgs (top 18), defBody (top 18), defScope (top 18), c_law_moments⟩
/-- _law_clash: 0 one 1 two 2 ends 3 size -/
def c_law_clash : List Z.St := [
  .ifs (.or (.not (.call 13 [.var 0, .var 2, .var 3] [])) (.not (.call 13 [.var 1, .var 2, .var 3] []))) [.ret (.con (.bl false))] [],
  .ret (.and (.cmp .Eq (.call 14 [.var 0] []) (.call 14 [.var 1] [])) (.cmp .Eq (.bin .Add (.ix (.var 0) (.con (.int 4))) (.ix (.var 1) (.con (.int 4)))) (.con (.int 1))))]
def f_law_clash : FnI := ⟨"_law_clash", 4, [], ["one", "two", "ends", "size"], ["one", "two", "ends", "size"], defArgs (top 19), defBody (top 19), defScope (top 19), c_law_clash⟩
/-- _law_alike: 0 st 1 ends 2 caps 3 v 4 cap 5 base 6 spot 7 later 8 one -/
def c_law_alike : List Z.St := [
  .set 2 (.lst [.ix (.var 1) (.con (.int 0)), .ix (.var 1) (.con (.int 0)), .ix (.var 1) (.con (.int 0)), .ix (.var 1) (.con (.int 0)), .ix (.var 1) (.con (.int 1)), .ix (.var 1) (.con (.int 1)), .ix (.var 1) (.con (.int 2)), .ix (.var 1) (.con (.int 2))]),
  .set 3 (.lc (.nm 4) (.seq (.var 2)) none (.call 11 [.var 0, .var 4] [])),
  .set 5 (.bin .Add (.ix (.var 1) (.con (.int 0))) (.call 6 [.var 0, .con (.int 5)] [])),
  .ifs (.cmp .Eq (.call 6 [.var 0, .con (.int 8)] []) (.con (.int 0))) [.set 5 (.bin .Add (.var 5) (.call 10 [.var 0] []))] [],
  .set 6 (.call 6 [.var 0, .con (.int 18)] []),
  .ifs (.cmp .Lt (.var 6) (.con (.int 8))) [.setI (.var 3) (.var 6) (.ix (.lst [.neg (.con (.int 1)), .bin .Add (.ix (.var 2) (.var 6)) (.con (.int 1))]) (.call 6 [.var 0, .con (.int 2)] []))] [],
  .ifs (.cmp .Eq (.var 6) (.con (.int 8))) [.set 5 (.bin .Sub (.ix (.var 3) (.con (.int 0))) (.con (.int 1)))] [],
  .ifs (.cmp .Eq (.var 6) (.con (.int 9))) [.set 5 (.bin .Sub (.ix (.var 3) (.con (.int 2))) (.con (.int 1)))] [],
  .set 7 (.bin .Sub (.bin .Sub (.bin .Add (.bin .Add (.bin .Sub (.var 5) (.ix (.var 3) (.con (.int 0)))) (.ix (.var 3) (.con (.int 4)))) (.ix (.var 3) (.con (.int 6)))) (.ix (.var 3) (.con (.int 5)))) (.ix (.var 3) (.con (.int 7)))),
  .set 8 (.tup [.bin .Sub (.var 5) (.ix (.var 3) (.con (.int 0))), .bin .Sub (.bin .Add (.var 7) (.ix (.var 3) (.con (.int 3)))) (.ix (.var 3) (.con (.int 1))), .ix (.var 3) (.con (.int 0)), .ix (.var 3) (.con (.int 1)), .con (.int 0), .ix (.var 3) (.con (.int 4)), .ix (.var 3) (.con (.int 6))]),
  .ret (.lst [.var 8, .tup [.bin .Sub (.var 5) (.ix (.var 3) (.con (.int 2))), .var 7, .ix (.var 3) (.con (.int 2)), .ix (.var 3) (.con (.int 3)), .con (.int 1), .ix (.var 3) (.con (.int 5)), .ix (.var 3) (.con (.int 7))]])]
def f_law_alike : FnI := ⟨"_law_alike", 2, [], ["st", "ends"], ["st", "ends", "caps", "v", "cap", "base", "spot", "later", "one"], defArgs (top 20), defBody (top 20), defScope (top 20), c_law_alike⟩
/-- _law_bent: 0 st 1 pair 2 way 3 side 4 spot 5 chart 6 out -/
def c_law_bent : List Z.St := [
  .set 2 (.call 6 [.var 0, .con (.int 12)] []),
  .set 3 (.call 6 [.var 0, .con (.int 2)] []),
  .set 4 (.call 6 [.var 0, .con (.int 7)] []),
  .set 5 (.bi .list [.ix (.var 1) (.var 3)]),
  .ifs (.cmp .Gt (.var 2) (.con (.int 4))) [.ret (.var 1)] [],
  .ifs (.cmp .Eq (.var 2) (.con (.int 4))) [.ret (.lst [.ix (.var 1) (.var 3), .ix (.var 1) (.var 3)])] [],
  .ifs (.cmp .Gt (.var 2) (.con (.int 1))) [.setI (.var 5) (.var 4) (.bin .Add (.ix (.var 5) (.var 4)) (.ix (.lst [.con (.int 1), .neg (.con (.int 1))]) (.call 6 [.var 0, .con (.int 2)] [])))] [.ifs (.cmp .Eq (.var 2) (.con (.int 1))) [.setI (.var 5) (.var 4) (.ix (.lst [.con .non, .con (.bl true), .con (.bl false), .con (.str "0"), .tup [.con (.int 0)]]) (.call 6 [.var 0, .con (.int 5)] []))] [.ifs (.cmp .Eq (.call 6 [.var 0, .con (.int 2)] []) (.con (.int 0))) [.exp (.mt .pop (.var 5) [])] [.exp (.mt .append (.var 5) [.con (.int 0)])]]],
  .set 6 (.bi .list [.var 1]),
  .setI (.var 6) (.var 3) (.bi .tuple [.var 5]),
  .ret (.var 6)]
def f_law_bent : FnI := ⟨"_law_bent", 2, [], ["st", "pair"], ["st", "pair", "way", "side", "spot", "chart", "out"], defArgs (top 21), defBody (top 21), defScope (top 21), c_law_bent⟩
/-- _law_sizes: 0 st 1 pair 2 reach 3 out 4 chart -/
def c_law_sizes : List Z.St := [
  .set 3 (.lst [.var 2, .bin .Add (.var 2) (.con (.int 1))]),
  .for (.nm 4) (.seq (.var 1)) [.ifs (.call 13 [.var 4, .lst [.con (.int 30), .con (.int 30), .con (.int 30)], .neg (.bin .Pow (.con (.int 10)) (.con (.int 45)))] []) [.set 3 (.bin .Add (.var 3) (.lst [.bin .Sub (.ix (.var 4) (.con (.int 1))) (.ix (.var 4) (.con (.int 0))), .bin .Add (.bin .Sub (.ix (.var 4) (.con (.int 1))) (.ix (.var 4) (.con (.int 0)))) (.con (.int 1))]))] []],
  .ret (.bin .Add (.var 3) (.lst [.bin .Sub (.call 6 [.var 0, .con (.int 9)] []) (.con (.int 4))]))]
def f_law_sizes : FnI := ⟨"_law_sizes", 3, [], ["st", "pair", "reach"], ["st", "pair", "reach", "out", "chart"], defArgs (top 22), defBody (top 22), defScope (top 22), c_law_sizes⟩
/-- law: 0 script 1 st 2 lates 3 fars 4 p 5 c 6 reach 7 ends 8 passed 9 told 10 pairs 11 k 12 pair 13 size 14 due -/
def c_law : List Z.St := [
  .set 1 (.call 5 [.var 0] []),
  .setU [2, 3] (.call 12 [.var 1, .bin .Add (.con (.int 1)) (.call 6 [.var 1, .con (.int 6)] [])] []),
  .set 4 (.call 6 [.var 1, .bi .len [.var 2]] []),
  .set 5 (.call 6 [.var 1, .bi .len [.var 2]] []),
  .set 6 (.bin .Add (.bin .Add (.ix (.var 2) (.var 5)) (.ix (.ix (.var 3) (.var 5)) (.var 4))) (.ix (.var 2) (.var 4))),
  .set 7 (.lst [.ix (.var 2) (.var 4), .ix (.var 2) (.var 5), .ix (.ix (.var 3) (.var 5)) (.var 4)]),
  .set 8 (.lst [.bi .list [.var 2], .call 9 [.var 3] []]),
  .set 9 (.call 1 [.var 4, .var 5] [.ix (.var 8) (.con (.int 0)), .ix (.var 8) (.con (.int 1))]),
  .ifs (.and (.cmp .Eq (.var 6) (.con (.int 0))) (.cmp .IsNot (.var 9) (.con .non))) [.ret (.con (.bl false))] [],
  .set 10 (.lc (.nm 11) (.rng1 (.con (.int 6))) none (.call 17 [.var 1, .call 16 [.var 1, .var 7] []] [])),
  .ifs (.cmp .Gt (.var 6) (.con (.int 0))) [.ifs (.or (.not (.isi .tuple (.var 9))) (.or (.cmp .NotEq (.bi .len [.var 9]) (.con (.int 2))) (.not (.call 15 [.ix (.var 9) (.con (.int 0)), .ix (.var 9) (.con (.int 1)), .var 7, .var 6] [])))) [.ret (.con (.bl false))] [], .exp (.mt .append (.var 10) [.bi .list [.var 9]])] [],
  .for (.nm 12) (.seq (.var 10)) [.for (.nm 13) (.seq (.call 18 [.var 1, .var 12, .var 6] [])) [.set 14 (.call 15 [.ix (.var 12) (.con (.int 0)), .ix (.var 12) (.con (.int 1)), .var 7, .var 13] []), .ifs (.not (.call 8 [.call 4 [.var 4, .var 5, .ix (.var 12) (.con (.int 0)), .ix (.var 12) (.con (.int 1))] [.ix (.var 8) (.con (.int 0)), .ix (.var 8) (.con (.int 1)), .var 13], .var 14] [])) [.ret (.con (.bl false))] [], .ifs (.not (.call 8 [.call 4 [.var 4, .var 5, .ix (.var 12) (.con (.int 1)), .ix (.var 12) (.con (.int 0))] [.ix (.var 8) (.con (.int 0)), .ix (.var 8) (.con (.int 1)), .var 13], .var 14] [])) [.ret (.con (.bl false))] []]],
  .ret (.cmp .Eq (.var 8) (.lst [.var 2, .var 3]))]
def f_law : FnI := ⟨"law", 1, [], ["script"], ["script", "st", "lates", "fars", "p", "c", "reach", "ends", "passed", "told", "pairs", "k", "pair", "size", "due"], defArgs (top 23), defBody (top 23), defScope (top 23), c_law⟩
def tab : List FnI := [f_is_number, f_two_charts, f_is_chart, f_chart_moments, f_charts_clash, f_law_start, f_law_draw, f_law_int, f_law_same, f_law_copy, f_law_great, f_law_within, f_law_bounds, f_law_possible, f_law_moments, f_law_clash, f_law_alike, f_law_bent, f_law_sizes, f_law]
def csI : List (Str × Int) := [("CHART_SIZE", 7)]
abbrev cst : List (Str × W) := csW csI
theorem g_is_number : f_is_number.Good tab cst := ⟨⟨rfl, rfl, rfl, by decide +kernel, rfl, by decide +kernel, by decide +kernel⟩, by kernel_rfl, rfl, fun _ _ _ _ _ _ us ws h1 h2 => match us, ws, h1, h2 with | [_], [], _, _ => rfl⟩
theorem g_two_charts : f_two_charts.Good tab cst := ⟨⟨rfl, rfl, rfl, by decide +kernel, rfl, by decide +kernel, by decide +kernel⟩, by kernel_rfl, rfl, fun _ _ _ _ _ _ us ws h1 h2 => match us, ws, h1, h2 with | [_, _], [_, _], _, _ => rfl⟩
theorem g_is_chart : f_is_chart.Good tab cst := ⟨⟨rfl, rfl, rfl, by decide +kernel, rfl, by decide +kernel, by decide +kernel⟩, by kernel_rfl, rfl, fun _ _ _ _ _ _ us ws h1 h2 => match us, ws, h1, h2 with | [_, _, _, _, _, _], [], _, _ => rfl⟩
theorem g_chart_moments : f_chart_moments.Good tab cst := ⟨⟨rfl, rfl, rfl, by decide +kernel, rfl, by decide +kernel, by decide +kernel⟩, by kernel_rfl, rfl, fun _ _ _ _ _ _ us ws h1 h2 => match us, ws, h1, h2 with | [_], [], _, _ => rfl⟩
theorem g_charts_clash : f_charts_clash.Good tab cst := ⟨⟨rfl, rfl, rfl, by decide +kernel, rfl, by decide +kernel, by decide +kernel⟩, by kernel_rfl, rfl, fun _ _ _ _ _ _ us ws h1 h2 => match us, ws, h1, h2 with | [_, _, _, _], [_, _, _], _, _ => rfl⟩
theorem g_law_start : f_law_start.Good tab cst := ⟨⟨rfl, rfl, rfl, by decide +kernel, rfl, by decide +kernel, by decide +kernel⟩, by kernel_rfl, rfl, fun _ _ _ _ _ _ us ws h1 h2 => match us, ws, h1, h2 with | [_], [], _, _ => rfl⟩
theorem g_law_draw : f_law_draw.Good tab cst := ⟨⟨rfl, rfl, rfl, by decide +kernel, rfl, by decide +kernel, by decide +kernel⟩, by kernel_rfl, rfl, fun _ _ _ _ _ _ us ws h1 h2 => match us, ws, h1, h2 with | [_, _], [], _, _ => rfl⟩
theorem g_law_int : f_law_int.Good tab cst := ⟨⟨rfl, rfl, rfl, by decide +kernel, rfl, by decide +kernel, by decide +kernel⟩, by kernel_rfl, rfl, fun _ _ _ _ _ _ us ws h1 h2 => match us, ws, h1, h2 with | [_], [], _, _ => rfl⟩
theorem g_law_same : f_law_same.Good tab cst := ⟨⟨rfl, rfl, rfl, by decide +kernel, rfl, by decide +kernel, by decide +kernel⟩, by kernel_rfl, rfl, fun _ _ _ _ _ _ us ws h1 h2 => match us, ws, h1, h2 with | [_, _], [], _, _ => rfl⟩
theorem g_law_copy : f_law_copy.Good tab cst := ⟨⟨rfl, rfl, rfl, by decide +kernel, rfl, by decide +kernel, by decide +kernel⟩, by kernel_rfl, rfl, fun _ _ _ _ _ _ us ws h1 h2 => match us, ws, h1, h2 with | [_], [], _, _ => rfl⟩
theorem g_law_great : f_law_great.Good tab cst := ⟨⟨rfl, rfl, rfl, by decide +kernel, rfl, by decide +kernel, by decide +kernel⟩, by kernel_rfl, rfl, fun _ _ _ _ _ _ us ws h1 h2 => match us, ws, h1, h2 with | [_], [], _, _ => rfl⟩
theorem g_law_within : f_law_within.Good tab cst := ⟨⟨rfl, rfl, rfl, by decide +kernel, rfl, by decide +kernel, by decide +kernel⟩, by kernel_rfl, rfl, fun _ _ _ _ _ _ us ws h1 h2 => match us, ws, h1, h2 with | [_, _], [], _, _ => rfl⟩
theorem g_law_bounds : f_law_bounds.Good tab cst := ⟨⟨rfl, rfl, rfl, by decide +kernel, rfl, by decide +kernel, by decide +kernel⟩, by kernel_rfl, rfl, fun _ _ _ _ _ _ us ws h1 h2 => match us, ws, h1, h2 with | [_, _], [], _, _ => rfl⟩
theorem g_law_possible : f_law_possible.Good tab cst := ⟨⟨rfl, rfl, rfl, by decide +kernel, rfl, by decide +kernel, by decide +kernel⟩, by kernel_rfl, rfl, fun _ _ _ _ _ _ us ws h1 h2 => match us, ws, h1, h2 with | [_, _, _], [], _, _ => rfl⟩
theorem g_law_moments : f_law_moments.Good tab cst := ⟨⟨rfl, rfl, rfl, by decide +kernel, rfl, by decide +kernel, by decide +kernel⟩, by kernel_rfl, rfl, fun _ _ _ _ _ _ us ws h1 h2 => match us, ws, h1, h2 with | [_], [], _, _ => rfl⟩
theorem g_law_clash : f_law_clash.Good tab cst := ⟨⟨rfl, rfl, rfl, by decide +kernel, rfl, by decide +kernel, by decide +kernel⟩, by kernel_rfl, rfl, fun _ _ _ _ _ _ us ws h1 h2 => match us, ws, h1, h2 with | [_, _, _, _], [], _, _ => rfl⟩
theorem g_law_alike : f_law_alike.Good tab cst := ⟨⟨rfl, rfl, rfl, by decide +kernel, rfl, by decide +kernel, by decide +kernel⟩, by kernel_rfl, rfl, fun _ _ _ _ _ _ us ws h1 h2 => match us, ws, h1, h2 with | [_, _], [], _, _ => rfl⟩
theorem g_law_bent : f_law_bent.Good tab cst := ⟨⟨rfl, rfl, rfl, by decide +kernel, rfl, by decide +kernel, by decide +kernel⟩, by kernel_rfl, rfl, fun _ _ _ _ _ _ us ws h1 h2 => match us, ws, h1, h2 with | [_, _], [], _, _ => rfl⟩
theorem g_law_sizes : f_law_sizes.Good tab cst := ⟨⟨rfl, rfl, rfl, by decide +kernel, rfl, by decide +kernel, by decide +kernel⟩, by kernel_rfl, rfl, fun _ _ _ _ _ _ us ws h1 h2 => match us, ws, h1, h2 with | [_, _, _], [], _, _ => rfl⟩
theorem g_law : f_law.Good tab cst := ⟨⟨rfl, rfl, rfl, by decide +kernel, rfl, by decide +kernel, by decide +kernel⟩, by kernel_rfl, rfl, fun _ _ _ _ _ _ us ws h1 h2 => match us, ws, h1, h2 with | [_], [], _, _ => rfl⟩
theorem good : ∀ f ∈ tab, f.Good tab cst := by
  intro f hf
  unfold tab at hf
  simp only [List.mem_cons, List.not_mem_nil, or_false] at hf
  rcases hf with rfl | rfl | rfl | rfl | rfl | rfl | rfl | rfl | rfl | rfl | rfl | rfl | rfl | rfl | rfl | rfl | rfl | rfl | rfl | rfl
  · exact g_is_number
  · exact g_two_charts
  · exact g_is_chart
  · exact g_chart_moments
  · exact g_charts_clash
  · exact g_law_start
  · exact g_law_draw
  · exact g_law_int
  · exact g_law_same
  · exact g_law_copy
  · exact g_law_great
  · exact g_law_within
  · exact g_law_bounds
  · exact g_law_possible
  · exact g_law_moments
  · exact g_law_clash
  · exact g_law_alike
  · exact g_law_bent
  · exact g_law_sizes
  · exact g_law
def wf : Nat := 100000
end C73
set_option maxHeartbeats 2000000
namespace C73
open PySem PySem.Spec PyProof.Rows L2 Z
/-- one step -/
local macro_rules | `(tactic| walk_at "z") => `(tactic| with_reducible first
  | refine k_nx ?_ | refine k_rt ?_ | refine k_bk ?_ | refine k_ct ?_ | refine l_nx ?_ | refine l_ct ?_ | refine l_bk ?_ | refine l_rt ?_ | refine f_rt ?_ | refine f_nx ?_
  | refine b_when ?_ | refine b_ifs ?_ | refine b_set ?_ | refine b_ret ?_ | refine b_retN ?_ | refine b_exp ?_ | refine b_setI ?_ | refine b_setU ?_ | refine b_for ?_ | refine b_nil ?_ | refine b_pass ?_ | refine b_brk ?_ | refine b_cnt ?_ | refine b_whl ?_
  | refine o_con ?_ | refine o_bin ?_ | refine o_neg ?_ | refine o_cmp ?_ | refine o_chn ?_ | refine o_and ?_ | refine o_or ?_ | refine o_not ?_ | refine o_ife ?_ | refine o_tup ?_ | refine o_lst ?_ | refine o_ix ?_ | refine o_sl ?_
  | refine oo_none ?_ | refine oo_some ?_ | refine o_call ?_ | refine o_kcall ?_ | refine o_isi ?_ | refine o_bi1 ?_ | refine o_bi2 ?_ | refine o_mt0 ?_ | refine o_mt1 ?_ | refine os_nil ?_ | refine os_cons ?_
  | refine t_not ?_ | refine t_and ?_ | refine t_or ?_ | refine t_cmp ?_ | refine t_chn ?_ | refine t_isi ?_ | refine t_call ?_ | refine t_kcall ?_ | refine op_none ?_ | refine op_some ?_
  | refine v_add ?_ | refine v_sub ?_ | refine v_neg ?_ | refine v_eqi ?_ | refine v_nei ?_ | refine v_lt ?_ | refine v_le ?_ | refine v_gt ?_ | refine v_ge ?_ | refine v_is ?_ | refine v_isnot ?_
  | refine v_lenT ?_ | refine v_lenS ?_ | refine v_abs ?_ | refine v_int ?_ | refine v_intb ?_ | refine v_listT ?_ | refine v_tupleT ?_ | refine v_min2 ?_ | refine v_max2 ?_
  | refine r_seq ?_ | refine r_rng1 ?_ | refine r_rng2 ?_
  | refine o_lc ?_)
/-- a name -/
local macro_rules | `(tactic| walk_at "v") => `(tactic| ((with_reducible first | apply o_var | apply t_var); exact rfl))
/-- steps -/
local macro_rules | `(tactic| walk_at "g") => `(tactic| repeat (first | walk_at "z" | walk_at "v"))
def D : List Df := tab.map FnI.df
/-- what the draws need: room for n draws more; the state's lists lie below lo -/
structure Rg (lo a n : Nat) (h : Hh) : Prop where
  ex : ∃ (s c : Int) (j : Nat) (ns : List Int), lstAt h a = some [.int s, .int c, .ref j] ∧ lstAt h j = some (ns.map .int) ∧ (∀ z ∈ ns, 0 ≤ z) ∧ 0 ≤ s ∧ s < 2305843009213693951 ∧ 0 ≤ c ∧ c + n ≤ 1000000 ∧ a < lo ∧ j < lo ∧ a ≠ j ∧ lo ≤ h.length ∧ ns.length ≤ 63
theorem Rg.mono {lo a n m : Nat} {h : Hh} (r : Rg lo a n h) (l : m ≤ n) : Rg lo a m h := by
  obtain ⟨s, c, j, ns, e⟩ := r.ex
  exact ⟨s, c, j, ns, by obtain ⟨e1, e2, e3, e4, e5, e6, e7, e8⟩ := e; exact ⟨e1, e2, e3, e4, e5, e6, by omega, e8⟩⟩
theorem Rg.app {lo a n : Nat} {h : Hh} (r : Rg lo a n h) (l : Hh) : Rg lo a n (h ++ l) := by
  obtain ⟨s, c, j, ns, e1, e2, e3, e4, e5, e6, e7, e8, e9, e10, e11, e12⟩ := r.ex
  exact ⟨s, c, j, ns, lst_app e1, lst_app e2, e3, e4, e5, e6, e7, e8, e9, e10, by rw [List.length_append]; omega, e12⟩
theorem Rg.put {lo a n k : Nat} {h : Hh} {o : O} (r : Rg lo a n h) (l : lo ≤ k) : Rg lo a n (h.set k o) := by
  obtain ⟨s, c, j, ns, e1, e2, e3, e4, e5, e6, e7, e8, e9, e10, e11, e12⟩ := r.ex
  exact ⟨s, c, j, ns, lst_set_ne (by omega) e1, lst_set_ne (by omega) e2, e3, e4, e5, e6, e7, e8, e9, e10, by rw [List.length_set]; exact e11, e12⟩
theorem small {x : Int} {k : Nat} (h0 : 0 ≤ x) (h : x < 2 ^ k) : x.natAbs.log2 ≤ k := by
  have hx : x.natAbs < 2 ^ k := by
    have : (x.natAbs : Int) < ((2 ^ k : Nat) : Int) := by
      rw [Int.natAbs_of_nonneg h0]; exact_mod_cast h
    exact_mod_cast this
  rcases Nat.eq_zero_or_pos x.natAbs with hz | hz
  · rw [hz]; simp
  · exact Nat.le_of_lt ((Nat.log2_lt (by omega)).mpr hx)
theorem draw_ok {lo a n k : Nat} {h : Hh} {many : Int} (hk : 1 ≤ k) (r : Rg lo a (n + 1) h) (hm : 0 < many) (hl : many.natAbs.log2 < 9000) : Ok (runF D wf k 6 [.ref a, .int many] h) fun w h' => ∃ x, w = .int x ∧ 0 ≤ x ∧ x < many ∧ Rg lo a n h' ∧ Kp lo h h' ∧ h'.length = h.length := by
  obtain ⟨k, rfl⟩ : ∃ k', k = k' + 1 := ⟨k - 1, by omega⟩
  obtain ⟨s, c, j, ns, e1, e2, e3, e4, e5, e6, e7, e8, e9, e10, e11, e12⟩ := r.ex
  refine ok_run (d := f_law_draw.df) rfl ?_
  show Ok (exB _ _ c_law_draw (startW 6 [.ref a, .int many]) h) _
  unfold c_law_draw
  walk_at "g"
  refine v_ixL e1 rfl ?_
  walk_at "g"
  refine v_lenL e2 ?_
  refine ⟨_, rfl, by rw [List.length_map]; simp [okR]; omega, ?_⟩
  rw [List.length_map, Int.toNat_natCast]
  refine for_fix (fun i σ' h' => ∃ x y z, σ' = [some (.ref a), some (.int many), some (.ref j), x, y, z] ∧ h'.length = h.length ∧ Kp lo h h' ∧ lstAt h' a = some [.int s, .int c, .ref j] ∧ lstAt h' j = some ((ns.take (ns.length - i)).map .int)) ⟨none, none, none, rfl, rfl, Kp.refl _ _, e1, by rw [Nat.sub_zero, List.take_length]; exact e2⟩ (fun i w σ' h' hw p => ?_) (fun σ' h' p => ?_)
  · obtain ⟨x, y, z, rfl, q1, q2, q3, q4⟩ := p
    refine ⟨_, rfl, ?_⟩
    have hi : i < ns.length := by
      have := (List.getElem?_eq_some_iff.mp hw).1
      unfold rngL at this
      simpa using this
    obtain ⟨v, vs, ev⟩ : ∃ v vs, ns.take (ns.length - i) = vs ++ [v] := by
      have hne : ns.take (ns.length - i) ≠ [] := by
        intro hh
        have := congrArg List.length hh
        rw [List.length_take] at this
        simp at this
        omega
      exact ⟨_, _, (List.dropLast_concat_getLast hne).symm⟩
    have hv : 0 ≤ v := e3 v (List.mem_of_mem_take (ev ▸ List.mem_append_right _ (List.mem_singleton_self v)))
    have hvs : ∀ z ∈ vs, 0 ≤ z := fun z hz => e3 z (List.mem_of_mem_take (ev ▸ List.mem_append_left _ hz))
    rw [ev, List.map_append] at q4
    have hlen : vs.length + 1 = ns.length - i := by
      have := congrArg List.length ev
      rw [List.length_take, List.length_append] at this
      simp at this
      omega
    have hlast : atI (vs.map W.int ++ [W.int v]) (-1) = some (W.int v) := atI_last _ _
    walk_at "g"
    refine v_ixL q4 hlast ?_
    walk_at "g"
    refine ⟨fun ht => ?_, fun hf => ?_⟩
    · walk_at "g"
      refine v_ixL q4 hlast ?_
      walk_at "g"
      refine v_fdiv ⟨hm, hl⟩ ?_
      walk_at "g"
      refine v_setI (k := vs.length) q4 (by rw [List.length_append, List.length_map]; show ixN (vs.length + 1) (-1) = _; unfold ixN; rw [if_neg (by omega), if_pos (by omega)]; congr 1; omega) ?_
      walk_at "g"
      refine v_mod hm ?_
      refine ⟨_, rfl, Int.emod_nonneg _ (by omega), Int.emod_lt_of_pos _ hm, ⟨s, c, j, vs ++ [v / many], lst_set_ne e10 q3, ?_, ?_, e4, e5, e6, by omega, e8, e9, e10, by rw [List.length_set]; omega, ?_⟩, q2.put (Or.inr e9), by rw [List.length_set]; exact q1⟩
      · rw [lst_set q4]
        simp
      · intro z hz
        rcases List.mem_append.mp hz with hz | hz
        · exact hvs z hz
        · rw [List.mem_singleton.mp hz]; exact Int.ediv_nonneg hv (by omega)
      · rw [List.length_append]; simp; omega
    · walk_at "g"
      refine ⟨v_isL q4, ?_⟩
      refine v_pop (w := .int v) q4 (by simp) ?_
      walk_at "g"
      refine ⟨_, _, _, rfl, by rw [List.length_set]; exact q1, q2.put (Or.inr e9), lst_set_ne e10 q3, ?_⟩
      rw [lst_set q4]
      have : ns.take (ns.length - (i + 1)) = vs := by
        have h2 : ns.length - (i + 1) = vs.length := by omega
        rw [h2]
        have := congrArg (List.take vs.length) ev
        rw [List.take_take, List.take_append_of_le_length (Nat.le_refl _), List.take_length] at this
        rw [Nat.min_eq_left (by omega)] at this; exact this
      rw [this]
      simp
  · obtain ⟨x, y, z, rfl, q1, q2, q3, q4⟩ := p
    have hc : (c + 1).natAbs.log2 ≤ 20 := small (by omega) (by omega)
    walk_at "g"
    refine v_ixL q3 rfl ?_
    walk_at "g"
    refine v_setI (k := 1) q3 rfl ?_
    have q5 := lst_set (us := [.int s, .int (c + 1), .ref j]) q3
    have big : ∀ {u : Int} {m : Int}, 0 < m → m ≤ 2147483648 → (u % m).natAbs.log2 ≤ 31 := fun {u m} hm hm2 => small (Int.emod_nonneg _ (by omega)) (by have := Int.emod_lt_of_pos u hm; omega)
    walk_at "g"
    refine v_ixL q5 rfl ?_
    walk_at "g"
    refine v_ixL q5 rfl ?_
    walk_at "g"
    refine v_mul (by have : (69621 : Int).natAbs.log2 ≤ 20 := small (by omega) (by omega); omega) ?_
    walk_at "g"
    refine v_mod (by omega) ?_
    walk_at "g"
    refine v_mul (by have := @big (s + (c + 1) * 69621 + 11) 2147483647 (by omega) (by omega); omega) ?_
    walk_at "g"
    refine v_ixL q5 rfl ?_
    walk_at "g"
    refine v_mul (by have : (16807 : Int).natAbs.log2 ≤ 20 := small (by omega) (by omega); omega) ?_
    walk_at "g"
    refine v_ixL q5 rfl ?_
    walk_at "g"
    refine v_mod (by omega) ?_
    walk_at "g"
    refine v_mul (by have := fun u => @big u 2147483629 (by omega) (by omega); have := this (((s + (c + 1) * 69621 + 11) % 2147483647) * ((s + (c + 1) * 69621 + 11) % 2147483647) + (c + 1) * 16807 + s); omega) ?_
    walk_at "g"
    refine v_ixL q5 rfl ?_
    walk_at "g"
    refine v_mul (by have : (48271 : Int).natAbs.log2 ≤ 20 := small (by omega) (by omega); omega) ?_
    walk_at "g"
    refine v_mod (by omega) ?_
    walk_at "g"
    refine v_fdiv ⟨by omega, by decide⟩ ?_
    walk_at "g"
    refine v_mod hm ?_
    refine ⟨_, rfl, Int.emod_nonneg _ (by omega), Int.emod_lt_of_pos _ hm, ⟨s, c + 1, j, [], q5, ?_, ?_, e4, e5, by omega, by omega, e8, e9, e10, by rw [List.length_set]; omega, by simp⟩, q2.put (Or.inr e8), by rw [List.length_set]; exact q1⟩
    · refine lst_set_ne (Ne.symm e10) ?_
      rw [q4]
      simp [rngL]
    · intro z hz; cases hz
end C73
set_option maxHeartbeats 2000000
namespace C73
open PySem PySem.Spec PyProof.Rows L2 Z
/-- one step -/
local macro_rules | `(tactic| walk_at "z") => `(tactic| with_reducible first
  | refine k_nx ?_ | refine k_rt ?_ | refine k_bk ?_ | refine k_ct ?_ | refine l_nx ?_ | refine l_ct ?_ | refine l_bk ?_ | refine l_rt ?_ | refine f_rt ?_ | refine f_nx ?_
  | refine b_when ?_ | refine b_ifs ?_ | refine b_set ?_ | refine b_ret ?_ | refine b_retN ?_ | refine b_exp ?_ | refine b_setI ?_ | refine b_setU ?_ | refine b_for ?_ | refine b_nil ?_ | refine b_pass ?_ | refine b_brk ?_ | refine b_cnt ?_ | refine b_whl ?_
  | refine o_con ?_ | refine o_bin ?_ | refine o_neg ?_ | refine o_cmp ?_ | refine o_chn ?_ | refine o_and ?_ | refine o_or ?_ | refine o_not ?_ | refine o_ife ?_ | refine o_tup ?_ | refine o_lst ?_ | refine o_ix ?_ | refine o_sl ?_
  | refine oo_none ?_ | refine oo_some ?_ | refine o_call ?_ | refine o_kcall ?_ | refine o_isi ?_ | refine o_bi1 ?_ | refine o_bi2 ?_ | refine o_mt0 ?_ | refine o_mt1 ?_ | refine os_nil ?_ | refine os_cons ?_
  | refine t_not ?_ | refine t_and ?_ | refine t_or ?_ | refine t_cmp ?_ | refine t_chn ?_ | refine t_isi ?_ | refine t_call ?_ | refine t_kcall ?_ | refine op_none ?_ | refine op_some ?_
  | refine v_add ?_ | refine v_sub ?_ | refine v_neg ?_ | refine v_eqi ?_ | refine v_nei ?_ | refine v_lt ?_ | refine v_le ?_ | refine v_gt ?_ | refine v_ge ?_ | refine v_is ?_ | refine v_isnot ?_
  | refine v_lenT ?_ | refine v_lenS ?_ | refine v_abs ?_ | refine v_int ?_ | refine v_intb ?_ | refine v_listT ?_ | refine v_tupleT ?_ | refine v_min2 ?_ | refine v_max2 ?_
  | refine r_seq ?_ | refine r_rng1 ?_ | refine r_rng2 ?_
  | refine o_lc ?_)
/-- a name -/
local macro_rules | `(tactic| walk_at "v") => `(tactic| ((with_reducible first | apply o_var | apply t_var); exact rfl))
/-- steps -/
local macro_rules | `(tactic| walk_at "g") => `(tactic| repeat (first | walk_at "z" | walk_at "v"))
theorem list_loose {h : Hh} {a : Nat} {ws : List W} (e : lstAt h a = some ws) : Wk.size (.live a) h = ws.length := by
  show ((lstAt h a).getD []).length = _
  rw [e] <;> rfl
/-- a comprehension, its elements by a spec -/
theorem lc_gen {F : CallEnv} {t : Tg} {e : Ex} {σ : Sl} {h : Hh} {ws : List W} {lo : Nat} {QU : Unit → Hh → Prop} {k : Wk} (J : Nat → Hh → Prop) (P : Nat → W → Hh → Prop) (hlo : lo ≤ h.length) (hz : ws.length < lim)
    (ka : ∀ (i : Nat) (h' : Hh), Kp lo h h' → k.at i h' = some ws[i]?) (jp : ∀ (i : Nat) (h' : Hh) (o : O), J i h' → J i (h'.set h.length o))
    (pk : ∀ (i : Nat) (y : W) (h1 h2 : Hh), (∀ j, lo ≤ j → j ≠ h.length → j < h1.length → h2[j]? = h1[j]?) → P i y h1 → P i y h2) (h0 : J 0 (h ++ [.lst []]))
    (st : ∀ (i : Nat) (w : W) (h' : Hh), ws[i]? = some w → J i h' → Kp lo h h' → h.length < h'.length → ∃ σ1, bindT t w h' (wipeW σ t.slots) = some σ1 ∧ Ok (ev F e σ1 h') fun y h3 => P i y h3 ∧ J (i + 1) h3 ∧ Kp lo h' h3)
    (dn : ∀ (h' : Hh) (ys : List W), J ws.length h' → Kp lo h h' → lstAt h' h.length = some ys → ys.length = ws.length → (∀ (i : Nat) (y : W), ys[i]? = some y → P i y h') → QU () h') :
    Ok (lcGo k (fun w h' => bindT t w h' (wipeW σ t.slots)) (evP F none) (ev F e) h.length (ws.length + 1) 0 (h ++ [.lst []])) QU := by
  refine lcGo_ok (ws := ws) (fun i acc h' => J i h' ∧ Kp lo h h' ∧ h.length < h'.length ∧ acc.length = i ∧ ∀ (j : Nat) (y : W), acc[j]? = some y → P j y h') (fun i acc h' hi p => ka i h' p.2.1) (fun i w acc h' hw p hd => ?_) (fun acc h' p hd => dn h' acc p.1 p.2.1 hd p.2.2.2.1 p.2.2.2.2) ws.length 0 [] _ (Nat.zero_add _) ⟨h0, Kp.app _ _ _, by rw [List.length_append]; simp, rfl, fun j y z => by simp at z⟩ lst_new
  obtain ⟨p1, p2, p3, p4, p5⟩ := p
  obtain ⟨σ1, e1, q⟩ := st i w h' hw p1 p2 p3
  refine ⟨σ1, e1, op_none ⟨fun z => absurd z (by decide), fun _ => q.imp fun y h3 ⟨q1, q2, q3⟩ => ?_⟩⟩
  have hd3 := q3.lst hlo hd
  have hi := (List.getElem?_eq_some_iff.mp hw).1
  refine ⟨hd3, by omega, jp _ _ _ q2, (p2.trans q3).put (Or.inl (Nat.le_refl _)), by rw [List.length_set]; have := q3.len; omega, by rw [List.length_append]; simp; exact p4, fun j z hz => ?_⟩
  rcases Nat.lt_or_ge j acc.length with hj | hj
  · rw [List.getElem?_append_left hj] at hz
    refine pk j z h' _ (fun m hm1 hm2 hm3 => ?_) (p5 j z hz)
    rw [List.getElem?_set_ne (by omega)]
    exact q3.at_ m hm1 hm3
  · rw [List.getElem?_append_right hj] at hz
    have h4 : j - acc.length = 0 := by
      rcases Nat.eq_zero_or_pos (j - acc.length) with h5 | h5
      · exact h5
      · rw [List.getElem?_eq_none (by simp; omega)] at hz; cases hz
    rw [h4] at hz
    cases hz
    have h6 : j = i := by omega
    subst h6
    refine pk j y h3 _ (fun m hm1 hm2 hm3 => ?_) q1
    rw [List.getElem?_set_ne (by omega)]
def Lv (lo : Nat) (h : Hh) (i : Nat) (ns : List Int) : Prop := lo ≤ i ∧ lstAt h i = some (ns.map .int)
def Mx (lo : Nat) (h : Hh) (i : Nat) (nss : List (List Int)) : Prop := lo ≤ i ∧ ∃ rs : List Nat, lstAt h i = some (rs.map .ref) ∧ rs.length = nss.length ∧ ∀ (k r : Nat) (ns : List Int), rs[k]? = some r → nss[k]? = some ns → Lv lo h r ns
theorem Lv.kp {lo : Nat} {h h' : Hh} {i : Nat} {ns : List Int} (a : Lv lo h i ns) (k : Kp lo h h') : Lv lo h' i ns := ⟨a.1, k.lst a.1 a.2⟩
theorem Mx.kp {lo : Nat} {h h' : Hh} {i : Nat} {nss : List (List Int)} (a : Mx lo h i nss) (k : Kp lo h h') : Mx lo h' i nss := by
  obtain ⟨a1, rs, a2, a3, a4⟩ := a
  exact ⟨a1, rs, k.lst a1 a2, a3, fun m r ns z1 z2 => (a4 m r ns z1 z2).kp k⟩
theorem start_ok {k : Nat} {ns : List Int} (hk : 1 ≤ k) (hl : ns.length ≤ 63) (hb : ∀ z ∈ ns, Builtin.Int.intBits z ≤ 1048576) : Ok (runF D wf k 5 [.scr (ns.map .int)] []) fun w h' => ∃ a, w = .ref a ∧ Rg h'.length a 1000000 h' := by
  obtain ⟨k, rfl⟩ : ∃ k', k = k' + 1 := ⟨k - 1, by omega⟩
  refine ok_run (d := f_law_start.df) rfl ?_
  show Ok (exB _ _ c_law_start (startW 4 [.scr (ns.map .int)]) []) _
  unfold c_law_start
  walk_at "g"
  refine ⟨by simp [lim], ?_⟩
  walk_at "g"
  refine for_fix (fun i σ' h' => ∃ seed j gs x, σ' = [some (.scr (ns.map .int)), some (.int seed), some (.ref j), x] ∧ 0 ≤ seed ∧ seed < 2305843009213693951 ∧ lstAt h' j = some ((gs : List Int).map .int) ∧ (∀ z ∈ gs, 0 ≤ z) ∧ gs.length ≤ i) ⟨ns.length, 0, [], none, by rw [List.length_map] <;> rfl, by omega, by omega, rfl, by simp, by simp⟩ (fun i w σ' h' hw p => ?_) (fun σ' h' p => ?_)
  · obtain ⟨seed, j, gs, x, rfl, q1, q2, q3, q4, q5⟩ := p
    obtain ⟨z, hz, rfl⟩ : ∃ z, z ∈ ns ∧ w = .int z := by
      rw [List.getElem?_map] at hw
      cases h5 : ns[i]? with
      | none => rw [h5] at hw; cases hw
      | some z => rw [h5] at hw; cases hw; exact ⟨z, List.mem_of_getElem? h5, rfl⟩
    have hi : i < ns.length := by have := (List.getElem?_eq_some_iff.mp hw).1; simpa using this
    have hzb : (if z < 0 then -z else z).natAbs.log2 ≤ 1048576 := by
      have h1 := hb z hz
      have h2 : (if z < 0 then -z else z).natAbs = z.natAbs := by split <;> omega
      rw [h2]
      unfold Builtin.Int.intBits at h1
      split at h1
      · rename_i h3; have : z = 0 := by simpa using h3
        subst this; decide
      · omega
    refine ⟨_, rfl, ?_⟩
    walk_at "g"
    refine v_mul (by have := small (k := 61) q1 (by omega); have : (1000003 : Int).natAbs.log2 ≤ 20 := small (by omega) (by omega); omega) ?_
    walk_at "g"
    refine v_mul (by have : (2 : Int).natAbs.log2 ≤ 20 := small (by omega) (by omega); omega) ?_
    walk_at "g"
    refine v_mod (by omega) ?_
    walk_at "g"
    refine v_pow (by omega) ?_
    walk_at "g"
    refine ⟨fun ht => ?_, fun hf => ?_⟩
    · walk_at "g"
      refine v_pow (by omega) ?_
      walk_at "g"
      refine ⟨by simp [lim], ?_⟩
      walk_at "g"
      refine v_addL lst_new (lst_app q3) (by simp [lim]; omega) ?_
      walk_at "g"
      refine ⟨_, _, ((if z < 0 then -z else z) - 10 ^ Int.toNat 18) :: gs, _, rfl, Int.emod_nonneg _ (by omega), Int.emod_lt_of_pos _ (by omega), lst_new, ?_, by simp; omega⟩
      intro y hy
      rcases List.mem_cons.mp hy with hy | hy
      · rw [hy]; have := of_decide_eq_true ht; omega
      · exact q4 y hy
    · walk_at "g"
      exact ⟨_, _, gs, _, rfl, Int.emod_nonneg _ (by omega), Int.emod_lt_of_pos _ (by omega), q3, q4, by omega⟩
  · obtain ⟨seed, j, gs, x, rfl, q1, q2, q3, q4, q5⟩ := p
    walk_at "g"
    refine ⟨by simp [lim], ?_⟩
    walk_at "g"
    have := lst_lt q3
    rw [List.length_map] at q5
    exact ⟨_, rfl, ⟨seed, 0, j, gs, lst_new, lst_app q3, q4, q1, q2, by omega, by omega, by rw [List.length_append]; simp, by rw [List.length_append]; omega, by omega, Nat.le_refl _, by omega⟩⟩
def isIn : W → Bool
  | .int _ => true
  | _ => false
def Sm : W → Bool
  | .non => true
  | .bl _ => true
  | .int _ => true
  | .str _ => true
  | .tup _ => true
  | _ => false
theorem int_ok {k : Nat} {h : Hh} {w : W} (hk : 1 ≤ k) (hs : Sm w = true) : Ok (runF D wf k 7 [w] h) fun x h' => x = .bl (isIn w) ∧ h' = h := by
  obtain ⟨k, rfl⟩ : ∃ k', k = k' + 1 := ⟨k - 1, by omega⟩
  refine ok_run (d := f_law_int.df) rfl ?_
  show Ok (exB _ _ c_law_int (startW 1 [w]) h) _
  unfold c_law_int
  walk_at "g"
  cases w with
  | non => exact ⟨_, rfl, fun z => absurd z (by decide), fun z => ⟨rfl, rfl⟩⟩
  | bl b => refine ⟨_, rfl, fun z => ?_, fun z => absurd z (by decide)⟩; walk_at "g"; exact ⟨_, rfl, rfl, rfl⟩
  | int b => refine ⟨_, rfl, fun z => ?_, fun z => absurd z (by decide)⟩; walk_at "g"; exact ⟨_, rfl, rfl, rfl⟩
  | str b => exact ⟨_, rfl, fun z => absurd z (by decide), fun z => ⟨rfl, rfl⟩⟩
  | tup b => exact ⟨_, rfl, fun z => absurd z (by decide), fun z => ⟨rfl, rfl⟩⟩
  | _ => cases hs
theorem num_ok {k : Nat} {h : Hh} {w : W} (hk : 1 ≤ k) (hs : Sm w = true) : Ok (runF D wf k 0 [w] h) fun x h' => x = .bl (isIn w) ∧ h' = h := by
  obtain ⟨k, rfl⟩ : ∃ k', k = k' + 1 := ⟨k - 1, by omega⟩
  refine ok_run (d := f_is_number.df) rfl ?_
  show Ok (exB _ _ c_is_number (startW 1 [w]) h) _
  unfold c_is_number
  walk_at "g"
  cases w with
  | non => exact ⟨_, rfl, fun z => absurd z (by decide), fun z => ⟨rfl, rfl⟩⟩
  | bl b => refine ⟨_, rfl, fun z => ?_, fun z => absurd z (by decide)⟩; walk_at "g"; exact ⟨_, rfl, rfl, rfl⟩
  | int b => refine ⟨_, rfl, fun z => ?_, fun z => absurd z (by decide)⟩; walk_at "g"; exact ⟨_, rfl, rfl, rfl⟩
  | str b => exact ⟨_, rfl, fun z => absurd z (by decide), fun z => ⟨rfl, rfl⟩⟩
  | tup b => exact ⟨_, rfl, fun z => absurd z (by decide), fun z => ⟨rfl, rfl⟩⟩
  | _ => cases hs
theorem same_ok {k : Nat} {h : Hh} {a b : Bool} (hk : 1 ≤ k) : Ok (runF D wf k 8 [.bl a, .bl b] h) fun x h' => x = .bl (a == b) ∧ h' = h := by
  obtain ⟨k, rfl⟩ : ∃ k', k = k' + 1 := ⟨k - 1, by omega⟩
  refine ok_run (d := f_law_same.df) rfl ?_
  show Ok (exB _ _ c_law_same (startW 3 [.bl a, .bl b]) h) _
  unfold c_law_same
  walk_at "g"
  refine ⟨fun z => (by cases z), fun _ => ?_⟩
  walk_at "g"
  refine ⟨fun _ => ?_, fun z => (by cases z)⟩
  walk_at "g"
  refine ⟨_, rfl, fun _ => ?_, fun z => (by cases z)⟩
  walk_at "g"
  refine v_eq (b := a == b) (by cases a <;> cases b <;> rfl) ?_
  exact ⟨rfl, rfl⟩
end C73
set_option maxHeartbeats 2000000
namespace C73
open PySem PySem.Spec PyProof.Rows L2 Z
/-- one step -/
local macro_rules | `(tactic| walk_at "z") => `(tactic| with_reducible first
  | refine k_nx ?_ | refine k_rt ?_ | refine k_bk ?_ | refine k_ct ?_ | refine l_nx ?_ | refine l_ct ?_ | refine l_bk ?_ | refine l_rt ?_ | refine f_rt ?_ | refine f_nx ?_
  | refine b_when ?_ | refine b_ifs ?_ | refine b_set ?_ | refine b_ret ?_ | refine b_retN ?_ | refine b_exp ?_ | refine b_setI ?_ | refine b_setU ?_ | refine b_for ?_ | refine b_nil ?_ | refine b_pass ?_ | refine b_brk ?_ | refine b_cnt ?_ | refine b_whl ?_
  | refine o_con ?_ | refine o_bin ?_ | refine o_neg ?_ | refine o_cmp ?_ | refine o_chn ?_ | refine o_and ?_ | refine o_or ?_ | refine o_not ?_ | refine o_ife ?_ | refine o_tup ?_ | refine o_lst ?_ | refine o_ix ?_ | refine o_sl ?_
  | refine oo_none ?_ | refine oo_some ?_ | refine o_call ?_ | refine o_kcall ?_ | refine o_isi ?_ | refine o_bi1 ?_ | refine o_bi2 ?_ | refine o_mt0 ?_ | refine o_mt1 ?_ | refine os_nil ?_ | refine os_cons ?_
  | refine t_not ?_ | refine t_and ?_ | refine t_or ?_ | refine t_cmp ?_ | refine t_chn ?_ | refine t_isi ?_ | refine t_call ?_ | refine t_kcall ?_ | refine op_none ?_ | refine op_some ?_
  | refine v_add ?_ | refine v_sub ?_ | refine v_neg ?_ | refine v_eqi ?_ | refine v_nei ?_ | refine v_lt ?_ | refine v_le ?_ | refine v_gt ?_ | refine v_ge ?_ | refine v_is ?_ | refine v_isnot ?_
  | refine v_lenT ?_ | refine v_lenS ?_ | refine v_abs ?_ | refine v_int ?_ | refine v_intb ?_ | refine v_listT ?_ | refine v_tupleT ?_ | refine v_min2 ?_ | refine v_max2 ?_
  | refine r_seq ?_ | refine r_rng1 ?_ | refine r_rng2 ?_
  | refine o_lc ?_)
/-- a name -/
local macro_rules | `(tactic| walk_at "v") => `(tactic| ((with_reducible first | apply o_var | apply t_var); exact rfl))
/-- steps -/
local macro_rules | `(tactic| walk_at "g") => `(tactic| repeat (first | walk_at "z" | walk_at "v"))
theorem v_powe {x y z : Int} {h : Hh} {Q : W → Hh → Prop} (hl : 0 ≤ y ∧ y ≤ 1000000 ∧ x.natAbs < 2 ^ 64) (e : x ^ y.toNat = z) (q : Q (.int z) h) : Ok (binW .Pow (.int x) (.int y) h) Q := v_pow hl (by rw [e]; exact q)
theorem great_ok {lo a n k : Nat} {h : Hh} (hk : 2 ≤ k) (r : Rg lo a (n + 2) h) : Ok (runF D wf k 10 [.ref a] h) fun w h' => ∃ x, w = .int x ∧ Rg lo a n h' ∧ Kp lo h h' := by
  obtain ⟨k, rfl⟩ : ∃ k', k = k' + 1 := ⟨k - 1, by omega⟩
  refine ok_run (d := f_law_great.df) rfl ?_
  show Ok (exB _ _ c_law_great (startW 1 [.ref a]) h) _
  unfold c_law_great
  walk_at "g"
  refine v_powe (z := 1000000) (by omega) (by decide) ?_
  walk_at "g"
  refine (draw_ok (by omega) r (by omega) (by decide)).imp fun w h1 ⟨x, ew, x0, x1, r1, k1, _⟩ => ?_
  subst ew
  walk_at "g"
  refine v_powe (z := 1000000000000000000000000000000000) (by omega) (by decide) ?_
  walk_at "g"
  refine v_mul (by have := small (k := 20) x0 (by omega); have : (1000000000000000000000000000000000 : Int).natAbs.log2 ≤ 200 := small (by omega) (by omega)
                   omega) ?_
  walk_at "g"
  refine v_powe (z := 1000000000000000000000000000000000) (by omega) (by decide) ?_
  walk_at "g"
  refine (draw_ok (by omega) r1 (by omega) (by decide)).imp fun w h2 ⟨y, ew, y0, y1, r2, k2, _⟩ => ?_
  subst ew
  walk_at "g"
  exact ⟨_, rfl, r2, k1.trans k2⟩
theorem log_small {b : Int} (h0 : 0 ≤ b) (h1 : b ≤ 1000000) : (b + 1).natAbs.log2 < 9000 := by
  have := small (x := b + 1) (k := 20) (by omega) (by omega)
  omega
theorem within_ok {lo a n k : Nat} {h : Hh} {b : Int} (hk : 2 ≤ k) (r : Rg lo a (n + 2) h) (b0 : 0 ≤ b) (b1 : b ≤ 1000000) : Ok (runF D wf k 11 [.ref a, .int b] h) fun w h' => ∃ x, w = .int x ∧ Rg lo a n h' ∧ Kp lo h h' := by
  obtain ⟨k, rfl⟩ : ∃ k', k = k' + 1 := ⟨k - 1, by omega⟩
  refine ok_run (d := f_law_within.df) rfl ?_
  show Ok (exB _ _ c_law_within (startW 2 [.ref a, .int b]) h) _
  unfold c_law_within
  walk_at "g"
  refine (draw_ok (by omega) r (by omega) (log_small b0 b1)).imp fun w h1 ⟨x, ew, x0, x1, r1, k1, _⟩ => ?_
  subst ew
  walk_at "g"
  refine ⟨by simp [lim], ?_⟩
  walk_at "g"
  refine (draw_ok (by omega) (r1.app _) (by omega) (by decide)).imp fun w h2 ⟨y, ew, y0, y1, r2, k2, _⟩ => ?_
  subst ew
  have hl := k2.lst (k := h1.length) (by obtain ⟨_, _, _, _, e⟩ := r1.ex; exact e.2.2.2.2.2.2.2.2.2.2.1) lst_new
  have hy : y = 0 ∨ y = 1 ∨ y = 2 := by omega
  rcases hy with rfl | rfl | rfl <;> (refine v_ixL hl rfl ?_; exact ⟨_, rfl, r2, (k1.addl _).trans k2⟩)
theorem Rg.len {lo a n : Nat} {h : Hh} (r : Rg lo a n h) : lo ≤ h.length := by obtain ⟨_, _, _, _, e⟩ := r.ex; exact e.2.2.2.2.2.2.2.2.2.2.1
/-- a comprehension over draws -/
theorem lc_draws {lo a n k : Nat} {h : Hh} {t : Tg} {σ : Sl} {ws : List W} {e : Ex} {M : Int} {QU : Unit → Hh → Prop} (c : Nat) (r : Rg lo a (n + c * ws.length) h) (hz : ws.length < lim)
    (st : ∀ (i : Nat) (w : W) (h' : Hh) (m : Nat), ws[i]? = some w → Rg lo a (m + c) h' → ∃ σ1, bindT t w h' (wipeW σ t.slots) = some σ1 ∧ Ok (ev (runF D wf k) e σ1 h') fun y h3 => ∃ x, y = .int x ∧ 0 ≤ x ∧ x < M ∧ Rg lo a m h3 ∧ Kp lo h' h3)
    (dn : ∀ (h' : Hh) (xs : List Int), Rg lo a n h' → Kp lo h h' → lstAt h' h.length = some (xs.map .int) → xs.length = ws.length → (∀ x ∈ xs, 0 ≤ x ∧ x < M) → QU () h') :
    Ok (lcGo (.fix ws) (fun w h' => bindT t w h' (wipeW σ t.slots)) (evP (runF D wf k) none) (ev (runF D wf k) e) h.length (ws.length + 1) 0 (h ++ [.lst []])) QU := by
  refine lc_gen (lo := lo) (ws := ws) (fun i h' => ∃ m, m + c * i = n + c * ws.length ∧ Rg lo a m h') (fun i y h' => ∃ x, y = .int x ∧ 0 ≤ x ∧ x < M) r.len hz (fun _ _ _ => rfl) (fun i h' o ⟨m, e, r⟩ => ⟨m, e, r.put (by obtain ⟨_, _, _, _, e⟩ := r.ex; have := ‹Rg lo a (n + c * ws.length) h›.len; omega)⟩) (fun _ _ _ _ _ p => p) ⟨_, rfl, r.app _⟩ (fun i w h' hw ⟨m, em, r'⟩ hK hl => ?_) (fun h' ys ⟨m, em, r'⟩ hK hd hy hp => ?_)
  · have hi := (List.getElem?_eq_some_iff.mp hw).1
    have : c * (i + 1) ≤ c * ws.length := Nat.mul_le_mul_left _ hi
    have e3 : c * (i + 1) = c * i + c := by rw [Nat.mul_succ]
    obtain ⟨σ1, e1, q⟩ := st i w h' (m - c) hw (by rw [Nat.sub_add_cancel (by omega)]; exact r')
    exact ⟨σ1, e1, q.imp fun y h3 ⟨x, q1, q2, q3, q4, q5⟩ => ⟨⟨x, q1, q2, q3⟩, ⟨m - c, by omega, q4⟩, q5⟩⟩
  · have em' : m = n := by omega
    subst em'
    have : ∃ xs : List Int, ys = xs.map .int ∧ ∀ x ∈ xs, 0 ≤ x ∧ x < M := by
      clear hd hy em
      induction ys with
      | nil => exact ⟨[], rfl, by simp⟩
      | cons y ys ih =>
        obtain ⟨x, rfl, x0, x1⟩ := hp 0 y rfl
        obtain ⟨xs, rfl, hx⟩ := ih (fun i y' hy' => hp (i + 1) y' hy')
        exact ⟨x :: xs, rfl, fun z hz => (List.mem_cons.mp hz).elim (fun e => e ▸ ⟨x0, x1⟩) (hx z)⟩
    obtain ⟨xs, rfl, hx⟩ := this
    exact dn h' xs r' hK hd (by rw [← hy, List.length_map]) hx
end C73
set_option maxHeartbeats 2000000
namespace C73
open PySem PySem.Spec PyProof.Rows L2 Z
/-- one step -/
local macro_rules | `(tactic| walk_at "z") => `(tactic| with_reducible first
  | refine k_nx ?_ | refine k_rt ?_ | refine k_bk ?_ | refine k_ct ?_ | refine l_nx ?_ | refine l_ct ?_ | refine l_bk ?_ | refine l_rt ?_ | refine f_rt ?_ | refine f_nx ?_
  | refine b_when ?_ | refine b_ifs ?_ | refine b_set ?_ | refine b_ret ?_ | refine b_retN ?_ | refine b_exp ?_ | refine b_setI ?_ | refine b_setU ?_ | refine b_for ?_ | refine b_nil ?_ | refine b_pass ?_ | refine b_brk ?_ | refine b_cnt ?_ | refine b_whl ?_
  | refine o_con ?_ | refine o_bin ?_ | refine o_neg ?_ | refine o_cmp ?_ | refine o_chn ?_ | refine o_and ?_ | refine o_or ?_ | refine o_not ?_ | refine o_ife ?_ | refine o_tup ?_ | refine o_lst ?_ | refine o_ix ?_ | refine o_sl ?_
  | refine oo_none ?_ | refine oo_some ?_ | refine o_call ?_ | refine o_kcall ?_ | refine o_isi ?_ | refine o_bi1 ?_ | refine o_bi2 ?_ | refine o_mt0 ?_ | refine o_mt1 ?_ | refine os_nil ?_ | refine os_cons ?_
  | refine t_not ?_ | refine t_and ?_ | refine t_or ?_ | refine t_cmp ?_ | refine t_chn ?_ | refine t_isi ?_ | refine t_call ?_ | refine t_kcall ?_ | refine op_none ?_ | refine op_some ?_
  | refine v_add ?_ | refine v_sub ?_ | refine v_neg ?_ | refine v_eqi ?_ | refine v_nei ?_ | refine v_lt ?_ | refine v_le ?_ | refine v_gt ?_ | refine v_ge ?_ | refine v_is ?_ | refine v_isnot ?_
  | refine v_lenT ?_ | refine v_lenS ?_ | refine v_abs ?_ | refine v_int ?_ | refine v_intb ?_ | refine v_listT ?_ | refine v_tupleT ?_ | refine v_min2 ?_ | refine v_max2 ?_
  | refine r_seq ?_ | refine r_rng1 ?_ | refine r_rng2 ?_
  | refine o_lc ?_)
/-- a name -/
local macro_rules | `(tactic| walk_at "v") => `(tactic| ((with_reducible first | apply o_var | apply t_var); exact rfl))
/-- steps -/
local macro_rules | `(tactic| walk_at "g") => `(tactic| repeat (first | walk_at "z" | walk_at "v"))
theorem rngL_len (lo : Int) (n : Nat) : (rngL lo n).length = n := by
  unfold rngL
  rw [List.length_map, List.length_range]
theorem v_isiL {h : Hh} {i : Nat} {ws : List W} {t : Ty} {QB : Bool → Hh → Prop} (e : lstAt h i = some ws) (q : QB (t == .list) h) : Ok (optR (isiW h t (.ref i)) h) QB := by
  refine v_opt (x := t == .list) ?_ q
  show (lstAt h i).map _ = _
  rw [e] <;> rfl
theorem pair_refs {R : Nat → Nat → List Int → Prop} : ∀ {ys : List W}, (∀ (i : Nat) (y : W), ys[i]? = some y → ∃ r xs, y = .ref r ∧ R i r xs) → ∃ (rs : List Nat) (xss : List (List Int)), ys = rs.map .ref ∧ rs.length = xss.length ∧ ∀ (k r : Nat) (ns : List Int), rs[k]? = some r → xss[k]? = some ns → R k r ns := by
  intro ys
  induction ys generalizing R with
  | nil => exact fun _ => ⟨[], [], rfl, rfl, fun k r ns h1 => by simp at h1⟩
  | cons y ys ih =>
    intro hp
    obtain ⟨r, xs, rfl, hr⟩ := hp 0 y rfl
    obtain ⟨rs, xss, rfl, e2, hx⟩ := ih (R := fun i => R (i + 1)) (fun i y' hy' => hp (i + 1) y' hy')
    refine ⟨r :: rs, xs :: xss, rfl, by simp [e2], fun k r' ns h1 h2 => ?_⟩
    cases k with
    | zero => cases h1; cases h2; exact hr
    | succ k => exact hx k r' ns h1 h2
theorem bounds_ok {lo a n k : Nat} {h : Hh} {L : Nat} (hk : 2 ≤ k) (r : Rg lo a (n + 42) h) (l1 : 1 ≤ L) (l6 : L ≤ 6) : Ok (runF D wf k 12 [.ref a, .int L] h) fun w h' => ∃ q l f lates fars, w = .ref q ∧ lstAt h' q = some [.ref l, .ref f] ∧ Lv lo h' l lates ∧ lates.length = L ∧ (∀ x ∈ lates, 0 ≤ x ∧ x < 21) ∧ Mx lo h' f fars ∧ fars.length = L ∧ (∀ row ∈ fars, row.length = L ∧ ∀ x ∈ row, 0 ≤ x ∧ x < 21) ∧ Rg lo a n h' ∧ Kp lo h h' := by
  obtain ⟨k, rfl⟩ : ∃ k', k = k' + 1 := ⟨k - 1, by omega⟩
  refine ok_run (d := f_law_bounds.df) rfl ?_
  show Ok (exB _ _ c_law_bounds (startW 6 [.ref a, .int L]) h) _
  unfold c_law_bounds
  walk_at "g"
  refine ⟨by simp [lim], ?_⟩
  walk_at "g"
  refine (draw_ok (n := n + 41) (by omega) (r.app _) (by omega) (by decide)).imp fun w h1 ⟨x, ew, x0, x1, r1, k1, _⟩ => ?_
  subst ew
  have k1' := (Kp.app lo h _).trans k1
  have hl := k1.lst r.len lst_new
  obtain ⟨s, hs, s1, s2⟩ : ∃ s, atI [W.int 1, W.int 4, W.int 21] x = some (.int s) ∧ 0 < s ∧ s ≤ 21 := by
    have : x = 0 ∨ x = 1 ∨ x = 2 := by omega
    rcases this with rfl | rfl | rfl
    · exact ⟨1, rfl, by omega, by omega⟩
    · exact ⟨4, rfl, by omega, by omega⟩
    · exact ⟨21, rfl, by omega, by omega⟩
  have sl : s.natAbs.log2 < 9000 := by have := small (x := s) (k := 20) (by omega) (by omega); omega
  refine v_ixL hl hs ?_
  walk_at "g"
  refine ⟨by simp [lim], ?_⟩
  walk_at "g"
  have z1 : (rngL 0 ((L : Int) - 1).toNat).length = L - 1 := by rw [rngL_len]; omega
  refine ⟨_, rfl, by simp [okR]; omega, (by show (rngL 0 ((L : Int) - 1).toNat).length < lim; rw [z1]; simp [lim]; omega), ?_⟩
  refine lc_draws (lo := lo) (a := a) (n := n + 36) (M := s) 1 ((r1.app _).mono (by rw [z1]; omega)) (by rw [z1]; simp [lim]; omega) (fun i w h' m hw r' => ⟨_, rfl, ?_⟩) (fun h2 xs r2 k2 hd2 hx hb => ?_)
  · walk_at "g"
    exact (draw_ok (by omega) r' s1 sl).imp fun w h1 ⟨x, ew, x0, x1, r1, k1, _⟩ => ⟨x, ew, x0, x1, r1, k1⟩
  walk_at "g"
  have k2' := (k1'.addl _).trans k2
  refine v_addL (k2.lst r1.len lst_new) hd2 (by rw [List.length_map, hx, z1]; simp [lim]; omega) ?_
  walk_at "g"
  have z2 : (rngL 0 ((L : Int)).toNat).length = L := by rw [rngL_len]; omega
  refine ⟨_, rfl, by simp [okR]; omega, (by show (rngL 0 ((L : Int)).toNat).length < lim; rw [z2]; simp [lim]; omega), ?_⟩
  generalize eh3 : h2 ++ [O.lst ([W.int 0] ++ List.map W.int xs)] = h3
  have r3 : Rg lo a (n + 36) h3 := eh3 ▸ r2.app _
  have k3 : Kp lo h h3 := eh3 ▸ k2'.addl _
  have v3 : lstAt h3 h2.length = some ((0 :: xs).map W.int) := eh3 ▸ lst_new
  refine lc_gen (lo := lo) (fun i h' => ∃ m, m + L * i = n + L * L ∧ Rg lo a m h') (fun i y h' => ∃ q xs, y = .ref q ∧ (h3.length < q ∧ Lv lo h' q xs ∧ xs.length = L ∧ ∀ x ∈ xs, 0 ≤ x ∧ x < 21)) r3.len (by rw [z2]; simp [lim]; omega) (fun _ _ _ => rfl) (fun i h' o ⟨m, e, r⟩ => ⟨m, e, r.put r3.len⟩) (fun i y g1 g2 hg ⟨q, xs, e1, e2, e3, e4⟩ => ⟨q, xs, e1, e2, ⟨e3.1, lst_of ((hg q e3.1 (by omega) (lst_lt e3.2)).trans (lst_get e3.2))⟩, e4⟩) ⟨n + L * L, by omega, (r3.mono (by have := Nat.mul_le_mul l6 l6; omega)).app _⟩ (fun i w h' hw ⟨m, em, r'⟩ hK hl => ⟨_, rfl, ?_⟩) (fun h' ys ⟨m, em, r'⟩ hK hd hy hp => ?_)
  · walk_at "g"
    refine ⟨_, rfl, by simp [okR]; omega, (by show (rngL 0 ((L : Int)).toNat).length < lim; rw [z2]; simp [lim]; omega), ?_⟩
    have hi := (List.getElem?_eq_some_iff.mp hw).1
    have e3 : L * (i + 1) = L * i + L := Nat.mul_succ _ _
    have e4 : L * (i + 1) ≤ L * L := Nat.mul_le_mul_left _ (by omega)
    refine lc_draws (lo := lo) (a := a) (n := m - L) (M := s) 1 (r'.mono (by rw [z2]; omega)) (by rw [z2]; simp [lim]; omega) (fun i w h' m hw r' => ⟨_, rfl, ?_⟩) (fun h2 xs r2 k2 hd2 hx hb => ?_)
    · walk_at "g"
      exact (draw_ok (by omega) r' s1 sl).imp fun w h1 ⟨x, ew, x0, x1, r1, k1, _⟩ => ⟨x, ew, x0, x1, r1, k1⟩
    · exact ⟨⟨_, xs, rfl, hl, ⟨r'.len, hd2⟩, by rw [hx, z2], fun x hx => by have := hb x hx; omega⟩, ⟨m - L, by omega, r2⟩, k2⟩
  · obtain ⟨rs, xss, rfl, e2, hR⟩ := pair_refs hp
    walk_at "g"
    refine ⟨by simp [lim], ?_⟩
    walk_at "g"
    rw [List.length_map, z2] at hy
    refine ⟨_, _, _, 0 :: xs, xss, rfl, lst_new, ⟨?_, lst_app (hK.lst r2.len v3)⟩, by rw [List.length_cons, hx, z1]; omega, ?_, ⟨r3.len, rs, lst_app hd, e2, fun k r ns q1 q2 => ?_⟩, by omega, ?_, (r'.mono (by rw [z2] at em; omega)).app _, (k3.trans hK).addl _⟩
    · exact r2.len
    · intro x hx'
      rcases List.mem_cons.mp hx' with e | e
      · rw [e]; omega
      · have := hb x e; omega
    · have := (hR k r ns q1 q2).2.1
      exact ⟨this.1, lst_app this.2⟩
    · intro row hrow
      obtain ⟨i, hi, e⟩ := List.mem_iff_getElem.mp hrow
      have := hR i rs[i] row (List.getElem?_eq_getElem (by omega)) (by rw [List.getElem?_eq_getElem hi, e])
      exact this.2.2
theorem copy_int {k : Nat} {h : Hh} {x : Int} (hk : 1 ≤ k) : Ok (runF D wf k 9 [.int x] h) fun w h' => w = .int x ∧ h' = h := by
  obtain ⟨k, rfl⟩ : ∃ k', k = k' + 1 := ⟨k - 1, by omega⟩
  refine ok_run (d := f_law_copy.df) rfl ?_
  show Ok (exB _ _ c_law_copy (startW 2 [.int x]) h) _
  unfold c_law_copy
  walk_at "g"
  refine ⟨fun z => (by cases z), fun _ => ?_⟩
  walk_at "g"
  exact ⟨rfl, rfl⟩
theorem copy_row {lo k : Nat} {h : Hh} {i : Nat} {ns : List Int} (hk : 2 ≤ k) (v : Lv lo h i ns) (hl : ns.length < 1000) : Ok (runF D wf k 9 [.ref i] h) fun w h' => w = .ref h.length ∧ h' = h ++ [.lst (ns.map .int)] := by
  obtain ⟨k, rfl⟩ : ∃ k', k = k' + 1 := ⟨k - 1, by omega⟩
  refine ok_run (d := f_law_copy.df) rfl ?_
  show Ok (exB _ _ c_law_copy (startW 2 [.ref i]) h) _
  unfold c_law_copy
  walk_at "g"
  refine v_isiL v.2 ⟨fun _ => ?_, fun z => (by cases z)⟩
  walk_at "g"
  refine ⟨_, v.2, ?_⟩
  have ez := list_loose v.2
  rw [ez, List.length_map]
  refine ⟨by simp [lim]; omega, ?_⟩
  have := lc_pure (k := .live i) (bnd := fun w h' => bindT (.nm 1) w h' (wipeW (startW 2 [W.ref i]) (Tg.nm 1).slots)) (test := evP (runF D wf k) none) (elt := ev (runF D wf k) (.call 9 [.var 1] [])) (ws := ns.map .int) (h := h) (QU := fun _ h2 => W.ref h.length = W.ref h.length ∧ h2 = h ++ [.lst (ns.map .int)]) (fun _ => true) id (by simp [lim]; omega) (fun i acc hi => by
    show (lstAt _ _).map _ = _
    rw [lst_app v.2] <;> rfl) (fun i w acc hw => ⟨_, rfl, op_none ⟨rfl, rfl, fun _ => ?_⟩⟩) ⟨rfl, by simp⟩
  · rw [List.length_map] at this
    exact this
  · obtain ⟨z, _, rfl⟩ := List.mem_map.mp (List.mem_of_getElem? hw)
    walk_at "g"
    exact copy_int (by omega)
theorem copy_mx {lo a n k : Nat} {h : Hh} {i : Nat} {nss : List (List Int)} (hk : 3 ≤ k) (r : Rg lo a n h) (v : Mx lo h i nss) (hl : nss.length < 1000) (hr : ∀ row ∈ nss, row.length < 1000) : Ok (runF D wf k 9 [.ref i] h) fun w h' => ∃ q, w = .ref q ∧ Mx lo h' q nss ∧ Rg lo a n h' ∧ Kp lo h h' := by
  obtain ⟨k, rfl⟩ : ∃ k', k = k' + 1 := ⟨k - 1, by omega⟩
  refine ok_run (d := f_law_copy.df) rfl ?_
  show Ok (exB _ _ c_law_copy (startW 2 [.ref i]) h) _
  unfold c_law_copy
  obtain ⟨v1, rs, v2, v3, v4⟩ := id v
  walk_at "g"
  refine v_isiL v2 ⟨fun _ => ?_, fun z => (by cases z)⟩
  walk_at "g"
  refine ⟨_, v2, ?_⟩
  have ez := list_loose v2
  rw [ez]
  have ez2 : (rs.map W.ref).length = nss.length := by rw [List.length_map, v3]
  refine ⟨by rw [ez2]; simp [lim]; omega, ?_⟩
  refine lc_gen (lo := lo) (fun i h' => Rg lo a n h') (fun i y h' => ∃ q xs, y = .ref q ∧ (h.length < q ∧ Lv lo h' q xs ∧ nss[i]? = some xs)) r.len (by rw [ez2]; simp [lim]; omega) (fun j h' hk => ?_) (fun i h' o r' => r'.put r.len) (fun i y g1 g2 hg ⟨q, xs, e1, e2, e3, e4⟩ => ⟨q, xs, e1, e2, ⟨e3.1, lst_of ((hg q e3.1 (by omega) (lst_lt e3.2)).trans (lst_get e3.2))⟩, e4⟩) (r.app _) (fun j w h' hw r' hK hl => ⟨_, rfl, ?_⟩) (fun h' ys r' hK hd hy hp => ?_)
  · show (lstAt _ _).map _ = _
    rw [hk.lst v1 v2] <;> rfl
  · have hj := (List.getElem?_eq_some_iff.mp hw).1
    rw [List.length_map] at hj
    rw [List.getElem?_map, List.getElem?_eq_getElem hj] at hw
    cases hw
    have hv := (v4 j rs[j] nss[j] (List.getElem?_eq_getElem hj) (List.getElem?_eq_getElem (by omega))).kp hK
    walk_at "g"
    refine (copy_row (by omega) hv (hr _ (List.getElem_mem _))).imp fun w h3 ⟨e1, e2⟩ => ?_
    subst e1 e2
    exact ⟨⟨_, nss[j], rfl, hl, ⟨r'.len, lst_new⟩, List.getElem?_eq_getElem (by omega)⟩, r'.app _, Kp.app _ _ _⟩
  · obtain ⟨qs, xss, rfl, e2, hR⟩ := pair_refs hp
    rw [List.length_map] at hy
    rw [ez2] at hy
    refine ⟨_, rfl, ⟨r.len, qs, hd, by omega, fun m q ns q1 q2 => ?_⟩, r', hK⟩
    have hm := (List.getElem?_eq_some_iff.mp q1).1
    have := hR m q xss[m] q1 (List.getElem?_eq_getElem (by omega))
    rw [q2] at this
    obtain ⟨_, h5, h6⟩ := this
    cases h6
    exact h5
end C73
set_option maxHeartbeats 2000000
namespace C73
open PySem PySem.Spec PyProof.Rows L2 Z
theorem c_t {A B : Prop} {b : Bool} (e : b = true) (q : A) : (b = true → A) ∧ (b = false → B) := ⟨fun _ => q, fun z => absurd (e.symm.trans z) (fun z => (by cases z))⟩
theorem c_f {A B : Prop} {b : Bool} (e : b = false) (q : B) : (b = true → A) ∧ (b = false → B) := ⟨fun z => absurd (e.symm.trans z) (fun z => (by cases z)), fun _ => q⟩
theorem c_s {A B : Prop} {b : Bool} (q : b = true → A) (q' : b = false → B) : (b = true → A) ∧ (b = false → B) := ⟨q, q'⟩
theorem v_isi {h : Hh} {t : Ty} {w : W} {b : Bool} {QB : Bool → Hh → Prop} (e : isiW h t w = some b) (q : QB b h) : Ok (optR (isiW h t w) h) QB := v_opt e q
theorem v_nin {h : Hh} {x y : W} {b : Bool} {QB : Bool → Hh → Prop} (e : cmpW .NotIn x y h = some b) (q : QB b h) : Ok (optR (cmpW .NotIn x y h) h) QB := v_opt e q
theorem v_in {h : Hh} {x y : W} {b : Bool} {QB : Bool → Hh → Prop} (e : cmpW .In x y h = some b) (q : QB b h) : Ok (optR (cmpW .In x y h) h) QB := v_opt e q
theorem c_bl {b : Bool} {P : Bool → Prop} (q : P b) : ∃ c, W.bl b = W.bl c ∧ P c := ⟨b, rfl, q⟩
theorem c_le {ws : List W} {A : Prop} (e : ws.length ≤ lim) (q : A) : ws.length ≤ lim ∧ A := ⟨e, q⟩
/-- one step -/
local macro_rules | `(tactic| walk_at "z") => `(tactic| with_reducible first
  | refine k_nx ?_ | refine k_rt ?_ | refine k_bk ?_ | refine k_ct ?_ | refine l_nx ?_ | refine l_ct ?_ | refine l_bk ?_ | refine l_rt ?_ | refine f_rt ?_ | refine f_nx ?_
  | refine b_when ?_ | refine b_ifs ?_ | refine b_set ?_ | refine b_ret ?_ | refine b_retN ?_ | refine b_exp ?_ | refine b_setI ?_ | refine b_setU ?_ | refine b_for ?_ | refine b_nil ?_ | refine b_pass ?_ | refine b_brk ?_ | refine b_cnt ?_ | refine b_whl ?_
  | refine o_con ?_ | refine o_bin ?_ | refine o_neg ?_ | refine o_cmp ?_ | refine o_chn ?_ | refine o_and ?_ | refine o_or ?_ | refine o_not ?_ | refine o_ife ?_ | refine o_tup ?_ | refine o_lst ?_ | refine o_ix ?_ | refine o_sl ?_
  | refine oo_none ?_ | refine oo_some ?_ | refine o_call ?_ | refine o_kcall ?_ | refine o_isi ?_ | refine o_bi1 ?_ | refine o_bi2 ?_ | refine o_mt0 ?_ | refine o_mt1 ?_ | refine os_nil ?_ | refine os_cons ?_
  | refine t_not ?_ | refine t_and ?_ | refine t_or ?_ | refine t_cmp ?_ | refine t_chn ?_ | refine t_isi ?_ | refine t_call ?_ | refine t_kcall ?_ | refine op_none ?_ | refine op_some ?_
  | refine v_add ?_ | refine v_sub ?_ | refine v_neg ?_ | refine v_eqi ?_ | refine v_nei ?_ | refine v_lt ?_ | refine v_le ?_ | refine v_gt ?_ | refine v_ge ?_ | refine v_is ?_ | refine v_isnot ?_
  | refine v_lenT ?_ | refine v_lenS ?_ | refine v_abs ?_ | refine v_int ?_ | refine v_intb ?_ | refine v_listT ?_ | refine v_tupleT ?_ | refine v_min2 ?_ | refine v_max2 ?_
  | refine r_seq ?_ | refine r_rng1 ?_ | refine r_rng2 ?_
  | refine o_lc ?_)
/-- a name -/
local macro_rules | `(tactic| walk_at "v") => `(tactic| ((with_reducible first | apply o_var | apply t_var); exact rfl))
/-- steps -/
local macro_rules | `(tactic| walk_at "g") => `(tactic| repeat (first | walk_at "z" | walk_at "v"))
/-- a step that looks at what is known -/
local macro_rules | `(tactic| walk_at "k") => `(tactic| first
  | ((with_reducible apply v_isi (b := true)); rfl) | ((with_reducible apply v_isi (b := false)); rfl)
  | ((with_reducible apply v_ixL); assumption; (first | assumption | rfl)) | ((with_reducible apply v_ixT); (first | assumption | rfl)) | ((with_reducible apply v_lenL); assumption) | ((with_reducible apply v_nin); rfl)
  | (with_reducible refine c_bl ?_) | ((with_reducible refine c_le (Nat.le_of_ble_eq_true ?_) ?_); rfl)
  | ((with_reducible apply c_t); rfl) | ((with_reducible apply c_f); rfl)
  | (with_reducible refine c_s (fun _ => ?_) (fun _ => ?_)))
/-- all steps, all ways -/
local macro_rules | `(tactic| walk_at "a") => `(tactic| repeat' (first | walk_at "z" | walk_at "v" | walk_at "k"))
def psb (xs : List W) (l0 l1 l2 size : Int) : Bool := match xs with
  | [.int b0, .int b1, .int d0, .int d1, .int bt, .int e, .int f] => decide (0 ≤ b0 ∧ size ≤ b1 - b0 ∧ 0 ≤ d0 ∧ 0 ≤ d1 ∧ d0 ≤ l0 ∧ d1 ≤ l0 ∧ (bt = 0 ∨ bt = 1) ∧ 0 ≤ e ∧ e ≤ l1 ∧ 0 ≤ f ∧ f ≤ l2)
  | _ => false
theorem int_of {w : W} (h : isIn w = true) : ∃ i, w = .int i := by
  cases w with
  | int i => exact ⟨i, rfl⟩
  | _ => cases h
theorem seven {xs : List W} (hl : xs.length = 7) (ha : ∀ x ∈ xs, isIn x = true) : ∃ b0 b1 d0 d1 bt e f : Int, xs = [.int b0, .int b1, .int d0, .int d1, .int bt, .int e, .int f] := by
  match xs, hl with
  | [x0, x1, x2, x3, x4, x5, x6], _ =>
    obtain ⟨i0, rfl⟩ := int_of (ha x0 (by simp))
    obtain ⟨i1, rfl⟩ := int_of (ha x1 (by simp))
    obtain ⟨i2, rfl⟩ := int_of (ha x2 (by simp))
    obtain ⟨i3, rfl⟩ := int_of (ha x3 (by simp))
    obtain ⟨i4, rfl⟩ := int_of (ha x4 (by simp))
    obtain ⟨i5, rfl⟩ := int_of (ha x5 (by simp))
    obtain ⟨i6, rfl⟩ := int_of (ha x6 (by simp))
    exact ⟨i0, i1, i2, i3, i4, i5, i6, rfl⟩
theorem psb_len {xs : List W} {l0 l1 l2 size : Int} (hl : xs.length ≠ 7) : psb xs l0 l1 l2 size = false := by
  unfold psb
  split
  · exact absurd rfl hl
  · rfl
theorem psb_mem {xs : List W} {l0 l1 l2 size : Int} {w : W} (hw : w ∈ xs) (hi : isIn w = false) : psb xs l0 l1 l2 size = false := by
  unfold psb
  split
  · simp only [List.mem_cons, List.not_mem_nil, or_false] at hw
    rcases hw with rfl | rfl | rfl | rfl | rfl | rfl | rfl <;> cases hi
  · rfl
theorem possible_ok {k : Nat} {h : Hh} {xs : List W} {e : Nat} {l0 l1 l2 size : Int} (hk : 2 ≤ k) (hs : ∀ x ∈ xs, Sm x = true) (he : lstAt h e = some [.int l0, .int l1, .int l2]) : Ok (runF D wf k 13 [.tup xs, .ref e, .int size] h) fun w h' => w = .bl (psb xs l0 l1 l2 size) ∧ h' = h := by
  obtain ⟨k, rfl⟩ : ∃ k', k = k' + 1 := ⟨k - 1, by omega⟩
  refine ok_run (d := f_law_possible.df) rfl ?_
  show Ok (exB _ _ c_law_possible (startW 4 [.tup xs, .ref e, .int size]) h) _
  unfold c_law_possible
  walk_at "g"
  walk_at "k"
  walk_at "g"
  walk_at "k"
  walk_at "g"
  refine c_s (fun ht => ?_) (fun hf => ?_)
  · walk_at "g"
    exact ⟨congrArg W.bl (psb_len (by have := of_decide_eq_true ht; omega)).symm, rfl⟩
  have h7 : xs.length = 7 := by have := of_decide_eq_false hf; omega
  walk_at "g"
  refine for_fix (fun i σ' h' => ∃ x, σ' = [some (.tup xs), some (.ref e), some (.int size), x] ∧ h' = h ∧ ∀ y ∈ xs.take i, isIn y = true) ⟨none, rfl, rfl, by simp⟩ (fun i w σ' h' hw p => ?_) (fun σ' h' p => ?_)
  · obtain ⟨x, rfl, rfl, hx⟩ := p
    refine ⟨_, rfl, ?_⟩
    walk_at "g"
    refine (int_ok (by omega) (hs w (List.mem_of_getElem? hw))).imp fun y h2 ⟨e1, e2⟩ => ?_
    subst e1 e2
    refine v_opt (x := isIn w) rfl ?_
    refine c_s (fun ht => ?_) (fun hf => ?_)
    · walk_at "g"
      exact ⟨congrArg W.bl (psb_mem (List.mem_of_getElem? hw) (by simpa using ht)).symm, rfl⟩
    · walk_at "g"
      refine ⟨_, rfl, rfl, fun y hy => ?_⟩
      rw [List.take_succ, hw] at hy
      rcases List.mem_append.mp hy with hy | hy
      · exact hx y hy
      · rw [List.mem_singleton.mp hy]; simpa using hf
  · obtain ⟨x, rfl, rfl, hx⟩ := p
    rw [List.take_length] at hx
    obtain ⟨b0, b1, d0, d1, bt, e5, e6, rfl⟩ := seven h7 hx
    clear hf hx h7 hs
    walk_at "a"
    all_goals (refine ⟨congrArg W.bl ?_, rfl⟩; simp only [decide_eq_true_eq, decide_eq_false_iff_not, Bool.not_eq_true', Bool.not_eq_false', Int.not_lt, Int.not_le, ne_eq, Decidable.not_not] at *; unfold psb; simp only [Bool.false_eq, decide_eq_false_iff_not, decide_eq_decide]; first | omega | (split at * <;> first | omega | (split at * <;> omega)))

def mom : List W → List Int
  | [.int b0, .int b1, .int d0, .int d1, .int bt, .int e, .int f] => [b0 + d0, b1 + d1, (if bt = 0 then b0 else b1) + e + f]
  | _ => []
def btOf : List W → Int
  | [_, _, _, _, .int b, _, _] => b
  | _ => 0
theorem eq3 {h : Hh} {a b c a' b' c' : Int} : eqW h (.tup [.int a, .int b, .int c]) (.tup [.int a', .int b', .int c']) = some (decide ([a, b, c] = [a', b', c'])) := by
  have e : eqW h (.tup [.int a, .int b, .int c]) (.tup [.int a', .int b', .int c']) = some ((a == a') && ((b == b') && ((c == c') && true))) := rfl
  rw [e]
  congr 1
  rw [Bool.eq_iff_iff]
  simp
theorem psb_seven {xs : List W} {l0 l1 l2 size : Int} (h : psb xs l0 l1 l2 size = true) : ∃ b0 b1 d0 d1 bt e f : Int, xs = [.int b0, .int b1, .int d0, .int d1, .int bt, .int e, .int f] ∧ (bt = 0 ∨ bt = 1) := by
  unfold psb at h
  split at h
  · have := of_decide_eq_true h
    exact ⟨_, _, _, _, _, _, _, rfl, this.2.2.2.2.2.2.1⟩
  · cases h
theorem moments_ok {k : Nat} {h : Hh} {b0 b1 d0 d1 bt e f : Int} (hk : 1 ≤ k) (hb : bt = 0 ∨ bt = 1) : Ok (runF D wf k 14 [.tup [.int b0, .int b1, .int d0, .int d1, .int bt, .int e, .int f]] h) fun w h' => w = .tup [.int (b0 + d0), .int (b1 + d1), .int ((if bt = 0 then b0 else b1) + e + f)] ∧ h' = h := by
  obtain ⟨k, rfl⟩ : ∃ k', k = k' + 1 := ⟨k - 1, by omega⟩
  refine ok_run (d := f_law_moments.df) rfl ?_
  show Ok (exB _ _ c_law_moments (startW 1 _) h) _
  unfold c_law_moments
  rcases hb with rfl | rfl <;> (walk_at "a"; exact ⟨rfl, rfl⟩)
theorem chart_moments_ok {k : Nat} {h : Hh} {b0 b1 d0 d1 bt e f : Int} (hk : 1 ≤ k) (hb : bt = 0 ∨ bt = 1) : Ok (runF D wf k 3 [.tup [.int b0, .int b1, .int d0, .int d1, .int bt, .int e, .int f]] h) fun w h' => w = .tup [.int (b0 + d0), .int (b1 + d1), .int ((if bt = 0 then b0 else b1) + e + f)] ∧ h' = h := by
  obtain ⟨k, rfl⟩ : ∃ k', k = k' + 1 := ⟨k - 1, by omega⟩
  refine ok_run (d := f_chart_moments.df) rfl ?_
  show Ok (exB _ _ c_chart_moments (startW 9 _) h) _
  unfold c_chart_moments
  walk_at "g"
  refine ⟨_, _, rfl, rfl, ?_⟩
  rcases hb with rfl | rfl <;> (walk_at "a"; exact ⟨rfl, rfl⟩)
def clb (xs ys : List W) (l0 l1 l2 size : Int) : Bool := psb xs l0 l1 l2 size && (psb ys l0 l1 l2 size && (decide (mom xs = mom ys) && decide (btOf xs + btOf ys = 1)))
theorem clash_ok {k : Nat} {h : Hh} {xs ys : List W} {e : Nat} {l0 l1 l2 size : Int} (hk : 3 ≤ k) (hs : ∀ x ∈ xs, Sm x = true) (hs' : ∀ x ∈ ys, Sm x = true) (he : lstAt h e = some [.int l0, .int l1, .int l2]) : Ok (runF D wf k 15 [.tup xs, .tup ys, .ref e, .int size] h) fun w h' => w = .bl (clb xs ys l0 l1 l2 size) ∧ h' = h := by
  obtain ⟨k, rfl⟩ : ∃ k', k = k' + 1 := ⟨k - 1, by omega⟩
  refine ok_run (d := f_law_clash.df) rfl ?_
  show Ok (exB _ _ c_law_clash (startW 4 [.tup xs, .tup ys, .ref e, .int size]) h) _
  unfold c_law_clash
  walk_at "g"
  refine (possible_ok (by omega) hs he).imp fun w h1 ⟨e1, e2⟩ => ?_
  subst e1 e2
  refine v_opt (x := psb xs l0 l1 l2 size) rfl ?_
  refine c_s (fun ht => ?_) (fun hf => ?_)
  · walk_at "g"
    refine c_t rfl ?_
    walk_at "g"
    unfold clb
    rw [Bool.not_eq_true'] at ht
    rw [ht]
    exact ⟨rfl, rfl⟩
  walk_at "g"
  refine (possible_ok (by omega) hs' he).imp fun w h1 ⟨e1, e2⟩ => ?_
  subst e1 e2
  refine v_opt (x := psb ys l0 l1 l2 size) rfl ?_
  have hx : psb xs l0 l1 l2 size = true := by simpa using hf
  refine c_s (fun ht => ?_) (fun hf => ?_)
  · walk_at "g"
    unfold clb
    rw [Bool.not_eq_true'] at ht
    rw [hx, ht]
    exact ⟨rfl, rfl⟩
  have hy : psb ys l0 l1 l2 size = true := by simpa using hf
  unfold clb
  rw [hx, hy]
  obtain ⟨b0, b1, d0, d1, bt, e5, f, rfl, hb⟩ := psb_seven hx
  obtain ⟨c0, c1, g0, g1, ct, e6, g, rfl, hc⟩ := psb_seven hy
  walk_at "g"
  refine (moments_ok (by omega) hb).imp fun w h1 ⟨e1, e2⟩ => ?_
  subst e1 e2
  walk_at "g"
  refine (moments_ok (by omega) hc).imp fun w h1 ⟨e1, e2⟩ => ?_
  subst e1 e2
  refine v_eq eq3 ?_
  refine c_bl ?_
  refine c_s (fun ht => ?_) (fun hf => ?_)
  · walk_at "a"
    refine ⟨congrArg W.bl ?_, rfl⟩
    show _ = (true && (true && (decide (_ = _) && decide (bt + ct = 1))))
    unfold mom
    rw [ht, Bool.true_and, Bool.true_and, Bool.true_and]
  · refine ⟨congrArg W.bl ?_, rfl⟩
    show _ = (true && (true && (decide (_ = _) && decide (bt + ct = 1))))
    unfold mom
    rw [hf, Bool.true_and, Bool.true_and, Bool.false_and]
end C73
set_option maxHeartbeats 2000000
namespace C73
open PySem PySem.Spec PyProof.Rows L2 Z
/-- one step -/
local macro_rules | `(tactic| walk_at "z") => `(tactic| with_reducible first
  | refine k_nx ?_ | refine k_rt ?_ | refine k_bk ?_ | refine k_ct ?_ | refine l_nx ?_ | refine l_ct ?_ | refine l_bk ?_ | refine l_rt ?_ | refine f_rt ?_ | refine f_nx ?_
  | refine b_when ?_ | refine b_ifs ?_ | refine b_set ?_ | refine b_ret ?_ | refine b_retN ?_ | refine b_exp ?_ | refine b_setI ?_ | refine b_setU ?_ | refine b_for ?_ | refine b_nil ?_ | refine b_pass ?_ | refine b_brk ?_ | refine b_cnt ?_ | refine b_whl ?_
  | refine o_con ?_ | refine o_bin ?_ | refine o_neg ?_ | refine o_cmp ?_ | refine o_chn ?_ | refine o_and ?_ | refine o_or ?_ | refine o_not ?_ | refine o_ife ?_ | refine o_tup ?_ | refine o_lst ?_ | refine o_ix ?_ | refine o_sl ?_
  | refine oo_none ?_ | refine oo_some ?_ | refine o_call ?_ | refine o_kcall ?_ | refine o_isi ?_ | refine o_bi1 ?_ | refine o_bi2 ?_ | refine o_mt0 ?_ | refine o_mt1 ?_ | refine os_nil ?_ | refine os_cons ?_
  | refine t_not ?_ | refine t_and ?_ | refine t_or ?_ | refine t_cmp ?_ | refine t_chn ?_ | refine t_isi ?_ | refine t_call ?_ | refine t_kcall ?_ | refine op_none ?_ | refine op_some ?_
  | refine v_add ?_ | refine v_sub ?_ | refine v_neg ?_ | refine v_eqi ?_ | refine v_nei ?_ | refine v_lt ?_ | refine v_le ?_ | refine v_gt ?_ | refine v_ge ?_ | refine v_is ?_ | refine v_isnot ?_
  | refine v_lenT ?_ | refine v_lenS ?_ | refine v_abs ?_ | refine v_int ?_ | refine v_intb ?_ | refine v_listT ?_ | refine v_tupleT ?_ | refine v_min2 ?_ | refine v_max2 ?_
  | refine r_seq ?_ | refine r_rng1 ?_ | refine r_rng2 ?_
  | refine o_lc ?_)
/-- a name -/
local macro_rules | `(tactic| walk_at "v") => `(tactic| ((with_reducible first | apply o_var | apply t_var); exact rfl))
/-- steps -/
local macro_rules | `(tactic| walk_at "g") => `(tactic| repeat (first | walk_at "z" | walk_at "v"))
/-- a step that looks at what is known -/
local macro_rules | `(tactic| walk_at "k") => `(tactic| first
  | ((with_reducible apply v_isi (b := true)); rfl) | ((with_reducible apply v_isi (b := false)); rfl)
  | ((with_reducible apply v_ixL); assumption; (first | assumption | rfl)) | ((with_reducible apply v_ixT); (first | assumption | rfl)) | ((with_reducible apply v_lenL); assumption) | ((with_reducible apply v_nin); rfl)
  | (with_reducible refine c_bl ?_) | ((with_reducible refine c_le (Nat.le_of_ble_eq_true ?_) ?_); rfl)
  | ((with_reducible apply c_t); rfl) | ((with_reducible apply c_f); rfl)
  | (with_reducible refine c_s (fun _ => ?_) (fun _ => ?_)))
/-- all steps, all ways -/
local macro_rules | `(tactic| walk_at "a") => `(tactic| repeat' (first | walk_at "z" | walk_at "v" | walk_at "k"))
/-- the bounds as the program's own def finds them -/
structure Bd (h : Hh) (la fa : Nat) (p c l0 l1 l2 : Int) : Prop where
  ex : ∃ LW FW RW row, lstAt h la = some LW ∧ lstAt h fa = some FW ∧ atI LW p = some (.int l0) ∧ atI LW c = some (.int l1) ∧ atI FW c = some (.ref row) ∧ lstAt h row = some RW ∧ atI RW p = some (.int l2)
theorem is_chart_ok {k : Nat} {h : Hh} {xs : List W} {la fa : Nat} {p c l0 l1 l2 size : Int} (hk : 2 ≤ k) (hs : ∀ x ∈ xs, Sm x = true) (hB : Bd h la fa p c l0 l1 l2) : Ok (runF D wf k 2 [.int p, .int c, .tup xs, .ref la, .ref fa, .int size] h) fun w h' => w = .bl (psb xs l0 l1 l2 size) ∧ h' = h := by
  obtain ⟨k, rfl⟩ : ∃ k', k = k' + 1 := ⟨k - 1, by omega⟩
  obtain ⟨LW, FW, RW, row, e1, e2, e3, e4, e5, e6, e7⟩ := hB.ex
  refine ok_run (d := f_is_chart.df) rfl ?_
  show Ok (exB _ _ c_is_chart (startW 14 _) h) _
  unfold c_is_chart
  walk_at "g"
  refine c_s (fun ht => ?_) (fun hf => ?_)
  · walk_at "g"
    exact ⟨congrArg W.bl (psb_len (by have := of_decide_eq_true ht; omega)).symm, rfl⟩
  have h7 : xs.length = 7 := by have := of_decide_eq_false hf; omega
  walk_at "g"
  refine for_fix (fun i σ' h' => ∃ x, σ' = [some (.int p), some (.int c), some (.tup xs), some (.ref la), some (.ref fa), some (.int size), x, none, none, none, none, none, none, none] ∧ h' = h ∧ ∀ y ∈ xs.take i, isIn y = true) ⟨none, rfl, rfl, by simp⟩ (fun i w σ' h' hw p => ?_) (fun σ' h' p => ?_)
  · obtain ⟨x, rfl, rfl, hx⟩ := p
    refine ⟨_, rfl, ?_⟩
    walk_at "g"
    refine (num_ok (by omega) (hs w (List.mem_of_getElem? hw))).imp fun y h2 ⟨e1, e2⟩ => ?_
    subst e1 e2
    refine v_opt (x := isIn w) rfl ?_
    refine c_s (fun ht => ?_) (fun hf => ?_)
    · walk_at "g"
      exact ⟨congrArg W.bl (psb_mem (List.mem_of_getElem? hw) (by simpa using ht)).symm, rfl⟩
    · walk_at "g"
      refine ⟨_, rfl, rfl, fun y hy => ?_⟩
      rw [List.take_succ, hw] at hy
      rcases List.mem_append.mp hy with hy | hy
      · exact hx y hy
      · rw [List.mem_singleton.mp hy]; simpa using hf
  · obtain ⟨x, rfl, rfl, hx⟩ := p
    rw [List.take_length] at hx
    obtain ⟨b0, b1, d0, d1, bt, e5', e6', rfl⟩ := seven h7 hx
    clear hf hx h7 hs
    walk_at "g"
    refine ⟨_, _, rfl, rfl, ?_⟩
    walk_at "a"
    all_goals try exact Nat.le_of_ble_eq_true rfl
    all_goals (refine ⟨congrArg W.bl ?_, rfl⟩; simp only [eqF, flatW, List.any_cons, List.any_nil, Bool.or_false, Bool.or_eq_true, Bool.or_eq_false_iff, beq_iff_eq, beq_eq_false_iff_ne, decide_eq_true_eq, decide_eq_false_iff_not, Bool.not_eq_true', Bool.not_eq_false', Int.not_lt, Int.not_le, ne_eq, Decidable.not_not] at *; unfold psb; simp only [Bool.false_eq, decide_eq_false_iff_not, decide_eq_decide]; first | omega | (split at * <;> first | omega | (split at * <;> omega)))
end C73
set_option maxHeartbeats 2000000
namespace C73
open PySem PySem.Spec PyProof.Rows L2 Z
/-- one step -/
local macro_rules | `(tactic| walk_at "z") => `(tactic| with_reducible first
  | refine k_nx ?_ | refine k_rt ?_ | refine k_bk ?_ | refine k_ct ?_ | refine l_nx ?_ | refine l_ct ?_ | refine l_bk ?_ | refine l_rt ?_ | refine f_rt ?_ | refine f_nx ?_
  | refine b_when ?_ | refine b_ifs ?_ | refine b_set ?_ | refine b_ret ?_ | refine b_retN ?_ | refine b_exp ?_ | refine b_setI ?_ | refine b_setU ?_ | refine b_for ?_ | refine b_nil ?_ | refine b_pass ?_ | refine b_brk ?_ | refine b_cnt ?_ | refine b_whl ?_
  | refine o_con ?_ | refine o_bin ?_ | refine o_neg ?_ | refine o_cmp ?_ | refine o_chn ?_ | refine o_and ?_ | refine o_or ?_ | refine o_not ?_ | refine o_ife ?_ | refine o_tup ?_ | refine o_lst ?_ | refine o_ix ?_ | refine o_sl ?_
  | refine oo_none ?_ | refine oo_some ?_ | refine o_call ?_ | refine o_kcall ?_ | refine o_isi ?_ | refine o_bi1 ?_ | refine o_bi2 ?_ | refine o_mt0 ?_ | refine o_mt1 ?_ | refine os_nil ?_ | refine os_cons ?_
  | refine t_not ?_ | refine t_and ?_ | refine t_or ?_ | refine t_cmp ?_ | refine t_chn ?_ | refine t_isi ?_ | refine t_call ?_ | refine t_kcall ?_ | refine op_none ?_ | refine op_some ?_
  | refine v_add ?_ | refine v_sub ?_ | refine v_neg ?_ | refine v_eqi ?_ | refine v_nei ?_ | refine v_lt ?_ | refine v_le ?_ | refine v_gt ?_ | refine v_ge ?_ | refine v_is ?_ | refine v_isnot ?_
  | refine v_lenT ?_ | refine v_lenS ?_ | refine v_abs ?_ | refine v_int ?_ | refine v_intb ?_ | refine v_listT ?_ | refine v_tupleT ?_ | refine v_min2 ?_ | refine v_max2 ?_
  | refine r_seq ?_ | refine r_rng1 ?_ | refine r_rng2 ?_
  | refine o_lc ?_)
/-- a name -/
local macro_rules | `(tactic| walk_at "v") => `(tactic| ((with_reducible first | apply o_var | apply t_var); exact rfl))
/-- steps -/
local macro_rules | `(tactic| walk_at "g") => `(tactic| repeat (first | walk_at "z" | walk_at "v"))
/-- a step that looks at what is known -/
local macro_rules | `(tactic| walk_at "k") => `(tactic| first
  | ((with_reducible apply v_isi (b := true)); rfl) | ((with_reducible apply v_isi (b := false)); rfl)
  | ((with_reducible apply v_ixL); assumption; (first | assumption | rfl)) | ((with_reducible apply v_ixT); (first | assumption | rfl)) | ((with_reducible apply v_lenL); assumption) | ((with_reducible apply v_nin); rfl)
  | (with_reducible refine c_bl ?_) | ((with_reducible refine c_le (Nat.le_of_ble_eq_true ?_) ?_); rfl)
  | ((with_reducible apply c_t); rfl) | ((with_reducible apply c_f); rfl)
  | (with_reducible refine c_s (fun _ => ?_) (fun _ => ?_)))
/-- all steps, all ways -/
local macro_rules | `(tactic| walk_at "a") => `(tactic| repeat' (first | walk_at "z" | walk_at "v" | walk_at "k"))
theorem charts_clash_ok {k : Nat} {h : Hh} {xs ys : List W} {la fa : Nat} {p c l0 l1 l2 size : Int} (hk : 3 ≤ k) (hs : ∀ x ∈ xs, Sm x = true) (hs' : ∀ x ∈ ys, Sm x = true) (hB : Bd h la fa p c l0 l1 l2) : Ok (runF D wf k 4 [.int p, .int c, .tup xs, .tup ys, .ref la, .ref fa, .int size] h) fun w h' => w = .bl (clb xs ys l0 l1 l2 size) ∧ h' = h := by
  obtain ⟨k, rfl⟩ : ∃ k', k = k' + 1 := ⟨k - 1, by omega⟩
  refine ok_run (d := f_charts_clash.df) rfl ?_
  show Ok (exB _ _ c_charts_clash (startW 7 _) h) _
  unfold c_charts_clash
  walk_at "g"
  refine (is_chart_ok (by omega) hs hB).imp fun w h1 ⟨e1, e2⟩ => ?_
  subst e1 e2
  refine v_opt (x := psb xs l0 l1 l2 size) rfl ?_
  refine c_s (fun ht => ?_) (fun hf => ?_)
  · walk_at "g"
    refine c_t rfl ?_
    walk_at "g"
    unfold clb
    rw [Bool.not_eq_true'] at ht
    rw [ht]
    exact ⟨rfl, rfl⟩
  walk_at "g"
  refine (is_chart_ok (by omega) hs' hB).imp fun w h1 ⟨e1, e2⟩ => ?_
  subst e1 e2
  refine v_opt (x := psb ys l0 l1 l2 size) rfl ?_
  have hx : psb xs l0 l1 l2 size = true := by simpa using hf
  refine c_s (fun ht => ?_) (fun hf => ?_)
  · walk_at "g"
    unfold clb
    rw [Bool.not_eq_true'] at ht
    rw [hx, ht]
    exact ⟨rfl, rfl⟩
  have hy : psb ys l0 l1 l2 size = true := by simpa using hf
  unfold clb
  rw [hx, hy]
  obtain ⟨b0, b1, d0, d1, bt, e5, f, rfl, hb⟩ := psb_seven hx
  obtain ⟨c0, c1, g0, g1, ct, e6, g, rfl, hc⟩ := psb_seven hy
  walk_at "g"
  refine (chart_moments_ok (by omega) hb).imp fun w h1 ⟨e1, e2⟩ => ?_
  subst e1 e2
  walk_at "g"
  refine (chart_moments_ok (by omega) hc).imp fun w h1 ⟨e1, e2⟩ => ?_
  subst e1 e2
  refine v_eq eq3 ?_
  refine c_bl ?_
  refine c_s (fun ht => ?_) (fun hf => ?_)
  · walk_at "a"
    refine ⟨congrArg W.bl ?_, rfl⟩
    show _ = (true && (true && (decide (_ = _) && decide (bt + ct = 1))))
    unfold mom
    rw [ht, Bool.true_and, Bool.true_and, Bool.true_and, decide_eq_decide]
    omega
  · refine ⟨congrArg W.bl ?_, rfl⟩
    show _ = (true && (true && (decide (_ = _) && decide (bt + ct = 1))))
    unfold mom
    rw [hf, Bool.true_and, Bool.true_and, Bool.false_and]
theorem clb_comm (xs ys : List W) (l0 l1 l2 size : Int) : clb xs ys l0 l1 l2 size = clb ys xs l0 l1 l2 size := by
  unfold clb
  have e1 : decide (mom xs = mom ys) = decide (mom ys = mom xs) := decide_eq_decide.mpr ⟨Eq.symm, Eq.symm⟩
  have e2 : decide (btOf xs + btOf ys = 1) = decide (btOf ys + btOf xs = 1) := decide_eq_decide.mpr (by omega)
  rw [e1, e2]
  cases psb xs l0 l1 l2 size <;> cases psb ys l0 l1 l2 size <;> rfl
def twoF (l0 l1 l2 : Int) : List W := [.int l0, .int (l0 + (l1 + l2 + l0)), .int 0, .int 0, .int 0, .int l1, .int l2]
def twoS (l0 l1 l2 : Int) : List W := [.int 0, .int (l1 + l2 + l0), .int l0, .int l0, .int 1, .int 0, .int 0]
theorem two_charts_ok {k : Nat} {h : Hh} {la fa : Nat} {p c l0 l1 l2 : Int} (hk : 1 ≤ k) (hB : Bd h la fa p c l0 l1 l2) : Ok (runF D wf k 1 [.int p, .int c, .ref la, .ref fa] h) fun w h' => w = (if l1 + l2 + l0 = 0 then .non else .tup [.tup (twoF l0 l1 l2), .tup (twoS l0 l1 l2)]) ∧ h' = h := by
  obtain ⟨k, rfl⟩ : ∃ k', k = k' + 1 := ⟨k - 1, by omega⟩
  obtain ⟨LW, FW, RW, row, e1, e2, e3, e4, e5, e6, e7⟩ := hB.ex
  refine ok_run (d := f_two_charts.df) rfl ?_
  show Ok (exB _ _ c_two_charts (startW 7 _) h) _
  unfold c_two_charts
  walk_at "g"
  refine v_ixL e1 e4 ?_
  walk_at "g"
  refine v_ixL e2 e5 ?_
  walk_at "g"
  refine v_ixL e6 e7 ?_
  walk_at "g"
  refine v_ixL e1 e3 ?_
  walk_at "g"
  refine c_s (fun ht => ?_) (fun hf => ?_)
  · walk_at "g"
    rw [if_pos (of_decide_eq_true ht)]
    exact ⟨rfl, rfl⟩
  · rw [if_neg (of_decide_eq_false hf)]
    walk_at "g"
    refine v_ixL e1 e3 ?_
    walk_at "g"
    refine v_ixL e1 e3 ?_
    walk_at "g"
    refine v_ixL e1 e4 ?_
    walk_at "g"
    refine v_ixL e2 e5 ?_
    walk_at "g"
    refine v_ixL e6 e7 ?_
    walk_at "g"
    refine c_le (by simp [lim]) ?_
    walk_at "g"
    refine v_ixL e1 e3 ?_
    walk_at "g"
    refine v_ixL e1 e3 ?_
    walk_at "g"
    refine c_le (by simp [lim]) ?_
    walk_at "g"
    refine c_le (by simp [lim]) ?_
    walk_at "g"
    exact ⟨rfl, rfl⟩
def Pr (lo : Nat) (h : Hh) (i : Nat) : Prop := lo ≤ i ∧ ∃ xs ys, lstAt h i = some [.tup xs, .tup ys] ∧ (∀ x ∈ xs, Sm x = true) ∧ (∀ x ∈ ys, Sm x = true)
theorem Pr.kp {lo : Nat} {h h' : Hh} {i : Nat} (a : Pr lo h i) (k : Kp lo h h') : Pr lo h' i := by
  obtain ⟨a1, xs, ys, a2, a3⟩ := a
  exact ⟨a1, xs, ys, k.lst a1 a2, a3⟩
def Pi (lo : Nat) (h : Hh) (i : Nat) : Prop := lo ≤ i ∧ ∃ xs ys : List Int, lstAt h i = some [.tup (xs.map .int), .tup (ys.map .int)] ∧ xs.length = 7 ∧ ys.length = 7
theorem sm_ints (xs : List Int) : ∀ x ∈ xs.map W.int, Sm x = true := by
  intro x hx
  obtain ⟨z, _, rfl⟩ := List.mem_map.mp hx
  rfl
theorem sizes_ok {lo a n k pr : Nat} {h : Hh} {reach : Int} (hk : 3 ≤ k) (r : Rg lo a (n + 1) h) (hp : Pr lo h pr) : Ok (runF D wf k 18 [.ref a, .ref pr, .int reach] h) fun w h' => ∃ q zs, w = .ref q ∧ Lv lo h' q zs ∧ Rg lo a n h' ∧ Kp lo h h' := by
  obtain ⟨k, rfl⟩ : ∃ k', k = k' + 1 := ⟨k - 1, by omega⟩
  obtain ⟨hp1, xs, ys, hp2, hp3, hp4⟩ := id hp
  refine ok_run (d := f_law_sizes.df) rfl ?_
  show Ok (exB _ _ c_law_sizes (startW 5 _) h) _
  unfold c_law_sizes
  walk_at "g"
  refine c_le (by simp [lim]) ?_
  walk_at "g"
  refine ⟨_, lst_app hp2, ?_⟩
  refine for_live (fun i σ' h' => ∃ q zs x, σ' = [some (.ref a), some (.ref pr), some (.int reach), some (.ref q), x] ∧ Lv lo h' q zs ∧ zs.length ≤ 2 + 2 * i ∧ Rg lo a (n + 1) h' ∧ Kp lo h h') (lst_app hp2) (fun i σ' h' ⟨_, _, _, _, _, _, _, q⟩ => q.lst hp1 hp2) ⟨_, [reach, reach + 1], none, rfl, ⟨r.len, lst_new⟩, by simp, r.app _, Kp.app _ _ _⟩ (fun i w σ' h' hw p => ?_) (fun σ' h' p => ?_)
  · obtain ⟨q, zs, x, rfl, q1, q2, q3, q4⟩ := p
    obtain ⟨us, rfl, hus⟩ : ∃ us, w = .tup us ∧ ∀ x ∈ us, Sm x = true := by
      have := List.mem_of_getElem? hw
      simp only [List.mem_cons, List.not_mem_nil, or_false] at this
      rcases this with rfl | rfl
      · exact ⟨_, rfl, hp3⟩
      · exact ⟨_, rfl, hp4⟩
    refine ⟨_, rfl, ?_⟩
    walk_at "g"
    refine c_le (by simp [lim]) ?_
    walk_at "g"
    refine v_powe (z := 1000000000000000000000000000000000000000000000) (by omega) (by decide) ?_
    walk_at "g"
    refine (possible_ok (by omega) hus lst_new).imp fun w h1 ⟨e1, e2⟩ => ?_
    subst e1 e2
    refine v_opt rfl ?_
    refine c_s (fun ht => ?_) (fun hf => ?_)
    · obtain ⟨b0, b1, d0, d1, bt, e5, f, rfl, hb⟩ := psb_seven ht
      walk_at "g"
      refine v_ixT rfl ?_
      walk_at "g"
      refine v_ixT rfl ?_
      walk_at "g"
      refine v_ixT rfl ?_
      walk_at "g"
      refine v_ixT rfl ?_
      walk_at "g"
      refine c_le (by simp [lim]) ?_
      have hi := (List.getElem?_eq_some_iff.mp hw).1
      simp at hi
      refine v_addL (lst_app (lst_app q1.2)) lst_new (by simp [lim]; omega) ?_
      walk_at "g"
      refine ⟨_, zs ++ [b1 - b0, b1 - b0 + 1], _, rfl, ⟨?_, ?_⟩, by simp; omega, ((q3.app _).app _).app _, ((q4.addl _).addl _).addl _⟩
      · have := q3.len
        simp
        omega
      · rw [List.map_append]
        exact lst_new
    · walk_at "g"
      exact ⟨_, zs, _, rfl, ⟨q1.1, lst_app q1.2⟩, by omega, q3.app _, q4.addl _⟩
  · obtain ⟨q, zs, x, rfl, q1, q2, q3, q4⟩ := p
    walk_at "g"
    refine (draw_ok (by omega) q3 (by omega) (by decide)).imp fun w h1 ⟨x, ew, x0, x1, r1, k1, _⟩ => ?_
    subst ew
    walk_at "g"
    refine c_le (by simp [lim]) ?_
    simp at q2
    refine v_addL (lst_app (k1.lst q1.1 q1.2)) lst_new (by simp [lim]; omega) ?_
    walk_at "g"
    refine ⟨_, zs ++ [x - 4], rfl, ⟨?_, ?_⟩, (r1.app _).app _, ((q4.trans k1).addl _).addl _⟩
    · have := r1.len
      simp
      omega
    · rw [List.map_append]
      exact lst_new
end C73
set_option maxHeartbeats 2000000
namespace C73
open PySem PySem.Spec PyProof.Rows L2 Z
def JnK (I : Sl → Hh → Prop) : Fl → Hh → Prop := fun f h => match f with
  | .nx σ => I σ h
  | _ => False
theorem b_join {F : CallEnv} {wf : Nat} {c : Ex} {A B r : List Z.St} {σ : Sl} {h : Hh} {QF : Fl → Hh → Prop} (I : Sl → Hh → Prop) (q : Ok (evT F c σ h) fun t h1 => (t = true → Ok (exB F wf A σ h1) (JnK I)) ∧ (t = false → Ok (exB F wf B σ h1) (JnK I))) (n : ∀ σ h, I σ h → Ok (exB F wf r σ h) QF) : Ok (exB F wf (.ifs c A B :: r) σ h) QF := by
  refine b_ifs (q.imp fun t h1 q => ⟨fun z => (q.1 z).imp fun f h2 p => ?_, fun z => (q.2 z).imp fun f h2 p => ?_⟩)
  · cases f with
    | nx σ' => exact n σ' h2 p
    | _ => exact p.elim
  · cases f with
    | nx σ' => exact n σ' h2 p
    | _ => exact p.elim
theorem j_nx {I : Sl → Hh → Prop} {σ : Sl} {h : Hh} (q : I σ h) : JnK I (.nx σ) h := q
/-- one step -/
local macro_rules | `(tactic| walk_at "y") => `(tactic| with_reducible first
  | refine k_nx ?_ | refine k_rt ?_ | refine k_bk ?_ | refine k_ct ?_ | refine l_nx ?_ | refine l_ct ?_ | refine l_bk ?_ | refine l_rt ?_ | refine f_rt ?_ | refine f_nx ?_ | refine j_nx ?_
  | refine b_set ?_ | refine b_ret ?_ | refine b_retN ?_ | refine b_exp ?_ | refine b_setI ?_ | refine b_setU ?_ | refine b_for ?_ | refine b_nil ?_ | refine b_pass ?_ | refine b_brk ?_ | refine b_cnt ?_ | refine b_whl ?_
  | refine o_con ?_ | refine o_bin ?_ | refine o_neg ?_ | refine o_cmp ?_ | refine o_chn ?_ | refine o_and ?_ | refine o_or ?_ | refine o_not ?_ | refine o_ife ?_ | refine o_tup ?_ | refine o_lst ?_ | refine o_ix ?_ | refine o_sl ?_
  | refine oo_none ?_ | refine oo_some ?_ | refine o_call ?_ | refine o_kcall ?_ | refine o_isi ?_ | refine o_bi1 ?_ | refine o_bi2 ?_ | refine o_mt0 ?_ | refine o_mt1 ?_ | refine os_nil ?_ | refine os_cons ?_
  | refine t_not ?_ | refine t_and ?_ | refine t_or ?_ | refine t_cmp ?_ | refine t_chn ?_ | refine t_isi ?_ | refine t_call ?_ | refine t_kcall ?_ | refine op_none ?_ | refine op_some ?_
  | refine v_add ?_ | refine v_sub ?_ | refine v_neg ?_ | refine v_eqi ?_ | refine v_nei ?_ | refine v_lt ?_ | refine v_le ?_ | refine v_gt ?_ | refine v_ge ?_ | refine v_is ?_ | refine v_isnot ?_
  | refine v_lenT ?_ | refine v_lenS ?_ | refine v_abs ?_ | refine v_int ?_ | refine v_intb ?_ | refine v_listT ?_ | refine v_tupleT ?_ | refine v_min2 ?_ | refine v_max2 ?_
  | refine r_seq ?_ | refine r_rng1 ?_ | refine r_rng2 ?_
  | refine o_lc ?_)
local macro_rules | `(tactic| walk_at "z") => `(tactic| first | walk_at "y" | (with_reducible first | refine b_when ?_ | refine b_ifs ?_))
/-- a name -/
local macro_rules | `(tactic| walk_at "v") => `(tactic| ((with_reducible first | apply o_var | apply t_var); exact rfl))
/-- steps up to an if -/
local macro_rules | `(tactic| walk_at "h") => `(tactic| repeat (first | walk_at "y" | walk_at "v"))
/-- steps -/
local macro_rules | `(tactic| walk_at "g") => `(tactic| repeat (first | walk_at "z" | walk_at "v"))
/-- a step that looks at what is known -/
local macro_rules | `(tactic| walk_at "k") => `(tactic| first
  | ((with_reducible apply v_isi (b := true)); rfl) | ((with_reducible apply v_isi (b := false)); rfl)
  | ((with_reducible apply v_ixL); assumption; (first | assumption | rfl)) | ((with_reducible apply v_ixT); (first | assumption | rfl)) | ((with_reducible apply v_lenL); assumption) | ((with_reducible apply v_nin); rfl)
  | (with_reducible refine j_nx ?_) | (with_reducible refine c_bl ?_) | ((with_reducible refine c_le (Nat.le_of_ble_eq_true ?_) ?_); rfl)
  | ((with_reducible apply c_t); rfl) | ((with_reducible apply c_f); rfl)
  | (with_reducible refine c_s (fun _ => ?_) (fun _ => ?_)))
/-- all steps, all ways -/
local macro_rules | `(tactic| walk_at "a") => `(tactic| repeat' (first | walk_at "z" | walk_at "v" | walk_at "k"))
theorem ints_of {P : Nat → W → Hh → Prop} {h : Hh} : ∀ {ys : List W}, (∀ (i : Nat) (y : W), ys[i]? = some y → ∃ x, y = .int x) → ∃ xs : List Int, ys = xs.map .int := by
  intro ys
  induction ys with
  | nil => exact fun _ => ⟨[], rfl⟩
  | cons y ys ih =>
    intro hp
    obtain ⟨x, rfl⟩ := hp 0 y rfl
    obtain ⟨xs, rfl⟩ := ih (fun i y' hy' => hp (i + 1) y' hy')
    exact ⟨x :: xs, rfl⟩
theorem eight {vs : List Int} (h : vs.length = 8) : ∃ a b c d e f g i : Int, vs = [a, b, c, d, e, f, g, i] := by
  match vs, h with
  | [a, b, c, d, e, f, g, i], _ => exact ⟨a, b, c, d, e, f, g, i, rfl⟩
theorem alike_ok {lo a n k e : Nat} {h : Hh} {l0 l1 l2 : Int} (hk : 3 ≤ k) (r : Rg lo a (n + 30) h) (he0 : lo ≤ e) (he : lstAt h e = some [.int l0, .int l1, .int l2]) (b0 : 0 ≤ l0 ∧ l0 ≤ 1000) (b1 : 0 ≤ l1 ∧ l1 ≤ 1000) (b2 : 0 ≤ l2 ∧ l2 ≤ 1000) : Ok (runF D wf k 16 [.ref a, .ref e] h) fun w h' => ∃ q, w = .ref q ∧ h.length ≤ q ∧ Pi lo h' q ∧ Rg lo a n h' ∧ Kp lo h h' := by
  obtain ⟨k, rfl⟩ : ∃ k', k = k' + 1 := ⟨k - 1, by omega⟩
  refine ok_run (d := f_law_alike.df) rfl ?_
  show Ok (exB _ _ c_law_alike (startW 9 _) h) _
  unfold c_law_alike
  walk_at "a"
  have w0 := r.len
  refine ⟨_, lst_new, ?_⟩
  rw [list_loose lst_new]
  refine ⟨by simp [lim], ?_⟩
  refine lc_gen (lo := lo) (fun i h' => ∃ m, m + 2 * i = n + 30 ∧ Rg lo a m h') (fun i y h' => ∃ x, y = .int x) (by rw [List.length_append]; omega) (by simp [lim]) (fun j h' hk => ?_) (fun i h' o ⟨m, e, r⟩ => ⟨m, e, r.put (by rw [List.length_append]; omega)⟩) (fun _ _ _ _ _ p => p) ⟨n + 30, rfl, (r.app _).app _⟩ (fun j w h' hw ⟨m, em, r'⟩ hK hl => ⟨_, rfl, ?_⟩) (fun h1 ys ⟨m, em, r1⟩ k1 hd hy hp => ?_)
  · show (lstAt _ _).map _ = _
    rw [hk.lst w0 lst_new] <;> rfl
  · have hj := (List.getElem?_eq_some_iff.mp hw).1
    simp at hj
    obtain ⟨cap, rfl, c0, c1⟩ : ∃ cap, w = .int cap ∧ 0 ≤ cap ∧ cap ≤ 1000000 := by
      have := List.mem_of_getElem? hw
      simp only [List.mem_cons, List.not_mem_nil, or_false] at this
      rcases this with rfl | rfl | rfl | rfl | rfl | rfl | rfl | rfl <;> exact ⟨_, rfl, by omega, by omega⟩
    walk_at "g"
    exact (within_ok (by omega) (r'.mono (m := m - 2 + 2) (by omega)) c0 c1).imp fun w h1 ⟨x, ew, r1, k1⟩ => ⟨⟨x, ew⟩, ⟨m - 2, by omega, r1⟩, k1⟩
  obtain ⟨vs, rfl⟩ := ints_of (P := fun _ _ _ => True) (h := h) hp
  have k1' := (Kp.app lo h _).trans k1
  have hc := k1.lst w0 lst_new
  rw [List.length_map] at hy
  simp only [List.length_cons, List.length_nil] at hy em
  have r1 : Rg lo a (n + 14) h1 := r1.mono (by omega)
  have hv0 : h.length < (h ++ [O.lst [W.int l0, W.int l0, W.int l0, W.int l0, W.int l1, W.int l1, W.int l2, W.int l2]]).length := by rw [List.length_append]; simp
  revert hd
  generalize (h ++ [O.lst [W.int l0, W.int l0, W.int l0, W.int l0, W.int l1, W.int l1, W.int l2, W.int l2]]).length = vr at hv0 ⊢
  intro hd
  walk_at "g"
  refine v_ixL (k1'.lst he0 he) rfl ?_
  walk_at "g"
  refine (draw_ok (by omega) (r1.mono (m := n + 13 + 1) (by omega)) (by omega) (by decide)).imp fun w h2 ⟨x, ew, x0, x1, r2, k2, _⟩ => ?_
  subst ew
  walk_at "h"
  refine b_join (fun σ' h' => ∃ base, σ' = [some (.ref a), some (.ref e), some (.ref h.length), some (.ref vr), none, some (.int base), none, none, none] ∧ Kp lo h1 h' ∧ Rg lo a (n + 10) h') ?_ ?_
  · walk_at "g"
    refine (draw_ok (by omega) (r2.mono (m := n + 12 + 1) (by omega)) (by omega) (by decide)).imp fun w h3 ⟨y, ew, y0, y1, r3, k3, _⟩ => ?_
    subst ew
    walk_at "g"
    refine c_s (fun ht => ?_) (fun hf => ?_)
    · walk_at "g"
      refine (great_ok (by omega) (r3.mono (m := n + 10 + 2) (by omega))).imp fun w h4 ⟨z, ew, r4, k4⟩ => ?_
      subst ew
      walk_at "g"
      exact ⟨_, rfl, (k2.trans k3).trans k4, r4⟩
    · walk_at "g"
      exact ⟨_, rfl, k2.trans k3, r3.mono (by omega)⟩
  rintro σ3 h3 ⟨base, rfl, k3, r3⟩
  walk_at "g"
  refine (draw_ok (by omega) (r3.mono (m := n + 9 + 1) (by omega)) (by omega) (by decide)).imp fun w h4 ⟨spot, ew, s0, s1, r4, k4, _⟩ => ?_
  subst ew
  have k4' := k1'.trans (k3.trans k4)
  have hd4 := (k3.trans k4).lst (by omega) hd
  have hc4 := (k3.trans k4).lst w0 hc
  clear k1 k3 k2 hd hc
  walk_at "h"
  refine b_join (fun σ' h' => ∃ vs : List Int, σ' = [some (.ref a), some (.ref e), some (.ref h.length), some (.ref vr), none, some (.int base), some (.int spot), none, none] ∧ lstAt h' vr = some (vs.map .int) ∧ vs.length = 8 ∧ Kp lo h h' ∧ Rg lo a n h') ?_ ?_
  · walk_at "g"
    refine c_s (fun ht => ?_) (fun hf => ?_)
    · have hs8 := of_decide_eq_true ht
      obtain ⟨cap, hcap, hix⟩ : ∃ cap, atI [W.int l0, W.int l0, W.int l0, W.int l0, W.int l1, W.int l1, W.int l2, W.int l2] spot = some (.int cap) ∧ ixN 8 spot = some spot.toNat := by
        have : spot = 0 ∨ spot = 1 ∨ spot = 2 ∨ spot = 3 ∨ spot = 4 ∨ spot = 5 ∨ spot = 6 ∨ spot = 7 := by omega
        rcases this with rfl | rfl | rfl | rfl | rfl | rfl | rfl | rfl <;> exact ⟨_, rfl, rfl⟩
      walk_at "g"
      refine v_ixL hc4 hcap ?_
      walk_at "g"
      refine c_le (by simp [lim]) ?_
      walk_at "g"
      refine (draw_ok (by omega) ((r4.app _).mono (m := n + 1) (by omega)) (by omega) (by decide)).imp fun w h5 ⟨y, ew, y0, y1, r5, k5, _⟩ => ?_
      subst ew
      obtain ⟨z, hz⟩ : ∃ z, atI [W.int (-1), W.int (cap + 1)] y = some (.int z) := by
        have : y = 0 ∨ y = 1 := by omega
        rcases this with rfl | rfl <;> exact ⟨_, rfl⟩
      refine v_ixL (k5.lst r4.len lst_new) hz ?_
      walk_at "g"
      refine v_setI (k5.lst (by omega) (lst_app hd4)) (by rw [List.length_map, hy]; exact hix) ?_
      walk_at "g"
      refine ⟨vs.set spot.toNat z, rfl, ?_, by rw [List.length_set]; exact hy, ((k4'.addl _).trans k5).put (Or.inl (by omega)), r5.put (by omega)⟩
      rw [lst_set (k5.lst (by omega) (lst_app hd4)), List.map_set]
    · walk_at "g"
      exact ⟨vs, rfl, hd4, hy, k4', r4.mono (by omega)⟩
  clear hd4 hc4 hy k4' k4 r4 hp vs
  rintro σ5 h5 ⟨vs, rfl, hv, hy, k5, r5⟩
  obtain ⟨v0, v1, v2, v3, v4, v5, v6, v7, rfl⟩ := eight hy
  replace hv : lstAt h5 vr = some [.int v0, .int v1, .int v2, .int v3, .int v4, .int v5, .int v6, .int v7] := hv
  refine b_join (fun σ' h' => ∃ base : Int, σ' = [some (.ref a), some (.ref e), some (.ref h.length), some (.ref vr), none, some (.int base), some (.int spot), none, none] ∧ h' = h5) ?_ ?_
  · walk_at "a"
    · exact ⟨_, rfl, rfl⟩
    · exact ⟨_, rfl, rfl⟩
  rintro σ6 h6 ⟨base, rfl, rfl⟩
  refine b_join (fun σ' h' => ∃ base : Int, σ' = [some (.ref a), some (.ref e), some (.ref h.length), some (.ref vr), none, some (.int base), some (.int spot), none, none] ∧ h' = h6) ?_ ?_
  · walk_at "a"
    · exact ⟨_, rfl, rfl⟩
    · exact ⟨_, rfl, rfl⟩
  rintro σ7 h7 ⟨base, rfl, rfl⟩
  walk_at "a"
  exact ⟨_, rfl, k5.len, ⟨r5.len, [_, _, _, _, _, _, _], [_, _, _, _, _, _, _], lst_new, rfl, rfl⟩, r5.app _, k5.addl _⟩
end C73
set_option maxHeartbeats 2000000
namespace C73
open PySem PySem.Spec PyProof.Rows L2 Z
/-- one step -/
local macro_rules | `(tactic| walk_at "y") => `(tactic| with_reducible first
  | refine k_nx ?_ | refine k_rt ?_ | refine k_bk ?_ | refine k_ct ?_ | refine l_nx ?_ | refine l_ct ?_ | refine l_bk ?_ | refine l_rt ?_ | refine f_rt ?_ | refine f_nx ?_ | refine j_nx ?_
  | refine b_set ?_ | refine b_ret ?_ | refine b_retN ?_ | refine b_exp ?_ | refine b_setI ?_ | refine b_setU ?_ | refine b_for ?_ | refine b_nil ?_ | refine b_pass ?_ | refine b_brk ?_ | refine b_cnt ?_ | refine b_whl ?_
  | refine o_con ?_ | refine o_bin ?_ | refine o_neg ?_ | refine o_cmp ?_ | refine o_chn ?_ | refine o_and ?_ | refine o_or ?_ | refine o_not ?_ | refine o_ife ?_ | refine o_tup ?_ | refine o_lst ?_ | refine o_ix ?_ | refine o_sl ?_
  | refine oo_none ?_ | refine oo_some ?_ | refine o_call ?_ | refine o_kcall ?_ | refine o_isi ?_ | refine o_bi1 ?_ | refine o_bi2 ?_ | refine o_mt0 ?_ | refine o_mt1 ?_ | refine os_nil ?_ | refine os_cons ?_
  | refine t_not ?_ | refine t_and ?_ | refine t_or ?_ | refine t_cmp ?_ | refine t_chn ?_ | refine t_isi ?_ | refine t_call ?_ | refine t_kcall ?_ | refine op_none ?_ | refine op_some ?_
  | refine v_add ?_ | refine v_sub ?_ | refine v_neg ?_ | refine v_eqi ?_ | refine v_nei ?_ | refine v_lt ?_ | refine v_le ?_ | refine v_gt ?_ | refine v_ge ?_ | refine v_is ?_ | refine v_isnot ?_
  | refine v_lenT ?_ | refine v_lenS ?_ | refine v_abs ?_ | refine v_int ?_ | refine v_intb ?_ | refine v_listT ?_ | refine v_tupleT ?_ | refine v_min2 ?_ | refine v_max2 ?_
  | refine r_seq ?_ | refine r_rng1 ?_ | refine r_rng2 ?_
  | refine o_lc ?_)
local macro_rules | `(tactic| walk_at "z") => `(tactic| first | walk_at "y" | (with_reducible first | refine b_when ?_ | refine b_ifs ?_))
/-- a name -/
local macro_rules | `(tactic| walk_at "v") => `(tactic| ((with_reducible first | apply o_var | apply t_var); exact rfl))
/-- steps up to an if -/
local macro_rules | `(tactic| walk_at "h") => `(tactic| repeat (first | walk_at "y" | walk_at "v"))
/-- steps -/
local macro_rules | `(tactic| walk_at "g") => `(tactic| repeat (first | walk_at "z" | walk_at "v"))
/-- a step that looks at what is known -/
local macro_rules | `(tactic| walk_at "k") => `(tactic| first
  | ((with_reducible apply v_isi (b := true)); rfl) | ((with_reducible apply v_isi (b := false)); rfl)
  | ((with_reducible apply v_ixL); assumption; (first | assumption | rfl)) | ((with_reducible apply v_ixT); (first | assumption | rfl)) | ((with_reducible apply v_lenL); assumption) | ((with_reducible apply v_nin); rfl)
  | (with_reducible refine j_nx ?_) | (with_reducible refine c_bl ?_) | ((with_reducible refine c_le (Nat.le_of_ble_eq_true ?_) ?_); rfl)
  | ((with_reducible apply c_t); rfl) | ((with_reducible apply c_f); rfl)
  | (with_reducible refine c_s (fun _ => ?_) (fun _ => ?_)))
/-- all steps, all ways -/
local macro_rules | `(tactic| walk_at "a") => `(tactic| repeat' (first | walk_at "z" | walk_at "v" | walk_at "k"))
theorem Pi.pr {lo i : Nat} {h : Hh} (p : Pi lo h i) : Pr lo h i := by
  obtain ⟨p1, xs, ys, p2, _, _⟩ := p
  exact ⟨p1, _, _, p2, sm_ints xs, sm_ints ys⟩
theorem sm_set {us : List W} {w : W} {j : Nat} (h : ∀ x ∈ us, Sm x = true) (hw : Sm w = true) : ∀ x ∈ us.set j w, Sm x = true := by
  intro x hx
  rcases List.mem_or_eq_of_mem_set hx with hx | hx
  · exact h x hx
  · rw [hx]; exact hw
theorem bent_ok {lo a n k pr : Nat} {h : Hh} (hk : 2 ≤ k) (r : Rg lo a (n + 5) h) (hp : Pi lo h pr) : Ok (runF D wf k 17 [.ref a, .ref pr] h) fun w h' => ∃ q, w = .ref q ∧ (∀ b, b ≤ pr → b ≤ h.length → b ≤ q) ∧ Pr lo h' q ∧ Rg lo a n h' ∧ Kp lo h h' := by
  obtain ⟨k, rfl⟩ : ∃ k', k = k' + 1 := ⟨k - 1, by omega⟩
  obtain ⟨p1, xs, ys, p2, p3, p4⟩ := id hp
  refine ok_run (d := f_law_bent.df) rfl ?_
  show Ok (exB _ _ c_law_bent (startW 7 _) h) _
  unfold c_law_bent
  walk_at "g"
  refine (draw_ok (by omega) (r.mono (m := n + 4 + 1) (by omega)) (by omega) (by decide)).imp fun w h1 ⟨way, ew, y0, y1, r1, k1, _⟩ => ?_
  subst ew
  walk_at "g"
  refine (draw_ok (by omega) (r1.mono (m := n + 3 + 1) (by omega)) (by omega) (by decide)).imp fun w h2 ⟨side, ew, s0, s1, r2, k2, _⟩ => ?_
  subst ew
  walk_at "g"
  refine (draw_ok (by omega) (r2.mono (m := n + 2 + 1) (by omega)) (by omega) (by decide)).imp fun w h3 ⟨spot, ew, t0, t1, r3, k3, _⟩ => ?_
  subst ew
  have k3' := (k1.trans k2).trans k3
  have q3 := k3'.lst p1 p2
  obtain ⟨zs, hz, hzl⟩ : ∃ zs : List Int, atI [W.tup (xs.map .int), W.tup (ys.map .int)] side = some (.tup (zs.map .int)) ∧ zs.length = 7 := by
    have : side = 0 ∨ side = 1 := by omega
    rcases this with rfl | rfl
    · exact ⟨xs, rfl, p3⟩
    · exact ⟨ys, rfl, p4⟩
  walk_at "g"
  refine v_ixL q3 hz ?_
  walk_at "g"
  have w0 := r.len
  have w3 := k3'.len
  refine c_s (fun ht => ?_) (fun hf => ?_)
  · walk_at "g"
    exact ⟨_, rfl, fun b h1 _ => h1, (hp.pr.kp k3').kp (Kp.app _ _ _), (r3.app _).mono (by omega), k3'.addl _⟩
  walk_at "g"
  refine c_s (fun ht => ?_) (fun hf4 => ?_)
  · walk_at "g"
    refine v_ixL (lst_app q3) hz ?_
    walk_at "g"
    refine v_ixL (lst_app q3) hz ?_
    walk_at "g"
    refine c_le (by simp [lim]) ?_
    walk_at "g"
    exact ⟨_, rfl, fun b _ h2 => by rw [List.length_append]; omega, ⟨by rw [List.length_append]; omega, _, _, lst_new, sm_ints zs, sm_ints zs⟩, ((r3.app _).app _).mono (by omega), (k3'.addl _).addl _⟩
  refine b_join (fun σ' h' => ∃ us, σ' = [some (.ref a), some (.ref pr), some (.int way), some (.int side), some (.int spot), some (.ref h3.length), none] ∧ lstAt h' h3.length = some us ∧ (∀ x ∈ us, Sm x = true) ∧ us.length ≤ 8 ∧ Rg lo a n h' ∧ Kp lo h h') ?_ ?_
  · have hix : ixN 7 spot = some spot.toNat := by
      have : spot = 0 ∨ spot = 1 ∨ spot = 2 ∨ spot = 3 ∨ spot = 4 ∨ spot = 5 ∨ spot = 6 := by omega
      rcases this with rfl | rfl | rfl | rfl | rfl | rfl | rfl <;> rfl
    have hix2 : ixN (zs.map W.int).length spot = some spot.toNat := by rw [List.length_map, hzl]; exact hix
    walk_at "g"
    refine c_s (fun ht => ?_) (fun hf => ?_)
    · obtain ⟨y, hy⟩ : ∃ y, atI (zs.map W.int) spot = some (.int y) := by
        refine ⟨zs[spot.toNat]'(by omega), ?_⟩
        unfold atI
        rw [hix2, Option.bind_some, List.getElem?_map, List.getElem?_eq_getElem (by omega)] <;> rfl
      walk_at "g"
      refine v_ixL lst_new hy ?_
      walk_at "g"
      refine c_le (by simp [lim]) ?_
      walk_at "g"
      refine (draw_ok (by omega) (((r3.app _).app _).mono (m := n + 1) (by omega)) (by omega) (by decide)).imp fun w h4 ⟨v, ew, v0, v1, r4, k4, _⟩ => ?_
      subst ew
      obtain ⟨z, hz⟩ : ∃ z, atI [W.int 1, W.int (-1)] v = some (.int z) := by
        have : v = 0 ∨ v = 1 := by omega
        rcases this with rfl | rfl <;> exact ⟨_, rfl⟩
      refine v_ixL (k4.lst (by rw [List.length_append]; omega) lst_new) hz ?_
      walk_at "g"
      have hc4 := k4.lst (by omega) (lst_app lst_new)
      refine v_setI hc4 hix2 ?_
      walk_at "g"
      exact ⟨_, rfl, lst_set hc4, sm_set (sm_ints zs) rfl, by rw [List.length_set, List.length_map]; omega, (r4.put (by omega)).mono (by omega), (((k3'.addl _).addl _).trans k4).put (Or.inl w3)⟩
    · walk_at "g"
      refine c_s (fun ht => ?_) (fun hf => ?_)
      · walk_at "g"
        refine c_le (by simp [lim]) ?_
        walk_at "g"
        refine c_le (by simp [lim]) ?_
        walk_at "g"
        refine (draw_ok (by omega) (((r3.app _).app _).mono (m := n + 1) (by omega)) (by omega) (by decide)).imp fun w h4 ⟨v, ew, v0, v1, r4, k4, _⟩ => ?_
        subst ew
        obtain ⟨z, hz, hsz⟩ : ∃ z, atI [W.non, W.bl true, W.bl false, W.str "0", W.tup [W.int 0]] v = some z ∧ Sm z = true := by
          have : v = 0 ∨ v = 1 ∨ v = 2 ∨ v = 3 ∨ v = 4 := by omega
          rcases this with rfl | rfl | rfl | rfl | rfl <;> exact ⟨_, rfl, rfl⟩
        refine v_ixL (k4.lst (by rw [List.length_append]; omega) lst_new) hz ?_
        walk_at "g"
        have hc4 := k4.lst (by omega) (lst_app lst_new)
        refine v_setI hc4 hix2 ?_
        walk_at "g"
        exact ⟨_, rfl, lst_set hc4, sm_set (sm_ints zs) hsz, by rw [List.length_set, List.length_map]; omega, (r4.put (by omega)).mono (by omega), (((k3'.addl _).addl _).trans k4).put (Or.inl w3)⟩
      · walk_at "g"
        refine (draw_ok (by omega) ((r3.app _).mono (m := n + 1) (by omega)) (by omega) (by decide)).imp fun w h4 ⟨v, ew, v0, v1, r4, k4, _⟩ => ?_
        subst ew
        have hc4 := k4.lst (by omega) lst_new
        walk_at "g"
        refine c_s (fun ht => ?_) (fun hf => ?_)
        · walk_at "g"
          refine ⟨v_isL hc4, ?_⟩
          obtain ⟨y, hy⟩ : ∃ y, (zs.map W.int)[(zs.map W.int).length - 1]? = some y := ⟨_, List.getElem?_eq_getElem (by rw [List.length_map]; omega)⟩
          refine v_pop hc4 hy ?_
          walk_at "g"
          refine ⟨_, rfl, lst_set hc4, fun x hx => sm_ints zs x (List.dropLast_subset _ hx), by rw [List.length_dropLast, List.length_map]; omega, (r4.put (by omega)).mono (by omega), ((k3'.addl _).trans k4).put (Or.inl w3)⟩
        · walk_at "g"
          refine ⟨v_isL hc4, ?_⟩
          walk_at "g"
          refine v_append hc4 (by rw [List.length_map, hzl]; simp [lim]) ?_
          walk_at "g"
          refine ⟨_, rfl, lst_set hc4, fun x hx => ?_, by rw [List.length_append, List.length_map]; simp; omega, (r4.put (by omega)).mono (by omega), ((k3'.addl _).trans k4).put (Or.inl w3)⟩
          rcases List.mem_append.mp hx with hx | hx
          · exact sm_ints zs x hx
          · rw [List.mem_singleton.mp hx] <;> rfl
  rintro σ5 h5 ⟨us, rfl, hu, hus, hul, r5, k5⟩
  have q5 := k5.lst p1 p2
  walk_at "g"
  refine v_listL q5 ?_
  walk_at "g"
  refine v_tupleL (lst_app hu) ?_
  walk_at "g"
  have w5 := r5.len
  have hs : side = 0 ∨ side = 1 := by omega
  rcases hs with rfl | rfl
  · refine v_setI (k := 0) lst_new rfl ?_
    walk_at "g"
    exact ⟨_, rfl, fun b _ h2 => Nat.le_trans h2 k5.len, ⟨w5, _, _, lst_set lst_new, hus, sm_ints ys⟩, (r5.app _).put (by omega), (k5.addl _).put (Or.inl (by have := k5.len; omega))⟩
  · refine v_setI (k := 1) lst_new rfl ?_
    walk_at "g"
    exact ⟨_, rfl, fun b _ h2 => Nat.le_trans h2 k5.len, ⟨w5, _, _, lst_set lst_new, sm_ints xs, hus⟩, (r5.app _).put (by omega), (k5.addl _).put (Or.inl (by have := k5.len; omega))⟩
end C73
set_option maxHeartbeats 2000000
namespace C73
open PySem PySem.Spec PyProof.Rows L2 Z
/-- one step -/
local macro_rules | `(tactic| walk_at "y") => `(tactic| with_reducible first
  | refine k_nx ?_ | refine k_rt ?_ | refine k_bk ?_ | refine k_ct ?_ | refine l_nx ?_ | refine l_ct ?_ | refine l_bk ?_ | refine l_rt ?_ | refine f_rt ?_ | refine f_nx ?_ | refine j_nx ?_
  | refine b_set ?_ | refine b_ret ?_ | refine b_retN ?_ | refine b_exp ?_ | refine b_setI ?_ | refine b_setU ?_ | refine b_for ?_ | refine b_nil ?_ | refine b_pass ?_ | refine b_brk ?_ | refine b_cnt ?_ | refine b_whl ?_
  | refine o_con ?_ | refine o_bin ?_ | refine o_neg ?_ | refine o_cmp ?_ | refine o_chn ?_ | refine o_and ?_ | refine o_or ?_ | refine o_not ?_ | refine o_ife ?_ | refine o_tup ?_ | refine o_lst ?_ | refine o_ix ?_ | refine o_sl ?_
  | refine oo_none ?_ | refine oo_some ?_ | refine o_call ?_ | refine o_kcall ?_ | refine o_isi ?_ | refine o_bi1 ?_ | refine o_bi2 ?_ | refine o_mt0 ?_ | refine o_mt1 ?_ | refine os_nil ?_ | refine os_cons ?_
  | refine t_not ?_ | refine t_and ?_ | refine t_or ?_ | refine t_cmp ?_ | refine t_chn ?_ | refine t_isi ?_ | refine t_call ?_ | refine t_kcall ?_ | refine op_none ?_ | refine op_some ?_
  | refine v_add ?_ | refine v_sub ?_ | refine v_neg ?_ | refine v_eqi ?_ | refine v_nei ?_ | refine v_lt ?_ | refine v_le ?_ | refine v_gt ?_ | refine v_ge ?_ | refine v_is ?_ | refine v_isnot ?_
  | refine v_lenT ?_ | refine v_lenS ?_ | refine v_abs ?_ | refine v_int ?_ | refine v_intb ?_ | refine v_listT ?_ | refine v_tupleT ?_ | refine v_min2 ?_ | refine v_max2 ?_
  | refine r_seq ?_ | refine r_rng1 ?_ | refine r_rng2 ?_
  | refine o_lc ?_)
local macro_rules | `(tactic| walk_at "z") => `(tactic| first | walk_at "y" | (with_reducible first | refine b_when ?_ | refine b_ifs ?_))
/-- a name -/
local macro_rules | `(tactic| walk_at "v") => `(tactic| ((with_reducible first | apply o_var | apply t_var); exact rfl))
/-- steps up to an if -/
local macro_rules | `(tactic| walk_at "h") => `(tactic| repeat (first | walk_at "y" | walk_at "v"))
/-- steps -/
local macro_rules | `(tactic| walk_at "g") => `(tactic| repeat (first | walk_at "z" | walk_at "v"))
/-- a step that looks at what is known -/
local macro_rules | `(tactic| walk_at "k") => `(tactic| first
  | ((with_reducible apply v_isi (b := true)); rfl) | ((with_reducible apply v_isi (b := false)); rfl)
  | ((with_reducible apply v_ixL); assumption; (first | assumption | rfl)) | ((with_reducible apply v_ixT); (first | assumption | rfl)) | ((with_reducible apply v_lenL); assumption) | ((with_reducible apply v_nin); rfl)
  | (with_reducible refine j_nx ?_) | (with_reducible refine c_bl ?_) | ((with_reducible refine c_le (Nat.le_of_ble_eq_true ?_) ?_); rfl)
  | ((with_reducible apply c_t); rfl) | ((with_reducible apply c_f); rfl)
  | (with_reducible refine c_s (fun _ => ?_) (fun _ => ?_)))
/-- all steps, all ways -/
local macro_rules | `(tactic| walk_at "a") => `(tactic| repeat' (first | walk_at "z" | walk_at "v" | walk_at "k"))
local macro_rules | `(tactic| walk_at "x") => `(tactic| ((with_reducible apply v_ixL); assumption; (first | assumption | rfl)))
local macro_rules | `(tactic| walk_at "b") => `(tactic| repeat (first | walk_at "z" | walk_at "v" | walk_at "x"))
theorem atI_int {α : Type} {xs : List α} {p : Int} {v : α} (h0 : 0 ≤ p) (h : xs[p.toNat]? = some v) : atI xs p = some v := by
  have := atI_nat h
  rwa [Int.toNat_of_nonneg h0] at this
theorem bd_of {lo la fa : Nat} {h : Hh} {lates row : List Int} {fars : List (List Int)} {l0 l1 l2 p c : Int} (v : Lv lo h la lates) (m : Mx lo h fa fars) (hp0 : 0 ≤ p) (hc0 : 0 ≤ c) (e0 : lates[p.toNat]? = some l0) (e1 : lates[c.toNat]? = some l1) (e2 : fars[c.toNat]? = some row) (e3 : row[p.toNat]? = some l2) : Bd h la fa p c l0 l1 l2 := by
  obtain ⟨_, rs, m2, m3, m4⟩ := m
  have hc := (List.getElem?_eq_some_iff.mp e2).1
  have hr : rs[c.toNat]? = some (rs[c.toNat]'(by omega)) := List.getElem?_eq_getElem (by omega)
  have hv := m4 _ _ _ hr e2
  exact ⟨_, _, _, _, v.2, m2, atI_int hp0 (by rw [List.getElem?_map, e0] <;> rfl), atI_int hc0 (by rw [List.getElem?_map, e1] <;> rfl), atI_int hc0 (by rw [List.getElem?_map, hr] <;> rfl), hv.2, atI_int hp0 (by rw [List.getElem?_map, e3] <;> rfl)⟩
/-! ### the lists as data -/
def dL (ns : List Int) : PyData := .list (ns.map .int)
theorem toD_int (h : Hh) (n : Nat) (i : Int) : toD h n (.int i) = some (.int i) := by cases n <;> rfl
theorem toD_ints (h : Hh) (n : Nat) : ∀ ns : List Int, (ns.map W.int).mapM (toD h n) = some (ns.map PyData.int) := by
  intro ns
  induction ns with
  | nil => rfl
  | cons x ns ih =>
    rw [List.map_cons, List.mapM_cons, toD_int, ih] <;> rfl
theorem toD_ref {h : Hh} {n i : Nat} {ws : List W} (e : lstAt h i = some ws) : toD h (n + 1) (.ref i) = (ws.mapM (toD h n)).map .list := by
  show (match lstAt h i with
    | some ws => (ws.mapM (toD h n)).map PyData.list
    | none => none) = _
  rw [e]
theorem toD_lv {lo i : Nat} {h : Hh} {ns : List Int} (v : Lv lo h i ns) (n : Nat) : toD h (n + 1) (.ref i) = some (dL ns) := by
  rw [toD_ref v.2, toD_ints] <;> rfl
theorem toD_rows {lo : Nat} {h : Hh} (n : Nat) : ∀ (rs : List Nat) (nss : List (List Int)), rs.length = nss.length → (∀ (k r : Nat) (ns : List Int), rs[k]? = some r → nss[k]? = some ns → Lv lo h r ns) → (rs.map W.ref).mapM (toD h (n + 1)) = some (nss.map dL) := by
  intro rs
  induction rs with
  | nil =>
    intro nss hl _
    cases nss with
    | nil => rfl
    | cons _ _ => cases hl
  | cons r rs ih =>
    intro nss hl hk
    cases nss with
    | nil => cases hl
    | cons ns nss =>
      rw [List.map_cons, List.mapM_cons, toD_lv (hk 0 r ns rfl rfl), ih nss (by simpa using hl) (fun k r ns h1 h2 => hk (k + 1) r ns h1 h2)] <;> rfl
theorem toD_mx {lo i : Nat} {h : Hh} {nss : List (List Int)} (v : Mx lo h i nss) (n : Nat) : toD h (n + 2) (.ref i) = some (.list (nss.map dL)) := by
  obtain ⟨_, rs, m2, m3, m4⟩ := v
  rw [toD_ref m2, toD_rows n rs nss m3 m4] <;> rfl
theorem lay_ints : ∀ ns : List Int, PyData.canLayAll0 (ns.map PyData.int) = true ∧ PyData.depthAll (ns.map PyData.int) = 0
  | [] => ⟨rfl, rfl⟩
  | x :: ns => ⟨(lay_ints ns).1, by
    show max 0 (PyData.depthAll (ns.map PyData.int)) = 0
    rw [(lay_ints ns).2] <;> rfl⟩
theorem lay_rows : ∀ nss : List (List Int), PyData.canLayAll0 (nss.map dL) = true ∧ PyData.depthAll (nss.map dL) ≤ 1
  | [] => ⟨rfl, Nat.zero_le _⟩
  | ns :: nss => ⟨by
    show (PyData.canLayAll0 (ns.map PyData.int) && PyData.canLayAll0 (nss.map dL)) = true
    rw [(lay_ints ns).1, (lay_rows nss).1] <;> rfl, by
    show max (PyData.depthAll (ns.map PyData.int) + 1) (PyData.depthAll (nss.map dL)) ≤ 1
    have := (lay_rows nss).2
    rw [(lay_ints ns).2]
    omega⟩
theorem eq_bounds {lo i j la fa la' fa' : Nat} {h : Hh} {ns : List Int} {nss : List (List Int)} (e1 : lstAt h i = some [.ref la, .ref fa]) (e2 : lstAt h j = some [.ref la', .ref fa']) (v : Lv lo h la ns) (m : Mx lo h fa nss) (v' : Lv lo h la' ns) (m' : Mx lo h fa' nss) : eqW h (.ref i) (.ref j) = some true := by
  have d1 : toD h 60 (.ref i) = some (.list [dL ns, .list (nss.map dL)]) := by
    rw [toD_ref e1, List.mapM_cons, toD_lv v, List.mapM_cons, toD_mx m] <;> rfl
  have d2 : toD h 60 (.ref j) = some (.list [dL ns, .list (nss.map dL)]) := by
    rw [toD_ref e2, List.mapM_cons, toD_lv v', List.mapM_cons, toD_mx m'] <;> rfl
  have hc : PyData.canLay0 (.list [dL ns, .list (nss.map dL)]) = true := by
    show (PyData.canLayAll0 (ns.map PyData.int) && (PyData.canLayAll0 (nss.map dL) && true)) = true
    rw [(lay_ints ns).1, (lay_rows nss).1] <;> rfl
  have hd : PyData.depth (.list [dL ns, .list (nss.map dL)]) ≤ 64 := by
    show max (PyData.depthAll (ns.map PyData.int) + 1) (max (PyData.depthAll (nss.map dL) + 1) 0) + 1 ≤ 64
    have := (lay_rows nss).2
    rw [(lay_ints ns).2]
    omega
  have hs : SeqAt.shaped (.list [dL ns, .list (nss.map dL)]) = true := by
    show (_ && decide _) = true
    rw [hc, decide_eq_true hd] <;> rfl
  unfold eqW
  rw [d1, d2]
  show (if SeqAt.shaped _ && SeqAt.shaped _ then some (PyData.eqv _ _) else none) = _
  rw [hs, SeqAt.eqv_refl _ hc] <;> rfl
theorem two_clash {l0 l1 l2 : Int} (h0 : 0 ≤ l0) (h1 : 0 ≤ l1) (h2 : 0 ≤ l2) : clb (twoF l0 l1 l2) (twoS l0 l1 l2) l0 l1 l2 (l1 + l2 + l0) = true := by
  have e1 : psb (twoF l0 l1 l2) l0 l1 l2 (l1 + l2 + l0) = true := decide_eq_true (by omega)
  have e2 : psb (twoS l0 l1 l2) l0 l1 l2 (l1 + l2 + l0) = true := decide_eq_true (by omega)
  have e3 : decide (mom (twoF l0 l1 l2) = mom (twoS l0 l1 l2)) = true := decide_eq_true (by
    show [l0 + 0, l0 + (l1 + l2 + l0) + 0, l0 + l1 + l2] = [0 + l0, (l1 + l2 + l0) + l0, (l1 + l2 + l0) + 0 + 0]
    congr 1
    · omega
    · congr 1
      · omega
      · congr 1; omega)
  have e4 : decide (btOf (twoF l0 l1 l2) + btOf (twoS l0 l1 l2) = 1) = true := decide_eq_true rfl
  unfold clb
  rw [e1, e2, e3, e4] <;> rfl
theorem sm_two {l0 l1 l2 : Int} : (∀ x ∈ twoF l0 l1 l2, Sm x = true) ∧ (∀ x ∈ twoS l0 l1 l2, Sm x = true) :=
  ⟨sm_ints [l0, l0 + (l1 + l2 + l0), 0, 0, 0, l1, l2], sm_ints [0, l1 + l2 + l0, l0, l0, 1, 0, 0]⟩
end C73
set_option maxHeartbeats 2000000
namespace C73
open PySem PySem.Spec PyProof.Rows L2 Z
/-- one step -/
local macro_rules | `(tactic| walk_at "y") => `(tactic| with_reducible first
  | refine k_nx ?_ | refine k_rt ?_ | refine k_bk ?_ | refine k_ct ?_ | refine l_nx ?_ | refine l_ct ?_ | refine l_bk ?_ | refine l_rt ?_ | refine f_rt ?_ | refine f_nx ?_ | refine j_nx ?_
  | refine b_set ?_ | refine b_ret ?_ | refine b_retN ?_ | refine b_exp ?_ | refine b_setI ?_ | refine b_setU ?_ | refine b_for ?_ | refine b_nil ?_ | refine b_pass ?_ | refine b_brk ?_ | refine b_cnt ?_ | refine b_whl ?_
  | refine o_con ?_ | refine o_bin ?_ | refine o_neg ?_ | refine o_cmp ?_ | refine o_chn ?_ | refine o_and ?_ | refine o_or ?_ | refine o_not ?_ | refine o_ife ?_ | refine o_tup ?_ | refine o_lst ?_ | refine o_ix ?_ | refine o_sl ?_
  | refine oo_none ?_ | refine oo_some ?_ | refine o_call ?_ | refine o_kcall ?_ | refine o_isi ?_ | refine o_bi1 ?_ | refine o_bi2 ?_ | refine o_mt0 ?_ | refine o_mt1 ?_ | refine os_nil ?_ | refine os_cons ?_
  | refine t_not ?_ | refine t_and ?_ | refine t_or ?_ | refine t_cmp ?_ | refine t_chn ?_ | refine t_isi ?_ | refine t_call ?_ | refine t_kcall ?_ | refine op_none ?_ | refine op_some ?_
  | refine v_add ?_ | refine v_sub ?_ | refine v_neg ?_ | refine v_eqi ?_ | refine v_nei ?_ | refine v_lt ?_ | refine v_le ?_ | refine v_gt ?_ | refine v_ge ?_ | refine v_is ?_ | refine v_isnot ?_
  | refine v_lenT ?_ | refine v_lenS ?_ | refine v_abs ?_ | refine v_int ?_ | refine v_intb ?_ | refine v_listT ?_ | refine v_tupleT ?_ | refine v_min2 ?_ | refine v_max2 ?_
  | refine r_seq ?_ | refine r_rng1 ?_ | refine r_rng2 ?_
  | refine o_lc ?_)
local macro_rules | `(tactic| walk_at "z") => `(tactic| first | walk_at "y" | (with_reducible first | refine b_when ?_ | refine b_ifs ?_))
/-- a name -/
local macro_rules | `(tactic| walk_at "v") => `(tactic| ((with_reducible first | apply o_var | apply t_var); exact rfl))
/-- steps up to an if -/
local macro_rules | `(tactic| walk_at "h") => `(tactic| repeat (first | walk_at "y" | walk_at "v"))
/-- steps -/
local macro_rules | `(tactic| walk_at "g") => `(tactic| repeat (first | walk_at "z" | walk_at "v"))
/-- a step that looks at what is known -/
local macro_rules | `(tactic| walk_at "k") => `(tactic| first
  | ((with_reducible apply v_isi (b := true)); rfl) | ((with_reducible apply v_isi (b := false)); rfl)
  | ((with_reducible apply v_ixL); assumption; (first | assumption | rfl)) | ((with_reducible apply v_ixT); (first | assumption | rfl)) | ((with_reducible apply v_lenL); assumption) | ((with_reducible apply v_nin); rfl)
  | (with_reducible refine j_nx ?_) | (with_reducible refine c_bl ?_) | ((with_reducible refine c_le (Nat.le_of_ble_eq_true ?_) ?_); rfl)
  | ((with_reducible apply c_t); rfl) | ((with_reducible apply c_f); rfl)
  | (with_reducible refine c_s (fun _ => ?_) (fun _ => ?_)))
/-- all steps, all ways -/
local macro_rules | `(tactic| walk_at "a") => `(tactic| repeat' (first | walk_at "z" | walk_at "v" | walk_at "k"))
local macro_rules | `(tactic| walk_at "x") => `(tactic| ((with_reducible apply v_ixL); assumption; (first | assumption | rfl)))
local macro_rules | `(tactic| walk_at "b") => `(tactic| repeat (first | walk_at "z" | walk_at "v" | walk_at "x"))
theorem law_ok {ns : List Int} (hl : ns.length ≤ 63) (hb : ∀ z ∈ ns, Builtin.Int.intBits z ≤ 1048576) : Ok (runF D wf 40 19 [.scr (ns.map .int)] []) fun w _ => w = .bl true := by
  refine ok_run (d := f_law.df) rfl ?_
  show Ok (exB _ _ c_law (startW 15 _) []) _
  unfold c_law
  walk_at "g"
  refine (start_ok (by omega) hl hb).imp fun w g0 ⟨a, ew, r0⟩ => ?_
  subst ew
  generalize hlo : g0.length = lo at r0
  walk_at "g"
  refine (draw_ok (by omega) (r0.mono (m := 900000 + 1) (by omega)) (by omega) (by decide)).imp fun w g1 ⟨x, ew, x0, x1, r1, k1, _⟩ => ?_
  subst ew
  walk_at "g"
  obtain ⟨L, hL, L1, L6⟩ : ∃ L : Nat, 1 + x = L ∧ 1 ≤ L ∧ L ≤ 6 := ⟨(1 + x).toNat, by omega, by omega, by omega⟩
  rw [hL]
  refine (bounds_ok (by omega) (r1.mono (m := 800000 + 42) (by omega)) L1 L6).imp fun w g2 ⟨q, l, f, lates, fars, ew, hq, v2, ll, lb, m2, fl, fb, r2, k2⟩ => ?_
  subst ew
  refine ⟨_, _, hq, rfl, ?_⟩
  walk_at "g"
  refine v_lenL v2.2 ?_
  rw [List.length_map, ll]
  have lgL : ((L : Nat) : Int).natAbs.log2 < 9000 := by have := small (x := L) (k := 20) (by omega) (by omega); omega
  refine (draw_ok (by omega) (r2.mono (m := 700000 + 1) (by omega)) (by omega) lgL).imp fun w g3 ⟨p, ew, p0, p1, r3, k3, _⟩ => ?_
  subst ew
  walk_at "g"
  refine v_lenL (v2.kp k3).2 ?_
  rw [List.length_map, ll]
  refine (draw_ok (by omega) (r3.mono (m := 600000 + 1) (by omega)) (by omega) lgL).imp fun w g4 ⟨c, ew, c0, c1, r4, k4, _⟩ => ?_
  subst ew
  have v4 := (v2.kp k3).kp k4
  have m4 := (m2.kp k3).kp k4
  obtain ⟨l0, e0, b0⟩ : ∃ l0, lates[p.toNat]? = some l0 ∧ 0 ≤ l0 ∧ l0 ≤ 1000 := ⟨_, List.getElem?_eq_getElem (by omega), by have := lb _ (List.getElem_mem (l := lates) (n := p.toNat) (by omega)); omega⟩
  obtain ⟨l1, e1, b1⟩ : ∃ l1, lates[c.toNat]? = some l1 ∧ 0 ≤ l1 ∧ l1 ≤ 1000 := ⟨_, List.getElem?_eq_getElem (by omega), by have := lb _ (List.getElem_mem (l := lates) (n := c.toNat) (by omega)); omega⟩
  obtain ⟨row, e2, rb⟩ : ∃ row, fars[c.toNat]? = some row ∧ row.length = L ∧ ∀ x ∈ row, 0 ≤ x ∧ x < 21 := ⟨_, List.getElem?_eq_getElem (by omega), fb _ (List.getElem_mem (l := fars) (n := c.toNat) (by omega))⟩
  obtain ⟨l2, e3, b2⟩ : ∃ l2, row[p.toNat]? = some l2 ∧ 0 ≤ l2 ∧ l2 ≤ 1000 := ⟨_, List.getElem?_eq_getElem (by omega), by have := rb.2 _ (List.getElem_mem (l := row) (n := p.toNat) (by omega)); omega⟩
  have B4 := bd_of v4 m4 p0 c0 e0 e1 e2 e3
  obtain ⟨LW, FW, RW, rw_, f1, f2, f3, f4, f5, f6, f7⟩ := B4.ex
  walk_at "b"
  refine c_le (by simp [lim]) ?_
  walk_at "b"
  refine v_listL (lst_app v4.2) ?_
  have k5 : Kp lo g4 (g4 ++ [O.lst [W.int l0, W.int l1, W.int l2]] ++ [O.lst (lates.map W.int)]) := (Kp.app _ _ _).addl _
  have he5 : lstAt (g4 ++ [O.lst [W.int l0, W.int l1, W.int l2]] ++ [O.lst (lates.map W.int)]) g4.length = some [W.int l0, W.int l1, W.int l2] := lst_app lst_new
  have hv5 : Lv lo (g4 ++ [O.lst [W.int l0, W.int l1, W.int l2]] ++ [O.lst (lates.map W.int)]) (g4 ++ [O.lst [W.int l0, W.int l1, W.int l2]]).length lates := ⟨by have := r4.len; rw [List.length_append]; omega, lst_new⟩
  have r5 := (r4.app [O.lst [W.int l0, W.int l1, W.int l2]]).app [O.lst (lates.map W.int)]
  have n5 : (g4 ++ [O.lst [W.int l0, W.int l1, W.int l2]]).length = g4.length + 1 := by rw [List.length_append] <;> rfl
  generalize hg5 : g4 ++ [O.lst [W.int l0, W.int l1, W.int l2]] ++ [O.lst (lates.map W.int)] = g5 at k5 he5 hv5 r5 ⊢
  generalize hv5n : (g4 ++ [O.lst [W.int l0, W.int l1, W.int l2]]).length = va at hv5 n5 ⊢
  walk_at "b"
  refine (copy_mx (by omega) r5 (m4.kp k5) (by omega) (fun row hr => by have := (fb row hr).1; omega)).imp fun w g6 ⟨fa, ew, m6, r6, k6⟩ => ?_
  subst ew
  have v6 := hv5.kp k6
  have he6 := k6.lst r4.len he5
  have he0 : lo ≤ g4.length := r4.len
  have B6 := bd_of v6 m6 p0 c0 e0 e1 e2 e3
  have v6' := (v4.kp k5).kp k6
  have m6' := (m4.kp k5).kp k6
  have n6 := k6.len
  have n5' := k5.len
  clear v4 m4 B4 f1 f2 f3 f4 f5 f6 f7 k5 k6 hv5 he5 r5 hv5n hg5 r4 k4 r3 k3 r2 k2 r1 k1 r0 v2 m2
  walk_at "b"
  refine c_le (by simp [lim]) ?_
  walk_at "b"
  have hps : lstAt (g6 ++ [O.lst [W.ref va, W.ref fa]]) g6.length = some [W.ref va, W.ref fa] := lst_new
  have kps := Kp.app lo g6 [O.lst [W.ref va, W.ref fa]]
  have B7 := bd_of (v6.kp kps) (m6.kp kps) p0 c0 e0 e1 e2 e3
  walk_at "b"
  refine (two_charts_ok (by omega) B7).imp fun w g7 ⟨ew, eg⟩ => ?_
  subst eg
  have r7 := r6.app [O.lst [W.ref va, W.ref fa]]
  have v7 := v6.kp kps
  have m7 := m6.kp kps
  have v7' := v6'.kp kps
  have m7' := m6'.kp kps
  have he7 := kps.lst he0 he6
  have n7 : (g6 ++ [O.lst [W.ref va, W.ref fa]]).length = g6.length + 1 := by rw [List.length_append] <;> rfl
  clear v6 m6 v6' m6' he6 B6 kps r6
  generalize g6 ++ [O.lst [W.ref va, W.ref fa]] = g7 at hps B7 r7 v7 m7 v7' m7' he7 n7 ⊢
  have hlo6 : lo ≤ g6.length := by omega
  generalize g6.length = ps at hps n7 hlo6 ⊢
  have g0' : 0 ≤ l1 + l2 + l0 := by omega
  walk_at "h"
  refine b_join (fun σ' h' => σ' = [some (.scr (ns.map .int)), some (.ref a), some (.ref l), some (.ref f), some (.int p), some (.int c), some (.int (l1 + l2 + l0)), some (.ref g4.length), some (.ref ps), some w, none, none, none, none, none] ∧ h' = g7) ?_ ?_
  · walk_at "b"
    refine c_s (fun ht => ?_) (fun hf => ?_)
    · walk_at "b"
      rw [ew, if_pos (of_decide_eq_true ht)]
      refine c_f rfl ?_
      walk_at "b"
      exact ⟨rfl, rfl⟩
    · refine c_f rfl ?_
      walk_at "b"
      exact ⟨rfl, rfl⟩
  rintro σ8 g8 ⟨rfl, rfl⟩
  walk_at "b"
  have z6 : (rngL 0 (6 : Int).toNat).length = 6 := rngL_len _ _
  refine ⟨_, rfl, rfl, (by show (rngL 0 (6 : Int).toNat).length < lim; rw [z6]; simp [lim]), ?_⟩
  refine lc_gen (lo := lo) (fun i h' => ∃ m, m + 35 * i = 600000 ∧ Rg lo a m h') (fun i y h' => ∃ r, y = .ref r ∧ g8.length < r ∧ Pr lo h' r) r7.len (by rw [z6]; simp [lim]) (fun _ _ _ => rfl) (fun i h' o ⟨m, e, r⟩ => ⟨m, e, r.put r7.len⟩) (fun i y h1 h2 hg ⟨r, e1, e2, e3, xs, ys, e4, e5⟩ => ⟨r, e1, e2, e3, xs, ys, lst_of ((hg r e3 (by omega) (lst_lt e4)).trans (lst_get e4)), e5⟩) ⟨600000, rfl, r7.app _⟩ (fun i w h' hw ⟨m, em, r'⟩ hK hl => ⟨_, rfl, ?_⟩) (fun g9 ys ⟨m, em, r9⟩ k9 hd hy hp => ?_)
  · have hi := (List.getElem?_eq_some_iff.mp hw).1
    rw [z6] at hi
    walk_at "b"
    refine (alike_ok (n := m - 30) (by omega) (r'.mono (by omega)) he0 (hK.lst he0 he7) b0 b1 b2).imp fun w h9 ⟨q, ew, hq1, hq2, r9, k9⟩ => ?_
    subst ew
    walk_at "b"
    exact (bent_ok (n := m - 35) (by omega) (r9.mono (by omega)) hq2).imp fun w h10 ⟨q', ew, hb, hp, r10, k10⟩ => ⟨⟨q', ew, hb (g8.length + 1) (by omega) (by have := k9.len; omega), hp⟩, ⟨m - 35, by omega, r10⟩, k9.trans k10⟩
  rw [z6] at hy em
  have r9 : Rg lo a 1000 g9 := r9.mono (by omega)
  have lo8 := r7.len
  have n9 := lst_lt hd
  walk_at "h"
  refine b_join (fun σ' h' => σ' = [some (.scr (ns.map .int)), some (.ref a), some (.ref l), some (.ref f), some (.int p), some (.int c), some (.int (l1 + l2 + l0)), some (.ref g4.length), some (.ref ps), some w, some (.ref g8.length), none, none, none, none] ∧ Kp lo g8 h' ∧ Rg lo a 1000 h' ∧ ∃ zs, lstAt h' g8.length = some zs ∧ zs.length ≤ 7 ∧ ∀ y ∈ zs, ∃ r, y = .ref r ∧ Pr lo h' r) ?_ ?_
  · walk_at "b"
    refine c_s (fun ht => ?_) (fun hf => ?_)
    · have hw : w = .tup [.tup (twoF l0 l1 l2), .tup (twoS l0 l1 l2)] := by
        rw [ew, if_neg]
        have := of_decide_eq_true ht
        omega
      clear ew
      subst hw
      have he9 := k9.lst he0 he7
      walk_at "a"
      refine (clash_ok (by omega) sm_two.1 sm_two.2 he9).imp fun w g ⟨e1, e2⟩ => ?_
      rw [two_clash b0.1 b1.1 b2.1] at e1
      subst e1 e2
      refine v_opt (x := true) rfl ?_
      refine c_f rfl ?_
      walk_at "b"
      refine ⟨v_isL hd, ?_⟩
      walk_at "b"
      refine v_append (lst_app hd) (by rw [hy]; simp [lim]) ?_
      walk_at "b"
      refine ⟨rfl, (k9.addl _).put (Or.inl (Nat.le_refl _)), (r9.app _).put lo8, _, lst_set (lst_app hd), by rw [List.length_append, hy]; simp, fun y hy' => ?_⟩
      rcases List.mem_append.mp hy' with hy' | hy'
      · obtain ⟨i, hi, e⟩ := List.mem_iff_getElem.mp hy'
        obtain ⟨r, q1, q2, q3, us, vs, q4, q5⟩ := hp i y (by rw [List.getElem?_eq_getElem hi, e])
        exact ⟨r, q1, q3, us, vs, lst_set_ne (by omega) (lst_app q4), q5⟩
      · rw [List.mem_singleton.mp hy']
        exact ⟨_, rfl, by omega, _, _, lst_set_ne (by omega) lst_new, sm_two.1, sm_two.2⟩
    · walk_at "b"
      refine ⟨rfl, k9, r9, ys, hd, by omega, fun y hy' => ?_⟩
      obtain ⟨i, hi, e⟩ := List.mem_iff_getElem.mp hy'
      obtain ⟨r, q1, q2, q3⟩ := hp i y (by rw [List.getElem?_eq_getElem hi, e])
      exact ⟨r, q1, q3⟩
  clear r9 hd hy hp n9 k9 em
  rintro σ10 g10 ⟨rfl, k10, r10, zs, hz, hzl, hzp⟩
  have he10 := k10.lst he0 he7
  have hps10 := k10.lst hlo6 hps
  have v10 := v7.kp k10
  have m10 := m7.kp k10
  have v10' := v7'.kp k10
  have m10' := m7'.kp k10
  clear v7 m7 v7' m7' he7 hps r7 B7
  walk_at "b"
  refine ⟨zs, hz, ?_⟩
  refine for_live (fun i σ' h' => ∃ x12 x13 x14, σ' = [some (.scr (ns.map .int)), some (.ref a), some (.ref l), some (.ref f), some (.int p), some (.int c), some (.int (l1 + l2 + l0)), some (.ref g4.length), some (.ref ps), some w, some (.ref g8.length), none, x12, x13, x14] ∧ Kp lo g10 h' ∧ ∃ m, m + i = 1000 ∧ Rg lo a m h') hz (fun i σ' h' ⟨_, _, _, _, k, _⟩ => k.lst lo8 hz) ⟨none, none, none, rfl, Kp.refl _ _, 1000, rfl, r10⟩ (fun i y σ' h' hw p => ?_) (fun σ' h' p => ?_)
  · obtain ⟨x12, x13, x14, rfl, k11, m, em, r11⟩ := p
    have hi := (List.getElem?_eq_some_iff.mp hw).1
    obtain ⟨r, rfl, hp⟩ := hzp y (List.mem_of_getElem? hw)
    have hp := hp.kp k11
    refine ⟨_, rfl, ?_⟩
    walk_at "b"
    refine (sizes_ok (n := m - 1) (by omega) (r11.mono (by omega)) hp).imp fun w2 h2 ⟨q, us, ew, hq, r12, k12⟩ => ?_
    subst ew
    obtain ⟨hr0, xs, ys, hpr, hxs, hys⟩ := hp.kp k12
    have k12' := k11.trans k12
    have he12 := k12'.lst he0 he10
    have hps12 := k12'.lst hlo6 hps10
    have B12 := bd_of (v10.kp k12') (m10.kp k12') p0 c0 e0 e1 e2 e3
    refine ⟨_, hq.2, ?_⟩
    refine for_live (fun j σ' h' => ∃ x13 x14, σ' = [some (.scr (ns.map .int)), some (.ref a), some (.ref l), some (.ref f), some (.int p), some (.int c), some (.int (l1 + l2 + l0)), some (.ref g4.length), some (.ref ps), some w, some (.ref g8.length), none, some (.ref r), x13, x14] ∧ h' = h2) hq.2 (fun j σ' h' ⟨_, _, _, e⟩ => e ▸ hq.2) ⟨_, _, rfl, rfl⟩ (fun j y σ' h' hw p => ?_) (fun σ' h' p => ?_)
    · obtain ⟨x13, x14, rfl, rfl⟩ := p
      obtain ⟨size, _, rfl⟩ := List.mem_map.mp (List.mem_of_getElem? hw)
      refine ⟨_, rfl, ?_⟩
      walk_at "b"
      refine (clash_ok (by omega) hxs hys he12).imp fun w3 h3 ⟨q1, q2⟩ => ?_
      subst q1 q2
      walk_at "b"
      refine (charts_clash_ok (by omega) hxs hys B12).imp fun w3 h3 ⟨q1, q2⟩ => ?_
      subst q1 q2
      walk_at "b"
      refine (same_ok (by omega)).imp fun w3 h3 ⟨q1, q2⟩ => ?_
      rw [beq_self_eq_true] at q1
      subst q1 q2
      refine v_opt (x := true) rfl ?_
      refine c_f rfl ?_
      walk_at "b"
      refine (charts_clash_ok (by omega) hys hxs B12).imp fun w3 h3 ⟨q1, q2⟩ => ?_
      rw [clb_comm] at q1
      subst q1 q2
      walk_at "b"
      refine (same_ok (by omega)).imp fun w3 h3 ⟨q1, q2⟩ => ?_
      rw [beq_self_eq_true] at q1
      subst q1 q2
      refine v_opt (x := true) rfl ?_
      refine c_f rfl ?_
      walk_at "b"
      exact ⟨_, _, rfl, rfl⟩
    · obtain ⟨x13, x14, rfl, rfl⟩ := p
      walk_at "b"
      exact ⟨_, _, _, rfl, k12', m - 1, by omega, r12⟩
  · obtain ⟨x12, x13, x14, rfl, k11, m, em, r11⟩ := p
    walk_at "b"
    refine c_le (by simp [lim]) ?_
    have ka := k11.addl [O.lst [W.ref l, W.ref f]]
    refine v_eq (eq_bounds (ka.lst hlo6 hps10) lst_new (v10.kp ka) (m10.kp ka) (v10'.kp ka) (m10'.kp ka)) ?_
    rfl
theorem law_main (ns : List Int) (h : ns.length ≤ 63) (hb : ∀ z ∈ ns, Builtin.Int.intBits z ≤ 1048576) : ∃ h', runF (tab.map FnI.df) wf 40 19 [scrW ns] [] = .ok (.bl true) h' := by
  obtain ⟨w, h', e, q⟩ := (law_ok h hb).get
  exact ⟨h', by rw [← q]; exact e⟩
end C73
set_option maxHeartbeats 0
namespace C73
open PySem PySem.Spec PyProof.Rows L2 Z
abbrev R : PySem.W.OpenRow := PySem.W.OpenLaw.row PySem.Challenge.rw_scorestead_k73_charts
abbrev hk : PySem.W.Hook := He.hookD 4 (faOf tab csI) (fnOf tab)
def ob (s : PySem.W.SharedT) : He.AlD := He.obsDG 4 (faOf tab csI) (fnOf tab) (HandSHeadRun.getT s)
theorem ob_eq (s : PySem.W.SharedT) : ob s = hk.obs s.abs := He.obsDG_eq (HandSHeadRun.getT_eq s)
def loose0 : List Str := ["is_number", "CHART_SIZE", "two_charts", "is_chart", "chart_moments", "charts_clash", "_law_start", "_law_draw", "_law_int", "_law_same", "_law_copy", "_law_great", "_law_within", "_law_bounds", "_law_possible", "_law_moments", "_law_clash", "_law_alike", "_law_bent", "_law_sizes"]
def loose : List Str := loose0
theorem run (w : World) : HandSHeadRun.RunEq R (PySem.W.view R.prog [23]) hk ob 3000 loose w := by
  intro os
  kernel_rfl
end C73
open PySem PySem.W PySem.Calls PyProof.Rows
theorem PySem.Challenge.cw_scorestead_k73_charts_holds : PySem.Challenge.rw_scorestead_k73_charts.Holds := by
  w_on; o_law
  refine HandSHeadRun.head_any (r := C73.R) (q := view C73.R.prog [23]) (H := C73.hk) (ob := C73.ob) (M := 3000) (loose := C73.loose) (d := HandSHeadRun.topDef C73.R.prog 23) (kwd := []) C73.ob_eq
    (by kernel_rfl) (fun s => by kernel_rfl) C73.run (by kernel_rfl) (by kernel_rfl) (by kernel_rfl) (by rfl) (by first | assumption | decide +kernel) (by decide +kernel) ⟨rfl, rfl, rfl, rfl, rfl, by decide +kernel⟩ ?hw ?hc
  case hw => exact ⟨[.list []], by decide +kernel, by decide +kernel⟩
  case hc => exact Z.walk_end (l := PySem.Challenge.rw_scorestead_k73_charts) (T := C73.tab) (cs := C73.csI) (wf := C73.wf) (k := 40) (i := 19) (f := C73.f_law) rfl (by kernel_rfl) ⟨rfl, by decide, by decide⟩ (by kernel_rfl) rfl rfl rfl rfl rfl C73.good C73.law_main
