import PyProof.Rows.All
import PySem.Str
import HandS.ForMost
import HandS.ForExc
import HandS.WordsExc
import HandS.CallSlots
import HandS.Defaults
import HandS.Star
import HandS.TupAny
import HandS.TupMul
import HandS.TupLe
import HandS.Deep
import HandS.SortInts
import HandS.IsInst
import HandS.Comp
import HandS.Iter
import HandS.Flow
import HandS.Zip
import KE.GoesEnum
import KE.GoesZip
import KE.SortData
import KE.DataMinMax
import HandS.Style
import HandS.Conv
import HandS.Small
import HandS.More
import HandS.HeadEnd
import HandS.Head0
import HandS.Head1
import HandS.Head2
import HandS.HeadHook1
import HandS.HeadHook2
import KE.KStateDown
import PySem.Challenge.RW_leastcells_k04_whole_right
set_option Elab.async false
set_option linter.all false
/-! Mn1: pure data, the free monad of what a def does, its weakest preconditions. -/
namespace Mn
open PySem (Str)

inductive D where
  | non | bl (b : Bool) | int (i : Int) | str (s : Str) | tup (l : List D) | lst (l : List D)
  | dct (l : List (D × D)) | st | scr (l : List Int) | obj (n : Nat)
  deriving Inhabited

/-- what a def does: it ends with a value, lets an exception out (its class's name, its fields), is outside of what is spoken of, or draws a number from 0 to below n -/
inductive M (α : Type) : Type where
  | ret (a : α) | exc (c : String) (fs : List D) | stk | draw (n : Int) (k : Int → M α)

namespace M
def bind {α β : Type} : M α → (α → M β) → M β
  | .ret a, f => f a
  | .exc c fs, _ => .exc c fs
  | .stk, _ => .stk
  | .draw n k, f => .draw n fun r => bind (k r) f
@[simp] theorem ret_bind {α β : Type} (a : α) (f : α → M β) : (M.ret a).bind f = f a := rfl
@[simp] theorem exc_bind {α β : Type} (c : String) (fs : List D) (f : α → M β) : (M.exc c fs).bind f = .exc c fs := rfl
@[simp] theorem stk_bind {α β : Type} (f : α → M β) : (M.stk).bind f = .stk := rfl
@[simp] theorem draw_bind {α β : Type} (n : Int) (k : Int → M α) (f : α → M β) : (M.draw n k).bind f = .draw n fun r => (k r).bind f := rfl
theorem bind_assoc {α β γ : Type} (m : M α) (f : α → M β) (g : β → M γ) : (m.bind f).bind g = m.bind fun a => (f a).bind g := by
  induction m with
  | ret a => rfl
  | exc c fs => rfl
  | stk => rfl
  | draw n k ih =>
    show M.draw n (fun r => ((k r).bind f).bind g) = M.draw n (fun r => (k r).bind fun a => (f a).bind g)
    congr 1
    funext r
    exact ih r
@[simp] theorem bind_ret {α : Type} (m : M α) : m.bind .ret = m := by
  induction m with
  | ret a => rfl
  | exc c fs => rfl
  | stk => rfl
  | draw n k ih =>
    show M.draw n (fun r => (k r).bind .ret) = M.draw n k
    congr 1
    funext r
    exact ih r
end M

/-- the weakest precondition: c is how many draws are left -/
def wp {α : Type} : M α → Nat → (α → Nat → Prop) → (String → List D → Nat → Prop) → Prop
  | .ret a, c, Q, _ => Q a c
  | .exc x fs, c, _, E => E x fs c
  | .stk, _, _, _ => False
  | .draw n k, c, Q, E => (0 < n ∧ n < 1000000000 ∧ 0 < c) ∧ ∀ r : Int, 0 ≤ r → r < n → wp (k r) (c - 1) Q E
section
variable {α β : Type}
theorem wp_bind {m : M α} {f : α → M β} {c : Nat} {Q : β → Nat → Prop} {E : String → List D → Nat → Prop} : wp (m.bind f) c Q E ↔ wp m c (fun a c' => wp (f a) c' Q E) E := by
  induction m generalizing c with
  | ret a => exact Iff.rfl
  | exc x fs => exact Iff.rfl
  | stk => exact Iff.rfl
  | draw n k ih =>
    show (_ ∧ ∀ r : Int, 0 ≤ r → r < n → wp ((k r).bind f) (c - 1) Q E) ↔ (_ ∧ ∀ r : Int, 0 ≤ r → r < n → wp (k r) (c - 1) (fun a c' => wp (f a) c' Q E) E)
    exact and_congr Iff.rfl (forall_congr' fun r => forall_congr' fun _ => forall_congr' fun _ => ih r)
theorem wp_mono {m : M α} {c : Nat} {Q Q' : α → Nat → Prop} {E E' : String → List D → Nat → Prop} (h : wp m c Q E) (hQ : ∀ a c', c' ≤ c → Q a c' → Q' a c') (hE : ∀ x fs c', c' ≤ c → E x fs c' → E' x fs c') : wp m c Q' E' := by
  induction m generalizing c with
  | ret a => exact hQ a c (Nat.le_refl _) h
  | exc x fs => exact hE x fs c (Nat.le_refl _) h
  | stk => exact h
  | draw n k ih => exact ⟨h.1, fun r h0 h1 => ih r (h.2 r h0 h1) (fun a c' hc => hQ a c' (by omega)) fun x fs c' hc => hE x fs c' (by omega)⟩
end

/-! ### data -/
def strEq (a b : Str) : Bool := a.cps.toList == b.cps.toList
/- Python's == on data (None, bools, ints, texts, tuples, lists): of others nothing is told -/
mutual
def pyEq : D → D → Bool
  | .non, b => (match b with | .non => true | _ => false)
  | .bl x, b => (match b with | .bl y => x == y | .int j => (if x then 1 else 0) == j | _ => false)
  | .int i, b => (match b with | .int j => i == j | .bl y => i == (if y then 1 else 0) | _ => false)
  | .str x, b => (match b with | .str y => strEq x y | _ => false)
  | .tup xs, b => (match b with | .tup ys => pyEqs xs ys | _ => false)
  | .lst xs, b => (match b with | .lst ys => pyEqs xs ys | _ => false)
  | .dct _, _ => false
  | .st, _ => false
  | .scr _, _ => false
  | .obj _, _ => false
def pyEqs : List D → List D → Bool
  | [], b => (match b with | [] => true | _ => false)
  | x :: xs, b => (match b with | y :: ys => pyEq x y && pyEqs xs ys | [] => false)
end
/-- a text of code points -/
def okStr (s : Str) : Bool := s.cps.toList.all fun c => decide (c < 1114112)
/- data alone, of a depth -/
mutual
def flat : Nat → D → Bool
  | _, .non => true
  | _, .bl _ => true
  | _, .int _ => true
  | _, .str s => okStr s
  | 0, .tup _ => false
  | 0, .lst _ => false
  | n + 1, .tup l => flats n l
  | n + 1, .lst l => flats n l
  | _, .dct _ => false
  | _, .st => false
  | _, .scr _ => false
  | _, .obj _ => false
def flats : Nat → List D → Bool
  | _, [] => true
  | n, x :: xs => flat n x && flats n xs
end
/-- data that == , in, index are told of -/
def isData (d : D) : Bool := flat 50 d

/-! ### slots -/
inductive SV where
  | un | val (d : D) | own (l : List D) | ownd (l : List (D × D))
  deriving Inhabited
inductive Fl where
  | nx | rt (d : D)
  deriving Inhabited
abbrev Sl := List SV
abbrev XE := Sl → M D
abbrev XB := Sl → M Bool
abbrev XA := Sl → M (List D)
abbrev XS := Sl → M (Fl × Sl)

def asB : D → M Bool
  | .bl b => .ret b
  | _ => .stk
def asI : D → M Int
  | .int i => .ret i
  | _ => .stk
/-- the items of a list or a tuple -/
def asS : D → M (List D)
  | .tup l => .ret l
  | .lst l => .ret l
  | _ => .stk

/-! ### expressions -/
def xC (d : D) : XE := fun _ => .ret d
def xV (i : Nat) : XE := fun σ => match σ.getD i .un with
  | .val d => .ret d
  | _ => .stk
/-- a name that holds an own list or dict, read where it is used at once -/
def xO (i : Nat) : XE := fun σ => match σ.getD i .un with
  | .val d => .ret d
  | .own l => .ret (.lst l)
  | .ownd l => .ret (.dct l)
  | .un => .stk
def x1 (g : D → M D) (a : XE) : XE := fun σ => (a σ).bind g
def x2 (g : D → D → M D) (a b : XE) : XE := fun σ => (a σ).bind fun x => (b σ).bind fun y => g x y
def xAnd (a b : XE) : XE := fun σ => (a σ).bind fun x => (asB x).bind fun c => if c then b σ else .ret (.bl false)
def xOr (a b : XE) : XE := fun σ => (a σ).bind fun x => (asB x).bind fun c => if c then .ret (.bl true) else b σ
def xNot (a : XB) : XE := fun σ => (a σ).bind fun c => .ret (.bl (!c))
def xIf (t : XB) (a b : XE) : XE := fun σ => (t σ).bind fun c => if c then a σ else b σ
def aNil : XA := fun _ => .ret []
def aCons (e : XE) (r : XA) : XA := fun σ => (e σ).bind fun x => (r σ).bind fun xs => .ret (x :: xs)
def aStar (e : XE) (r : XA) : XA := fun σ => (e σ).bind fun x => (asS x).bind fun ys => (r σ).bind fun xs => .ret (ys ++ xs)
def xTup (a : XA) : XE := fun σ => (a σ).bind fun xs => .ret (.tup xs)
def xLst (a : XA) : XE := fun σ => (a σ).bind fun xs => .ret (.lst xs)
/-- displays with a starred part: of any length -/
def xTupS (a : XA) : XE := fun σ => (a σ).bind fun xs => if xs.length ≤ 16777216 then .ret (.tup xs) else .stk
def xLstS (a : XA) : XE := fun σ => (a σ).bind fun xs => if xs.length ≤ 16777216 then .ret (.lst xs) else .stk
def xCall (f : List D → M D) (a : XA) : XE := fun σ => (a σ).bind f
def xChain (g h : D → D → M D) (a b c : XE) : XE := fun σ => (a σ).bind fun x => (b σ).bind fun y => (g x y).bind fun z => (asB z).bind fun k => if k then (c σ).bind fun u => h y u else .ret (.bl false)
/-- parts that stay, parts kept as one's own -/
abbrev XM := Sl → M (List SV)
def mNil : XM := fun _ => .ret []
def mVal (e : XE) (r : XM) : XM := fun σ => (e σ).bind fun x => (r σ).bind fun xs => .ret (.val x :: xs)
def ownOf : D → M SV
  | .lst l => .ret (.own l)
  | .dct l => .ret (.ownd l)
  | _ => .stk
def mOwn (e : XE) (r : XM) : XM := fun σ => (e σ).bind fun x => (ownOf x).bind fun s => (r σ).bind fun xs => .ret (s :: xs)
/-! ### tests -/
def bV (e : XE) : XB := fun σ => (e σ).bind asB
def bAnd (a b : XB) : XB := fun σ => (a σ).bind fun c => if c then b σ else .ret false
def bOr (a b : XB) : XB := fun σ => (a σ).bind fun c => if c then .ret true else b σ
def bNot (a : XB) : XB := fun σ => (a σ).bind fun c => .ret (!c)
/-! ### targets -/
inductive Tg where
  | n (i : Nat) | t (l : List Tg)
mutual
def Tg.go : Tg → D → Sl → Option Sl
  | .n i, d, σ => some (σ.set i (.val d))
  | .t l, d, σ => (match d with
    | .tup ds => Tg.goes l ds σ
    | _ => none)
def Tg.goes : List Tg → List D → Sl → Option Sl
  | [], ds, σ => (match ds with
    | [] => some σ
    | _ => none)
  | g :: gs, ds, σ => (match ds with
    | [] => none
    | d :: ds => (g.go d σ).bind fun σ1 => Tg.goes gs ds σ1)
end
mutual
def Tg.vars : Tg → List Nat
  | .n i => [i]
  | .t l => Tg.varss l
def Tg.varss : List Tg → List Nat
  | [] => []
  | g :: gs => g.vars ++ Tg.varss gs
end
def ofO {α : Type} : Option α → M α
  | some a => .ret a
  | none => .stk
@[simp] theorem ofO_some {α : Type} (a : α) : ofO (some a) = .ret a := rfl
@[simp] theorem ofO_none {α : Type} : ofO (none : Option α) = .stk := rfl
/-! ### comprehensions: src the walked items, vs the block's own slots -/
def wipe (σ : Sl) : List Nat → Sl
  | [] => σ
  | v :: vs => (wipe σ vs).set v .un
def lcGo (g : Tg) (t : XB) (e : XE) (σ : Sl) : List D → M (List D)
  | [] => .ret []
  | d :: ds => (ofO (g.go d σ)).bind fun σ1 => (t σ1).bind fun b =>
    if b then (e σ1).bind fun x => (lcGo g t e σ ds).bind fun xs => .ret (x :: xs) else lcGo g t e σ ds
def bYes : XB := fun _ => .ret true
/-- no exception leaves it (where the layer has no word for that) -/
def noX {α : Type} : M α → M α
  | .ret a => .ret a
  | .exc _ _ => .stk
  | .stk => .stk
  | .draw n k => .draw n fun r => noX (k r)
@[simp] theorem noX_ret {α : Type} (a : α) : noX (.ret a) = .ret a := rfl
theorem wp_noX {α : Type} {m : M α} {c : Nat} {Q : α → Nat → Prop} {E : String → List D → Nat → Prop} : wp (noX m) c Q E ↔ wp m c Q (fun _ _ _ => False) := by
  induction m generalizing c with
  | ret a => exact Iff.rfl
  | exc x fs => exact Iff.rfl
  | stk => exact Iff.rfl
  | draw n k ih =>
    show (_ ∧ ∀ r : Int, 0 ≤ r → r < n → wp (noX (k r)) (c - 1) Q E) ↔ (_ ∧ ∀ r : Int, 0 ≤ r → r < n → wp (k r) (c - 1) Q (fun _ _ _ => False))
    exact and_congr Iff.rfl (forall_congr' fun r => forall_congr' fun _ => forall_congr' fun _ => ih r)
def xLc (src : XA) (vs : List Nat) (g : Tg) (t : XB) (e : XE) : XE := fun σ => (src σ).bind fun ds => (noX (lcGo g t e (wipe σ vs) ds)).bind fun xs => .ret (.lst xs)
def lc2Go (g : Tg) (t : XB) (src : XA) (vs : List Nat) (g1 : Tg) (t1 : XB) (e : XE) (σ : Sl) : List D → M (List D)
  | [] => .ret []
  | d :: ds => (ofO (g.go d σ)).bind fun σ1 => (t σ1).bind fun b =>
    if b then (src σ1).bind fun es => if es.length ≤ 4000 then (lcGo g1 t1 e (wipe σ1 vs) es).bind fun xs => (lc2Go g t src vs g1 t1 e σ ds).bind fun ys => .ret (xs ++ ys) else .stk
    else lc2Go g t src vs g1 t1 e σ ds
def xLc2 (src : XA) (vs : List Nat) (g : Tg) (t : XB) (src1 : XA) (vs1 : List Nat) (g1 : Tg) (t1 : XB) (e : XE) : XE := fun σ => (src σ).bind fun ds => if ds.length ≤ 4000 then (noX (lc2Go g t src1 vs1 g1 t1 e (wipe σ vs) ds)).bind fun xs => .ret (.lst xs) else .stk
/-! ### statements -/
def sNx : XS := fun σ => .ret (.nx, σ)
def sSeq (a b : XS) : XS := fun σ => (a σ).bind fun r => match r with
  | (.nx, σ1) => b σ1
  | (.rt d, σ1) => .ret (.rt d, σ1)
def sAsg (e : XE) (g : Tg) : XS := fun σ => (e σ).bind fun d => (ofO (g.go d σ)).bind fun σ1 => .ret (.nx, σ1)
def sSet (i : Nat) (e : XE) : XS := fun σ => (e σ).bind fun d => .ret (.nx, σ.set i (.val d))
/-- a new list or dict, kept as one's own -/
def sOwn (i : Nat) (e : XE) : XS := fun σ => (e σ).bind fun d => match d with
  | .lst l => .ret (.nx, σ.set i (.own l))
  | .dct l => .ret (.nx, σ.set i (.ownd l))
  | _ => .stk
def frz (σ : Sl) (i : Nat) : Sl := match σ.getD i .un with
  | .own l => σ.set i (.val (.lst l))
  | .ownd l => σ.set i (.val (.dct l))
  | _ => σ
def setAll : List Nat → List SV → Sl → Sl
  | i :: is, s :: ss, σ => setAll is ss (σ.set i s)
  | _, _, σ => σ
/-- a, b = e1, e2 (names) -/
def sPar (is : List Nat) (m : XM) : XS := fun σ => (m σ).bind fun ss => if ss.length = is.length then .ret (.nx, setAll is ss σ) else .stk
def sFrz (i : Nat) (s : XS) : XS := fun σ => s (frz σ i)
def sRet (e : XE) : XS := fun σ => (e σ).bind fun d => .ret (.rt d, σ)
def sIf (t : XB) (a b : XS) : XS := fun σ => (t σ).bind fun c => if c then a σ else b σ
def sStk : XS := fun _ => .stk
def sDrop (e : XE) : XS := fun σ => (e σ).bind fun _ => .ret (.nx, σ)
def ownAt (σ : Sl) (i : Nat) : M (List D) := match σ.getD i .un with
  | .own l => .ret l
  | _ => .stk
def asL : D → M (List D)
  | .lst l => .ret l
  | _ => .stk
def sApp (i : Nat) (e : XE) : XS := fun σ => (ownAt σ i).bind fun l => (e σ).bind fun d => if l.length < 16777216 then .ret (.nx, σ.set i (.own (l ++ [d]))) else .stk
def sExt (i : Nat) (e : XE) : XS := fun σ => (ownAt σ i).bind fun l => (e σ).bind fun d => (asL d).bind fun xs => if l.length + xs.length ≤ 16777216 then .ret (.nx, σ.set i (.own (l ++ xs))) else .stk
/-- i = j.pop() -/
def sPop (i j : Nat) : XS := fun σ => (ownAt σ j).bind fun l => (ofO (l[l.length - 1]?)).bind fun d => .ret (.nx, (σ.set j (.own l.dropLast)).set i (.val d))
/-- j[k] = e, a list of one's own -/
def placeI (n : Nat) (i : Int) : Option Nat := if 0 ≤ i then (if i < n then some i.toNat else none) else if -(n : Int) ≤ i then some (i + n).toNat else none
def sPutL (j : Nat) (k e : XE) : XS := fun σ => (e σ).bind fun d => (ownAt σ j).bind fun l => (k σ).bind fun x => (asI x).bind fun i => (ofO (placeI l.length i)).bind fun n => .ret (.nx, σ.set j (.own (l.set n d)))
def forGo (g : Tg) (b : XS) : List D → XS
  | [] => sNx
  | d :: ds => fun σ => (ofO (g.go d σ)).bind fun σ1 => (b σ1).bind fun r => match r with
    | (.nx, σ2) => forGo g b ds σ2
    | (.rt d, σ2) => .ret (.rt d, σ2)
def sFor (src : XA) (g : Tg) (b : XS) : XS := fun σ => (src σ).bind fun ds => forGo g b ds σ
def whGo (t : XB) (b : XS) : Nat → XS
  | 0 => sStk
  | n + 1 => fun σ => (t σ).bind fun c => if c then (b σ).bind fun r => (match r with
    | (.nx, σ2) => whGo t b n σ2
    | (.rt d, σ2) => .ret (.rt d, σ2)) else .ret (.nx, σ)
def sWhile (t : XB) (b : XS) : XS := whGo t b 100000
/-- a def: its number of slots, its body -/
def fnOf (n : Nat) (k : Nat) (b : XS) : List D → M D := fun ds =>
  if ds.length = k then (b (ds.map SV.val ++ List.replicate (n - k) .un)).bind fun r => match r with
    | (.rt d, _) => .ret d
    | (.nx, _) => .ret .non
  else .stk
/-! ### what is walked -/
/-- a list's, a tuple's items -/
def wS (e : XE) : XA := fun σ => (e σ).bind asS
def upTo (a : Int) : Nat → List D
  | 0 => []
  | n + 1 => .int a :: upTo (a + 1) n
def wRng1 (e : XE) : XA := fun σ => (e σ).bind fun d => (asI d).bind fun n => if n ≤ 16777216 ∧ -16777216 ≤ n then .ret (upTo 0 n.toNat) else .stk
def wRng2 (a b : XE) : XA := fun σ => (a σ).bind fun x => (b σ).bind fun y => (asI x).bind fun i => (asI y).bind fun j =>
  if -1000000 < i ∧ i < 1000000 ∧ j < 1000000 ∧ -1000000 < j then .ret (upTo i (j - i).toNat) else .stk
def xTupRg1 (e : XE) : XE := fun σ => (wRng1 e σ).bind fun l => .ret (.tup l)
def xTupRg2 (a b : XE) : XE := fun σ => (wRng2 a b σ).bind fun l => .ret (.tup l)
def xLstRg1 (e : XE) : XE := fun σ => (wRng1 e σ).bind fun l => .ret (.lst l)
def xLstRg2 (a b : XE) : XE := fun σ => (wRng2 a b σ).bind fun l => .ret (.lst l)
def numbered (i : Int) : List D → List D
  | [] => []
  | d :: ds => .tup [.int i, d] :: numbered (i + 1) ds
def wEnum (e : XE) : XA := fun σ => (e σ).bind fun d => (asS d).bind fun l => .ret (numbered 0 l)
def wEnum2 (e k : XE) : XA := fun σ => (e σ).bind fun d => (k σ).bind fun x => (asS d).bind fun l => (asI x).bind fun k => if -1000000 < k ∧ k < 1000000 then .ret (numbered k l) else .stk
def paired : List D → List D → List D
  | x :: xs, y :: ys => .tup [x, y] :: paired xs ys
  | _, _ => []
def wZip (a b : XE) : XA := fun σ => (a σ).bind fun x => (b σ).bind fun y => (asS x).bind fun l => (asS y).bind fun m => .ret (paired l m)
/-! ### operators and built-ins, by values -/
def line : Nat := 16777216
def gAdd : D → D → M D
  | .int i, .int j => .ret (.int (i + j))
  | .str a, .str b => if a.length + b.length ≤ line then .ret (.str (a ++ b)) else .stk
  | .tup a, .tup b => if a.length + b.length ≤ line then .ret (.tup (a ++ b)) else .stk
  | .lst a, .lst b => if a.length + b.length ≤ line then .ret (.lst (a ++ b)) else .stk
  | _, _ => .stk
/-- two lists, the new one kept as one's own -/
def gCat : D → D → M D
  | .lst a, .lst b => if a.length + b.length ≤ line then .ret (.lst (a ++ b)) else .stk
  | _, _ => .stk
def gSub : D → D → M D
  | .int i, .int j => .ret (.int (i - j))
  | _, _ => .stk
def small (i : Int) : Bool := decide (-1000000000000000000 < i) && decide (i < 1000000000000000000)
def gMul : D → D → M D
  | .int i, .int j => if small i || small j then .ret (.int (i * j)) else .stk
  | _, _ => .stk
/-- a list or a tuple, so often -/
def gRep : D → D → M D
  | .lst a, .int k => if 0 ≤ k ∧ k < 1000 ∧ a.length ≤ 1000 then .ret (.lst (List.replicate k.toNat a).flatten) else .stk
  | .tup a, .int k => if 1 < k ∧ k < 1000 ∧ a.length ≤ 1000 ∧ a.isEmpty = false then .ret (.tup (List.replicate k.toNat a).flatten) else .stk
  | _, _ => .stk
def gMulA (a b : D) : M D := match a with
  | .int _ => gMul a b
  | _ => gRep a b
def gMod : D → D → M D
  | .int i, .int j => if 0 < j then .ret (.int (i % j)) else .stk
  | _, _ => .stk
def gFdiv : D → D → M D
  | .int i, .int j => if 0 < j ∧ j < 1000000000 then .ret (.int (i / j)) else .stk
  | _, _ => .stk
def gPow : D → D → M D
  | .int i, .int j => if 0 ≤ j ∧ j ≤ 1000 ∧ small i then .ret (.int (i ^ j.toNat)) else .stk
  | _, _ => .stk
def gNeg : D → M D
  | .int i => .ret (.int (-i))
  | _ => .stk
def gEq (a b : D) : M D := if isData a && isData b then .ret (.bl (pyEq a b)) else .stk
def gNe (a b : D) : M D := if isData a && isData b then .ret (.bl (!pyEq a b)) else .stk
def gCmp (p : Int → Int → Bool) : D → D → M D
  | .int i, .int j => .ret (.bl (p i j))
  | _, _ => .stk
def gLt : D → D → M D := gCmp fun i j => decide (i < j)
def gLe : D → D → M D := gCmp fun i j => decide (i ≤ j)
def gGt : D → D → M D := gCmp fun i j => decide (j < i)
def gGe : D → D → M D := gCmp fun i j => decide (j ≤ i)
def isNon : D → Bool
  | .non => true
  | _ => false
/-- is None, is True, is False -/
def gIsN (a : D) : D → M D
  | .non => .ret (.bl (isNon a))
  | _ => .stk
def gIsNotN (a : D) : D → M D
  | .non => .ret (.bl (!isNon a))
  | _ => .stk
def gIsB : D → D → M D
  | .bl a, .bl b => .ret (.bl (a == b))
  | _, _ => .stk
def gIsNotB : D → D → M D
  | .bl a, .bl b => .ret (.bl (!(a == b)))
  | _, _ => .stk
def flat0 : D → Bool
  | .non => true
  | .bl _ => true
  | .int _ => true
  | .str _ => true
  | _ => false
def hasIn (x : D) : List D → Bool
  | [] => false
  | y :: ys => pyEq y x || hasIn x ys
def allFlat : List D → Bool
  | [] => true
  | y :: ys => flat0 y && allFlat ys
/-- x in a list or tuple -/
def inSeq (x : D) : D → M Bool
  | .tup l => if flat0 x && allFlat l then .ret (hasIn x l) else .stk
  | .lst l => if (flat0 x && allFlat l) then .ret (hasIn x l) else if isData x && flats 49 l then .ret (hasIn x l) else .stk
  | _ => .stk
def gIn (x y : D) : M D := (inSeq x y).bind fun b => .ret (.bl b)
def gNotIn (x y : D) : M D := (inSeq x y).bind fun b => .ret (.bl (!b))
/-- a place, from the end where it is negative -/
def itemI (l : List D) (i : Int) : Option D := (placeI l.length i).bind fun j => l[j]?
def gIx : D → D → M D
  | .tup l, .int i => ofO (itemI l i)
  | .lst l, .int i => ofO (itemI l i)
  | _, _ => .stk
/-! slices: the parts are ints or left out -/
def cutI (n d : Nat) : Option Int → Nat
  | none => d
  | some v => if v < 0 then (v + (n : Int)).toNat else min v.toNat n
def cutL (l : List D) (lo hi : Option Int) : List D := (l.drop (cutI l.length 0 lo)).take (cutI l.length l.length hi - cutI l.length 0 lo)
def gCut (lo hi : Option Int) : D → M D
  | .tup l => .ret (.tup (cutL l lo hi))
  | .lst l => .ret (.lst (cutL l lo hi))
  | _ => .stk
abbrev XO := Sl → M (Option Int)
def oNone : XO := fun _ => .ret none
def oSome (e : XE) : XO := fun σ => (e σ).bind fun d => (asI d).bind fun i => .ret (some i)
def xCut (e : XE) (lo hi : XO) : XE := fun σ => (e σ).bind fun d => (lo σ).bind fun l => (hi σ).bind fun h => gCut l h d
/-! built-ins -/
def intsOf : List D → Option (List Int)
  | [] => some []
  | .int i :: r => (intsOf r).map (i :: ·)
  | _ :: _ => none
def bulsOf : List D → Option (List Bool)
  | [] => some []
  | .bl i :: r => (bulsOf r).map (i :: ·)
  | _ :: _ => none
def leastOf (m : Int) (l : List Int) : Int := l.foldl min m
def mostOf (m : Int) (l : List Int) : Int := l.foldl max m
def fMin : List D → M D
  | [.lst l] => (match intsOf l with
    | some (x :: r) => .ret (.int (leastOf x r))
    | _ => .stk)
  | [.tup l] => (match intsOf l with
    | some (x :: r) => .ret (.int (leastOf x r))
    | _ => .stk)
  | [.int i, .int j] => .ret (.int (if j < i then j else i))
  | _ => .stk
def fMax : List D → M D
  | [.lst l] => (match intsOf l with
    | some (x :: r) => .ret (.int (mostOf x r))
    | _ => .stk)
  | [.tup l] => (match intsOf l with
    | some (x :: r) => .ret (.int (mostOf x r))
    | _ => .stk)
  | [.int i, .int j] => .ret (.int (if j > i then j else i))
  | _ => .stk
def fSum : List D → M D
  | [.lst l] => (match intsOf l with
    | some ns => .ret (.int ns.sum)
    | none => .stk)
  | _ => .stk
def fAny : List D → M D
  | [.lst l] => (match bulsOf l with
    | some bs => .ret (.bl (bs.any id))
    | none => .stk)
  | _ => .stk
def fAll : List D → M D
  | [.lst l] => (match bulsOf l with
    | some bs => .ret (.bl (bs.all id))
    | none => .stk)
  | _ => .stk
def fAbs : List D → M D
  | [.int i] => .ret (.int (if i < 0 then -i else i))
  | _ => .stk
def fLen : List D → M D
  | [.lst l] => .ret (.int l.length)
  | [.tup l] => .ret (.int l.length)
  | [.str s] => if s.length ≤ line then .ret (.int s.length) else .stk
  | [.scr l] => .ret (.int l.length)
  | _ => .stk
def fTuple : List D → M D
  | [.lst l] => .ret (.tup l)
  | [.tup l] => .ret (.tup l)
  | _ => .stk
def fList : List D → M D
  | [.lst l] => .ret (.lst l)
  | [.tup l] => .ret (.lst l)
  | _ => .stk
def fInt : List D → M D
  | [.int i] => .ret (.int i)
  | [.bl b] => .ret (.int (if b then 1 else 0))
  | _ => .stk
/-- isinstance of a built-in class -/
def isTup : D → Bool
  | .tup _ => true
  | _ => false
def isIntT : D → Bool
  | .int _ => true
  | .bl _ => true
  | _ => false
def isBlT : D → Bool
  | .bl _ => true
  | _ => false
def isStrT : D → Bool
  | .str _ => true
  | _ => false
def isLstT : D → Bool
  | .lst _ => true
  | _ => false
def known : D → Bool
  | .st => false
  | .scr _ => false
  | .obj _ => false
  | .dct _ => false
  | _ => true
def gIsi (p : D → Bool) (d : D) : M D := if known d then .ret (.bl (p d)) else .stk
example : pyEq (.tup [.int 3, .bl true]) (.tup [.int 3, .int 1]) = true := by decide +kernel
example : isData (.tup [.int 3, .lst [.bl true]]) = true := by decide +kernel
end Mn

set_option Elab.async false
set_option linter.all false
set_option autoImplicit false
set_option maxRecDepth 100000
set_option maxHeartbeats 2000000
/-! Mn2: what the hand layer's heap says of pure data; the judgements. -/
namespace Mn
open PySem PySem.Spec PyProof.Rows L2

/-! ### worlds: the draws' object, and the part of the heap that never changes again -/
structure DA where
  d : Addr
  c : Addr
  l : Addr
structure Wd where
  g : Option DA
  hs : Hp
def Wd.draw (w : Wd) (a : Addr) : Prop := ∃ g, w.g = some g ∧ (a = g.d ∨ a = g.l)
structure Le (w w' : Wd) : Prop where
  g : ∀ g, w.g = some g → w'.g = some g
  hs : Same w.hs w'.hs
theorem Le.refl (w : Wd) : Le w w := ⟨fun _ h => h, Same.refl _⟩
theorem Le.trans {w w1 w2 : Wd} (a : Le w w1) (b : Le w1 w2) : Le w w2 := ⟨fun g h => b.g g (a.g g h), a.hs.trans b.hs⟩
theorem same_seqT {K : PySem.W.Frag} {H H' : Hp} {a : Addr} {xs : List V} (e : Same H H') (h : SqT K H a xs) : SqT K H' a xs := by
  rcases h with (h | ⟨o, h⟩) | h
  · exact .inl (.inl (e _ _ h))
  · exact .inl (.inr ⟨o, e _ _ h⟩)
  · exact .inr h

def keyD : Key → D
  | .inl i => .int i
  | .inr s => .str s
mutual
inductive Rep (K : PySem.W.Frag) (w : Wd) : V → D → Prop
  | non : Rep K w .non .non
  | bl (b : Bool) : Rep K w (.bl b) (.bl b)
  | int (i : Int) : Rep K w (.int i) (.int i)
  | str (s : Str) : Rep K w (.str s) (.str s)
  | tup {a : Addr} {vs : List V} {ds : List D} : SqT K w.hs a vs → Reps K w vs ds → Rep K w (.ref a) (.tup ds)
  | lst {a : Addr} {vs : List V} {ds : List D} : w.hs a = some (.lst vs) → Reps K w vs ds → Rep K w (.ref a) (.lst ds)
  | dk {a : Addr} {od : Obj} {kvs : List (Key × V)} {ds : List (D × D)} : w.hs a = some (.frz od (.dK kvs)) → RepK K w kvs ds → Rep K w (.ref a) (.dct ds)
  | dt {a : Addr} {od : Obj} {kvs : List (List Key × V)} {ds : List (D × D)} : ds ≠ [] → w.hs a = some (.frz od (.dT kvs)) → RepT K w kvs ds → Rep K w (.ref a) (.dct ds)
  | st {g : DA} : w.g = some g → Rep K w (.ref g.d) .st
  | scr {a : Addr} {ns : List Int} : SqL K w.hs a (ns.map V.int) → Rep K w (.ref a) (.scr ns)
inductive Reps (K : PySem.W.Frag) (w : Wd) : List V → List D → Prop
  | nil : Reps K w [] []
  | cons {v : V} {d : D} {vs : List V} {ds : List D} : Rep K w v d → Reps K w vs ds → Reps K w (v :: vs) (d :: ds)
inductive RepK (K : PySem.W.Frag) (w : Wd) : List (Key × V) → List (D × D) → Prop
  | nil : RepK K w [] []
  | cons {k : Key} {v : V} {d : D} {vs : List (Key × V)} {ds : List (D × D)} : Rep K w v d → RepK K w vs ds → RepK K w ((k, v) :: vs) ((keyD k, d) :: ds)
inductive RepT (K : PySem.W.Frag) (w : Wd) : List (List Key × V) → List (D × D) → Prop
  | nil : RepT K w [] []
  | cons {k : List Key} {v : V} {d : D} {vs : List (List Key × V)} {ds : List (D × D)} : Rep K w v d → RepT K w vs ds → RepT K w ((k, v) :: vs) ((.tup (k.map keyD), d) :: ds)
end
section
variable {K : PySem.W.Frag} {w w' : Wd}
mutual
theorem Rep.le (h : Le w w') : ∀ {v : V} {d : D}, Rep K w v d → Rep K w' v d
  | _, _, .non => .non
  | _, _, .bl b => .bl b
  | _, _, .int i => .int i
  | _, _, .str s => .str s
  | _, _, .tup q r => .tup (same_seqT h.hs q) (r.le h)
  | _, _, .lst q r => .lst (h.hs _ _ q) (r.le h)
  | _, _, .dk q r => .dk (h.hs _ _ q) (r.le h)
  | _, _, .dt n q r => .dt n (h.hs _ _ q) (r.le h)
  | _, _, .st q => .st (h.g _ q)
  | _, _, .scr q => .scr (h.hs.seq q)
theorem Reps.le (h : Le w w') : ∀ {v : List V} {d : List D}, Reps K w v d → Reps K w' v d
  | _, _, .nil => .nil
  | _, _, .cons a b => .cons (a.le h) (b.le h)
theorem RepK.le (h : Le w w') : ∀ {v : List (Key × V)} {d : List (D × D)}, RepK K w v d → RepK K w' v d
  | _, _, .nil => .nil
  | _, _, .cons a b => .cons (a.le h) (b.le h)
theorem RepT.le (h : Le w w') : ∀ {v : List (List Key × V)} {d : List (D × D)}, RepT K w v d → RepT K w' v d
  | _, _, .nil => .nil
  | _, _, .cons a b => .cons (a.le h) (b.le h)
end
theorem Reps.length : ∀ {vs : List V} {ds : List D}, Reps K w vs ds → vs.length = ds.length
  | _, _, .nil => rfl
  | _, _, .cons _ r => congrArg Nat.succ r.length
theorem Reps.get : ∀ {vs : List V} {ds : List D} {i : Nat} {d : D}, Reps K w vs ds → ds[i]? = some d → ∃ v, vs[i]? = some v ∧ Rep K w v d
  | _, _, _, _, .nil, e => by simp at e
  | _, _, 0, _, .cons r _, e => by simp at e; subst e; exact ⟨_, rfl, r⟩
  | _, _, i + 1, d, .cons _ t, e => by
    obtain ⟨u, h1, h2⟩ := Reps.get (i := i) (d := d) t (by simpa using e)
    exact ⟨u, by simpa using h1, h2⟩
theorem Reps.getV : ∀ {vs : List V} {ds : List D} {i : Nat} {v : V}, Reps K w vs ds → vs[i]? = some v → ∃ d, ds[i]? = some d ∧ Rep K w v d
  | _, _, _, _, .nil, e => by simp at e
  | _, _, 0, _, .cons r _, e => by simp at e; subst e; exact ⟨_, rfl, r⟩
  | _, _, i + 1, d, .cons _ t, e => by
    obtain ⟨u, h1, h2⟩ := Reps.getV (i := i) (v := d) t (by simpa using e)
    exact ⟨u, by simpa using h1, h2⟩
theorem Reps.append : ∀ {vs us : List V} {ds es : List D}, Reps K w vs ds → Reps K w us es → Reps K w (vs ++ us) (ds ++ es)
  | _, _, _, _, .nil, s => s
  | _, _, _, _, .cons r t, s => .cons r (Reps.append t s)
theorem Reps.take : ∀ {vs : List V} {ds : List D} (n : Nat), Reps K w vs ds → Reps K w (vs.take n) (ds.take n)
  | _, _, 0, _ => .nil
  | _, _, _ + 1, .nil => .nil
  | _, _, n + 1, .cons r t => .cons r (Reps.take n t)
theorem Reps.drop : ∀ {vs : List V} {ds : List D} (n : Nat), Reps K w vs ds → Reps K w (vs.drop n) (ds.drop n)
  | _, _, 0, r => r
  | _, _, _ + 1, .nil => .nil
  | _, _, n + 1, .cons _ t => Reps.drop n t
theorem Reps.set {v : V} {d : D} (r : Rep K w v d) : ∀ {vs : List V} {ds : List D} (i : Nat), Reps K w vs ds → Reps K w (vs.set i v) (ds.set i d)
  | _, _, _, .nil => .nil
  | _, _, 0, .cons _ t => .cons r t
  | _, _, i + 1, .cons q t => .cons q (Reps.set r i t)
end

/-! ### what holds of a heap -/
/-- so many draws at most -/
def cap : Nat := 1000000000000000
def DrawOk (w : Wd) (c : Nat) (H : Hp) : Prop := c ≤ cap ∧ ∀ g, w.g = some g → w.hs g.d = none ∧ w.hs g.l = none ∧ ∃ (ns ls : List Int) (k : Int),
  H g.d = some (.dK [(Sum.inr "cells", .ref g.c), (Sum.inr "lefts", .ref g.l), (Sum.inr "at", .int k), (Sum.inr "room", .int 0)]) ∧
  H g.l = some (.lst (ls.map V.int)) ∧ w.hs g.c = some (.lst (ns.map V.int)) ∧ ns ≠ [] ∧ ns.length ≤ 63 ∧ ls.length = ns.length ∧ 0 ≤ k ∧ k + c ≤ cap
structure Ok (w : Wd) (c : Nat) (H : Hp) : Prop where
  sub : Same w.hs H
  dr : DrawOk w c H
structure Ext (w : Wd) (H : Hp) (w' : Wd) (H' : Hp) : Prop where
  le : Le w w'
  keep : ∀ a o, H a = some o → w.hs a = none → ¬ w.draw a → H' a = some o ∧ w'.hs a = none ∧ ¬ w'.draw a
theorem Ext.refl (w : Wd) (H : Hp) : Ext w H w H := ⟨Le.refl w, fun _ _ a b c => ⟨a, b, c⟩⟩
theorem Ext.trans {w w1 w2 : Wd} {H H1 H2 : Hp} (a : Ext w H w1 H1) (b : Ext w1 H1 w2 H2) : Ext w H w2 H2 :=
  ⟨a.le.trans b.le, fun x o h n d => let ⟨h1, n1, d1⟩ := a.keep x o h n d; b.keep x o h1 n1 d1⟩
theorem Ok.low {w : Wd} {c c' : Nat} {H : Hp} (h : Ok w c H) (l : c' ≤ c) : Ok w c' H :=
  ⟨h.sub, Nat.le_trans l h.dr.1, fun g e => by
    obtain ⟨a, b, ns, ls, k, h1, h2, h3, h4, h5, h6, h7, h8⟩ := h.dr.2 g e
    exact ⟨a, b, ns, ls, k, h1, h2, h3, h4, h5, h6, h7, by omega⟩⟩
theorem Ok.tracked {w : Wd} {c : Nat} {H : Hp} (h : Ok w c H) {a : Addr} (d : w.draw a) : ∃ o, H a = some o := by
  obtain ⟨g, e, d⟩ := d
  obtain ⟨_, _, ns, ls, k, h1, h2, _⟩ := h.dr.2 g e
  rcases d with rfl | rfl
  · exact ⟨_, h1⟩
  · exact ⟨_, h2⟩
theorem Ok.fresh {w : Wd} {c : Nat} {H : Hp} (h : Ok w c H) {p : Addr} (n : H p = none) : w.hs p = none ∧ ¬ w.draw p := by
  refine ⟨?_, fun d => ?_⟩
  · cases e : w.hs p with
    | none => rfl
    | some o => rw [h.sub p o e] at n; cases n
  · obtain ⟨o, e⟩ := h.tracked d
    rw [e] at n; cases n
/-- what is new later was new before -/
theorem Ext.was_free {w w' : Wd} {c c' : Nat} {H H' : Hp} (x : Ext w H w' H') (h : Ok w c H) (h' : Ok w' c' H') {p : Addr} (n : H' p = none) : H p = none := by
  cases e : H p with
  | none => rfl
  | some o =>
    cases es : w.hs p with
    | some u => rw [h'.sub p u (x.le.hs p u es)] at n; cases n
    | none =>
      by_cases d : w.draw p
      · obtain ⟨g, eg, d⟩ := d
        obtain ⟨u, q⟩ := h'.tracked ⟨g, x.le.g g eg, d⟩
        rw [q] at n; cases n
      · rw [(x.keep p o e es d).1] at n; cases n
/-- all that was tracked, but the draws' object, stands -/
theorem Ext.kept {w w' : Wd} {c' : Nat} {H H' : Hp} (x : Ext w H w' H') (sub : Same w.hs H) (h' : Ok w' c' H') {p : Addr} {o : HO} (e : H p = some o) (d : ¬ w.draw p) : H' p = some o := by
  cases es : w.hs p with
  | none => exact (x.keep p o e es d).1
  | some u =>
    have z := sub p u es
    rw [e] at z; cases z
    exact h'.sub p o (x.le.hs p o es)
/-- a new object, never to be changed -/
def Wd.lay (w : Wd) (p : Addr) (o : HO) : Wd := ⟨w.g, upd w.hs p o⟩
theorem drawOk_upd {w : Wd} {c : Nat} {H : Hp} {hs' : Hp} {p : Addr} {o : HO} (h : Ok w c H) (n : ¬ w.draw p) (s : Same w.hs hs') (hd : ∀ g, w.g = some g → hs' g.d = none ∧ hs' g.l = none) : DrawOk ⟨w.g, hs'⟩ c (upd H p o) :=
  ⟨h.dr.1, fun g e => by
    obtain ⟨a, b, ns, ls, k, h1, h2, h3, h4⟩ := h.dr.2 g e
    have nd : g.d ≠ p := fun q => n ⟨g, e, .inl q.symm⟩
    have nl : g.l ≠ p := fun q => n ⟨g, e, .inr q.symm⟩
    exact ⟨(hd g e).1, (hd g e).2, ns, ls, k, by rw [upd_ne nd]; exact h1, by rw [upd_ne nl]; exact h2, s _ _ h3, h4⟩⟩
theorem Ok.laid {w : Wd} {c : Nat} {H : Hp} (h : Ok w c H) {p : Addr} (n : H p = none) (o : HO) : Ok (w.lay p o) c (upd H p o) ∧ Ext w H (w.lay p o) (upd H p o) := by
  obtain ⟨n1, n2⟩ := h.fresh n
  have s1 : Same w.hs (upd w.hs p o) := fun b u e => by rw [upd_ne (ne_of_none e n1)]; exact e
  refine ⟨⟨fun b u e => ?_, drawOk_upd h n2 s1 fun g e => ?_⟩, ⟨⟨fun _ e => e, s1⟩, fun a u e es d => ?_⟩⟩
  · by_cases hb : b = p
    · subst hb
      have e' : upd w.hs b o b = some u := e
      rw [upd_same] at e'
      rw [upd_same]; exact e'
    · have e' : upd w.hs p o b = some u := e
      rw [upd_ne hb] at e'
      rw [upd_ne hb]; exact h.sub b u e'
  · obtain ⟨a, b, _⟩ := h.dr.2 g e
    have nd : g.d ≠ p := fun q => n2 ⟨g, e, .inl q.symm⟩
    have nl : g.l ≠ p := fun q => n2 ⟨g, e, .inr q.symm⟩
    exact ⟨by rw [upd_ne nd]; exact a, by rw [upd_ne nl]; exact b⟩
  · have ne : a ≠ p := ne_of_none e n
    exact ⟨by rw [upd_ne ne]; exact e, by show upd w.hs p o a = none; rw [upd_ne ne]; exact es, d⟩
/-- a new object of one's own -/
theorem Ok.made {w : Wd} {c : Nat} {H : Hp} (h : Ok w c H) {p : Addr} (n : H p = none) (o : HO) : Ok w c (upd H p o) ∧ Ext w H w (upd H p o) := by
  obtain ⟨n1, n2⟩ := h.fresh n
  refine ⟨⟨fun b u e => ?_, drawOk_upd h n2 (Same.refl _) fun g e => ?_⟩, ⟨Le.refl w, fun a u e es d => ?_⟩⟩
  · rw [upd_ne (ne_of_none e n1)]; exact h.sub b u e
  · obtain ⟨a, b, _⟩ := h.dr.2 g e
    exact ⟨a, b⟩
  · have ne : a ≠ p := ne_of_none e n
    exact ⟨by rw [upd_ne ne]; exact e, es, d⟩
/-- an own object is changed -/
theorem Ok.wrote {w : Wd} {c : Nat} {H : Hp} (h : Ok w c H) {p : Addr} (n1 : w.hs p = none) (n2 : ¬ w.draw p) (o : HO) : Ok w c (upd H p o) := by
  refine ⟨fun b u e => ?_, drawOk_upd h n2 (Same.refl _) fun g e => ?_⟩
  · rw [upd_ne (ne_of_none e n1)]; exact h.sub b u e
  · obtain ⟨a, b, _⟩ := h.dr.2 g e
    exact ⟨a, b⟩
/-- an own object is never changed from now on -/
theorem Ok.froze {w : Wd} {c : Nat} {H : Hp} (h : Ok w c H) {p : Addr} {o : HO} (e0 : H p = some o) (n1 : w.hs p = none) (n2 : ¬ w.draw p) : Ok (w.lay p o) c H ∧ Le w (w.lay p o) := by
  have s1 : Same w.hs (upd w.hs p o) := fun b u e => by rw [upd_ne (ne_of_none e n1)]; exact e
  refine ⟨⟨fun b u e => ?_, h.dr.1, fun g e => ?_⟩, ⟨fun _ e => e, s1⟩⟩
  · by_cases hb : b = p
    · subst hb
      have e' : upd w.hs b o b = some u := e
      rw [upd_same] at e'
      cases e'
      exact e0
    · have e' : upd w.hs p o b = some u := e
      rw [upd_ne hb] at e'
      exact h.sub b u e'
  · obtain ⟨a, b, ns, ls, k, h1, h2, h3, h4⟩ := h.dr.2 g e
    have nd : g.d ≠ p := fun q => n2 ⟨g, e, .inl q.symm⟩
    have nl : g.l ≠ p := fun q => n2 ⟨g, e, .inr q.symm⟩
    exact ⟨by show upd w.hs p o g.d = none; rw [upd_ne nd]; exact a, by show upd w.hs p o g.l = none; rw [upd_ne nl]; exact b, ns, ls, k, h1, h2, s1 _ _ h3, h4⟩

/-! ### slots -/
def isOwn : SV → Bool
  | .own _ => true
  | .ownd _ => true
  | _ => false
/-- an address of one's own, made since the def's entry -/
structure Own (w : Wd) (H0 : Hp) (a : Addr) : Prop where
  hs : w.hs a = none
  dr : ¬ w.draw a
  new : H0 a = none
def SlotR (K : PySem.W.Frag) (w : Wd) (H H0 : Hp) : SV → Option V → Prop
  | .un, _ => True
  | .val d, o => ∃ v, o = some v ∧ Rep K w v d
  | .own l, o => ∃ a vs, o = some (V.ref a) ∧ Own w H0 a ∧ H a = some (.lst vs) ∧ Reps K w vs l
  | .ownd l, o => ∃ a, o = some (V.ref a) ∧ Own w H0 a ∧ ((∃ kvs, H a = some (.dK kvs) ∧ RepK K w kvs l) ∨ ∃ kvs, l ≠ [] ∧ H a = some (.dT kvs) ∧ RepT K w kvs l)
structure Rel (K : PySem.W.Frag) (w0 : Wd) (H0 : Hp) (w : Wd) (c : Nat) (H : Hp) (τ : Sl) (σ : L2.St) : Prop where
  ok : Ok w c H
  dom : ∀ a, H a = none → H0 a = none
  ext : Ext w0 H0 w H
  len : τ.length = σ.length
  slot : ∀ i, SlotR K w H H0 (τ.getD i .un) (σ.getD i none)
  own : ∀ i j a, i ≠ j → isOwn (τ.getD i .un) = true → isOwn (τ.getD j .un) = true → σ.getD i none = some (.ref a) → σ.getD j none = some (.ref a) → False
theorem Own.ext {w w' : Wd} {H H' H0 : Hp} {a : Addr} {o : HO} (x : Ext w H w' H') (h : Own w H0 a) (e : H a = some o) : Own w' H0 a ∧ H' a = some o :=
  let ⟨h1, h2, h3⟩ := x.keep a o e h.hs h.dr
  ⟨⟨h2, h3, h.new⟩, h1⟩
theorem SlotR.ext {K : PySem.W.Frag} {w w' : Wd} {H H' H0 : Hp} (x : Ext w H w' H') : ∀ {s : SV} {o : Option V}, SlotR K w H H0 s o → SlotR K w' H' H0 s o
  | .un, _, _ => trivial
  | .val d, o, ⟨v, e, r⟩ => ⟨v, e, r.le x.le⟩
  | .own l, o, ⟨a, vs, e, h, ha, r⟩ => let ⟨h', ha'⟩ := h.ext x ha; ⟨a, vs, e, h', ha', r.le x.le⟩
  | .ownd l, o, ⟨a, e, h, q⟩ => by
    rcases q with ⟨kvs, ha, r⟩ | ⟨kvs, ne, ha, r⟩
    · obtain ⟨h', ha'⟩ := h.ext x ha
      exact ⟨a, e, h', .inl ⟨kvs, ha', r.le x.le⟩⟩
    · obtain ⟨h', ha'⟩ := h.ext x ha
      exact ⟨a, e, h', .inr ⟨kvs, ne, ha', r.le x.le⟩⟩
theorem Rel.go {K : PySem.W.Frag} {w0 w w' : Wd} {H0 H H' : Hp} {c c' : Nat} {τ : Sl} {σ : L2.St} (r : Rel K w0 H0 w c H τ σ) (x : Ext w H w' H') (ok : Ok w' c' H') : Rel K w0 H0 w' c' H' τ σ :=
  ⟨ok, fun a n => r.dom a (x.was_free r.ok ok n), r.ext.trans x, r.len, fun i => (r.slot i).ext x, r.own⟩

theorem Ext.re {w0 w1 w2 : Wd} {H0 H1 H2 : Hp} (a : Ext w0 H0 w1 H1) (b : Ext w1 H0 w2 H2) : Ext w0 H0 w2 H2 :=
  ⟨a.le.trans b.le, fun x o h n d => let ⟨_, n1, d1⟩ := a.keep x o h n d; b.keep x o h n1 d1⟩
theorem Ext.ofLe {w0 w1 w2 : Wd} {H0 H2 : Hp} (l : Le w0 w1) (m : Le w1 w2) (b : Ext w0 H0 w2 H2) : Ext w1 H0 w2 H2 := by
  refine ⟨m, fun x o h n d => b.keep x o h ?_ fun ⟨g, e, z⟩ => d ⟨g, l.g g e, z⟩⟩
  cases q : w0.hs x with
  | none => rfl
  | some u => rw [l.hs x u q] at n; cases n
/-- told from a later world, and back -/
theorem Rel.up {K : PySem.W.Frag} {w0 w : Wd} {H0 H : Hp} {c : Nat} {τ : Sl} {σ : L2.St} (r : Rel K w0 H0 w c H τ σ) : Rel K w H0 w c H τ σ := ⟨r.ok, r.dom, .ofLe r.ext.le (Le.refl w) r.ext, r.len, r.slot, r.own⟩
theorem Rel.down {K : PySem.W.Frag} {w0 w1 w : Wd} {H0 H1 H : Hp} {c : Nat} {τ : Sl} {σ : L2.St} (e : Ext w0 H0 w1 H1) (r : Rel K w1 H0 w c H τ σ) : Rel K w0 H0 w c H τ σ := ⟨r.ok, r.dom, e.re r.ext, r.len, r.slot, r.own⟩

/-! ### judgements -/
/-- an exception of the class x with the fields fs (one's own classes: the dict at d) -/
def ExcR (K : PySem.W.Frag) (mg : Str → Option Value) (w : Wd) (H : Hp) (x : String) (fs : List D) (cls : Value) (d : Option Addr) : Prop :=
  mg (Str.ofString x) = some cls ∧ ((d = none ∧ fs = []) ∨ ∃ (a : Addr) (kvs : List (Str × V)), d = some a ∧ H a = some (.xd kvs) ∧ w.hs a = none ∧ ¬ w.draw a ∧ Reps K w (kvs.map (·.2)) fs)
/-- what is asked of an exception out of an expression -/
def PX (X : Cx) (W : WX) (w : Wd) (H : Hp) (σ : L2.St) : String → List D → Nat → Prop := fun x fs c' => ∀ w' H' cls d, Ext w H w' H' → Ok w' c' H' → ExcR X.K X.mg w' H' x fs cls d → W cls d σ H'
theorem PX.ext {X : Cx} {W : WX} {w w' : Wd} {H H' : Hp} {σ : L2.St} (e : Ext w H w' H') {x : String} {fs : List D} {c : Nat} (h : PX X W w H σ x fs c) : PX X W w' H' σ x fs c := fun w2 H2 cls d e2 ok r => h w2 H2 cls d (e.trans e2) ok r
/-- what an expression of the reading f is worth: of a value that stays -/
def tE (X : Cx) (W : WX) (w0 : Wd) (H0 : Hp) (f : XE) : TE := fun σ H Q => ∃ w c τ, Rel X.K w0 H0 w c H τ σ ∧
  wp (f τ) c (fun d c' => ∀ w' H' v, Ext w H w' H' → Ok w' c' H' → Rep X.K w' v d → Q v H') (PX X W w H σ)
/-- a value that is used at once: it stays, or is an own list or dict -/
def RepB (K : PySem.W.Frag) (w : Wd) (H : Hp) (v : V) (d : D) : Prop := Rep K w v d ∨
  (∃ a vs l, v = .ref a ∧ d = .lst l ∧ w.hs a = none ∧ ¬ w.draw a ∧ H a = some (.lst vs) ∧ Reps K w vs l) ∨
  (∃ a l, v = .ref a ∧ d = .dct l ∧ w.hs a = none ∧ ¬ w.draw a ∧ ((∃ kvs, H a = some (.dK kvs) ∧ RepK K w kvs l) ∨ ∃ kvs, l ≠ [] ∧ H a = some (.dT kvs) ∧ RepT K w kvs l))
theorem RepB.ext {K : PySem.W.Frag} {w w' : Wd} {H H' : Hp} {v : V} {d : D} (x : Ext w H w' H') (h : RepB K w H v d) : RepB K w' H' v d := by
  rcases h with h | ⟨a, vs, l, e1, e2, h1, h2, h3, r⟩ | ⟨a, l, e1, e2, h1, h2, h3⟩
  · exact .inl (h.le x.le)
  · obtain ⟨k1, k2, k3⟩ := x.keep a _ h3 h1 h2
    exact .inr (.inl ⟨a, vs, l, e1, e2, k2, k3, k1, r.le x.le⟩)
  · rcases h3 with ⟨kvs, q, r⟩ | ⟨kvs, ne, q, r⟩
    · obtain ⟨k1, k2, k3⟩ := x.keep a _ q h1 h2
      exact .inr (.inr ⟨a, l, e1, e2, k2, k3, .inl ⟨kvs, k1, r.le x.le⟩⟩)
    · obtain ⟨k1, k2, k3⟩ := x.keep a _ q h1 h2
      exact .inr (.inr ⟨a, l, e1, e2, k2, k3, .inr ⟨kvs, ne, k1, r.le x.le⟩⟩)
def tB (X : Cx) (W : WX) (w0 : Wd) (H0 : Hp) (f : XE) : TE := fun σ H Q => ∃ w c τ, Rel X.K w0 H0 w c H τ σ ∧
  wp (f τ) c (fun d c' => ∀ w' H' v, Ext w H w' H' → Ok w' c' H' → RepB X.K w' H' v d → Q v H') (PX X W w H σ)
/-- a new list or dict -/
def NewR (K : PySem.W.Frag) (w : Wd) (H H' : Hp) (v : V) (d : D) : Prop := ∃ a, v = .ref a ∧ H a = none ∧ w.hs a = none ∧ ¬ w.draw a ∧
  ((∃ vs l, d = .lst l ∧ H' a = some (.lst vs) ∧ Reps K w vs l) ∨ (∃ kvs l, d = .dct l ∧ H' a = some (.dK kvs) ∧ RepK K w kvs l) ∨ ∃ kvs l, l ≠ [] ∧ d = .dct l ∧ H' a = some (.dT kvs) ∧ RepT K w kvs l)
def tF (X : Cx) (W : WX) (w0 : Wd) (H0 : Hp) (f : XE) : TE := fun σ H Q => ∃ w c τ, Rel X.K w0 H0 w c H τ σ ∧
  wp (f τ) c (fun d c' => ∀ w' H' v, Ext w H w' H' → Ok w' c' H' → NewR X.K w' H H' v d → Q v H') (PX X W w H σ)
def tT (X : Cx) (W : WX) (w0 : Wd) (H0 : Hp) (f : XB) : TT := fun σ H Q => ∃ w c τ, Rel X.K w0 H0 w c H τ σ ∧
  wp (f τ) c (fun b c' => ∀ w' H', Ext w H w' H' → Ok w' c' H' → Q b H') (PX X W w H σ)
def tA (X : Cx) (W : WX) (w0 : Wd) (H0 : Hp) (f : XA) : TA := fun σ H Q => ∃ w c τ, Rel X.K w0 H0 w c H τ σ ∧
  wp (f τ) c (fun ds c' => ∀ w' H' vs, Ext w H w' H' → Ok w' c' H' → Reps X.K w' vs ds → Q vs H') (PX X W w H σ)
def RepBs (K : PySem.W.Frag) (w : Wd) (H : Hp) : List V → List D → Prop := Paired (RepB K w H)
def tAB (X : Cx) (W : WX) (w0 : Wd) (H0 : Hp) (f : XA) : TA := fun σ H Q => ∃ w c τ, Rel X.K w0 H0 w c H τ σ ∧
  wp (f τ) c (fun ds c' => ∀ w' H' vs, Ext w H w' H' → Ok w' c' H' → RepBs X.K w' H' vs ds → Q vs H') (PX X W w H σ)
def PSX (X : Cx) (W : WX) (w0 : Wd) (H0 : Hp) : String → List D → Nat → Prop := fun x fs c' => ∀ w' H' cls d σ', Ext w0 H0 w' H' → Ok w' c' H' → ExcR X.K X.mg w' H' x fs cls d → W cls d σ' H'
def PSN (K : PySem.W.Frag) (w0 : Wd) (H0 : Hp) (D' : Ends) : Fl × Sl → Nat → Prop := fun r c' => match r with
  | (.nx, τ') => ∀ w' H' σ', Rel K w0 H0 w' c' H' τ' σ' → D'.nx σ' H'
  | (.rt d, _) => ∀ w' H' v, Ext w0 H0 w' H' → Ok w' c' H' → Rep K w' v d → D'.rt v H'
def tS (X : Cx) (W : WX) (w0 : Wd) (H0 : Hp) (f : XS) : TS := fun D' σ H => ∃ w c τ, Rel X.K w0 H0 w c H τ σ ∧ wp (f τ) c (PSN X.K w0 H0 D') (PSX X W w0 H0)
structure DE (X : Cx) (W : WX) (e : Expr) (f : XE) : Prop where
  ok : ∀ w0 H0, PE X e (tE X W w0 H0 f)
structure BE (X : Cx) (W : WX) (e : Expr) (f : XE) : Prop where
  ok : ∀ w0 H0, PE X e (tB X W w0 H0 f)
structure FE (X : Cx) (W : WX) (e : Expr) (f : XE) : Prop where
  ok : ∀ w0 H0, PE X e (tF X W w0 H0 f)
structure DT (X : Cx) (W : WX) (e : Expr) (f : XB) : Prop where
  ok : ∀ w0 H0, PT X e (tT X W w0 H0 f)
structure DW (X : Cx) (W : WX) (e : Expr) (f : XB) : Prop where
  ok : ∀ w0 H0, PW X e (tT X W w0 H0 f)
structure DAs (X : Cx) (W : WX) (es : List Expr) (f : XA) : Prop where
  ok : ∀ w0 H0, PA X es (tA X W w0 H0 f)
structure BAs (X : Cx) (W : WX) (es : List Expr) (f : XA) : Prop where
  ok : ∀ w0 H0, PA X es (tAB X W w0 H0 f)
structure DS (X : Cx) (W : WX) (s : Stmt) (f : XS) : Prop where
  ok : ∀ w0 H0, PS X s (tS X W w0 H0 f)
structure DSs (X : Cx) (W : WX) (s : List Stmt) (f : XS) : Prop where
  ok : ∀ w0 H0, PSs X s (tS X W w0 H0 f)
end Mn

set_option Elab.async false
set_option linter.all false
set_option autoImplicit false
set_option maxRecDepth 100000
set_option maxHeartbeats 2000000
/-! Mn3: the rules: names, constants, operators, tests, displays, calls. -/
namespace Mn
open PySem PySem.Spec PyProof.Rows L2
section
variable {X : Cx} {W : WX} {w0 : Wd} {H0 : Hp} {σ : L2.St} {H : Hp}

/-! ### what is handed on -/
theorem wp_ext {β : Type} {w w' : Wd} {H H' : Hp} {m : M β} {c : Nat} {Q : β → Nat → Prop} (x : Ext w H w' H') (h : wp m c Q (PX X W w H σ)) : wp m c Q (PX X W w' H' σ) :=
  wp_mono h (fun _ _ _ q => q) fun _ _ _ _ q => q.ext x
/-- behind an expression: what is left -/
theorem tE_bind {β : Type} {f : XE} {k : D → M β} {w : Wd} {c : Nat} {τ : Sl} {Q : β → Nat → Prop} (r : Rel X.K w0 H0 w c H τ σ) (h : wp ((f τ).bind k) c Q (PX X W w H σ)) :
    tE X W w0 H0 f σ H (fun v H1 => ∃ w1 c1 d, Ext w H w1 H1 ∧ Rel X.K w0 H0 w1 c1 H1 τ σ ∧ Rep X.K w1 v d ∧ wp (k d) c1 Q (PX X W w1 H1 σ)) :=
  ⟨w, c, τ, r, wp_mono (wp_bind.1 h) (fun d c' _ hk w' H' v e ok rv => ⟨w', c', d, e, r.go e ok, rv, wp_ext e hk⟩) fun _ _ _ _ q => q⟩
theorem tB_bind {β : Type} {f : XE} {k : D → M β} {w : Wd} {c : Nat} {τ : Sl} {Q : β → Nat → Prop} (r : Rel X.K w0 H0 w c H τ σ) (h : wp ((f τ).bind k) c Q (PX X W w H σ)) :
    tB X W w0 H0 f σ H (fun v H1 => ∃ w1 c1 d, Ext w H w1 H1 ∧ Rel X.K w0 H0 w1 c1 H1 τ σ ∧ RepB X.K w1 H1 v d ∧ wp (k d) c1 Q (PX X W w1 H1 σ)) :=
  ⟨w, c, τ, r, wp_mono (wp_bind.1 h) (fun d c' _ hk w' H' v e ok rv => ⟨w', c', d, e, r.go e ok, rv, wp_ext e hk⟩) fun _ _ _ _ q => q⟩
theorem tF_bind {β : Type} {f : XE} {k : D → M β} {w : Wd} {c : Nat} {τ : Sl} {Q : β → Nat → Prop} (r : Rel X.K w0 H0 w c H τ σ) (h : wp ((f τ).bind k) c Q (PX X W w H σ)) :
    tF X W w0 H0 f σ H (fun v H1 => ∃ w1 c1 d, Ext w H w1 H1 ∧ Rel X.K w0 H0 w1 c1 H1 τ σ ∧ NewR X.K w1 H H1 v d ∧ wp (k d) c1 Q (PX X W w1 H1 σ)) :=
  ⟨w, c, τ, r, wp_mono (wp_bind.1 h) (fun d c' _ hk w' H' v e ok rv => ⟨w', c', d, e, r.go e ok, rv, wp_ext e hk⟩) fun _ _ _ _ q => q⟩
theorem tT_bind {β : Type} {f : XB} {k : Bool → M β} {w : Wd} {c : Nat} {τ : Sl} {Q : β → Nat → Prop} (r : Rel X.K w0 H0 w c H τ σ) (h : wp ((f τ).bind k) c Q (PX X W w H σ)) :
    tT X W w0 H0 f σ H (fun b H1 => ∃ w1 c1, Ext w H w1 H1 ∧ Rel X.K w0 H0 w1 c1 H1 τ σ ∧ wp (k b) c1 Q (PX X W w1 H1 σ)) :=
  ⟨w, c, τ, r, wp_mono (wp_bind.1 h) (fun d c' _ hk w' H' e ok => ⟨w', c', e, r.go e ok, wp_ext e hk⟩) fun _ _ _ _ q => q⟩
theorem tA_bind {β : Type} {f : XA} {k : List D → M β} {w : Wd} {c : Nat} {τ : Sl} {Q : β → Nat → Prop} (r : Rel X.K w0 H0 w c H τ σ) (h : wp ((f τ).bind k) c Q (PX X W w H σ)) :
    tA X W w0 H0 f σ H (fun vs H1 => ∃ w1 c1 ds, Ext w H w1 H1 ∧ Rel X.K w0 H0 w1 c1 H1 τ σ ∧ Reps X.K w1 vs ds ∧ wp (k ds) c1 Q (PX X W w1 H1 σ)) :=
  ⟨w, c, τ, r, wp_mono (wp_bind.1 h) (fun d c' _ hk w' H' v e ok rv => ⟨w', c', d, e, r.go e ok, rv, wp_ext e hk⟩) fun _ _ _ _ q => q⟩
theorem tAB_bind {β : Type} {f : XA} {k : List D → M β} {w : Wd} {c : Nat} {τ : Sl} {Q : β → Nat → Prop} (r : Rel X.K w0 H0 w c H τ σ) (h : wp ((f τ).bind k) c Q (PX X W w H σ)) :
    tAB X W w0 H0 f σ H (fun vs H1 => ∃ w1 c1 ds, Ext w H w1 H1 ∧ Rel X.K w0 H0 w1 c1 H1 τ σ ∧ RepBs X.K w1 H1 vs ds ∧ wp (k ds) c1 Q (PX X W w1 H1 σ)) :=
  ⟨w, c, τ, r, wp_mono (wp_bind.1 h) (fun d c' _ hk w' H' v e ok rv => ⟨w', c', d, e, r.go e ok, rv, wp_ext e hk⟩) fun _ _ _ _ q => q⟩
/-- a reading's end, of a value that stays -/
abbrev FinE (X : Cx) (w : Wd) (H : Hp) (Q : VK) : D → Nat → Prop := fun d c' => ∀ w' H' v, Ext w H w' H' → Ok w' c' H' → Rep X.K w' v d → Q v H'
theorem FinE.ext {w w' : Wd} {H' : Hp} {Q : VK} {d : D} {c : Nat} (x : Ext w H w' H') (h : FinE X w H Q d c) : FinE X w' H' Q d c := fun w2 H2 v e ok r => h w2 H2 v (x.trans e) ok r
abbrev FinF (X : Cx) (w : Wd) (H : Hp) (Q : VK) : D → Nat → Prop := fun d c' => ∀ w' H' v, Ext w H w' H' → Ok w' c' H' → NewR X.K w' H H' v d → Q v H'
theorem FinF.ext {w w' : Wd} {c0 c1 : Nat} {H' : Hp} {Q : VK} {d : D} {c : Nat} (x : Ext w H w' H') (ok : Ok w c0 H) (ok' : Ok w' c1 H') (h : FinF X w H Q d c) : FinF X w' H' Q d c :=
  fun w2 H2 v e ok2 ⟨a, ev, n, r⟩ => h w2 H2 v (x.trans e) ok2 ⟨a, ev, x.was_free ok ok' n, r⟩
theorem RepB.of {K : PySem.W.Frag} {w : Wd} {H : Hp} {v : V} {d : D} (h : Rep K w v d) : RepB K w H v d := .inl h
/-- a new thing is kept for good (a list; a dict is locked first) -/
theorem NewR.lstRep {K : PySem.W.Frag} {w : Wd} {c : Nat} {H' : Hp} {a : Addr} {vs : List V} {l : List D} (ok : Ok w c H') (h1 : w.hs a = none) (h2 : ¬ w.draw a) (e : H' a = some (.lst vs)) (r : Reps K w vs l) :
    Ok (w.lay a (.lst vs)) c H' ∧ Le w (w.lay a (.lst vs)) ∧ Rep K (w.lay a (.lst vs)) (.ref a) (.lst l) := by
  obtain ⟨k1, k2⟩ := ok.froze e h1 h2
  refine ⟨k1, k2, .lst ?_ (r.le k2)⟩
  show upd w.hs a (.lst vs) a = _
  rw [upd_same]
theorem Ext.lay {w w' : Wd} {H H' : Hp} {a : Addr} {o : HO} (x : Ext w H w' H') (n : H a = none) (n1 : w'.hs a = none) : Ext w H (w'.lay a o) H' := by
  refine ⟨x.le.trans ⟨fun _ e => e, fun b u e => ?_⟩, fun b u e es d => ?_⟩
  · show upd w'.hs a o b = some u
    rw [upd_ne (ne_of_none e n1)]; exact e
  · obtain ⟨h1, h2, h3⟩ := x.keep b u e es d
    refine ⟨h1, ?_, h3⟩
    show upd w'.hs a o b = none
    rw [upd_ne (ne_of_none e n)]; exact h2

/-! ### weaker judgements -/
theorem _root_.L2.PE.weak {e : Expr} {t t' : TE} (h : PE X e t) (k : ∀ σ H Q, t' σ H Q → t σ H Q) : PE X e t' := ⟨fun pins s σ H Q I q => h.run pins s σ H Q I (k σ H Q q)⟩
theorem _root_.L2.PT.weak {e : Expr} {t t' : TT} (h : PT X e t) (k : ∀ σ H Q, t' σ H Q → t σ H Q) : PT X e t' := ⟨fun pins s σ H Q I q => h.run pins s σ H Q I (k σ H Q q)⟩
theorem _root_.L2.PW.weak {e : Expr} {t t' : TT} (h : PW X e t) (k : ∀ σ H Q, t' σ H Q → t σ H Q) : PW X e t' := ⟨fun wh pins s σ H Q I q => h.run wh pins s σ H Q I (k σ H Q q)⟩
theorem _root_.L2.PA.weak {e : List Expr} {t t' : TA} (h : PA X e t) (k : ∀ σ H Q, t' σ H Q → t σ H Q) : PA X e t' := ⟨fun pos pins s σ H Q I q => h.run pos pins s σ H Q I (k σ H Q q)⟩
theorem _root_.L2.PS.weak {e : Stmt} {t t' : TS} (h : PS X e t) (k : ∀ D σ H, t' D σ H → t D σ H) : PS X e t' := ⟨fun pins s σ H D I q => h.run pins s σ H D I (k D σ H q)⟩
theorem _root_.L2.PSs.weak {e : List Stmt} {t t' : TS} (h : PSs X e t) (k : ∀ D σ H, t' D σ H → t D σ H) : PSs X e t' := ⟨fun pins s σ H D I q => h.run pins s σ H D I (k D σ H q)⟩
theorem _root_.L2.PG.weak {e : Expr} {t t' : TG} (h : PG X e t) (k : ∀ v σ H Q, t' v σ H Q → t v σ H Q) : PG X e t' := ⟨fun pins s σ H v u Q I r q => h.run pins s σ H v u Q I r (k v σ H Q q)⟩
theorem _root_.L2.PGs.weak {e : List Expr} {t t' : TGs} (h : PGs X e t) (k : ∀ v σ H Q, t' v σ H Q → t v σ H Q) : PGs X e t' := ⟨fun pins s σ H v u Q I r q => h.run pins s σ H v u Q I r (k v σ H Q q)⟩

theorem DE.b {e : Expr} {f : XE} (h : DE X W e f) : BE X W e f := ⟨fun w0 H0 => (h.ok w0 H0).weak fun σ H Q ⟨w, c, τ, r, q⟩ =>
  ⟨w, c, τ, r, wp_mono q (fun d c' _ k w' H' v e ok rv => k w' H' v e ok (.of rv)) fun _ _ _ _ k => k⟩⟩
/-- a new list as a value that stays -/
theorem FE.b {e : Expr} {f : XE} (h : FE X W e f) : BE X W e f := ⟨fun w0 H0 => (h.ok w0 H0).weak fun σ H Q ⟨w, c, τ, r, q⟩ =>
  ⟨w, c, τ, r, wp_mono q (fun d c' _ k w' H' v e ok ⟨a, ev, n, n1, n2, rv⟩ => k w' H' v e ok (by
    rcases rv with ⟨vs, l, e2, e3, r3⟩ | ⟨kvs, l, e2, e3, r3⟩ | ⟨kvs, l, ne, e2, e3, r3⟩
    · exact .inr (.inl ⟨a, vs, l, ev, e2, n1, n2, e3, r3⟩)
    · exact .inr (.inr ⟨a, l, ev, e2, n1, n2, .inl ⟨kvs, e3, r3⟩⟩)
    · exact .inr (.inr ⟨a, l, ev, e2, n1, n2, .inr ⟨kvs, ne, e3, r3⟩⟩))) fun _ _ _ _ k => k⟩⟩
/-- an expression, what it makes is locked for good (where it is a new dict) -/
theorem pe_perm {e : Expr} {t : TE} (h : PE X e t) : PE X e (fun σ H Q => t σ H fun v H1 => Q v H1 ∨ ∃ d u, v = .ref d ∧ H1 d = some u ∧ Mut (some u) ∧ ∀ od, Q v (upd H1 d (.frz od u))) := by
  refine ⟨fun pins s σ H Q I hw => thn (h.run pins s σ H _ I hw) fun u s1 ⟨v, H1, I1, r, q⟩ => ?_⟩
  rcases q with q | ⟨d, o, rfl, e, mu, q⟩
  · exact ⟨v, H1, I1, r, q⟩
  · obtain ⟨od, I2⟩ := I1.lock e mu
    exact ⟨_, _, I2, r, q od⟩
theorem RepK.frz {K : PySem.W.Frag} {w : Wd} {a : Addr} {o : HO} (n : w.hs a = none) : Le w (w.lay a o) := ⟨fun _ e => e, fun b u e => by
  show upd w.hs a o b = some u
  rw [upd_ne (ne_of_none e n)]; exact e⟩
/-- an own object is locked for good -/
theorem Ok.locked {w : Wd} {c : Nat} {H : Hp} (h : Ok w c H) {p : Addr} {o : HO} (n1 : w.hs p = none) (n2 : ¬ w.draw p) : Ok (w.lay p o) c (upd H p o) := by
  have s1 : Same w.hs (upd w.hs p o) := fun b u e => by rw [upd_ne (ne_of_none e n1)]; exact e
  refine ⟨fun b u e => ?_, drawOk_upd h n2 s1 fun g e => ?_⟩
  · by_cases hb : b = p
    · subst hb
      have e' : upd w.hs b o b = some u := e
      rw [upd_same] at e'
      rw [upd_same]; exact e'
    · have e' : upd w.hs p o b = some u := e
      rw [upd_ne hb] at e'
      rw [upd_ne hb]; exact h.sub b u e'
  · obtain ⟨a, b, _⟩ := h.dr.2 g e
    have nd : g.d ≠ p := fun q => n2 ⟨g, e, .inl q.symm⟩
    have nl : g.l ≠ p := fun q => n2 ⟨g, e, .inr q.symm⟩
    exact ⟨by rw [upd_ne nd]; exact a, by rw [upd_ne nl]; exact b⟩
theorem Ext.locked {w w' : Wd} {H H' : Hp} {a : Addr} {o : HO} (x : Ext w H w' H') (n : H a = none) (n1 : w'.hs a = none) : Ext w H (w'.lay a o) (upd H' a o) := by
  refine ⟨x.le.trans (RepK.frz (K := []) n1), fun b u e es d => ?_⟩
  obtain ⟨h1, h2, h3⟩ := x.keep b u e es d
  have ne := ne_of_none e n
  refine ⟨by rw [upd_ne ne]; exact h1, ?_, h3⟩
  show upd w'.hs a o b = none
  rw [upd_ne ne]; exact h2
theorem FE.d {e : Expr} {f : XE} (h : FE X W e f) : DE X W e f := ⟨fun w0 H0 => (pe_perm (h.ok w0 H0)).weak fun σ H Q ⟨w, c, τ, r, q⟩ =>
  ⟨w, c, τ, r, wp_mono q (fun d c' _ k w' H' v e ok ⟨a, ev, n, n1, n2, rv⟩ => by
    subst ev
    rcases rv with ⟨vs, l, rfl, e3, r3⟩ | ⟨kvs, l, rfl, e3, r3⟩ | ⟨kvs, l, ne, rfl, e3, r3⟩
    · obtain ⟨k1, k2, k3⟩ := NewR.lstRep ok n1 n2 e3 r3
      exact .inl (k _ _ _ (e.lay n n1) k1 k3)
    · refine .inr ⟨a, _, rfl, e3, trivial, fun od => k _ _ _ (e.locked n n1) (ok.locked n1 n2) (.dk (od := od) (kvs := kvs) ?_ (r3.le (RepK.frz (K := []) n1)))⟩
      show upd w'.hs a _ a = _
      rw [upd_same]
    · refine .inr ⟨a, _, rfl, e3, trivial, fun od => k _ _ _ (e.locked n n1) (ok.locked n1 n2) (.dt (od := od) (kvs := kvs) ne ?_ (r3.le (RepK.frz (K := []) n1)))⟩
      show upd w'.hs a _ a = _
      rw [upd_same]) fun _ _ _ _ k => k⟩⟩

/-! ### constants, names -/
theorem tE_ret {d : D} {v : V} {Q : VK} (hr : ∀ w, Rep X.K w v d) (h : tE X W w0 H0 (xC d) σ H Q) : Q v H := by
  obtain ⟨w, c, τ, r, q⟩ := h
  exact q w H v (.refl _ _) r.ok (hr w)
theorem de_int {i : Int} {j : Nat} {pos : Pos} : DE X W (.Constant (.int i) j pos) (xC (.int i)) := ⟨fun _ _ => pe_int.weak fun _ _ _ h => tE_ret (fun _ => .int i) h⟩
theorem de_str {s : Str} {j : Nat} {pos : Pos} : DE X W (.Constant (.str s) j pos) (xC (.str s)) := ⟨fun _ _ => pe_str.weak fun _ _ _ h => tE_ret (fun _ => .str s) h⟩
theorem de_bl {b : Bool} {j : Nat} {pos : Pos} : DE X W (.Constant (.bool b) j pos) (xC (.bl b)) := ⟨fun _ _ => pe_bl.weak fun _ _ _ h => tE_ret (fun _ => .bl b) h⟩
theorem de_non {j : Nat} {pos : Pos} : DE X W (.Constant .none j pos) (xC .non) := ⟨fun _ _ => pe_non.weak fun _ _ _ h => tE_ret (fun _ => .non) h⟩
theorem slot_some {K : PySem.W.Frag} {w : Wd} {c : Nat} {τ : Sl} {i : Nat} {v : V} (e : σ.getD i none = some v) : σ[i]? = some (some v) := by
  cases q : σ[i]? with
  | none => rw [List.getD_eq_getElem?_getD, q] at e; cases e
  | some o =>
    rw [List.getD_eq_getElem?_getD, q] at e
    have e' : o = some v := e
    rw [e']
theorem de_v (i : Nat) {x : Str} {pos : Pos} (hN : X.N[i]? = some x := by rfl) (hv : Vis X.env.scope x := by first | exact Or.inl rfl | exact Or.inr (Or.inl rfl) | exact Or.inr (Or.inr rfl)) (hd : (x == ("__debug__" : Str)) = false := by decide)
    (hcd : (x == ("__classdict__" : Str)) = false := by decide) : DE X W (.Name x pos) (xV i) := ⟨fun w0 H0 => (pe_var hN hv hd hcd).weak fun σ H Q ⟨w, c, τ, r, q⟩ => by
  have hs := r.slot i
  unfold xV at q
  cases e : τ.getD i .un with
  | val d =>
    rw [e] at q hs
    obtain ⟨v, ev, rv⟩ := hs
    exact ⟨v, slot_some (K := X.K) (w := w) (c := c) (τ := τ) ev, q w H v (.refl _ _) r.ok rv⟩
  | un => rw [e] at q; exact q.elim
  | own l => rw [e] at q; exact q.elim
  | ownd l => rw [e] at q; exact q.elim⟩
theorem be_o (i : Nat) {x : Str} {pos : Pos} (hN : X.N[i]? = some x := by rfl) (hv : Vis X.env.scope x := by first | exact Or.inl rfl | exact Or.inr (Or.inl rfl) | exact Or.inr (Or.inr rfl)) (hd : (x == ("__debug__" : Str)) = false := by decide)
    (hcd : (x == ("__classdict__" : Str)) = false := by decide) : BE X W (.Name x pos) (xO i) := ⟨fun w0 H0 => (pe_var hN hv hd hcd).weak fun σ H Q ⟨w, c, τ, r, q⟩ => by
  have hs := r.slot i
  unfold xO at q
  cases e : τ.getD i .un with
  | val d =>
    rw [e] at q hs
    obtain ⟨v, ev, rv⟩ := hs
    exact ⟨v, slot_some (K := X.K) (w := w) (c := c) (τ := τ) ev, q w H v (.refl _ _) r.ok (.of rv)⟩
  | un => rw [e] at q; exact q.elim
  | own l =>
    rw [e] at q hs
    obtain ⟨a, vs, ev, o, ha, rv⟩ := hs
    exact ⟨_, slot_some (K := X.K) (w := w) (c := c) (τ := τ) ev, q w H _ (.refl _ _) r.ok (.inr (.inl ⟨a, vs, l, rfl, rfl, o.hs, o.dr, ha, rv⟩))⟩
  | ownd l =>
    rw [e] at q hs
    obtain ⟨a, ev, o, ha⟩ := hs
    exact ⟨_, slot_some (K := X.K) (w := w) (c := c) (τ := τ) ev, q w H _ (.refl _ _) r.ok (.inr (.inr ⟨a, l, rfl, rfl, o.hs, o.dr, ha⟩))⟩⟩
/-- a module's constant -/
theorem de_gint {x : Str} {pos : Pos} {i : Int} (hg : Gl X x) (hm : ∃ t, X.mg x = some (.int i t)) (hd : (x == ("__debug__" : Str)) = false := by decide) : DE X W (.Name x pos) (xC (.int i)) := by
  obtain ⟨t, hm⟩ := hm
  exact ⟨fun _ _ => (pe_glob (v := .int i) hg hm ⟨t, rfl⟩ hd).weak fun _ _ _ h => tE_ret (fun _ => .int i) h⟩
theorem de_gstr {x : Str} {pos : Pos} {i : Str} (hg : Gl X x) (hm : ∃ t, X.mg x = some (.str i t)) (hd : (x == ("__debug__" : Str)) = false := by decide) : DE X W (.Name x pos) (xC (.str i)) := by
  obtain ⟨t, hm⟩ := hm
  exact ⟨fun _ _ => (pe_glob (v := .str i) hg hm ⟨t, rfl⟩ hd).weak fun _ _ _ h => tE_ret (fun _ => .str i) h⟩

/-! ### operators -/
/-- by values: the reading of a rule of two values holds where the function's end does -/
def RO2 (X : Cx) (W : WX) (g : D → D → M D) (r : R2) : Prop := ∀ {w : Wd} {c : Nat} {H : Hp} {σ : L2.St} {x y : V} {dx dy : D} {Q : VK}, Ok w c H → RepB X.K w H x dx → RepB X.K w H y dy → wp (g dx dy) c (FinE X w H Q) (PX X W w H σ) → r x y H Q
def RO2F (X : Cx) (W : WX) (g : D → D → M D) (r : R2) : Prop := ∀ {w : Wd} {c : Nat} {H : Hp} {σ : L2.St} {x y : V} {dx dy : D} {Q : VK}, Ok w c H → RepB X.K w H x dx → RepB X.K w H y dy → wp (g dx dy) c (FinF X w H Q) (PX X W w H σ) → r x y H Q
def RO1 (X : Cx) (W : WX) (g : D → M D) (r : V → Hp → VK → Prop) : Prop := ∀ {w : Wd} {c : Nat} {H : Hp} {σ : L2.St} {x : V} {dx : D} {Q : VK}, Ok w c H → RepB X.K w H x dx → wp (g dx) c (FinE X w H Q) (PX X W w H σ) → r x H Q
theorem op2 {g : D → D → M D} {r : R2} {fa fb : XE} (hr : RO2 X W g r) {Q : VK} (h : tE X W w0 H0 (x2 g fa fb) σ H Q) : tOp r (tB X W w0 H0 fa) (tB X W w0 H0 fb) σ H Q := by
  obtain ⟨w, c, τ, rel, q⟩ := h
  obtain ⟨w', c', τ', rel', q'⟩ := tB_bind (W := W) rel q
  refine ⟨w', c', τ', rel', wp_mono q' (fun d c2 _ k w1 H1 x e1 ok1 rx => ?_) fun _ _ _ _ k => k⟩
  obtain ⟨w2, c3, d1, e2, rel2, rx2, q2⟩ := k w1 H1 x e1 ok1 rx
  obtain ⟨w3, c4, τ3, rel3, q3⟩ := tB_bind (W := W) rel2 q2
  refine ⟨w3, c4, τ3, rel3, wp_mono q3 (fun d2 c5 _ k2 w4 H4 y e4 ok4 ry => ?_) fun _ _ _ _ k => k⟩
  obtain ⟨w5, c6, d3, e5, rel5, ry5, q5⟩ := k2 w4 H4 y e4 ok4 ry
  exact hr rel5.ok (rx2.ext e5) ry5 (wp_mono q5 (fun d c _ k w' H' v e ok r => k w' H' v ((e2.trans e5).trans e) ok r) fun _ _ _ _ k => k)
theorem op2F {g : D → D → M D} {r : R2} {fa fb : XE} (hr : RO2F X W g r) {Q : VK} (h : tF X W w0 H0 (x2 g fa fb) σ H Q) : tOp r (tB X W w0 H0 fa) (tB X W w0 H0 fb) σ H Q := by
  obtain ⟨w, c, τ, rel, q⟩ := h
  obtain ⟨w', c', τ', rel', q'⟩ := tB_bind (W := W) rel q
  refine ⟨w', c', τ', rel', wp_mono q' (fun d c2 _ k w1 H1 x e1 ok1 rx => ?_) fun _ _ _ _ k => k⟩
  obtain ⟨w2, c3, d1, e2, rel2, rx2, q2⟩ := k w1 H1 x e1 ok1 rx
  obtain ⟨w3, c4, τ3, rel3, q3⟩ := tB_bind (W := W) rel2 q2
  refine ⟨w3, c4, τ3, rel3, wp_mono q3 (fun d2 c5 _ k2 w4 H4 y e4 ok4 ry => ?_) fun _ _ _ _ k => k⟩
  obtain ⟨w5, c6, d3, e5, rel5, ry5, q5⟩ := k2 w4 H4 y e4 ok4 ry
  refine hr rel5.ok (rx2.ext e5) ry5 (wp_mono q5 (fun d c _ k w' H' v e ok r => k w' H' v ((e2.trans e5).trans e) ok ?_) fun _ _ _ _ k => k)
  obtain ⟨a, ev, n, r⟩ := r
  exact ⟨a, ev, (e2.trans e5).was_free rel.ok rel5.ok n, r⟩
theorem op1 {g : D → M D} {r : V → Hp → VK → Prop} {fa : XE} (hr : RO1 X W g r) {Q : VK} (h : tE X W w0 H0 (x1 g fa) σ H Q) : tUn r (tB X W w0 H0 fa) σ H Q := by
  obtain ⟨w, c, τ, rel, q⟩ := h
  obtain ⟨w', c', τ', rel', q'⟩ := tB_bind (W := W) rel q
  refine ⟨w', c', τ', rel', wp_mono q' (fun d c2 _ k w1 H1 x e1 ok1 rx => ?_) fun _ _ _ _ k => k⟩
  obtain ⟨w2, c3, d1, e2, rel2, rx2, q2⟩ := k w1 H1 x e1 ok1 rx
  exact hr rel2.ok rx2 (wp_mono q2 (fun d c _ k w' H' v e ok r => k w' H' v (e2.trans e) ok r) fun _ _ _ _ k => k)
theorem de_op {op : Operator} {a b : Expr} {pos : Pos} {g : D → D → M D} {r : R2} {fa fb : XE} (ho : OpR X (binaryOp op) r) (hr : RO2 X W g r) (ha : BE X W a fa) (hb : BE X W b fb) : DE X W (.BinOp a op b pos) (x2 g fa fb) :=
  ⟨fun w0 H0 => (pe_op ho (ha.ok w0 H0) (hb.ok w0 H0)).weak fun _ _ _ h => op2 hr h⟩
theorem fe_op {op : Operator} {a b : Expr} {pos : Pos} {g : D → D → M D} {r : R2} {fa fb : XE} (ho : OpR X (binaryOp op) r) (hr : RO2F X W g r) (ha : BE X W a fa) (hb : BE X W b fb) : FE X W (.BinOp a op b pos) (x2 g fa fb) :=
  ⟨fun w0 H0 => (pe_op ho (ha.ok w0 H0) (hb.ok w0 H0)).weak fun _ _ _ h => op2F hr h⟩
theorem de_cmp {op : CmpOp} {a b : Expr} {pos : Pos} {g : D → D → M D} {r : R2} {fa fb : XE} (ho : OpR X (compareOp op) r) (hr : RO2 X W g r) (ha : BE X W a fa) (hb : BE X W b fb) (hm : behindInMarks op b = false := by first | exact nomark _ | rfl) : DE X W (.Compare a [op] [b] pos) (x2 g fa fb) :=
  ⟨fun w0 H0 => (pe_cmpR ho (ha.ok w0 H0) (hb.ok w0 H0) hm).weak fun _ _ _ h => op2 hr h⟩
theorem de_un {op : UnaryOp} {a : Expr} {pos : Pos} {g : D → M D} {r : V → Hp → VK → Prop} {fa : XE} (ho : UnR X (unaryOp op) r) (hr : RO1 X W g r) (ha : BE X W a fa) : DE X W (.UnaryOp op a pos) (x1 g fa) :=
  ⟨fun w0 H0 => (pe_un ho (ha.ok w0 H0)).weak fun _ _ _ h => op1 hr h⟩

/-! ### tests -/
theorem tT_of {fa : XE} {Q : Bool → Hp → Prop} (h : tT X W w0 H0 (bV fa) σ H Q) : tTest (tE X W w0 H0 fa) σ H Q := by
  obtain ⟨w, c, τ, rel, q⟩ := h
  refine ⟨w, c, τ, rel, wp_mono (wp_bind.1 q) (fun d c' _ k w' H' v e ok rv => ?_) fun _ _ _ _ k => k⟩
  cases d with
  | bl b =>
    cases rv
    exact ⟨b, rfl, k w' H' e ok⟩
  | _ => exact k.elim
/-- an expression that gives True or False, as a test -/
theorem dt_v {a : Expr} {fa : XE} (ha : DE X W a fa) (he : ∀ whole, isTrue a X.env whole = (do let v ← whole; standAt a.pos; holding [v] (truthy v)) := by intro _; rfl) : DT X W a (bV fa) :=
  ⟨fun w0 H0 => (pt_val (ha.ok w0 H0) he).weak fun _ _ _ h => tT_of h⟩
theorem dt_cmp {op : CmpOp} {a b : Expr} {pos : Pos} {g : D → D → M D} {r : R2} {fa fb : XE} (ho : OpR X (compareOp op) r) (hr : RO2 X W g r) (ha : BE X W a fa) (hb : BE X W b fb) (hm : behindInMarks op b = false := by first | exact nomark _ | rfl) : DT X W (.Compare a [op] [b] pos) (bV (x2 g fa fb)) := by
  refine ⟨fun w0 H0 => (pt_cmpR ho (ha.ok w0 H0) (hb.ok w0 H0) hm).weak fun σ H Q h => ?_⟩
  exact op2 hr (tT_of h)
theorem tT_not {fa : XB} {Q : Bool → Hp → Prop} (h : tT X W w0 H0 (bNot fa) σ H Q) : L2.tNot (tT X W w0 H0 fa) σ H Q := by
  obtain ⟨w, c, τ, rel, q⟩ := h
  exact ⟨w, c, τ, rel, wp_mono (wp_bind.1 q) (fun b c' _ k w' H' e ok => k w' H' e ok) fun _ _ _ _ k => k⟩
theorem dt_not {a : Expr} {pos : Pos} {fa : XB} (ha : DT X W a fa) : DT X W (.UnaryOp .Not a pos) (bNot fa) := ⟨fun w0 H0 => (pt_not (ha.ok w0 H0)).weak fun _ _ _ h => tT_not h⟩
theorem tT_step {fa fb : XB} {g : Bool → M Bool → M Bool} {Q : Bool → Hp → Prop} {w : Wd} {c : Nat} {τ : Sl} (rel : Rel X.K w0 H0 w c H τ σ)
    (q : wp ((fa τ).bind fun b => g b (fb τ)) c (fun b c' => ∀ w' H', Ext w H w' H' → Ok w' c' H' → Q b H') (PX X W w H σ)) :
    tT X W w0 H0 fa σ H fun b H1 => ∃ w1 c1, Rel X.K w0 H0 w1 c1 H1 τ σ ∧ wp (g b (fb τ)) c1 (fun b c' => ∀ w' H', Ext w1 H1 w' H' → Ok w' c' H' → Q b H') (PX X W w1 H1 σ) := by
  obtain ⟨w', c', τ', rel', q'⟩ := tT_bind (W := W) rel q
  refine ⟨w', c', τ', rel', wp_mono q' (fun b c2 _ k w1 H1 e1 ok1 => ?_) fun _ _ _ _ k => k⟩
  obtain ⟨w2, c3, e2, rel2, q2⟩ := k w1 H1 e1 ok1
  exact ⟨w2, c3, rel2, wp_mono q2 (fun b c _ k w' H' e ok => k w' H' (e2.trans e) ok) fun _ _ _ _ k => k⟩
theorem tT_and {fa fb : XB} {Q : Bool → Hp → Prop} (h : tT X W w0 H0 (bAnd fa fb) σ H Q) : L2.tAnd (tT X W w0 H0 fa) (tT X W w0 H0 fb) σ H Q := by
  obtain ⟨w, c, τ, rel, q⟩ := h
  obtain ⟨w', c', τ', rel', q'⟩ := tT_step (W := W) (g := fun b m => if b then m else .ret false) rel q
  refine ⟨w', c', τ', rel', wp_mono q' (fun b c2 _ k w1 H1 e1 ok1 => ?_) fun _ _ _ _ k => k⟩
  obtain ⟨w2, c3, rel2, q2⟩ := k w1 H1 e1 ok1
  cases b with
  | true => exact ⟨w2, c3, τ, rel2, q2⟩
  | false => exact q2 w2 H1 (.refl _ _) rel2.ok
theorem tT_or {fa fb : XB} {Q : Bool → Hp → Prop} (h : tT X W w0 H0 (bOr fa fb) σ H Q) : L2.tOr (tT X W w0 H0 fa) (tT X W w0 H0 fb) σ H Q := by
  obtain ⟨w, c, τ, rel, q⟩ := h
  obtain ⟨w', c', τ', rel', q'⟩ := tT_step (W := W) (g := fun b m => if b then .ret true else m) rel q
  refine ⟨w', c', τ', rel', wp_mono q' (fun b c2 _ k w1 H1 e1 ok1 => ?_) fun _ _ _ _ k => k⟩
  obtain ⟨w2, c3, rel2, q2⟩ := k w1 H1 e1 ok1
  cases b with
  | true => exact q2 w2 H1 (.refl _ _) rel2.ok
  | false => exact ⟨w2, c3, τ, rel2, q2⟩
theorem dw_and1 {a : Expr} {pos : Pos} {fa : XB} (ha : DT X W a fa) : DW X W (.BoolOp .And [a] pos) fa := ⟨fun w0 H0 => pw_and1 (ha.ok w0 H0)⟩
theorem dw_or1 {a : Expr} {pos : Pos} {fa : XB} (ha : DT X W a fa) : DW X W (.BoolOp .Or [a] pos) fa := ⟨fun w0 H0 => pw_or1 (ha.ok w0 H0)⟩
theorem dw_and {a b : Expr} {rest : List Expr} {pos : Pos} {fa fb : XB} (ha : DT X W a fa) (hb : DW X W (.BoolOp .And (b :: rest) pos) fb) : DW X W (.BoolOp .And (a :: b :: rest) pos) (bAnd fa fb) :=
  ⟨fun w0 H0 => (pw_and (ha.ok w0 H0) (hb.ok w0 H0)).weak fun _ _ _ h => tT_and h⟩
theorem dw_or {a b : Expr} {rest : List Expr} {pos : Pos} {fa fb : XB} (ha : DT X W a fa) (hb : DW X W (.BoolOp .Or (b :: rest) pos) fb) : DW X W (.BoolOp .Or (a :: b :: rest) pos) (bOr fa fb) :=
  ⟨fun w0 H0 => (pw_or (ha.ok w0 H0) (hb.ok w0 H0)).weak fun _ _ _ h => tT_or h⟩
theorem DW.t {a : Expr} {fa : XB} (h : DW X W a fa) : DT X W a fa := ⟨fun w0 H0 => (h.ok w0 H0).pt⟩

/-! ### and, or, not, if as values -/
theorem tE_and {fa fb : XE} {Q : VK} (h : tE X W w0 H0 (xAnd fa fb) σ H Q) : tAndV (tE X W w0 H0 fa) (tE X W w0 H0 fb) σ H Q := by
  obtain ⟨w, c, τ, rel, q⟩ := h
  obtain ⟨w', c', τ', rel', q'⟩ := tE_bind (W := W) rel q
  refine ⟨w', c', τ', rel', wp_mono q' (fun d c2 _ k w1 H1 v e1 ok1 rv => ?_) fun _ _ _ _ k => k⟩
  obtain ⟨w2, c3, d2, e2, rel2, rv2, q2⟩ := k w1 H1 v e1 ok1 rv
  cases d2 with
  | bl b =>
    cases rv2
    refine ⟨b, rfl, ?_⟩
    cases b with
    | true => exact ⟨w2, c3, τ, rel2, wp_mono q2 (fun d c _ k w' H' v e ok r => k w' H' v (e2.trans e) ok r) fun _ _ _ _ k => k⟩
    | false => exact q2 w2 H1 _ e2 rel2.ok (.bl false)
  | _ => exact q2.elim
theorem tE_or {fa fb : XE} {Q : VK} (h : tE X W w0 H0 (xOr fa fb) σ H Q) : tOrV (tE X W w0 H0 fa) (tE X W w0 H0 fb) σ H Q := by
  obtain ⟨w, c, τ, rel, q⟩ := h
  obtain ⟨w', c', τ', rel', q'⟩ := tE_bind (W := W) rel q
  refine ⟨w', c', τ', rel', wp_mono q' (fun d c2 _ k w1 H1 v e1 ok1 rv => ?_) fun _ _ _ _ k => k⟩
  obtain ⟨w2, c3, d2, e2, rel2, rv2, q2⟩ := k w1 H1 v e1 ok1 rv
  cases d2 with
  | bl b =>
    cases rv2
    refine ⟨b, rfl, ?_⟩
    cases b with
    | true => exact q2 w2 H1 _ e2 rel2.ok (.bl true)
    | false => exact ⟨w2, c3, τ, rel2, wp_mono q2 (fun d c _ k w' H' v e ok r => k w' H' v (e2.trans e) ok r) fun _ _ _ _ k => k⟩
  | _ => exact q2.elim
theorem de_one {op : BoolOp} {a : Expr} {pos : Pos} {fa : XE} (ha : DE X W a fa) : DE X W (.BoolOp op [a] pos) fa := ⟨fun w0 H0 => pe_one (ha.ok w0 H0)⟩
theorem de_and {a b : Expr} {rest : List Expr} {pos : Pos} {fa fb : XE} (ha : DE X W a fa) (hb : DE X W (.BoolOp .And (b :: rest) pos) fb) : DE X W (.BoolOp .And (a :: b :: rest) pos) (xAnd fa fb) :=
  ⟨fun w0 H0 => (pe_and (ha.ok w0 H0) (hb.ok w0 H0)).weak fun _ _ _ h => tE_and h⟩
theorem de_or {a b : Expr} {rest : List Expr} {pos : Pos} {fa fb : XE} (ha : DE X W a fa) (hb : DE X W (.BoolOp .Or (b :: rest) pos) fb) : DE X W (.BoolOp .Or (a :: b :: rest) pos) (xOr fa fb) :=
  ⟨fun w0 H0 => (pe_or (ha.ok w0 H0) (hb.ok w0 H0)).weak fun _ _ _ h => tE_or h⟩
theorem tE_not {fa : XE} {Q : VK} (h : tE X W w0 H0 (xNot (bV fa)) σ H Q) : tNotV (tE X W w0 H0 fa) σ H Q := by
  obtain ⟨w, c, τ, rel, q⟩ := h
  have q1 : wp ((fa τ).bind fun d => (asB d).bind fun b => .ret (.bl (!b))) c (FinE X w H Q) (PX X W w H σ) := by
    have e : xNot (bV fa) τ = (fa τ).bind fun d => (asB d).bind fun b => .ret (.bl (!b)) := by
      unfold xNot bV
      rw [M.bind_assoc]
    rw [← e]; exact q
  refine ⟨w, c, τ, rel, wp_mono (wp_bind.1 q1) (fun d c' _ k w' H' v e ok rv => ?_) fun _ _ _ _ k => k⟩
  cases d with
  | bl b =>
    cases rv
    exact ⟨b, rfl, k w' H' _ e ok (.bl (!b))⟩
  | _ => exact k.elim
theorem de_not {a : Expr} {pos : Pos} {fa : XE} (ha : DE X W a fa) : DE X W (.UnaryOp .Not a pos) (xNot (bV fa)) := ⟨fun w0 H0 => (pe_not (ha.ok w0 H0)).weak fun _ _ _ h => tE_not h⟩
theorem de_if {t a b : Expr} {pos : Pos} {ft : XB} {fa fb : XE} (ht : DT X W t ft) (ha : DE X W a fa) (hb : DE X W b fb) : DE X W (.IfExp t a b pos) (xIf ft fa fb) := by
  refine ⟨fun w0 H0 => (pe_ifExp (ht.ok w0 H0) (ha.ok w0 H0) (hb.ok w0 H0)).weak fun σ H Q h => ?_⟩
  obtain ⟨w, c, τ, rel, q⟩ := h
  obtain ⟨w', c', τ', rel', q'⟩ := tT_bind (W := W) rel q
  refine ⟨w', c', τ', rel', wp_mono q' (fun d c2 _ k w1 H1 e1 ok1 => ?_) fun _ _ _ _ k => k⟩
  obtain ⟨w2, c3, e2, rel2, q2⟩ := k w1 H1 e1 ok1
  cases d with
  | true => exact ⟨w2, c3, τ, rel2, wp_mono q2 (fun d c _ k w' H' v e ok r => k w' H' v (e2.trans e) ok r) fun _ _ _ _ k => k⟩
  | false => exact ⟨w2, c3, τ, rel2, wp_mono q2 (fun d c _ k w' H' v e ok r => k w' H' v (e2.trans e) ok r) fun _ _ _ _ k => k⟩
theorem be_if {t a b : Expr} {pos : Pos} {ft : XB} {fa fb : XE} (ht : DT X W t ft) (ha : BE X W a fa) (hb : BE X W b fb) : BE X W (.IfExp t a b pos) (xIf ft fa fb) := by
  refine ⟨fun w0 H0 => (pe_ifExp (ht.ok w0 H0) (ha.ok w0 H0) (hb.ok w0 H0)).weak fun σ H Q h => ?_⟩
  obtain ⟨w, c, τ, rel, q⟩ := h
  obtain ⟨w', c', τ', rel', q'⟩ := tT_bind (W := W) rel q
  refine ⟨w', c', τ', rel', wp_mono q' (fun d c2 _ k w1 H1 e1 ok1 => ?_) fun _ _ _ _ k => k⟩
  obtain ⟨w2, c3, e2, rel2, q2⟩ := k w1 H1 e1 ok1
  cases d with
  | true => exact ⟨w2, c3, τ, rel2, wp_mono q2 (fun d c _ k w' H' v e ok r => k w' H' v (e2.trans e) ok r) fun _ _ _ _ k => k⟩
  | false => exact ⟨w2, c3, τ, rel2, wp_mono q2 (fun d c _ k w' H' v e ok r => k w' H' v (e2.trans e) ok r) fun _ _ _ _ k => k⟩
end
end Mn

set_option Elab.async false
set_option linter.all false
set_option autoImplicit false
set_option maxRecDepth 100000
set_option maxHeartbeats 2000000
/-! Mn4: operators, comparisons, subscripts, built-ins, by values. -/
namespace Mn
open PySem PySem.Spec PyProof.Rows L2
theorem line_eq : line = sizeLine := by rw [sizeLine_eq]; rfl
section
variable {X : Cx} {W : WX} {w : Wd} {c : Nat} {H : Hp} {σ : L2.St} {Q : VK}
/-! ### what stands behind data -/
section
variable {K : PySem.W.Frag} {v : V}
theorem RepB.int {i : Int} (h : RepB K w H v (.int i)) : v = .int i := by
  rcases h with h | ⟨a, vs, l, e1, e2, _⟩ | ⟨a, l, e1, e2, _⟩
  · cases h; rfl
  · cases e2
  · cases e2
theorem RepB.str {i : Str} (h : RepB K w H v (.str i)) : v = .str i := by
  rcases h with h | ⟨a, vs, l, e1, e2, _⟩ | ⟨a, l, e1, e2, _⟩
  · cases h; rfl
  · cases e2
  · cases e2
theorem RepB.bl {i : Bool} (h : RepB K w H v (.bl i)) : v = .bl i := by
  rcases h with h | ⟨a, vs, l, e1, e2, _⟩ | ⟨a, l, e1, e2, _⟩
  · cases h; rfl
  · cases e2
  · cases e2
theorem RepB.non (h : RepB K w H v .non) : v = .non := by
  rcases h with h | ⟨a, vs, l, e1, e2, _⟩ | ⟨a, l, e1, e2, _⟩
  · cases h; rfl
  · cases e2
  · cases e2
theorem RepB.lst (ok : Ok w c H) {l : List D} (h : RepB K w H v (.lst l)) : ∃ a vs, v = .ref a ∧ H a = some (.lst vs) ∧ Reps K w vs l := by
  rcases h with h | ⟨a, vs, l', e1, e2, _, _, h3, r⟩ | ⟨a, l', e1, e2, _⟩
  · cases h with
    | lst q r => exact ⟨_, _, rfl, ok.sub _ _ q, r⟩
  · cases e2
    exact ⟨a, vs, e1, h3, r⟩
  · cases e2
theorem RepB.tup (ok : Ok w c H) {l : List D} (h : RepB K w H v (.tup l)) : ∃ a vs, v = .ref a ∧ SqT K H a vs ∧ Reps K w vs l := by
  rcases h with h | ⟨a, vs, l', e1, e2, _⟩ | ⟨a, l', e1, e2, _⟩
  · cases h with
    | tup q r => exact ⟨_, _, rfl, same_seqT ok.sub q, r⟩
  · cases e2
  · cases e2
theorem Reps.ints : ∀ {vs : List V} {l : List D} {ns : List Int}, Reps K w vs l → intsOf l = some ns → vs = ns.map V.int
  | _, _, ns, .nil, e => by
    cases e; rfl
  | _, _, ns, .cons (d := d) (ds := ds) r t, e => by
    cases d with
    | int i =>
      cases r
      unfold intsOf at e
      cases q : intsOf ds with
      | none => rw [q] at e; cases e
      | some ms =>
        rw [q] at e
        cases e
        rw [Reps.ints t q]; rfl
    | _ => cases e
theorem Reps.buls : ∀ {vs : List V} {l : List D} {ns : List Bool}, Reps K w vs l → bulsOf l = some ns → vs = ns.map V.bl
  | _, _, ns, .nil, e => by
    cases e; rfl
  | _, _, ns, .cons (d := d) (ds := ds) r t, e => by
    cases d with
    | bl i =>
      cases r
      unfold bulsOf at e
      cases q : bulsOf ds with
      | none => rw [q] at e; cases e
      | some ms =>
        rw [q] at e
        cases e
        rw [Reps.buls t q]; rfl
    | _ => cases e
theorem reps_ints : ∀ (ns : List Int), Reps K w (ns.map V.int) (ns.map D.int)
  | [] => .nil
  | n :: r => .cons (.int n) (reps_ints r)
end
/-! ### ends -/
theorem FinE.here {d : D} {v : V} (h : FinE X w H Q d c) (ok : Ok w c H) (r : Rep X.K w v d) : Q v H := h w H v (.refl _ _) ok r
theorem FinE.tup {l : List D} {vs : List V} (h : FinE X w H Q (.tup l) c) (ok : Ok w c H) (r : Reps X.K w vs l) {p : Addr} (n : H p = none) : Q (.ref p) (upd H p (.tup vs)) := by
  obtain ⟨k1, k2⟩ := ok.laid n (.tup vs)
  refine h _ _ _ k2 k1 (.tup (.inl (.inl ?_)) (r.le k2.le))
  show upd w.hs p _ p = _
  rw [upd_same]
theorem FinE.lst {l : List D} {vs : List V} (h : FinE X w H Q (.lst l) c) (ok : Ok w c H) (r : Reps X.K w vs l) {p : Addr} (n : H p = none) : Q (.ref p) (upd H p (.lst vs)) := by
  obtain ⟨k1, k2⟩ := ok.laid n (.lst vs)
  refine h _ _ _ k2 k1 (.lst ?_ (r.le k2.le))
  show upd w.hs p _ p = _
  rw [upd_same]
theorem FinF.lst {l : List D} {vs : List V} (h : FinF X w H Q (.lst l) c) (ok : Ok w c H) (r : Reps X.K w vs l) {p : Addr} (n : H p = none) : Q (.ref p) (upd H p (.lst vs)) := by
  obtain ⟨k1, k2⟩ := ok.made n (.lst vs)
  obtain ⟨n1, n2⟩ := ok.fresh n
  exact h _ _ _ k2 k1 ⟨p, rfl, n, n1, n2, .inl ⟨vs, l, rfl, by rw [upd_same], r⟩⟩
theorem ite_ret {α : Type} {b : Prop} [Decidable b] {m : M α} {Qr : α → Nat → Prop} {E : String → List D → Nat → Prop} (h : wp (if b then m else .stk) c Qr E) : b ∧ wp m c Qr E := by
  by_cases hb : b
  · rw [if_pos hb] at h; exact ⟨hb, h⟩
  · rw [if_neg hb] at h; exact h.elim
theorem ite_retB {α : Type} {b : Bool} {m : M α} {Qr : α → Nat → Prop} {E : String → List D → Nat → Prop} (h : wp (if b = true then m else .stk) c Qr E) : b = true ∧ wp m c Qr E := ite_ret h

/-! ### + - * % // ** -/
def rAddA (K : PySem.W.Frag) : R2 := fun x y H Q => rI0 (fun i j => .int (i + j)) x y H Q ∨ ((∃ i j, x = .str i ∧ y = .str j ∧ i.length + j.length ≤ sizeLine ∧ Q (.str (i ++ j)) H) ∨ (rCatA K x y H Q ∨ rCat x y H Q))
theorem op_addA : OpR X (binaryOp .Add) (rAddA X.K) := op_add.or (op_add_str.or (op_catA.or op_cat))
theorem ro_add : RO2 X W gAdd (rAddA X.K) := by
  intro w c H σ x y dx dy Q ok hx hy h
  cases dx with
  | int i =>
    cases dy with
    | int j =>
      cases hx.int; cases hy.int
      exact .inl ⟨i, j, rfl, rfl, FinE.here h ok (.int _)⟩
    | _ => exact h.elim
  | str i =>
    cases dy with
    | str j =>
      cases hx.str; cases hy.str
      obtain ⟨h1, h⟩ := ite_ret h
      exact .inr (.inl ⟨i, j, rfl, rfl, by rw [← line_eq]; exact h1, FinE.here h ok (.str _)⟩)
    | _ => exact h.elim
  | tup l =>
    cases dy with
    | tup m =>
      obtain ⟨a, vs, rfl, ha, ra⟩ := hx.tup ok
      obtain ⟨b, us, rfl, hb, rb⟩ := hy.tup ok
      obtain ⟨h1, h⟩ := ite_ret h
      refine .inr (.inr (.inl ⟨a, b, vs, us, rfl, rfl, ha, hb, by rw [ra.length, rb.length, ← line_eq]; exact h1, fun e => ?_, fun _ e => ?_, fun _ _ p n => FinE.tup h ok (ra.append rb) n⟩))
      · subst e
        cases ra
        have h' : FinE X w H Q (.tup m) c := h
        rcases hy with hy | ⟨_, _, _, _, e2, _⟩ | ⟨_, _, _, e2, _⟩
        · exact h'.here ok hy
        · cases e2
        · cases e2
      · subst e
        cases rb
        have h' : FinE X w H Q (.tup l) c := by
          have e : l ++ [] = l := List.append_nil l
          rw [e] at h; exact h
        rcases hx with hx | ⟨_, _, _, _, e2, _⟩ | ⟨_, _, _, e2, _⟩
        · exact h'.here ok hx
        · cases e2
        · cases e2
    | _ => exact h.elim
  | lst l =>
    cases dy with
    | lst m =>
      obtain ⟨a, vs, rfl, ha, ra⟩ := hx.lst ok
      obtain ⟨b, us, rfl, hb, rb⟩ := hy.lst ok
      obtain ⟨h1, h⟩ := ite_ret h
      exact .inr (.inr (.inr ⟨a, b, vs, us, rfl, rfl, ha, hb, by rw [ra.length, rb.length, ← line_eq]; exact h1, fun p n => FinE.lst h ok (ra.append rb) n⟩))
    | _ => exact h.elim
  | _ => exact h.elim
/-- a list kept as one's own -/
theorem ro_cat : RO2F X W gCat rCat := by
  intro w c H σ x y dx dy Q ok hx hy h
  cases dx with
  | lst l =>
    cases dy with
    | lst m =>
      obtain ⟨a, vs, rfl, ha, ra⟩ := hx.lst ok
      obtain ⟨b, us, rfl, hb, rb⟩ := hy.lst ok
      obtain ⟨h1, h⟩ := ite_ret h
      exact ⟨a, b, vs, us, rfl, rfl, ha, hb, by rw [ra.length, rb.length, ← line_eq]; exact h1, fun p n => FinF.lst h ok (ra.append rb) n⟩
    | _ => exact h.elim
  | _ => exact h.elim
theorem ro_sub : RO2 X W gSub (rI0 fun i j => .int (i - j)) := by
  intro w c H σ x y dx dy Q ok hx hy h
  cases dx with
  | int i =>
    cases dy with
    | int j =>
      cases hx.int; cases hy.int
      exact ⟨i, j, rfl, rfl, FinE.here h ok (.int _)⟩
    | _ => exact h.elim
  | _ => exact h.elim
theorem small_ok {i : Int} (h : small i = true) : -(2 ^ 64) < i ∧ i < 2 ^ 64 := by
  unfold small at h
  simp only [Bool.and_eq_true, decide_eq_true_eq] at h
  omega
theorem ro_mul : RO2 X W gMul (rI CMul fun i j => .int (i * j)) := by
  intro w c H σ x y dx dy Q ok hx hy h
  cases dx with
  | int i =>
    cases dy with
    | int j =>
      cases hx.int; cases hy.int
      obtain ⟨h1, h⟩ := ite_ret h
      refine ⟨i, j, rfl, rfl, ?_, FinE.here h ok (.int _)⟩
      rcases Bool.or_eq_true_iff.mp h1 with h1 | h1
      · exact .inl (small_ok h1)
      · exact .inr (small_ok h1)
    | _ => exact h.elim
  | _ => exact h.elim
theorem ro_mod : RO2 X W gMod (rI (fun _ j => 0 < j) fun i j => .int (i % j)) := by
  intro w c H σ x y dx dy Q ok hx hy h
  cases dx with
  | int i =>
    cases dy with
    | int j =>
      cases hx.int; cases hy.int
      obtain ⟨h1, h⟩ := ite_ret h
      exact ⟨i, j, rfl, rfl, h1, FinE.here h ok (.int _)⟩
    | _ => exact h.elim
  | _ => exact h.elim
theorem ro_fdiv : RO2 X W gFdiv (rI CDiv fun i j => .int (i / j)) := by
  intro w c H σ x y dx dy Q ok hx hy h
  cases dx with
  | int i =>
    cases dy with
    | int j =>
      cases hx.int; cases hy.int
      obtain ⟨h1, h⟩ := ite_ret h
      exact ⟨i, j, rfl, rfl, ⟨h1.1, by omega⟩, FinE.here h ok (.int _)⟩
    | _ => exact h.elim
  | _ => exact h.elim
theorem ro_pow : RO2 X W gPow (rI CPow fun i j => .int (i ^ j.toNat)) := by
  intro w c H σ x y dx dy Q ok hx hy h
  cases dx with
  | int i =>
    cases dy with
    | int j =>
      cases hx.int; cases hy.int
      obtain ⟨h1, h⟩ := ite_ret h
      have h2 := small_ok h1.2.2
      exact ⟨i, j, rfl, rfl, ⟨h1.1, by omega, by omega⟩, FinE.here h ok (.int _)⟩
    | _ => exact h.elim
  | _ => exact h.elim
theorem ro_neg : RO1 X W gNeg (rU fun i => .int (-i)) := by
  intro w c H σ x dx Q ok hx h
  cases dx with
  | int i =>
    cases hx.int
    exact ⟨i, rfl, FinE.here h ok (.int _)⟩
  | _ => exact h.elim
theorem Reps.rep {K : PySem.W.Frag} {vs : List V} {ds : List D} (h : Reps K w vs ds) : ∀ n : Nat, Reps K w (List.replicate n vs).flatten (List.replicate n ds).flatten
  | 0 => .nil
  | n + 1 => by
    rw [List.replicate_succ, List.replicate_succ, List.flatten_cons, List.flatten_cons]
    exact h.append (Reps.rep h n)
def rRepA (K : PySem.W.Frag) : R2 := fun x y H Q => rRep x y H Q ∨ rRepT K x y H Q
theorem op_repA : OpR X (binaryOp .Mult) (rRepA X.K) := op_rep.or op_repT
theorem ro_rep : RO2 X W gRep (rRepA X.K) := by
  intro w c H σ x y dx dy Q ok hx hy h
  cases dx with
  | lst l =>
    cases dy with
    | int j =>
      cases hy.int
      obtain ⟨a, vs, rfl, ha, ra⟩ := hx.lst ok
      obtain ⟨h1, h⟩ := ite_ret h
      refine .inl ⟨a, j, vs, rfl, rfl, ha, by omega, by omega, ?_, fun p n => FinE.lst h ok (ra.rep j.toNat) n⟩
      rw [sizeLine_eq, ra.length]
      have a1 : l.length * j.toNat ≤ 1000 * 1000 := Nat.mul_le_mul h1.2.2 (by omega)
      omega
    | _ => exact h.elim
  | tup l =>
    cases dy with
    | int j =>
      cases hy.int
      obtain ⟨a, vs, rfl, ha, ra⟩ := hx.tup ok
      obtain ⟨h1, h⟩ := ite_ret h
      have hl := ra.length
      refine .inr ⟨a, j, vs, rfl, rfl, ha, fun e => ?_, by omega, by omega, by omega, fun p n => FinE.tup h ok (ra.rep j.toNat) n⟩
      rw [e] at hl
      cases l with
      | nil => exact absurd h1.2.2.2 (by decide)
      | cons _ _ => cases hl
    | _ => exact h.elim
  | _ => exact h.elim

/-! ### < <= > >= is -/
theorem ro_cmp {p : Int → Int → Bool} {r : R2} (hr : ∀ i j H Q, Q (.bl (p i j)) H → r (.int i) (.int j) H Q) : RO2 X W (gCmp p) r := by
  intro w c H σ x y dx dy Q ok hx hy h
  cases dx with
  | int i =>
    cases dy with
    | int j =>
      cases hx.int; cases hy.int
      exact hr i j H Q (FinE.here h ok (.bl _))
    | _ => exact h.elim
  | _ => exact h.elim
theorem ro_lt : RO2 X W gLt (rI0 fun i j => .bl (decide (i < j))) := ro_cmp fun i j H Q q => ⟨i, j, rfl, rfl, q⟩
theorem ro_le : RO2 X W gLe (rI0 fun i j => .bl (decide (i ≤ j))) := ro_cmp fun i j H Q q => ⟨i, j, rfl, rfl, q⟩
theorem ro_gt : RO2 X W gGt (rI0 fun i j => .bl (decide (j < i))) := ro_cmp fun i j H Q q => ⟨i, j, rfl, rfl, q⟩
theorem ro_ge : RO2 X W gGe (rI0 fun i j => .bl (decide (j ≤ i))) := ro_cmp fun i j H Q q => ⟨i, j, rfl, rfl, q⟩
theorem isNon_of {K : PySem.W.Frag} {x : V} {d : D} (h : RepB K w H x d) : decide (x = .non) = isNon d := by
  rcases h with h | ⟨a, vs, l, rfl, rfl, _⟩ | ⟨a, l, rfl, rfl, _⟩
  · cases h <;> rfl
  · rfl
  · rfl
theorem ro_isN : RO2 X W gIsN (fun x y H Q => y = .non ∧ Q (.bl (decide (x = .non))) H) := by
  intro w c H σ x y dx dy Q ok hx hy h
  cases dy with
  | non =>
    refine ⟨hy.non, ?_⟩
    rw [isNon_of hx]
    exact FinE.here h ok (.bl _)
  | _ => exact h.elim
theorem ro_isNotN : RO2 X W gIsNotN (fun x y H Q => y = .non ∧ Q (.bl (!decide (x = .non))) H) := by
  intro w c H σ x y dx dy Q ok hx hy h
  cases dy with
  | non =>
    refine ⟨hy.non, ?_⟩
    rw [isNon_of hx]
    exact FinE.here h ok (.bl _)
  | _ => exact h.elim
theorem ro_isB : RO2 X W gIsB (fun x y H Q => ∃ a b, x = .bl a ∧ y = .bl b ∧ Q (.bl (decide (a = b))) H) := by
  intro w c H σ x y dx dy Q ok hx hy h
  cases dx with
  | bl i =>
    cases dy with
    | bl j =>
      refine ⟨i, j, hx.bl, hy.bl, ?_⟩
      have e : decide (i = j) = (i == j) := by cases i <;> cases j <;> rfl
      rw [e]
      exact FinE.here h ok (.bl _)
    | _ => exact h.elim
  | _ => exact h.elim
theorem ro_isNotB : RO2 X W gIsNotB (fun x y H Q => ∃ a b, x = .bl a ∧ y = .bl b ∧ Q (.bl (!decide (a = b))) H) := by
  intro w c H σ x y dx dy Q ok hx hy h
  cases dx with
  | bl i =>
    cases dy with
    | bl j =>
      refine ⟨i, j, hx.bl, hy.bl, ?_⟩
      have e : decide (i = j) = (i == j) := by cases i <;> cases j <;> rfl
      rw [e]
      exact FinE.here h ok (.bl _)
    | _ => exact h.elim
  | _ => exact h.elim

/-! ### == != in -/
mutual
def toP : D → PyData
  | .non => .none
  | .bl b => .bool b
  | .int i => .int i
  | .str s => .str s
  | .tup l => .tuple (toPs l)
  | .lst l => .list (toPs l)
  | .dct _ => .none
  | .st => .none
  | .scr _ => .none
  | .obj _ => .none
def toPs : List D → List PyData
  | [] => []
  | d :: ds => toP d :: toPs ds
end
theorem strEq_eq (a b : Str) : strEq a b = (a == b) := by
  unfold strEq
  by_cases h : a = b
  · subst h; simp
  · have h2 : ¬ a.cps.toList = b.cps.toList := fun e => h (by
      cases a with | mk x => cases b with | mk y =>
      have e' : x = y := by
        have q : x.toList = y.toList := e
        exact Array.toList_inj.mp q
      rw [e'])
    rw [beq_eq_false_iff_ne.mpr h2, beq_eq_false_iff_ne.mpr h]
mutual
theorem pyEq_eq : ∀ (a b : D) (n m : Nat), flat n a = true → flat m b = true → pyEq a b = PyData.eqv (toP a) (toP b)
  | .non, b, n, m, h1, h2 => by
    cases b with
    | dct _ => cases m <;> cases h2
    | st => cases m <;> cases h2
    | scr _ => cases m <;> cases h2
    | obj _ => cases m <;> cases h2
    | _ => simp [pyEq, toP, PyData.eqv]
  | .bl x, b, n, m, h1, h2 => by
    cases b with
    | dct _ => cases m <;> cases h2
    | st => cases m <;> cases h2
    | scr _ => cases m <;> cases h2
    | obj _ => cases m <;> cases h2
    | _ => simp [pyEq, toP, PyData.eqv]
  | .int x, b, n, m, h1, h2 => by
    cases b with
    | dct _ => cases m <;> cases h2
    | st => cases m <;> cases h2
    | scr _ => cases m <;> cases h2
    | obj _ => cases m <;> cases h2
    | _ => simp [pyEq, toP, PyData.eqv]
  | .str x, b, n, m, h1, h2 => by
    cases b with
    | dct _ => cases m <;> cases h2
    | st => cases m <;> cases h2
    | scr _ => cases m <;> cases h2
    | obj _ => cases m <;> cases h2
    | str y => simp only [pyEq, toP, PyData.eqv]; exact strEq_eq x y
    | _ => simp [pyEq, toP, PyData.eqv]
  | .tup x, b, n, m, h1, h2 => by
    cases b with
    | dct _ => cases m <;> cases h2
    | st => cases m <;> cases h2
    | scr _ => cases m <;> cases h2
    | obj _ => cases m <;> cases h2
    | tup y =>
      cases n with
      | zero => cases h1
      | succ n =>
        cases m with
        | zero => cases h2
        | succ m =>
          simp only [pyEq, toP, PyData.eqv]
          exact pyEqs_eq x y n m h1 h2
    | _ => simp [pyEq, toP, PyData.eqv]
  | .lst x, b, n, m, h1, h2 => by
    cases b with
    | dct _ => cases m <;> cases h2
    | st => cases m <;> cases h2
    | scr _ => cases m <;> cases h2
    | obj _ => cases m <;> cases h2
    | lst y =>
      cases n with
      | zero => cases h1
      | succ n =>
        cases m with
        | zero => cases h2
        | succ m =>
          simp only [pyEq, toP, PyData.eqv]
          exact pyEqs_eq x y n m h1 h2
    | _ => simp [pyEq, toP, PyData.eqv]
  | .dct x, b, n, m, h1, h2 => by cases n <;> cases h1
  | .st, b, n, m, h1, h2 => by cases n <;> cases h1
  | .scr _, b, n, m, h1, h2 => by cases n <;> cases h1
  | .obj _, b, n, m, h1, h2 => by cases n <;> cases h1
theorem pyEqs_eq : ∀ (a b : List D) (n m : Nat), flats n a = true → flats m b = true → pyEqs a b = PyData.eqvAll (toPs a) (toPs b)
  | [], [], _, _, _, _ => by simp [pyEqs, toPs, PyData.eqvAll]
  | [], _ :: _, _, _, _, _ => by simp [pyEqs, toPs, PyData.eqvAll]
  | _ :: _, [], _, _, _, _ => by simp [pyEqs, toPs, PyData.eqvAll]
  | x :: xs, y :: ys, n, m, h1, h2 => by
    have a1 := Bool.and_eq_true_iff.mp (show (flat n x && flats n xs) = true by simpa [flats] using h1)
    have a2 := Bool.and_eq_true_iff.mp (show (flat m y && flats m ys) = true by simpa [flats] using h2)
    simp only [pyEqs, toPs, PyData.eqvAll]
    rw [pyEq_eq x y n m a1.1 a2.1, pyEqs_eq xs ys n m a1.2 a2.2]
end
theorem flats_cons {n : Nat} {x : D} {xs : List D} (h : flats n (x :: xs) = true) : flat n x = true ∧ flats n xs = true :=
  Bool.and_eq_true_iff.mp (show (flat n x && flats n xs) = true by simpa [flats] using h)
mutual
theorem rep_dp {K : PySem.W.Frag} (sub : Same w.hs H) : ∀ {v : V} {d : D} (n : Nat), Rep K w v d → flat n d = true → Dp K H v (toP d)
  | _, _, _, .non, _ => by simp only [toP]; exact .non
  | _, _, _, .bl b, _ => by simp only [toP]; exact .bl b
  | _, _, _, .int i, _ => by simp only [toP]; exact .int i
  | _, _, _, .str s, _ => by simp only [toP]; exact .str s
  | _, _, 0, .tup q r, h => by cases h
  | _, _, n + 1, .tup q r, h => by simp only [toP]; exact .tup (same_seqT sub q) (reps_dp sub n r h)
  | _, _, 0, .lst q r, h => by cases h
  | _, _, n + 1, .lst q r, h => by simp only [toP]; exact .lst (.inl (.inl (sub _ _ q))) (reps_dp sub n r h)
  | _, _, n, .dk q r, h => by cases n <;> cases h
  | _, _, n, .dt _ q r, h => by cases n <;> cases h
  | _, _, n, .st q, h => by cases n <;> cases h
  | _, _, n, .scr q, h => by cases n <;> cases h
theorem reps_dp {K : PySem.W.Frag} (sub : Same w.hs H) : ∀ {v : List V} {d : List D} (n : Nat), Reps K w v d → flats n d = true → DpAll K H v (toPs d)
  | _, _, _, .nil, _ => by simp only [toPs]; exact .nil
  | _, _, n, .cons r t, h => by
    simp only [toPs]
    exact .cons (rep_dp sub n r (flats_cons h).1) (reps_dp sub n t (flats_cons h).2)
end
theorem repB_dp {K : PySem.W.Frag} (ok : Ok w c H) {v : V} {d : D} {n : Nat} (h : RepB K w H v d) (f : flat n d = true) : Dp K H v (toP d) := by
  rcases h with h | ⟨a, vs, l, rfl, rfl, _, _, h3, r⟩ | ⟨a, l, rfl, rfl, _⟩
  · exact rep_dp ok.sub n h f
  · cases n with
    | zero => cases f
    | succ n => simp only [toP]; exact .lst (.inl (.inl h3)) (reps_dp ok.sub n r f)
  · cases n <;> cases f
theorem okStr_ok {s : Str} (h : okStr s = true) : PySem.PyData.strOk s = true := by
  unfold okStr at h
  unfold PySem.PyData.strOk
  rw [← Array.all_toList]
  exact h
mutual
theorem lay_of : ∀ (d : D) (n : Nat), flat n d = true → PyData.canLay0 (toP d) = true
  | .non, _, _ => by simp [toP, PyData.canLay0]
  | .bl _, _, _ => by simp [toP, PyData.canLay0]
  | .int _, _, _ => by simp [toP, PyData.canLay0]
  | .str s, n, h => by
    simp only [toP, PyData.canLay0]
    exact okStr_ok (by cases n <;> exact h)
  | .tup l, 0, h => by cases h
  | .tup l, n + 1, h => by simp only [toP, PyData.canLay0]; exact lays_of l n h
  | .lst l, 0, h => by cases h
  | .lst l, n + 1, h => by simp only [toP, PyData.canLay0]; exact lays_of l n h
  | .dct _, n, h => by cases n <;> cases h
  | .st, n, h => by cases n <;> cases h
  | .scr _, n, h => by cases n <;> cases h
  | .obj _, n, h => by cases n <;> cases h
theorem lays_of : ∀ (d : List D) (n : Nat), flats n d = true → PyData.canLayAll0 (toPs d) = true
  | [], _, _ => by simp [toPs, PyData.canLayAll0]
  | x :: xs, n, h => by
    simp only [toPs, PyData.canLayAll0]
    rw [lay_of x n (flats_cons h).1, lays_of xs n (flats_cons h).2]; rfl
end
mutual
theorem depth_of : ∀ (d : D) (n : Nat), flat n d = true → PyData.depth (toP d) ≤ n
  | .non, _, _ => by simp [toP, PyData.depth]
  | .bl _, _, _ => by simp [toP, PyData.depth]
  | .int _, _, _ => by simp [toP, PyData.depth]
  | .str s, n, h => by simp [toP, PyData.depth]
  | .tup l, 0, h => by cases h
  | .tup l, n + 1, h => by
    have := depths_of l n h
    simp only [toP, PyData.depth]; omega
  | .lst l, 0, h => by cases h
  | .lst l, n + 1, h => by
    have := depths_of l n h
    simp only [toP, PyData.depth]; omega
  | .dct _, n, h => by cases n <;> cases h
  | .st, n, h => by cases n <;> cases h
  | .scr _, n, h => by cases n <;> cases h
  | .obj _, n, h => by cases n <;> cases h
theorem depths_of : ∀ (d : List D) (n : Nat), flats n d = true → PyData.depthAll (toPs d) ≤ n
  | [], _, _ => by simp [toPs, PyData.depthAll]
  | x :: xs, n, h => by
    have h1 := depth_of x n (flats_cons h).1
    have h2 := depths_of xs n (flats_cons h).2
    simp only [toPs, PyData.depthAll]; omega
end
theorem shaped_of {d : D} {n : Nat} (h : flat n d = true) (hn : n ≤ 64) : SeqAt.shaped (toP d) = true := by
  unfold SeqAt.shaped
  rw [lay_of d n h, decide_eq_true (Nat.le_trans (depth_of d n h) hn)]; rfl
theorem ro_eq : RO2 X W gEq (rEqD X.K) := by
  intro w c H σ x y dx dy Q ok hx hy h
  obtain ⟨h1, h⟩ := ite_ret h
  obtain ⟨a, b⟩ := Bool.and_eq_true_iff.mp h1
  refine ⟨toP dx, toP dy, repB_dp ok hx a, repB_dp ok hy b, shaped_of a (by decide), shaped_of b (by decide), ?_⟩
  rw [← pyEq_eq dx dy _ _ a b]
  exact FinE.here h ok (.bl _)
theorem ro_ne : RO2 X W gNe (rNeD X.K) := by
  intro w c H σ x y dx dy Q ok hx hy h
  obtain ⟨h1, h⟩ := ite_ret h
  obtain ⟨a, b⟩ := Bool.and_eq_true_iff.mp h1
  refine ⟨toP dx, toP dy, repB_dp ok hx a, repB_dp ok hy b, shaped_of a (by decide), shaped_of b (by decide), ?_⟩
  rw [← pyEq_eq dx dy _ _ a b]
  exact FinE.here h ok (.bl _)
end
end Mn

set_option Elab.async false
set_option linter.all false
set_option autoImplicit false
set_option maxRecDepth 100000
set_option maxHeartbeats 2000000
/-! Mn5: in, subscripts, slices, arguments, displays, calls of built-ins and of defs. -/
namespace Mn
open PySem PySem.Spec PyProof.Rows L2
section
variable {X : Cx} {W : WX} {w : Wd} {c : Nat} {H : Hp} {σ : L2.St} {Q : VK}
/-! ### in -/
theorem flatV_of {K : PySem.W.Frag} {v : V} {d : D} (h : RepB K w H v d) (f : flat0 d = true) : flatV v = true := by
  cases d with
  | non => cases h.non; rfl
  | bl b => cases h.bl; rfl
  | int i => cases h.int; rfl
  | str s => cases h.str; rfl
  | _ => cases f
theorem eqV_of {K : PySem.W.Frag} {v u : V} {d e : D} (h : RepB K w H v d) (h2 : RepB K w H u e) (f : flat0 d = true) (f2 : flat0 e = true) : eqV v u = pyEq d e := by
  cases d with
  | non =>
    cases h.non
    cases e with
    | non => cases h2.non; rfl
    | bl b => cases h2.bl; rfl
    | int i => cases h2.int; rfl
    | str s => cases h2.str; rfl
    | _ => cases f2
  | bl b =>
    cases h.bl
    cases e with
    | non => cases h2.non; rfl
    | bl b => cases h2.bl; rfl
    | int i => cases h2.int; rfl
    | str s => cases h2.str; rfl
    | _ => cases f2
  | int i =>
    cases h.int
    cases e with
    | non => cases h2.non; rfl
    | bl b => cases h2.bl; rfl
    | int i => cases h2.int; rfl
    | str s => cases h2.str; rfl
    | _ => cases f2
  | str s =>
    cases h.str
    cases e with
    | non => cases h2.non; rfl
    | bl b => cases h2.bl; rfl
    | int i => cases h2.int; rfl
    | str s2 => cases h2.str; exact (strEq_eq s s2).symm
    | _ => cases f2
  | _ => cases f
theorem Reps.allFlat {K : PySem.W.Frag} : ∀ {vs : List V} {ds : List D}, Reps K w vs ds → Mn.allFlat ds = true → vs.all flatV = true
  | _, _, .nil, _ => rfl
  | _, _, .cons (d := d) (ds := ds) r t, f => by
    obtain ⟨f1, f2⟩ := Bool.and_eq_true_iff.mp (show (flat0 d && Mn.allFlat ds) = true from f)
    rw [List.all_cons, flatV_of (w := w) (H := w.hs) (.of r) f1, t.allFlat f2]; rfl
theorem Reps.hasIn {K : PySem.W.Frag} {x : V} {d : D} (hx : RepB K w H x d) (fx : flat0 d = true) : ∀ {vs : List V} {ds : List D}, Reps K w vs ds → Mn.allFlat ds = true → inV x vs = Mn.hasIn d ds
  | _, _, .nil, _ => rfl
  | _, _, .cons (v := v) (vs := vs) (d := e) (ds := ds) r t, f => by
    obtain ⟨f1, f2⟩ := Bool.and_eq_true_iff.mp (show (flat0 e && Mn.allFlat ds) = true from f)
    show (eqV v x || inV x vs) = (pyEq e d || Mn.hasIn d ds)
    rw [eqV_of (w := w) (H := H) (.of r) hx f1 fx, t.hasIn hx fx f2]
theorem hasIn_any (x : D) (n m : Nat) (hx : flat n x = true) : ∀ (l : List D), flats m l = true → ((toPs l).any fun z => PyData.eqv z (toP x)) = hasIn x l
  | [], _ => rfl
  | y :: ys, h => by
    show (PyData.eqv (toP y) (toP x) || (toPs ys).any fun z => PyData.eqv z (toP x)) = (pyEq y x || hasIn x ys)
    rw [hasIn_any x n m hx ys (flats_cons h).2, pyEq_eq y x m n (flats_cons h).1 hx]
def rInA (K : PySem.W.Frag) : R2 := fun x y H Q => rIn K false x y H Q ∨ rInD K x y H Q
def rNotInA (K : PySem.W.Frag) : R2 := fun x y H Q => rIn K true x y H Q ∨ rNotInD K x y H Q
theorem op_inA (hu : X.A.units + 65 < cLine) : OpR X (compareOp .In) (rInA X.K) := op_in_seq.or (op_inD hu)
theorem op_notInA (hu : X.A.units + 65 < cLine) : OpR X (compareOp .NotIn) (rNotInA X.K) := op_notIn_seq.or (op_notInD hu)
theorem inSeq_cases {dx dy : D} {Qr : Bool → Nat → Prop} {E : String → List D → Nat → Prop} (h : wp (inSeq dx dy) c Qr E) :
    (∃ l, (dy = .tup l ∨ dy = .lst l) ∧ flat0 dx = true ∧ allFlat l = true ∧ Qr (hasIn dx l) c) ∨ (∃ l, dy = .lst l ∧ isData dx = true ∧ flats 49 l = true ∧ Qr (hasIn dx l) c) := by
  cases dy with
  | tup l =>
    obtain ⟨h1, h⟩ := ite_ret h
    obtain ⟨a, b⟩ := Bool.and_eq_true_iff.mp h1
    exact .inl ⟨l, .inl rfl, a, b, h⟩
  | lst l =>
    by_cases hf : (flat0 dx && allFlat l) = true
    · have h : wp (if (flat0 dx && allFlat l) = true then M.ret (hasIn dx l) else if (isData dx && flats 49 l) = true then .ret (hasIn dx l) else .stk) c Qr E := h
      rw [if_pos hf] at h
      obtain ⟨a, b⟩ := Bool.and_eq_true_iff.mp hf
      exact .inl ⟨l, .inr rfl, a, b, h⟩
    · have h : wp (if (flat0 dx && allFlat l) = true then M.ret (hasIn dx l) else if (isData dx && flats 49 l) = true then .ret (hasIn dx l) else .stk) c Qr E := h
      rw [if_neg hf] at h
      obtain ⟨h1, h⟩ := ite_ret h
      obtain ⟨a, b⟩ := Bool.and_eq_true_iff.mp h1
      exact .inr ⟨l, rfl, a, b, h⟩
  | _ => exact h.elim
theorem ro_in : RO2 X W gIn (rInA X.K) := by
  intro w c H σ x y dx dy Q ok hx hy h
  rcases inSeq_cases (wp_bind.1 h) with ⟨l, e, f1, f2, h3⟩ | ⟨l, rfl, f1, f2, h3⟩
  · rcases e with rfl | rfl
    · obtain ⟨a, vs, rfl, ha, ra⟩ := hy.tup ok
      refine .inl ⟨a, vs, rfl, .inr ha, flatV_of hx f1, ra.allFlat f2, ?_⟩
      rw [if_neg (by decide), ra.hasIn hx f1 f2]
      exact FinE.here h3 ok (.bl _)
    · obtain ⟨a, vs, rfl, ha, ra⟩ := hy.lst ok
      refine .inl ⟨a, vs, rfl, .inl (.inl (.inl ha)), flatV_of hx f1, ra.allFlat f2, ?_⟩
      rw [if_neg (by decide), ra.hasIn hx f1 f2]
      exact FinE.here h3 ok (.bl _)
  · refine .inr ⟨toP dx, toPs l, repB_dp ok hx f1, by have := repB_dp (n := 50) ok hy f2; simpa only [toP] using this, shaped_of f1 (by decide), by have := shaped_of (d := .lst l) (n := 50) f2 (by decide); simpa only [toP] using this, ?_⟩
    rw [hasIn_any dx 50 49 f1 l f2]
    exact FinE.here h3 ok (.bl _)
theorem ro_notIn : RO2 X W gNotIn (rNotInA X.K) := by
  intro w c H σ x y dx dy Q ok hx hy h
  rcases inSeq_cases (wp_bind.1 h) with ⟨l, e, f1, f2, h3⟩ | ⟨l, rfl, f1, f2, h3⟩
  · rcases e with rfl | rfl
    · obtain ⟨a, vs, rfl, ha, ra⟩ := hy.tup ok
      refine .inl ⟨a, vs, rfl, .inr ha, flatV_of hx f1, ra.allFlat f2, ?_⟩
      rw [if_pos rfl, ra.hasIn hx f1 f2]
      exact FinE.here h3 ok (.bl _)
    · obtain ⟨a, vs, rfl, ha, ra⟩ := hy.lst ok
      refine .inl ⟨a, vs, rfl, .inl (.inl (.inl ha)), flatV_of hx f1, ra.allFlat f2, ?_⟩
      rw [if_pos rfl, ra.hasIn hx f1 f2]
      exact FinE.here h3 ok (.bl _)
  · refine .inr ⟨toP dx, toPs l, repB_dp ok hx f1, by have := repB_dp (n := 50) ok hy f2; simpa only [toP] using this, shaped_of f1 (by decide), by have := shaped_of (d := .lst l) (n := 50) f2 (by decide); simpa only [toP] using this, ?_⟩
    rw [hasIn_any dx 50 49 f1 l f2]
    exact FinE.here h3 ok (.bl _)
/-! ### subscripts -/
theorem placeI_eq (n : Nat) (i : Int) : placeI n i = ixN n i := rfl
theorem itemI_of {K : PySem.W.Frag} {vs : List V} {l : List D} {i : Int} {d : D} (r : Reps K w vs l) (h : itemI l i = some d) : ∃ v, atI vs i = some v ∧ Rep K w v d := by
  unfold itemI at h
  unfold atI
  rw [r.length, ← placeI_eq]
  cases q : placeI l.length i with
  | none => rw [q] at h; cases h
  | some j =>
    rw [q] at h
    exact r.get h
theorem ofO_cases {o : Option D} {Qr : D → Nat → Prop} {E : String → List D → Nat → Prop} (h : wp (ofO o) c Qr E) : ∃ d, o = some d ∧ Qr d c := by
  cases o with
  | none => exact h.elim
  | some d => exact ⟨d, rfl, h⟩
theorem ro_ix : RO2 X W gIx (rIx X.K) := by
  intro w c H σ x y dx dy Q ok hx hy h
  cases dx with
  | tup l =>
    cases dy with
    | int i =>
      cases hy.int
      obtain ⟨a, vs, rfl, ha, ra⟩ := hx.tup ok
      obtain ⟨d, hd, h⟩ := ofO_cases h
      obtain ⟨v, hv, rv⟩ := itemI_of ra hd
      exact .inr (.inl ⟨a, vs, i, v, rfl, rfl, ha, hv, FinE.here h ok rv⟩)
    | _ => exact h.elim
  | lst l =>
    cases dy with
    | int i =>
      cases hy.int
      obtain ⟨a, vs, rfl, ha, ra⟩ := hx.lst ok
      obtain ⟨d, hd, h⟩ := ofO_cases h
      obtain ⟨v, hv, rv⟩ := itemI_of ra hd
      exact .inl ⟨a, vs, i, v, rfl, rfl, .inl (.inl ha), hv, FinE.here h ok rv⟩
    | _ => exact h.elim
  | _ => exact h.elim
theorem de_ix {a b : Expr} {pos : Pos} {fa fb : XE} (ha : BE X W a fa) (hb : BE X W b fb) (hs : PlainIx b := by exact fun _ _ => rfl) : DE X W (.Subscript a b pos) (x2 gIx fa fb) :=
  ⟨fun w0 H0 => (pe_ix ix_seq (ha.ok w0 H0) (hb.ok w0 H0) hs).weak fun _ _ _ h => op2 ro_ix h⟩
/-! slices -/
def tO (X : Cx) (W : WX) (w0 : Wd) (H0 : Hp) (f : XO) : TO := fun σ H Q => ∃ w c τ, Rel X.K w0 H0 w c H τ σ ∧
  wp (f τ) c (fun o c' => ∀ w' H', Ext w H w' H' → Ok w' c' H' → Q o H') (PX X W w H σ)
structure DO (X : Cx) (W : WX) (e : Option Expr) (f : XO) : Prop where
  ok : ∀ w0 H0, PO X e (tO X W w0 H0 f)
theorem _root_.L2.PO.weak {e : Option Expr} {t t' : TO} (h : PO X e t) (k : ∀ σ H Q, t' σ H Q → t σ H Q) : PO X e t' := ⟨fun pins s σ H Q I q => h.run pins s σ H Q I (k σ H Q q)⟩
theorem do_none : DO X W none oNone := ⟨fun w0 H0 => po_none.weak fun σ H Q ⟨w, c, τ, r, q⟩ => q w H (.refl _ _) r.ok⟩
theorem do_some {e : Expr} {f : XE} (h : DE X W e f) : DO X W (some e) (oSome f) := ⟨fun w0 H0 => (po_some (h.ok w0 H0)).weak fun σ H Q ⟨w, c, τ, r, q⟩ =>
  ⟨w, c, τ, r, wp_mono (wp_bind.1 q) (fun d c' _ k w' H' v e ok rv => by
    cases d with
    | int i =>
      cases rv
      exact ⟨i, rfl, k w' H' e ok⟩
    | _ => exact k.elim) fun _ _ _ _ k => k⟩⟩
theorem cutI_eq (n d : Nat) (o : Option Int) : cutI n d o = HT.sIx n d o := by cases o <;> rfl
theorem Reps.cut {K : PySem.W.Frag} {vs : List V} {l : List D} (r : Reps K w vs l) (lo hi : Option Int) : Reps K w (cutV vs lo hi) (cutL l lo hi) := by
  unfold cutV cutL
  rw [r.length, cutI_eq, cutI_eq]
  exact (r.drop _).take _
def rSlAll (K : PySem.W.Frag) : V → Option Int → Option Int → Hp → VK → Prop := fun x lo hi H Q => rSlL K x lo hi H Q ∨ rSlA K x lo hi H Q
theorem sl_all : SlR X (rSlAll X.K) := sl_list.or sl_tupA
theorem cut_whole {vs : List V} {lo hi : Option Int} (h : HT.sIx vs.length 0 lo = 0 ∧ HT.sIx vs.length vs.length hi = vs.length) : cutV vs lo hi = vs := by
  unfold cutV
  rw [h.1, h.2, List.drop_zero, Nat.sub_zero, List.take_length]
theorem sl_fin {x : V} {dx : D} {lo hi : Option Int} (ok : Ok w c H) (hx : RepB X.K w H x dx) (h : wp (gCut lo hi dx) c (FinE X w H Q) (PX X W w H σ)) : rSlAll X.K x lo hi H Q := by
  cases dx with
  | lst l =>
    obtain ⟨a, vs, rfl, ha, ra⟩ := hx.lst ok
    exact .inl ⟨a, vs, rfl, .inl (.inl ha), fun p n => FinE.lst h ok (ra.cut lo hi) n⟩
  | tup l =>
    obtain ⟨a, vs, rfl, ha, ra⟩ := hx.tup ok
    refine .inr ⟨a, vs, rfl, ha, fun e => ?_, fun _ p n => FinE.tup h ok (ra.cut lo hi) n⟩
    have h : FinE X w H Q (.tup (cutL l lo hi)) c := h
    have el : cutL l lo hi = l := by
      unfold cutL
      rw [cutI_eq, cutI_eq, ← ra.length, e.1, e.2, List.drop_zero, Nat.sub_zero, ra.length, List.take_length]
    rw [el] at h
    rcases hx with hx | ⟨_, _, _, _, e2, _⟩ | ⟨_, _, _, e2, _⟩
    · exact h.here ok hx
    · cases e2
    · cases e2
  | _ => exact h.elim
theorem tO_bind {w0 : Wd} {H0 : Hp} {β : Type} {f : XO} {k : Option Int → M β} {τ : Sl} {Qb : β → Nat → Prop} (r : Rel X.K w0 H0 w c H τ σ) (h : wp ((f τ).bind k) c Qb (PX X W w H σ)) :
    tO X W w0 H0 f σ H (fun o H1 => ∃ w1 c1, Ext w H w1 H1 ∧ Rel X.K w0 H0 w1 c1 H1 τ σ ∧ wp (k o) c1 Qb (PX X W w1 H1 σ)) :=
  ⟨w, c, τ, r, wp_mono (wp_bind.1 h) (fun d c' _ hk w' H' e ok => ⟨w', c', e, r.go e ok, wp_ext e hk⟩) fun _ _ _ _ q => q⟩
theorem de_cut {e : Expr} {lo hi : Option Expr} {p2 pos : Pos} {fe : XE} {fl fh : XO} (he : BE X W e fe) (hl : DO X W lo fl) (hh : DO X W hi fh) : DE X W (.Subscript e (.Slice lo hi none p2) pos) (xCut fe fl fh) := by
  refine ⟨fun w0 H0 => (pe_slice sl_all (he.ok w0 H0) (hl.ok w0 H0) (hh.ok w0 H0)).weak fun σ H Q ⟨w, c, τ, rel, q⟩ => ?_⟩
  obtain ⟨w', c', τ', rel', q'⟩ := tB_bind (W := W) rel q
  refine ⟨w', c', τ', rel', wp_mono q' (fun d c2 _ k w1 H1 x e1 ok1 rx => ?_) fun _ _ _ _ k => k⟩
  obtain ⟨w2, c3, d1, e2, rel2, rx2, q2⟩ := k w1 H1 x e1 ok1 rx
  obtain ⟨w3, c4, τ3, rel3, q3⟩ := tO_bind (W := W) rel2 q2
  refine ⟨w3, c4, τ3, rel3, wp_mono q3 (fun o1 c5 _ k2 w4 H4 e4 ok4 => ?_) fun _ _ _ _ k => k⟩
  obtain ⟨w5, c6, e5, rel5, q5⟩ := k2 w4 H4 e4 ok4
  obtain ⟨w6, c7, τ6, rel6, q6⟩ := tO_bind (W := W) rel5 q5
  refine ⟨w6, c7, τ6, rel6, wp_mono q6 (fun o2 c8 _ k3 w7 H7 e7 ok7 => ?_) fun _ _ _ _ k => k⟩
  obtain ⟨w8, c9, e8, rel8, q8⟩ := k3 w7 H7 e7 ok7
  exact sl_fin rel8.ok ((rx2.ext e5).ext e8) (wp_mono q8 (fun d c _ k w' H' v e ok r => k w' H' v (((e2.trans e5).trans e8).trans e) ok r) fun _ _ _ _ k => k)
/-- the slice of a list, kept as one's own -/
def gCutF (lo hi : Option Int) : D → M D
  | .lst l => .ret (.lst (cutL l lo hi))
  | _ => .stk

/-! ### arguments -/
theorem das_nil : DAs X W [] aNil := ⟨fun w0 H0 => pa_nil.weak fun σ H Q ⟨w, c, τ, r, q⟩ => q w H [] (.refl _ _) r.ok .nil⟩
theorem bas_nil : BAs X W [] aNil := ⟨fun w0 H0 => pa_nil.weak fun σ H Q ⟨w, c, τ, r, q⟩ => q w H [] (.refl _ _) r.ok .nil⟩
theorem das_cons {e : Expr} {es : List Expr} {fe : XE} {fr : XA} (he : DE X W e fe) (hr : DAs X W es fr) (hs : starEach (e :: es) X.env = (false, eval e X.env) :: starEach es X.env := by rfl) : DAs X W (e :: es) (aCons fe fr) := by
  refine ⟨fun w0 H0 => (pa_cons (he.ok w0 H0) (hr.ok w0 H0) hs).weak fun σ H Q ⟨w, c, τ, rel, q⟩ => ?_⟩
  obtain ⟨w', c', τ', rel', q'⟩ := tE_bind (W := W) rel q
  refine ⟨w', c', τ', rel', wp_mono q' (fun d c2 _ k w1 H1 x e1 ok1 rx => ?_) fun _ _ _ _ k => k⟩
  obtain ⟨w2, c3, d1, e2, rel2, rx2, q2⟩ := k w1 H1 x e1 ok1 rx
  obtain ⟨w3, c4, τ3, rel3, q3⟩ := tA_bind (W := W) rel2 q2
  refine ⟨w3, c4, τ3, rel3, wp_mono q3 (fun ds c5 _ k2 w4 H4 vs e4 ok4 rs => ?_) fun _ _ _ _ k => k⟩
  obtain ⟨w5, c6, ds5, e5, rel5, rs5, q5⟩ := k2 w4 H4 vs e4 ok4 rs
  exact q5 w5 H4 _ (e2.trans e5) rel5.ok (.cons (rx2.le e5.le) rs5)
theorem RepBs.ext {K : PySem.W.Frag} {w' : Wd} {H' : Hp} (x : Ext w H w' H') : ∀ {vs : List V} {ds : List D}, RepBs K w H vs ds → RepBs K w' H' vs ds
  | _, _, .nil => .nil
  | _, _, .cons r t => .cons (r.ext x) (RepBs.ext x t)
theorem bas_cons {e : Expr} {es : List Expr} {fe : XE} {fr : XA} (he : BE X W e fe) (hr : BAs X W es fr) (hs : starEach (e :: es) X.env = (false, eval e X.env) :: starEach es X.env := by rfl) : BAs X W (e :: es) (aCons fe fr) := by
  refine ⟨fun w0 H0 => (pa_cons (he.ok w0 H0) (hr.ok w0 H0) hs).weak fun σ H Q ⟨w, c, τ, rel, q⟩ => ?_⟩
  obtain ⟨w', c', τ', rel', q'⟩ := tB_bind (W := W) rel q
  refine ⟨w', c', τ', rel', wp_mono q' (fun d c2 _ k w1 H1 x e1 ok1 rx => ?_) fun _ _ _ _ k => k⟩
  obtain ⟨w2, c3, d1, e2, rel2, rx2, q2⟩ := k w1 H1 x e1 ok1 rx
  obtain ⟨w3, c4, τ3, rel3, q3⟩ := tAB_bind (W := W) rel2 q2
  refine ⟨w3, c4, τ3, rel3, wp_mono q3 (fun ds c5 _ k2 w4 H4 vs e4 ok4 rs => ?_) fun _ _ _ _ k => k⟩
  obtain ⟨w5, c6, ds5, e5, rel5, rs5, q5⟩ := k2 w4 H4 vs e4 ok4 rs
  exact q5 w5 H4 _ (e2.trans e5) rel5.ok (.cons (rx2.ext e5) rs5)
theorem asS_cases {d : D} {β : Type} {k : List D → M β} {Qr : β → Nat → Prop} {E : String → List D → Nat → Prop} (h : wp ((asS d).bind k) c Qr E) : ∃ l, (d = .tup l ∨ d = .lst l) ∧ wp (k l) c Qr E := by
  cases d with
  | tup l => exact ⟨l, .inl rfl, h⟩
  | lst l => exact ⟨l, .inr rfl, h⟩
  | _ => exact h.elim
theorem RepB.seq {K : PySem.W.Frag} (ok : Ok w c H) {v : V} {d : D} {l : List D} (e : d = .tup l ∨ d = .lst l) (h : RepB K w H v d) : ∃ a vs, v = .ref a ∧ (SqT K H a vs ∨ SqL K H a vs) ∧ Reps K w vs l := by
  rcases e with rfl | rfl
  · obtain ⟨a, vs, e, h, r⟩ := h.tup ok
    exact ⟨a, vs, e, .inl h, r⟩
  · obtain ⟨a, vs, e, h, r⟩ := h.lst ok
    exact ⟨a, vs, e, .inr (.inl (.inl h)), r⟩
theorem das_star {e : Expr} {p : Pos} {es : List Expr} {fe : XE} {fr : XA} (he : BE X W e fe) (hr : DAs X W es fr) (hs : starEach (.Starred e p :: es) X.env = (true, eval e X.env) :: starEach es X.env := by rfl) : DAs X W (.Starred e p :: es) (aStar fe fr) := by
  refine ⟨fun w0 H0 => (StX.pa_star (he.ok w0 H0) (hr.ok w0 H0) hs).weak fun σ H Q ⟨w, c, τ, rel, q⟩ => ?_⟩
  obtain ⟨w', c', τ', rel', q'⟩ := tB_bind (W := W) rel q
  refine ⟨w', c', τ', rel', wp_mono q' (fun d c2 _ k w1 H1 x e1 ok1 rx => ?_) fun _ _ _ _ k => k⟩
  obtain ⟨w2, c3, d1, e2, rel2, rx2, q2⟩ := k w1 H1 x e1 ok1 rx
  obtain ⟨l, el, q2⟩ := asS_cases q2
  obtain ⟨a, us, ev, hs, ru⟩ := rx2.seq rel2.ok el
  obtain ⟨w3, c4, τ3, rel3, q3⟩ := tA_bind (W := W) rel2 q2
  refine ⟨a, us, ev, hs, w3, c4, τ3, rel3, wp_mono q3 (fun ds c5 _ k2 w4 H4 vs e4 ok4 rs => ?_) fun _ _ _ _ k => k⟩
  obtain ⟨w5, c6, ds5, e5, rel5, rs5, q5⟩ := k2 w4 H4 vs e4 ok4 rs
  exact q5 w5 H4 _ (e2.trans e5) rel5.ok ((ru.le e5.le).append rs5)

/-! ### displays -/
def Len (n : Nat) (f : XA) : Prop := ∀ (τ : Sl) (c : Nat) (Q : List D → Nat → Prop) (E : String → List D → Nat → Prop), wp (f τ) c Q E → wp (f τ) c (fun ds c' => ds.length = n ∧ Q ds c') E
theorem len_nil : Len 0 aNil := fun _ _ _ _ h => ⟨rfl, h⟩
theorem len_cons {n : Nat} {e : XE} {f : XA} (h : Len n f) : Len (n + 1) (aCons e f) := fun τ c Q E q => by
  refine wp_bind.2 (wp_mono (wp_bind.1 q) (fun d c' _ k => ?_) fun _ _ _ _ k => k)
  refine wp_bind.2 (wp_mono (h τ c' _ E (wp_bind.1 k)) (fun ds c2 _ k2 => ?_) fun _ _ _ _ k => k)
  exact ⟨congrArg Nat.succ k2.1, k2.2⟩
theorem tTup_of {w0 : Wd} {H0 : Hp} {f : XA} (h : ∀ τ c Q E, wp (f τ) c Q E → wp (f τ) c (fun ds c' => ds.length ≤ 16777216 ∧ Q ds c') E) {Q : VK} (hh : tE X W w0 H0 (xTup f) σ H Q) : tTup (tA X W w0 H0 f) σ H Q := by
  obtain ⟨w, c, τ, rel, q⟩ := hh
  refine ⟨w, c, τ, rel, wp_mono (h τ c _ _ (wp_bind.1 q)) (fun ds c' _ k w' H' vs e ok rs => ?_) fun _ _ _ _ k => k⟩
  refine ⟨by rw [sizeLine_eq, rs.length]; exact k.1, fun p n => ?_⟩
  have k2 : FinE X w H Q (.tup ds) c' := k.2
  exact FinE.tup (k2.ext e) ok rs n
theorem tLst_of {w0 : Wd} {H0 : Hp} {f : XA} (h : ∀ τ c Q E, wp (f τ) c Q E → wp (f τ) c (fun ds c' => ds.length ≤ 16777216 ∧ Q ds c') E) {Q : VK} (hh : tF X W w0 H0 (xLst f) σ H Q) : tLst (tA X W w0 H0 f) σ H Q := by
  obtain ⟨w, c, τ, rel, q⟩ := hh
  refine ⟨w, c, τ, rel, wp_mono (h τ c _ _ (wp_bind.1 q)) (fun ds c' _ k w' H' vs e ok rs => ?_) fun _ _ _ _ k => k⟩
  refine ⟨by rw [sizeLine_eq, rs.length]; exact k.1, fun p n => ?_⟩
  have k2 : FinF X w H Q (.lst ds) c' := k.2
  exact FinF.lst (k2.ext e rel.ok ok) ok rs n
theorem Len.le {n : Nat} {f : XA} (h : Len n f) (hn : n ≤ 1000) : ∀ τ c Q E, wp (f τ) c Q E → wp (f τ) c (fun ds c' => ds.length ≤ 16777216 ∧ Q ds c') E := fun τ c Q E q =>
  wp_mono (h τ c Q E q) (fun _ _ _ k => ⟨by omega, k.2⟩) fun _ _ _ _ k => k
theorem de_tup {es : List Expr} {k : Nat} {pos : Pos} {f : XA} {n : Nat} (h : DAs X W es f) (hl : Len n f := by repeat (first | exact len_nil | refine len_cons ?_)) (hn : n ≤ 1000 := by decide) : DE X W (.Tuple es k pos) (xTup f) :=
  ⟨fun w0 H0 => (pe_tup (h.ok w0 H0)).weak fun _ _ _ q => tTup_of (hl.le hn) q⟩
theorem fe_lst {es : List Expr} {pos : Pos} {f : XA} {n : Nat} (h : DAs X W es f) (hl : Len n f := by repeat (first | exact len_nil | refine len_cons ?_)) (hn : n ≤ 1000 := by decide) : FE X W (.List es pos) (xLst f) :=
  ⟨fun w0 H0 => (pe_lst (h.ok w0 H0)).weak fun _ _ _ q => tLst_of (hl.le hn) q⟩
theorem de_tupS {es : List Expr} {k : Nat} {pos : Pos} {f : XA} (h : DAs X W es f) : DE X W (.Tuple es k pos) (xTupS f) := by
  refine ⟨fun w0 H0 => (pe_tup (h.ok w0 H0)).weak fun σ H Q ⟨w, c, τ, rel, q⟩ => ?_⟩
  refine ⟨w, c, τ, rel, wp_mono (wp_bind.1 q) (fun ds c' _ k w' H' vs e ok rs => ?_) fun _ _ _ _ k => k⟩
  obtain ⟨h1, k⟩ := ite_ret k
  have k2 : FinE X w H Q (.tup ds) c' := k
  exact ⟨by rw [sizeLine_eq, rs.length]; exact h1, fun p n => FinE.tup (k2.ext e) ok rs n⟩
theorem fe_lstS {es : List Expr} {pos : Pos} {f : XA} (h : DAs X W es f) : FE X W (.List es pos) (xLstS f) := by
  refine ⟨fun w0 H0 => (pe_lst (h.ok w0 H0)).weak fun σ H Q ⟨w, c, τ, rel, q⟩ => ?_⟩
  refine ⟨w, c, τ, rel, wp_mono (wp_bind.1 q) (fun ds c' _ k w' H' vs e ok rs => ?_) fun _ _ _ _ k => k⟩
  obtain ⟨h1, k⟩ := ite_ret k
  have k2 : FinF X w H Q (.lst ds) c' := k
  exact ⟨by rw [sizeLine_eq, rs.length]; exact h1, fun p n => FinF.lst (k2.ext e rel.ok ok) ok rs n⟩

/-! ### built-ins -/
def RC (X : Cx) (W : WX) (g : List D → M D) (r : List V → Hp → VK → Prop) : Prop := ∀ {w : Wd} {c : Nat} {H : Hp} {σ : L2.St} {vs : List V} {ds : List D} {Q : VK}, Ok w c H → RepBs X.K w H vs ds → wp (g ds) c (FinE X w H Q) (PX X W w H σ) → r vs H Q
def RCF (X : Cx) (W : WX) (g : List D → M D) (r : List V → Hp → VK → Prop) : Prop := ∀ {w : Wd} {c : Nat} {H : Hp} {σ : L2.St} {vs : List V} {ds : List D} {Q : VK}, Ok w c H → RepBs X.K w H vs ds → wp (g ds) c (FinF X w H Q) (PX X W w H σ) → r vs H Q
theorem tCB_of {w0 : Wd} {H0 : Hp} {g : List D → M D} {r : List V → Hp → VK → Prop} (hr : RC X W g r) {f : XA} {Q : VK} (h : tE X W w0 H0 (xCall g f) σ H Q) : tCB r (tAB X W w0 H0 f) σ H Q := by
  obtain ⟨w, c, τ, rel, q⟩ := h
  obtain ⟨w', c', τ', rel', q'⟩ := tAB_bind (W := W) rel q
  refine ⟨w', c', τ', rel', wp_mono q' (fun d c2 _ k w1 H1 x e1 ok1 rx => ?_) fun _ _ _ _ k => k⟩
  obtain ⟨w2, c3, d1, e2, rel2, rx2, q2⟩ := k w1 H1 x e1 ok1 rx
  exact hr rel2.ok rx2 (wp_mono q2 (fun d c _ k w' H' v e ok r => k w' H' v (e2.trans e) ok r) fun _ _ _ _ k => k)
theorem tCBF_of {w0 : Wd} {H0 : Hp} {g : List D → M D} {r : List V → Hp → VK → Prop} (hr : RCF X W g r) {f : XA} {Q : VK} (h : tF X W w0 H0 (xCall g f) σ H Q) : tCB r (tAB X W w0 H0 f) σ H Q := by
  obtain ⟨w, c, τ, rel, q⟩ := h
  obtain ⟨w', c', τ', rel', q'⟩ := tAB_bind (W := W) rel q
  refine ⟨w', c', τ', rel', wp_mono q' (fun d c2 _ k w1 H1 x e1 ok1 rx => ?_) fun _ _ _ _ k => k⟩
  obtain ⟨w2, c3, d1, e2, rel2, rx2, q2⟩ := k w1 H1 x e1 ok1 rx
  exact hr rel2.ok rx2 (wp_mono q2 (fun d c _ (k : FinF X w H Q d c) => FinF.ext e2 rel.ok rel2.ok k) fun _ _ _ _ k => k)
section
variable {x : Str} {id T : String} {p pos : Pos} {e : Expr} {es : List Expr} {g : List D → M D} {r : List V → Hp → VK → Prop} {f : XA}
theorem de_callB (hc : CallR X (.builtin id) r) (hr : RC X W g r) (hm : X.mg x = none) (hv : bootBuiltins x = some (.builtin id)) (ha : BAs X W (e :: es) f) (hg : Gl X x := by rfl) (hn : x ≠ "__name__" := by decide) (hdb : (x == ("__debug__" : Str)) = false := by decide)
    (he : starEach (e :: es) X.env = (false, eval e X.env) :: starEach es X.env := by rfl) (hpl : (backTo pos (starEach es X.env)).any (·.1) = false := by rfl) : DE X W (.Call (.Name x p) (e :: es) [] pos) (xCall g f) :=
  ⟨fun w0 H0 => (pe_callB hc hg hm hv (ha.ok w0 H0) hn hdb he hpl).weak fun _ _ _ h => tCB_of hr h⟩
theorem de_callTy (hc : CallR X (.type T) r) (hr : RC X W g r) (hm : X.mg x = none) (hv : bootBuiltins x = some (.type T)) (ha : BAs X W (e :: es) f) (hg : Gl X x := by rfl) (hn : x ≠ "__name__" := by decide) (hdb : (x == ("__debug__" : Str)) = false := by decide)
    (he : starEach (e :: es) X.env = (false, eval e X.env) :: starEach es X.env := by rfl) (hpl : (backTo pos (starEach es X.env)).any (·.1) = false := by rfl) : DE X W (.Call (.Name x p) (e :: es) [] pos) (xCall g f) :=
  ⟨fun w0 H0 => (pe_callTy hc hg hm hv (ha.ok w0 H0) hn hdb he hpl).weak fun _ _ _ h => tCB_of hr h⟩
theorem fe_callB (hc : CallR X (.builtin id) r) (hr : RCF X W g r) (hm : X.mg x = none) (hv : bootBuiltins x = some (.builtin id)) (ha : BAs X W (e :: es) f) (hg : Gl X x := by rfl) (hn : x ≠ "__name__" := by decide) (hdb : (x == ("__debug__" : Str)) = false := by decide)
    (he : starEach (e :: es) X.env = (false, eval e X.env) :: starEach es X.env := by rfl) (hpl : (backTo pos (starEach es X.env)).any (·.1) = false := by rfl) : FE X W (.Call (.Name x p) (e :: es) [] pos) (xCall g f) :=
  ⟨fun w0 H0 => (pe_callB hc hg hm hv (ha.ok w0 H0) hn hdb he hpl).weak fun _ _ _ h => tCBF_of hr h⟩
theorem fe_callTy (hc : CallR X (.type T) r) (hr : RCF X W g r) (hm : X.mg x = none) (hv : bootBuiltins x = some (.type T)) (ha : BAs X W (e :: es) f) (hg : Gl X x := by rfl) (hn : x ≠ "__name__" := by decide) (hdb : (x == ("__debug__" : Str)) = false := by decide)
    (he : starEach (e :: es) X.env = (false, eval e X.env) :: starEach es X.env := by rfl) (hpl : (backTo pos (starEach es X.env)).any (·.1) = false := by rfl) : FE X W (.Call (.Name x p) (e :: es) [] pos) (xCall g f) :=
  ⟨fun w0 H0 => (pe_callTy hc hg hm hv (ha.ok w0 H0) hn hdb he hpl).weak fun _ _ _ h => tCBF_of hr h⟩
end
/-! ### calls of defs -/
/-- the promise of a def that does what f does -/
def spOf (K : PySem.W.Frag) (mg : Str → Option Value) (n : Nat) (f : List D → M D) : Sp := fun vs H Q E => ∃ w c ds, Ok w c H ∧ ds.length = n ∧ Reps K w vs ds ∧
  wp (f ds) c (fun d c' => ∀ w' H' v, Ext w H w' H' → Ok w' c' H' → Rep K w' v d → Q v H') (fun x fs c' => ∀ w' H' cls d, Ext w H w' H' → Ok w' c' H' → ExcR K mg w' H' x fs cls d → E cls d H')
theorem de_call {k n : Nat} {f : Addr} {fd : FuncData} {ps : List Str} {x : Str} {p pos : Pos} {e : Expr} {es : List Expr} {fm : List D → M D} {fa : XA} (F : FnOk X.prog X.w X.K X.mg X.base (L2.CX X.prog X.w) k f fd ps (spOf X.K X.mg n fm)) (hr : Room k X.A) (tk : Takes X W)
    (hm : X.mg x = some (.ref f)) (hk : PySem.W.keepIn X.K (.ref f) = true) (hb : Binds X.K fd ps []) (ha : DAs X W (e :: es) fa) (hl : Len n fa := by repeat (first | exact len_nil | refine len_cons ?_)) (hg : Gl X x := by rfl) (hdb : (x == ("__debug__" : Str)) = false := by decide)
    (he : starEach (e :: es) X.env = (false, eval e X.env) :: starEach es X.env := by rfl) (hpl : (backTo pos (starEach es X.env)).any (·.1) = false := by rfl) : DE X W (.Call (.Name x p) (e :: es) [] pos) (xCall fm fa) := by
  refine ⟨fun w0 H0 => (pe_callS (E := WE W) F hr hg hm hk hb (fun σ => passAt tk σ) (ha.ok w0 H0) hdb he hpl).weak fun σ H Q ⟨w, c, τ, rel, q⟩ => ?_⟩
  refine ⟨w, c, τ, rel, wp_mono (hl τ c _ _ (wp_bind.1 q)) (fun ds c' _ k w' H' vs e ok rs => ?_) fun _ _ _ _ k => k⟩
  exact ⟨w', c', ds, ok, k.1, rs, wp_mono k.2 (fun d c _ k2 w2 H2 v e2 ok2 r => k2 w2 H2 v (e.trans e2) ok2 r) fun x fs c _ k2 w2 H2 cls d e2 ok2 r => k2 w2 H2 cls d (e.trans e2) ok2 r⟩
end
end Mn

set_option Elab.async false
set_option linter.all false
set_option autoImplicit false
set_option maxRecDepth 100000
set_option maxHeartbeats 2000000
/-! Mn6: targets, statements, loops, comprehensions, defs. -/
namespace Mn
open PySem PySem.Spec PyProof.Rows L2
theorem getD_set {α : Type} (l : List α) (i j : Nat) (v d : α) : (l.set i v).getD j d = if i = j ∧ i < l.length then v else l.getD j d := by
  rw [List.getD_eq_getElem?_getD, List.getD_eq_getElem?_getD]
  by_cases h : i = j
  · subst h
    by_cases hl : i < l.length
    · rw [List.getElem?_set_self hl, if_pos ⟨rfl, hl⟩]; rfl
    · rw [if_neg (fun q => hl q.2), List.set_eq_of_length_le (by omega)]
  · rw [List.getElem?_set_ne h, if_neg (fun q => h q.1)]
section
variable {X : Cx} {W : WX} {w0 w : Wd} {c : Nat} {H0 H : Hp} {τ : Sl} {σ : L2.St} {Q : VK}
/-! ### a slot is stored -/
theorem Rel.setR {K : PySem.W.Frag} (r : Rel K w0 H0 w c H τ σ) (i : Nat) {s : SV} {v : V} (hs : SlotR K w H H0 s (some v)) (ho : ∀ j a, j ≠ i → isOwn s = true → v = .ref a → isOwn (τ.getD j .un) = true → σ.getD j none = some (.ref a) → False) :
    Rel K w0 H0 w c H (τ.set i s) (σ.set i (some v)) := by
  refine ⟨r.ok, r.dom, r.ext, by rw [List.length_set, List.length_set]; exact r.len, fun j => ?_, fun j k a ne h1 h2 h3 h4 => ?_⟩
  · rw [getD_set, getD_set, r.len]
    split
    · exact hs
    · exact r.slot j
  · rw [getD_set] at h1 h2 h3 h4
    rw [r.len] at h1 h2
    by_cases e1 : i = j ∧ i < σ.length
    · rw [if_pos e1] at h1 h3
      have e2 : ¬ (i = k ∧ i < σ.length) := fun q => ne (e1.1.symm.trans q.1)
      rw [if_neg e2] at h2 h4
      exact ho k a (fun q => ne (e1.1.symm.trans q.symm)) h1 (Option.some.inj h3) h2 h4
    · rw [if_neg e1] at h1 h3
      by_cases e2 : i = k ∧ i < σ.length
      · rw [if_pos e2] at h2 h4
        exact ho j a (fun q => ne (q.trans e2.1)) h2 (Option.some.inj h4) h1 h3
      · rw [if_neg e2] at h2 h4
        exact r.own j k a ne h1 h2 h3 h4
theorem Rel.set {K : PySem.W.Frag} (r : Rel K w0 H0 w c H τ σ) (i : Nat) {v : V} {d : D} (rv : Rep K w v d) : Rel K w0 H0 w c H (τ.set i (.val d)) (σ.set i (some v)) :=
  r.setR i ⟨v, rfl, rv⟩ fun _ _ _ h => by cases h
theorem Rel.un {K : PySem.W.Frag} (r : Rel K w0 H0 w c H τ σ) (i : Nat) (o : Option V) : Rel K w0 H0 w c H (τ.set i .un) (σ.set i o) := by
  refine ⟨r.ok, r.dom, r.ext, by rw [List.length_set, List.length_set]; exact r.len, fun j => ?_, fun j k a ne h1 h2 h3 h4 => ?_⟩
  · rw [getD_set, getD_set, r.len]
    split
    · trivial
    · exact r.slot j
  · rw [getD_set] at h1 h2 h3 h4
    rw [r.len] at h1 h2
    by_cases e1 : i = j ∧ i < σ.length
    · rw [if_pos e1] at h1; cases h1
    · rw [if_neg e1] at h1 h3
      by_cases e2 : i = k ∧ i < σ.length
      · rw [if_pos e2] at h2; cases h2
      · rw [if_neg e2] at h2 h4
        exact r.own j k a ne h1 h2 h3 h4
theorem Rel.wipe {K : PySem.W.Frag} (r : Rel K w0 H0 w c H τ σ) : ∀ vs : List Nat, Rel K w0 H0 w c H (Mn.wipe τ vs) (L2.wipe σ vs)
  | [] => r
  | v :: vs => (r.wipe vs).un v none
theorem Rel.low {K : PySem.W.Frag} {c' : Nat} (r : Rel K w0 H0 w c H τ σ) (h : c' ≤ c) : Rel K w0 H0 w c' H τ σ := ⟨r.ok.low h, r.dom, r.ext, r.len, r.slot, r.own⟩
/-- the address of an own slot was free at the entry; others are elsewhere -/
theorem Rel.fresh {K : PySem.W.Frag} (r : Rel K w0 H0 w c H τ σ) {a : Addr} (n : H a = none) : H0 a = none := by
  exact r.dom a n
theorem Rel.own_at {K : PySem.W.Frag} (r : Rel K w0 H0 w c H τ σ) {j : Nat} (h : isOwn (τ.getD j .un) = true) {a : Addr} (e : σ.getD j none = some (.ref a)) : ∃ o, H a = some o := by
  have s := r.slot j
  cases q : τ.getD j .un with
  | un => rw [q] at h; cases h
  | val d => rw [q] at h; cases h
  | own l =>
    rw [q] at s
    obtain ⟨b, vs, eb, _, hb, _⟩ := s
    rw [e] at eb; cases eb
    exact ⟨_, hb⟩
  | ownd l =>
    rw [q] at s
    obtain ⟨b, eb, _, hb⟩ := s
    rw [e] at eb; cases eb
    rcases hb with ⟨kvs, hb, _⟩ | ⟨kvs, _, hb, _⟩
    · exact ⟨_, hb⟩
    · exact ⟨_, hb⟩
/-- a new thing becomes a slot's own -/
theorem Rel.setOwn {K : PySem.W.Frag} {w' : Wd} {c' : Nat} {H' : Hp} (r : Rel K w0 H0 w c H τ σ) (x : Ext w H w' H') (ok : Ok w' c' H') (i : Nat) {v : V} {d : D} (n : NewR K w' H H' v d) :
    ∃ s, (∀ l, d = .lst l → s = .own l) ∧ (∀ l, d = .dct l → s = .ownd l) ∧ Rel K w0 H0 w' c' H' (τ.set i s) (σ.set i (some v)) := by
  obtain ⟨a, rfl, n0, n1, n2, h⟩ := n
  have o : Own w' H0 a := ⟨n1, n2, r.fresh n0⟩
  have r' := r.go x ok
  have el : ∀ j b, j ≠ i → V.ref a = .ref b → isOwn (τ.getD j .un) = true → σ.getD j none = some (.ref b) → False := fun j b _ e hj ej => by
    cases e
    obtain ⟨u, hu⟩ := r.own_at hj ej
    rw [n0] at hu; cases hu
  rcases h with ⟨vs, l, rfl, e, rl⟩ | ⟨kvs, l, rfl, e, rl⟩ | ⟨kvs, l, ne, rfl, e, rl⟩
  · exact ⟨.own l, (fun _ q => by cases q; rfl), (fun _ q => by cases q), r'.setR i ⟨a, vs, rfl, o, e, rl⟩ fun j b nj _ ev hj ej => el j b nj ev hj ej⟩
  · exact ⟨.ownd l, (fun _ q => by cases q), (fun _ q => by cases q; rfl), r'.setR i ⟨a, rfl, o, .inl ⟨kvs, e, rl⟩⟩ fun j b nj _ ev hj ej => el j b nj ev hj ej⟩
  · exact ⟨.ownd l, (fun _ q => by cases q), (fun _ q => by cases q; rfl), r'.setR i ⟨a, rfl, o, .inr ⟨kvs, ne, e, rl⟩⟩ fun j b nj _ ev hj ej => el j b nj ev hj ej⟩
/-- an own thing at a is changed (all other slots stand) -/
theorem Rel.chg {K : PySem.W.Frag} (r : Rel K w0 H0 w c H τ σ) {i : Nat} {a : Addr} {o : HO} {s : SV} (ho : isOwn (τ.getD i .un) = true) (e : σ.getD i none = some (.ref a)) (hs : isOwn s = true)
    (hn : SlotR K w (upd H a o) H0 s (some (.ref a))) : Rel K w0 H0 w c (upd H a o) (τ.set i s) σ := by
  have hown : Own w H0 a := by
    have q := r.slot i
    cases z : τ.getD i .un with
    | un => rw [z] at ho; cases ho
    | val d => rw [z] at ho; cases ho
    | own l => rw [z] at q; obtain ⟨b, _, eb, h, _⟩ := q; rw [e] at eb; cases eb; exact h
    | ownd l => rw [z] at q; obtain ⟨b, eb, h, _⟩ := q; rw [e] at eb; cases eb; exact h
  have other : ∀ j, j ≠ i → SlotR K w (upd H a o) H0 (τ.getD j .un) (σ.getD j none) := fun j nj => by
    have q := r.slot j
    have d : ∀ b, isOwn (τ.getD j .un) = true → σ.getD j none = some (.ref b) → b ≠ a := fun b h1 h2 z => by
      subst z
      exact r.own j i b nj h1 ho h2 e
    cases z : τ.getD j .un with
    | un => trivial
    | val d => rw [z] at q; exact q
    | own l =>
      rw [z] at q d
      obtain ⟨b, vs, eb, h, hb, rl⟩ := q
      exact ⟨b, vs, eb, h, by rw [upd_ne (d b rfl eb)]; exact hb, rl⟩
    | ownd l =>
      rw [z] at q d
      obtain ⟨b, eb, h, hb⟩ := q
      refine ⟨b, eb, h, ?_⟩
      rw [upd_ne (d b rfl eb)]; exact hb
  refine ⟨r.ok.wrote hown.hs hown.dr o, fun b n => r.dom b (by
    have nb : b ≠ a := fun z => by rw [z, upd_same] at n; cases n
    rw [upd_ne nb] at n; exact n), ⟨r.ext.le, fun b u h1 h2 h3 => ?_⟩, by rw [List.length_set]; exact r.len, fun j => ?_, fun j k b ne h1 h2 h3 h4 => ?_⟩
  · have nb : b ≠ a := fun q => by rw [q, hown.new] at h1; cases h1
    obtain ⟨k1, k2, k3⟩ := r.ext.keep b u h1 h2 h3
    exact ⟨by rw [upd_ne nb]; exact k1, k2, k3⟩
  · rw [getD_set]
    by_cases hj : i = j
    · subst hj
      by_cases hl : i < τ.length
      · rw [if_pos ⟨rfl, hl⟩, e]; exact hn
      · exfalso
        rw [List.getD_eq_getElem?_getD, List.getElem?_eq_none (by omega)] at ho
        cases ho
    · rw [if_neg (fun q => hj q.1)]
      exact other j (fun q => hj q.symm)
  · have iso : ∀ j, isOwn ((τ.set i s).getD j .un) = true → isOwn (τ.getD j .un) = true := fun j h => by
      rw [getD_set] at h
      by_cases hj : i = j ∧ i < τ.length
      · rw [← hj.1]; exact ho
      · rw [if_neg hj] at h; exact h
    exact r.own j k b ne (iso j h1) (iso k h2) h3 h4

/-! ### targets -/
theorem wipe_set {σ : L2.St} {i : Nat} {o : Option V} : ∀ {vs : List Nat}, i ∈ vs → L2.wipe (σ.set i o) vs = L2.wipe σ vs
  | [], h => by cases h
  | v :: vs, h => by
    show (L2.wipe (σ.set i o) vs).set v none = (L2.wipe σ vs).set v none
    by_cases hv : i ∈ vs
    · rw [wipe_set hv]
    · have e : i = v := by
        rcases List.mem_cons.mp h with q | q
        · exact q
        · exact absurd q hv
      subst e
      have key : ∀ (us : List Nat), i ∉ us → L2.wipe (σ.set i o) us = (L2.wipe σ us).set i o := by
        intro us
        induction us with
        | nil => intro _; rfl
        | cons u us ih =>
          intro hu
          show (L2.wipe (σ.set i o) us).set u none = ((L2.wipe σ us).set u none).set i o
          rw [ih (fun q => hu (List.mem_cons_of_mem _ q)), List.set_comm _ _ (fun q => hu (by rw [q]; exact List.mem_cons_self))]
      rw [key vs hv, List.set_set]
mutual
def Tg.tg (K : PySem.W.Frag) : Tg → TG
  | .n i => gName i
  | .t l => gTup K l.length (Tg.tgs K l)
def Tg.tgs (K : PySem.W.Frag) : List Tg → TGs
  | [] => gNil
  | g :: gs => gCons (g.tg K) (Tg.tgs K gs)
end
mutual
theorem Tg.real {K : PySem.W.Frag} : ∀ (g : Tg) {d : D} {τ τ' : Sl} {v : V} {σ : L2.St} {Qt : L2.St → Hp → Prop}, Rel K w0 H0 w c H τ σ → Rep K w v d → g.go d τ = some τ' →
    (∀ σ', Rel K w0 H0 w c H τ' σ' → (∀ vs, (∀ i ∈ g.vars, i ∈ vs) → L2.wipe σ' vs = L2.wipe σ vs) → Qt σ' H) → g.tg K v σ H Qt
  | .n i, d, τ, τ', v, σ, Qt, r, rv, e, q => by
    simp only [Tg.go, Option.some.injEq] at e
    subst e
    simp only [Tg.tg]
    exact q _ (r.set i rv) fun vs h => wipe_set (h i (by simp [Tg.vars]))
  | .t l, d, τ, τ', v, σ, Qt, r, rv, e, q => by
    cases d with
    | tup ds =>
      simp only [Tg.go] at e
      simp only [Tg.tg]
      cases rv with
      | tup h rs =>
        obtain ⟨hl, k⟩ := Tg.reals l r rs e (fun σ' r' hw => q σ' r' fun vs h => hw vs (by simpa only [Tg.vars] using h))
        exact ⟨_, _, rfl, same_seqT r.ok.sub h, hl, k⟩
    | _ => simp [Tg.go] at e
theorem Tg.reals {K : PySem.W.Frag} : ∀ (g : List Tg) {d : List D} {τ τ' : Sl} {v : List V} {σ : L2.St} {Qt : L2.St → Hp → Prop}, Rel K w0 H0 w c H τ σ → Reps K w v d → Tg.goes g d τ = some τ' →
    (∀ σ', Rel K w0 H0 w c H τ' σ' → (∀ vs, (∀ i ∈ Tg.varss g, i ∈ vs) → L2.wipe σ' vs = L2.wipe σ vs) → Qt σ' H) → v.length = g.length ∧ Tg.tgs K g v σ H Qt
  | [], d, τ, τ', v, σ, Qt, r, rv, e, q => by
    cases rv with
    | nil =>
      simp only [Tg.goes, Option.some.injEq] at e
      subst e
      simp only [Tg.tgs]
      exact ⟨rfl, rfl, q σ r fun _ _ => rfl⟩
    | cons _ _ => simp [Tg.goes] at e
  | g :: gs, d, τ, τ', v, σ, Qt, r, rv, e, q => by
    cases rv with
    | nil => simp [Tg.goes] at e
    | cons r1 rs =>
      rename_i v1 d1 vs1 ds1
      simp only [Tg.goes] at e
      cases e1 : g.go d1 τ with
      | none => rw [e1] at e; cases e
      | some τ1 =>
        rw [e1] at e
        have e : Tg.goes gs ds1 τ1 = some τ' := e
        simp only [Tg.tgs]
        have hl : vs1.length = gs.length := by
          have : ∀ (gs : List Tg) (ds : List D) (τ τ' : Sl), Tg.goes gs ds τ = some τ' → ds.length = gs.length := by
            intro gs
            induction gs with
            | nil =>
              intro ds τ τ' h
              cases ds with
              | nil => rfl
              | cons _ _ => simp [Tg.goes] at h
            | cons g gs ih =>
              intro ds τ τ' h
              cases ds with
              | nil => simp [Tg.goes] at h
              | cons d ds =>
                simp only [Tg.goes] at h
                cases e2 : g.go d τ with
                | none => rw [e2] at h; cases h
                | some τ2 =>
                  rw [e2] at h
                  exact congrArg Nat.succ (ih ds τ2 τ' h)
          rw [rs.length]
          exact this _ _ _ _ e
        refine ⟨congrArg Nat.succ hl, v1, vs1, rfl, Tg.real g r r1 e1 fun σ1 r2 hw => ?_⟩
        exact (Tg.reals gs r2 rs e fun σ2 r3 hw2 => q σ2 r3 fun vs h => (hw2 vs fun i hi => h i (by simp [Tg.varss, hi])).trans (hw vs fun i hi => h i (by simp [Tg.varss, hi]))).2
end
structure DG (X : Cx) (e : Expr) (g : Tg) : Prop where
  ok : PG X e (g.tg X.K)
structure DGs (X : Cx) (e : List Expr) (g : List Tg) : Prop where
  ok : PGs X e (Tg.tgs X.K g)
  len : e.length = g.length
theorem dg_n (i : Nat) {x : Str} {pos : Pos} (hN : X.N.Nodup) (hi : X.N[i]? = some x := by rfl) (hx : Loc X.env.scope x := by first | exact Or.inl rfl | exact Or.inr rfl) (hf : X.fn x = true ∨ X.env.scope.names.lookup x = some .local := by first | exact .inl rfl | exact .inr rfl) : DG X (.Name x pos) (.n i) :=
  ⟨by simpa only [Tg.tg] using pg_name hN hi hx hf⟩
theorem dgs_nil : DGs X [] [] := ⟨by simpa only [Tg.tgs] using pgs_nil, rfl⟩
theorem dgs_cons {e : Expr} {es : List Expr} {g : Tg} {gs : List Tg} (h : DG X e g) (hs : DGs X es gs) (ha : (assignEach (e :: es) X.env).map (·.2) = assign e X.env :: (assignEach es X.env).map (·.2) := by rfl) : DGs X (e :: es) (g :: gs) :=
  ⟨by simpa only [Tg.tgs] using pgs_cons h.ok hs.ok ha, congrArg Nat.succ hs.len⟩
theorem dg_t {es : List Expr} {k : Nat} {pos : Pos} {gs : List Tg} (hc : X.calm = true) (h : DGs X es gs) (hn : (assignEach es X.env).length = gs.length := by rfl) (hst : (assignEach es X.env).findIdx? (·.1) = none := by rfl) : DG X (.Tuple es k pos) (.t gs) :=
  ⟨by simpa only [Tg.tg] using pg_tup hc h.ok hn hst⟩

/-! ### statements -/
theorem dss_nil : DSs X W [] sNx := ⟨fun w0 H0 => pss_nil.weak fun D' σ H ⟨w, c, τ, r, q⟩ => q w H σ r⟩
theorem dss_cons {s : Stmt} {r : List Stmt} {fa fb : XS} (ha : DS X W s fa) (hb : DSs X W r fb) : DSs X W (s :: r) (sSeq fa fb) := by
  refine ⟨fun w0 H0 => (pss_cons (ha.ok w0 H0) (hb.ok w0 H0)).weak fun D' σ H ⟨w, c, τ, rel, q⟩ => ?_⟩
  refine ⟨w, c, τ, rel, wp_mono (wp_bind.1 q) (fun rr c' _ k => ?_) fun _ _ _ _ k => k⟩
  obtain ⟨fl, τ'⟩ := rr
  cases fl with
  | nx => exact fun w' H' σ' r' => ⟨w', c', τ', r', k⟩
  | rt d => exact k
theorem dss_one {s : Stmt} {fa : XS} (ha : DS X W s fa) : DSs X W [s] fa := ⟨fun w0 H0 => pss_one (ha.ok w0 H0)⟩
theorem ds_stk {s : Stmt} : DS X W s sStk := ⟨fun w0 H0 => ps_never.weak fun D' σ H ⟨w, c, τ, r, q⟩ => q.elim⟩
theorem dss_stk {s : List Stmt} : DSs X W s sStk := ⟨fun w0 H0 => pss_never.weak fun D' σ H ⟨w, c, τ, r, q⟩ => q.elim⟩
theorem ds_pass {pos : Pos} : DS X W (.Pass pos) sNx := ⟨fun w0 H0 => ps_pass.weak fun D' σ H ⟨w, c, τ, r, q⟩ => q w H σ r⟩
theorem PSX.toPX {w w' : Wd} {H H' : Hp} {τ : Sl} {σ : L2.St} {x : String} {fs : List D} {c' : Nat} (e : Ext w0 H0 w H) (h : PSX X W w0 H0 x fs c') : PX X W w H σ x fs c' := fun w' H' cls d x2 ok r => h w' H' cls d σ (e.trans x2) ok r
theorem wp_toPX {β : Type} {m : M β} {c : Nat} {Qb : β → Nat → Prop} (e : Ext w0 H0 w H) (h : wp m c Qb (PSX X W w0 H0)) : wp m c Qb (PX X W w H σ) :=
  wp_mono h (fun _ _ _ q => q) fun _ _ _ _ q => PSX.toPX (w' := w) (H' := H) (τ := []) e q
theorem ds_set {i : Nat} {x : Str} {e : Expr} {f : XE} {pos pos' : Pos} (hN : X.N.Nodup) (he : DE X W e f) (hi : X.N[i]? = some x := by rfl) (hx : Loc X.env.scope x := by first | exact Or.inl rfl | exact Or.inr rfl) (hs : swapsWith e (some (.Name x pos')) pos.line X.env = pure false := by rfl)
    (hf : X.fn x = true ∨ X.env.scope.names.lookup x = some .local := by first | exact .inl rfl | exact .inr rfl) : DS X W (.Assign [.Name x pos'] e pos) (sSet i f) := by
  refine ⟨fun w0 H0 => (ps_set hN hi hx (he.ok w0 H0) hs hf).weak fun D' σ H ⟨w, c, τ, rel, q⟩ => ?_⟩
  have q1 := wp_toPX (σ := σ) rel.ext (wp_bind.1 q)
  exact ⟨w, c, τ, rel, wp_mono q1 (fun d c' _ k w' H' v e ok rv => k w' H' _ ((rel.go e ok).set i rv)) fun _ _ _ _ k => k⟩
/-- name = [..], where the frame's list is stored by the comprehension itself -/
theorem ds_asg {tg e : Expr} {f : XE} {g : Tg} {pos : Pos} (he : DE X W e f) (hg : DG X tg g) (hs : swapsWithSole [tg] e pos.line X.env = pure false := by rfl) (hw : swappedStores [tg] e X.env = pure none := by rfl) (h1 : (assignEach [tg] X.env).map (·.2) = [assign tg X.env] := by rfl) :
    DS X W (.Assign [tg] e pos) (sAsg f g) := by
  refine ⟨fun w0 H0 => (ps_asg (he.ok w0 H0) hg.ok hs hw h1).weak fun D' σ H ⟨w, c, τ, rel, q⟩ => ?_⟩
  have q1 := wp_toPX (σ := σ) rel.ext (wp_bind.1 q)
  refine ⟨w, c, τ, rel, wp_mono q1 (fun d c' _ k w' H' v e ok rv => ?_) fun _ _ _ _ k => k⟩
  cases eg : g.go d τ with
  | none => rw [eg] at k; exact k.elim
  | some τ1 =>
    rw [eg] at k
    exact Tg.real g (rel.go e ok) rv eg fun σ' r' _ => k w' H' σ' r'
theorem ds_own {i : Nat} {x : Str} {e : Expr} {f : XE} {pos pos' : Pos} (hN : X.N.Nodup) (he : FE X W e f) (hi : X.N[i]? = some x := by rfl) (hx : Loc X.env.scope x := by first | exact Or.inl rfl | exact Or.inr rfl) (hs : swapsWith e (some (.Name x pos')) pos.line X.env = pure false := by rfl)
    (hf : X.fn x = true ∨ X.env.scope.names.lookup x = some .local := by first | exact .inl rfl | exact .inr rfl) : DS X W (.Assign [.Name x pos'] e pos) (sOwn i f) := by
  refine ⟨fun w0 H0 => (ps_set hN hi hx (he.ok w0 H0) hs hf).weak fun D' σ H ⟨w, c, τ, rel, q⟩ => ?_⟩
  have q1 := wp_toPX (σ := σ) rel.ext (wp_bind.1 q)
  refine ⟨w, c, τ, rel, wp_mono q1 (fun d c' _ k w' H' v e ok rv => ?_) fun _ _ _ _ k => k⟩
  obtain ⟨s, e1, e2, r'⟩ := rel.setOwn e ok i rv
  obtain ⟨a, _, _, _, _, hh⟩ := rv
  rcases hh with ⟨vs, l, rfl, _⟩ | ⟨kvs, l, rfl, _⟩ | ⟨kvs, l, _, rfl, _⟩
  · rw [e1 l rfl] at r'; exact k w' H' _ r'
  · rw [e2 l rfl] at r'; exact k w' H' _ r'
  · rw [e2 l rfl] at r'; exact k w' H' _ r'
theorem ds_ret {e : Expr} {f : XE} {pos : Pos} (he : DE X W e f) : DS X W (.Return (some e) pos) (sRet f) := by
  refine ⟨fun w0 H0 => (ps_ret (he.ok w0 H0)).weak fun D' σ H ⟨w, c, τ, rel, q⟩ => ?_⟩
  have q1 := wp_toPX (σ := σ) rel.ext (wp_bind.1 q)
  exact ⟨w, c, τ, rel, wp_mono q1 (fun d c' _ k w' H' v e ok rv => k w' H' v (rel.ext.trans e) ok rv) fun _ _ _ _ k => k⟩
theorem ds_drop {e : Expr} {f : XE} {pos : Pos} (he : DE X W e f) (hs : swapsWith e none pos.line X.env = pure false := by rfl) : DS X W (.Expr e pos) (sDrop f) := by
  refine ⟨fun w0 H0 => (ps_expr (he.ok w0 H0) hs).weak fun D' σ H ⟨w, c, τ, rel, q⟩ => ?_⟩
  have q1 := wp_toPX (σ := σ) rel.ext (wp_bind.1 q)
  exact ⟨w, c, τ, rel, wp_mono q1 (fun d c' _ k w' H' v e ok rv => k w' H' σ (rel.go e ok)) fun _ _ _ _ k => k⟩
theorem ds_if {t : Expr} {a b : List Stmt} {pos : Pos} {ft : XB} {fa fb : XS} (ht : DT X W t ft) (ha : DSs X W a fa) (hb : DSs X W b fb) : DS X W (.If t a b pos) (sIf ft fa fb) := by
  refine ⟨fun w0 H0 => (ps_if (ht.ok w0 H0) (ha.ok w0 H0) (hb.ok w0 H0)).weak fun D' σ H ⟨w, c, τ, rel, q⟩ => ?_⟩
  have q1 := wp_toPX (σ := σ) rel.ext (wp_bind.1 q)
  have q0 := wp_bind.1 q
  have q2 : wp (ft τ) c (fun d c' => ∀ w' H', Ext w H w' H' → Ok w' c' H' → if d = true then tS X W w0 H0 fa D' σ H' else tS X W w0 H0 fb D' σ H') (PX X W w H σ) := by
    refine wp_mono (wp_toPX (σ := σ) rel.ext q0) (fun d c' _ k w' H' e ok => ?_) fun _ _ _ _ k => k
    cases d with
    | true => exact ⟨w', c', τ, rel.go e ok, k⟩
    | false => exact ⟨w', c', τ, rel.go e ok, k⟩
  exact ⟨w, c, τ, rel, q2⟩
/-- an own list or dict becomes one that stays -/
theorem ps_permS {st : Stmt} {t : TS} (h : PS X st t) : PS X st (fun D' σ H => t D' σ H ∨ ∃ d u, H d = some u ∧ Mut (some u) ∧ ∀ od, t D' σ (upd H d (.frz od u))) := by
  refine ⟨fun pins s σ H D' I hw => ?_⟩
  rcases hw with hw | ⟨d, u, hd, mu, hw⟩
  · exact h.run pins s σ H D' I hw
  · obtain ⟨od, I1⟩ := I.lock hd mu
    exact h.run pins s σ _ D' I1 (hw od)
theorem Rel.frz {K : PySem.W.Frag} (r : Rel K w0 H0 w c H τ σ) (i : Nat) : (∃ w', Rel K w0 H0 w' c H (Mn.frz τ i) σ) ∨ ∃ d u, H d = some u ∧ Mut (some u) ∧ ∀ od, ∃ w', Rel K w0 H0 w' c (upd H d (.frz od u)) (Mn.frz τ i) σ := by
  have hs := r.slot i
  unfold Mn.frz
  have build : ∀ (a : Addr) (o : HO) (H' : Hp) (d : D), H' a = some o → (∀ b, b ≠ a → H' b = H b) → w.hs a = none → ¬ w.draw a → H0 a = none → σ.getD i none = some (.ref a) → isOwn (τ.getD i .un) = true → Rep K (w.lay a o) (.ref a) d → (∃ o', H a = some o') →
      Rel K w0 H0 (w.lay a o) c H' (τ.set i (.val d)) σ := by
    intro a o H' d e1 e2 n1 n2 n3 es ho rd hot
    have le : Le w (w.lay a o) := RepK.frz (K := K) n1
    have s1 : Same w.hs (upd w.hs a o) := le.hs
    have ok' : Ok (w.lay a o) c H' := by
      refine ⟨fun b u e => ?_, r.ok.dr.1, fun g e => ?_⟩
      · by_cases hb : b = a
        · subst hb
          have e' : upd w.hs b o b = some u := e
          rw [upd_same] at e'; cases e'
          exact e1
        · have e' : upd w.hs a o b = some u := e
          rw [upd_ne hb] at e'
          rw [e2 b hb]; exact r.ok.sub b u e'
      · obtain ⟨a1, b1, ns, ls, k, h1, h2, h3, h4⟩ := r.ok.dr.2 g e
        have nd : g.d ≠ a := fun q => n2 ⟨g, e, .inl q.symm⟩
        have nl : g.l ≠ a := fun q => n2 ⟨g, e, .inr q.symm⟩
        exact ⟨by show upd w.hs a o g.d = none; rw [upd_ne nd]; exact a1, by show upd w.hs a o g.l = none; rw [upd_ne nl]; exact b1, ns, ls, k, by rw [e2 _ nd]; exact h1, by rw [e2 _ nl]; exact h2, s1 _ _ h3, h4⟩
    have ext' : Ext w0 H0 (w.lay a o) H' := by
      refine ⟨r.ext.le.trans le, fun b u h1 h2 h3 => ?_⟩
      obtain ⟨k1, k2, k3⟩ := r.ext.keep b u h1 h2 h3
      have nb : b ≠ a := fun q => by rw [q, n3] at h1; cases h1
      refine ⟨by rw [e2 b nb]; exact k1, ?_, k3⟩
      show upd w.hs a o b = none
      rw [upd_ne nb]; exact k2
    refine ⟨ok', fun b n => r.dom b (by
      have nb : b ≠ a := fun z => by rw [z, e1] at n; cases n
      rw [e2 b nb] at n; exact n), ext', by rw [List.length_set]; exact r.len, fun j => ?_, fun j k b ne h1 h2 h3 h4 => ?_⟩
    · rw [getD_set]
      by_cases hj : i = j ∧ i < τ.length
      · rw [if_pos hj, ← hj.1]; exact ⟨_, es, rd⟩
      · rw [if_neg hj]
        have q := r.slot j
        have nj : isOwn (τ.getD j .un) = true → j ≠ i := fun h z => by
          subst z
          apply hj
          refine ⟨rfl, ?_⟩
          by_cases hl : j < τ.length
          · exact hl
          · rw [List.getD_eq_getElem?_getD, List.getElem?_eq_none (by omega)] at h; cases h
        have dd : ∀ b, isOwn (τ.getD j .un) = true → σ.getD j none = some (.ref b) → b ≠ a := fun b h1 h2 z => by
          subst z
          exact r.own j i b (nj h1) h1 ho h2 es
        cases z : τ.getD j .un with
        | un => trivial
        | val d => rw [z] at q; obtain ⟨v, ev, rv⟩ := q; exact ⟨v, ev, rv.le le⟩
        | own l =>
          rw [z] at q dd
          obtain ⟨b, vs, eb, h, hb, rl⟩ := q
          have nb := dd b rfl eb
          exact ⟨b, vs, eb, ⟨by show upd w.hs a o b = none; rw [upd_ne nb]; exact h.hs, h.dr, h.new⟩, by rw [e2 b nb]; exact hb, rl.le le⟩
        | ownd l =>
          rw [z] at q dd
          obtain ⟨b, eb, h, hb⟩ := q
          have nb := dd b rfl eb
          refine ⟨b, eb, ⟨by show upd w.hs a o b = none; rw [upd_ne nb]; exact h.hs, h.dr, h.new⟩, ?_⟩
          rw [e2 b nb]
          rcases hb with ⟨kvs, hb, rl⟩ | ⟨kvs, ne, hb, rl⟩
          · exact .inl ⟨kvs, hb, rl.le le⟩
          · exact .inr ⟨kvs, ne, hb, rl.le le⟩
    · have iso : ∀ j, isOwn ((τ.set i (.val d)).getD j .un) = true → isOwn (τ.getD j .un) = true := fun j h => by
        rw [getD_set] at h
        by_cases hj : i = j ∧ i < τ.length
        · rw [if_pos hj] at h; cases h
        · rw [if_neg hj] at h; exact h
      exact r.own j k b ne (iso j h1) (iso k h2) h3 h4
  cases z : τ.getD i .un with
  | un => exact .inl ⟨w, r⟩
  | val d => exact .inl ⟨w, r⟩
  | own l =>
    rw [z] at hs
    obtain ⟨a, vs, es, o, ha, rl⟩ := hs
    refine .inl ⟨w.lay a (.lst vs), build a (.lst vs) H (.lst l) ha (fun _ _ => rfl) o.hs o.dr o.new es (by rw [z]; rfl) ?_ ⟨_, ha⟩⟩
    refine .lst ?_ (rl.le (RepK.frz (K := K) o.hs))
    show upd w.hs a _ a = _
    rw [upd_same]
  | ownd l =>
    rw [z] at hs
    obtain ⟨a, es, o, hb⟩ := hs
    rcases hb with ⟨kvs, ha, rl⟩ | ⟨kvs, ne, ha, rl⟩
    · refine .inr ⟨a, _, ha, trivial, fun od => ⟨w.lay a (.frz od (.dK kvs)), build a (.frz od (.dK kvs)) _ (.dct l) upd_same (fun b hb => upd_ne hb) o.hs o.dr o.new es (by rw [z]; rfl) ?_ ⟨_, ha⟩⟩⟩
      refine .dk (od := od) (kvs := kvs) ?_ (rl.le (RepK.frz (K := K) o.hs))
      show upd w.hs a _ a = _
      rw [upd_same]
    · refine .inr ⟨a, _, ha, trivial, fun od => ⟨w.lay a (.frz od (.dT kvs)), build a (.frz od (.dT kvs)) _ (.dct l) upd_same (fun b hb => upd_ne hb) o.hs o.dr o.new es (by rw [z]; rfl) ?_ ⟨_, ha⟩⟩⟩
      refine .dt (od := od) (kvs := kvs) ne ?_ (rl.le (RepK.frz (K := K) o.hs))
      show upd w.hs a _ a = _
      rw [upd_same]
theorem ds_frz (i : Nat) {s : Stmt} {f : XS} (h : DS X W s f) : DS X W s (sFrz i f) := by
  refine ⟨fun w0 H0 => (ps_permS (h.ok w0 H0)).weak fun D' σ H ⟨w, c, τ, rel, q⟩ => ?_⟩
  rcases rel.frz i with ⟨w', r'⟩ | ⟨d, u, hd, mu, k⟩
  · exact .inl ⟨w', c, _, r', q⟩
  · refine .inr ⟨d, u, hd, mu, fun od => ?_⟩
    obtain ⟨w', r'⟩ := k od
    exact ⟨w', c, _, r', q⟩
end
end Mn

set_option Elab.async false
set_option linter.all false
set_option autoImplicit false
set_option maxRecDepth 100000
set_option maxHeartbeats 2000000
/-! Mn7: what is walked: lists, tuples, ranges, enumerate, zip; loops. -/
namespace Mn
open PySem PySem.Spec PyProof.Rows L2
/-! ### a list (false) or a tuple (true), told alike -/
def SqA (K : PySem.W.Frag) (H : Hp) : Bool → Addr → List V → Prop
  | true, a, xs => SqT K H a xs
  | false, a, xs => SqL K H a xs
def SeqH (h : Heap) : Bool → Addr → Array Value → Prop
  | true, a, xs => h.IsTuple a xs
  | false, a, xs => h.IsList a xs
def IterH (h : Heap) : Bool → Addr → Addr → Nat → Prop
  | true, it, a, i => h.IsTupleIter it a i
  | false, it, a, i => h.IsListIter it a i
def iterO : Bool → Addr → Obj
  | true, a => { cls := .type "tuple_iterator", data := .fields #[.ref a, .int 0 0] }
  | false, a => { cls := .type "list_iterator", data := .fields #[.ref a, .int 0 0] }
theorem begins_A (b : Bool) (a : Addr) (items : Array Value) : Begins (.ref a) (iterO b a) fun h => SeqH h b a items := by
  cases b with
  | true => exact begins_tuple a items
  | false => exact begins_list a items
theorem iterH_new {h : Heap} {b : Bool} {it a : Addr} (e : h.get? it = some (iterO b a)) : IterH h b it a 0 := by
  cases b with
  | true => exact ⟨_, e, rfl, rfl⟩
  | false => exact ⟨_, e, rfl, rfl⟩
theorem IterH.obj {h : Heap} {b : Bool} {it a : Addr} {i : Nat} (x : IterH h b it a i) : ∃ o, h.get? it = some o ∧ ∀ v, o.data ≠ .cell v := by
  cases b with
  | true => obtain ⟨o, e, _, d⟩ := x; exact ⟨o, e, fun v q => by rw [d] at q; cases q⟩
  | false => obtain ⟨o, e, _, d⟩ := x; exact ⟨o, e, fun v q => by rw [d] at q; cases q⟩
theorem IterH.keep {h h' : Heap} {b : Bool} {it a : Addr} {i : Nat} (x : IterH h b it a i) (k : ∀ o, h.get? it = some o → h'.get? it = some o) : IterH h' b it a i := by
  cases b with
  | true => exact Heap.IsTupleIter.at x k
  | false => exact Heap.IsListIter.at x k
theorem draws_A {prog : Program} {w : World} {A : Around} (hh : A.handled = none) (b : Bool) (it a : Addr) (hne : a ≠ it) (items : Array Value) :
    Draws prog w A it [it, a] items.size (fun i v => items[i]? = some v) (fun i h => IterH h b it a i ∧ SeqH h b a items) := by
  cases b with
  | true => exact Draws.tuple hh it a hne items
  | false => exact Draws.list hh it a hne items
section
variable {X : Cx} {pins : List (Addr × Obj)} {σ : L2.St} {H : Hp} {s : Shared}
theorem seqA {b : Bool} {a : Addr} {xs : List V} (I : Inv X pins σ H s) (h : SqA X.K H b a xs) : ∃ its : List Value, Vals xs its ∧ SeqH s.heap b a its.toArray ∧ a < s.heap.objs.size ∧ xs.length ≤ sizeLine := by
  cases b with
  | true =>
    obtain ⟨its, r, p, hz⟩ := I.tuple h
    obtain ⟨o, ho, _⟩ := id p
    exact ⟨its, r, p, Heap.lt_size ho, hz⟩
  | false =>
    obtain ⟨its, r, p, hz⟩ := I.list h
    exact ⟨its, r, p.isList, p.lt, hz⟩
theorem seqA_inj {b : Bool} {a : Addr} {xs ys : List V} (I : Inv X pins σ H s) (h : SqA X.K H b a xs) (h' : SqA X.K H b a ys) : xs = ys := by
  cases b with
  | true => exact I.tuple_inj h h'
  | false => exact I.list_inj h h'
end
/-! ### enumerate -/
/-- the items numbered from k on, each in a new pair -/
def ItE (K : PySem.W.Frag) (b : Bool) (a : Addr) (k : Int) : It :=
  ⟨fun i H => ∃ (xs : List V) (x : V), SqA K H b a xs ∧ xs[i]? = some x, fun i H v H' => ∃ T x, v = .ref T ∧ H T = none ∧ H' = upd H T (.tup [.int (k + (i : Nat)), x]) ∧ ∀ xs, SqA K H b a xs → xs[i]? = some x, fun i H => ∃ xs : List V, SqA K H b a xs ∧ xs.length ≤ i⟩
theorem turn_E {P : Program} {w : World} {K : PySem.W.Frag} {elts : List Expr} {kk : Nat} {tpos : Pos} (b : Bool) (k : Int) (a e it : Addr) :
    Turn P w K (.Tuple elts kk tpos) (ItE K b a k) [e, it] e (fun i h => (∃ old, IsEnum h e it (k + ((i : Nat) : Int)) old) ∧ IterH h b it a i ∧ e ≠ it ∧ a ≠ it ∧ a ≠ e) where
  mem := by simp
  obj := fun i h st c hc => by
    obtain ⟨⟨old, he⟩, hit, _⟩ := st
    have e' : c = e ∨ c = it := by simpa using hc
    rcases e' with z | z
    · rw [z]; exact ⟨_, he, fun v q => nomatch q⟩
    · rw [z]; exact hit.obj
  keep := fun i h h' st kp => let ⟨⟨old, he⟩, hi, hne⟩ := st; ⟨⟨old, kp e (by simp) _ he⟩, hi.keep fun o q => kp it (by simp) o q, hne⟩
  item := by
    intro X hP hw hK hc i pins s σ H E I hf st hg
    subst hP hw hK
    obtain ⟨⟨old, he⟩, hit, hne, ha1, ha2⟩ := st
    obtain ⟨xs, x, hq, hx⟩ := hg
    obtain ⟨its, rv, p, hal, hz⟩ := seqA I hq
    obtain ⟨u, hu, ru⟩ := rv.get hx
    have hel : e < s.heap.objs.size := Heap.lt_size he
    have hil : it < s.heap.objs.size := by obtain ⟨o, q, _⟩ := hit.obj; exact Heap.lt_size q
    have hlt : i < its.toArray.size := by
      have := (List.getElem?_eq_some_iff.mp hu).1
      simpa using this
    have D := draws_A (prog := X.prog) (w := X.w) (A := X.A.in1) (I.ok.hd hc) b it a ha1 its.toArray
    refine wpAny_pyNext_enum_itemC D he ⟨hit, p⟩ hlt hne (by simp [hne, Ne.symm ha2]) fun y h' tk hy ho st' hT hsz hk => ?_
    have ey : y = u := by
      have q1 : its.toArray[i]? = some u := by simpa using hu
      rw [q1] at hy; exact (Option.some.inj hy).symm
    subst ey
    refine ⟨_, rfl, wpAny_letOwnedTupleGo_enum (s := { s with heap := h', toks := tk + 1 }) ho fun h'' he' sb => ?_⟩
    have hT2 : h''.get? s.heap.objs.size = some { cls := .type "tuple", data := .seq #[.int (k + (i : Nat)) tk, y] } := (sb.2 _ (Nat.ne_of_gt hel)).trans hT
    have new : ObjOk X.prog X.w (upd H s.heap.objs.size (.tup [.int (k + (i : Nat)), x])) h'' s.heap.objs.size (.tup [.int (k + (i : Nat)), x]) :=
      ⟨by show 2 ≤ sizeLine; decide, [.int (k + (i : Nat)) tk, y], .cons ⟨_, rfl⟩ (.cons ru .nil), ⟨_, hT2, rfl, _, rfl⟩⟩
    have I1 : Inv X pins σ (upd H s.heap.objs.size (.tup [.int (k + (i : Nat)), x])) { s with heap := h'', toks := tk + 1 } :=
      I.turnedNew (ch := [e, it]) (fun c ob hb q => (sb.2 c (fun z => hb (by simp [z]))).trans (hk c ob (fun z => hb (by simp [z])) (fun z => hb (by simp [z])) q)) hf (Nat.le_refl _) new
    refine ⟨.ref s.heap.objs.size, _, I1, rfl, ⟨_, x, rfl, I.hok.fresh (Nat.le_refl _), rfl, fun ys hy => by rw [seqA_inj I hy hq]; exact hx⟩, ⟨⟨y, ?_⟩, st'.1.keep fun o q => (sb.2 it (Ne.symm hne)).trans q, hne, ha1, ha2⟩, fun c hb => ?_⟩
    · have e1 : k + ((i + 1 : Nat) : Int) = k + (i : Int) + 1 := by omega
      rw [e1]; exact he'
    · have hb' : c < s.heap.objs.size := by
        have e' : c = e ∨ c = it := by simpa using hb
        rcases e' with z | z
        · rw [z]; exact hel
        · rw [z]; exact hil
      rw [upd_ne (Nat.ne_of_lt hb')]
      exact (hf c hb).1
  done := by
    intro X hP hw hK hc i pins s σ H E I hf st hg
    subst hP hw hK
    obtain ⟨⟨old, he⟩, hit, hne, ha1, ha2⟩ := st
    obtain ⟨xs, hq, hx⟩ := hg
    obtain ⟨its, rv, p, hal, hz⟩ := seqA I hq
    obtain ⟨f0, f1, f2, f3, f4, f5⟩ := hf it (by simp)
    have hl := rv.length
    have hn : its.toArray[i]? = none := by simp; omega
    have hT : s.TypeIs (.ref e) "enumerate" := ⟨_, he, rfl⟩
    have q : ∀ (h' : Heap), Heap.ExtBut it s.heap h' → (none : Option Value) = none ∧ Inv X pins σ H { s with heap := h' } := fun h' eb => ⟨rfl, I.turned (t' := s.toks) (fun c o hb q => eb c o hb q) f0 f1 f3 f4 f5⟩
    unfold pyNext
    refine wpAny_bind (wpAny_attempt (wpAny_callSpecial?_slot (name := Str.ofString "__next__") hT F.slot_enumerate_next (wpAny_call_entry F.slot_enumerate_next hT F.entry_enumerate_next ?_ (F.args_enumerate_next_1 _))))
    show wpAny _ _ (field (.ref e) 2 >>= _) _ _ _
    refine wpAny_bind (wpAny_field he rfl (x := .ref it) rfl ?_)
    have nx : ∀ {Qn : Value → Shared → Prop} {En : Value → Shared → Prop}, (∀ h' x, Heap.ExtBut it s.heap h' → (∃ o, h'.get? x = some o ∧ o.cls = .type "StopIteration") → En (.ref x) { s with heap := h' }) → wpAny (model X.prog X.w) X.A.in1 (Builtin.SmallTypes.nextOf (.ref it)) Qn En s := by
      intro Qn En hE
      cases b with
      | true => exact wpAny_nextOf_tuple_end (I.ok.hd hc) hit p hn hE
      | false => exact wpAny_nextOf_list_end (I.ok.hd hc) hit p hn hE
    refine wpAny_bind (nx fun h' x he' hx' => ?_)
    obtain ⟨o, ho, hcl⟩ := hx'
    refine wpAny_bind (wpAny_isInstance (T := "StopIteration") (b := true) ⟨o, ho, hcl⟩ isSubtype_stop ?_)
    exact wpAny_pure (q h' he')
  self := fun A i s Q E st h => let ⟨⟨_, he⟩, _⟩ := st; wpAny_pyIter_enum he h
set_option maxHeartbeats 1000000 in
theorem meets_enum1 {v : Value} {o : Obj} {Hb : Heap → Prop} (B : Begins v o Hb) : Meets (Builtin.«enumerate.__new__» ⟨[.type "enumerate", v], []⟩) (fun _ R s => Hb s.heap ∧
    R (.ok (.ret (.ref (s.heap.push o).objs.size))) { s with heap := (s.heap.push o).push { cls := .type "enumerate", data := .fields #[.none, .bool false, .ref s.heap.objs.size, rawInt 0, .none, .none] } }) :=
  Meets.of_wp fun prog w A R st hh => by
    obtain ⟨hp, g, d, tk, os⟩ := st
    obtain ⟨h1, hend⟩ := hh
    have hsub := sub_enumerate
    have begins : ∀ {A' : Around} {E : Value → Shared → Prop} {Q : Value → Shared → Prop}, Q (.ref hp.objs.size) ⟨hp.push o, g, d, tk, os⟩ → wpAny (model prog w) A' (pyIter v) Q E ⟨hp, g, d, tk, os⟩ :=
      fun q => B.iter prog w _ _ ⟨hp, g, d, tk, os⟩ _ h1 q
    wp_walk using begins
    refine wpAny_stack_any fun stk => wpAny_pure ?_
    split
    · rename_i cc _ _ _ _ _
      cases (cc == Value.type "enumerate") <;> (wp_walk using begins; exact ⟨_, rfl, hend⟩)
    · wp_walk using begins
      exact ⟨_, rfl, hend⟩
theorem call_enum1 {prog : Program} {w : World} {A : Around} {E : Value → Shared → Prop} {s : Shared} {v : Value} {o : Obj} {Hb : Heap → Prop} {Q : Value → Shared → Prop} (B : Begins v o Hb) (h1 : Hb s.heap)
    (h : ∀ h', IsEnum h' (s.heap.objs.size + 1) s.heap.objs.size 0 .none → h'.get? s.heap.objs.size = some o → (∀ b u, s.heap.get? b = some u → h'.get? b = some u) → Q (.ref (s.heap.objs.size + 1)) { s with heap := h' }) :
    wpAny (model prog w) A (call (.type "enumerate") [v]) Q E s := by
  refine callType_new F.called_enumerate (by decide) (F.typeCall_enumerate_1 _) (F.newCall_enumerate_1 _) (fun x => F.args_object_init_2 x _) F.entry_enumerate_new (meets_enum1 B) ⟨h1, ?_⟩
  have hz : (s.heap.push o).objs.size = s.heap.objs.size + 1 := Heap.size_push ..
  have en : IsEnum ((s.heap.push o).push { cls := .type "enumerate", data := .fields #[.none, .bool false, .ref s.heap.objs.size, rawInt 0, .none, .none] }) (s.heap.objs.size + 1) s.heap.objs.size 0 .none := by
    have q := Heap.get?_push_size (s.heap.push o) (o := { cls := .type "enumerate", data := .fields #[.none, .bool false, .ref s.heap.objs.size, rawInt 0, .none, .none] }) rfl
    rw [hz] at q; exact q
  show _ ∧ _
  rw [hz]
  exact ⟨⟨_, en, rfl⟩, h _ en (Heap.get?_push_of_some _ (Heap.get?_push_size _ B.free)) fun b u q => Heap.get?_push_of_some _ (Heap.get?_push_of_some _ q)⟩
def iE (K : PySem.W.Frag) (ta : TA) : TI := fun σ H R => ta σ H fun vs H1 => ∃ b a xs, vs = [.ref a] ∧ SqA K H1 b a xs ∧ (xs.length ≤ sizeLine → R (ItE K b a 0) H1)
def iE2 (K : PySem.W.Frag) (ta : TA) : TI := fun σ H R => ta σ H fun vs H1 => ∃ b a xs k, vs = [.ref a, .int k] ∧ -(2 ^ 63) ≤ k ∧ k < 2 ^ 63 ∧ SqA K H1 b a xs ∧ (xs.length ≤ sizeLine → R (ItE K b a k) H1)
section
variable {X : Cx}
theorem enum_pie {elts : List Expr} {kk : Nat} {tpos : Pos} {pins : List (Addr × Obj)} {σ : L2.St} {H1 : Hp} {s1 : Shared} {b : Bool} {a : Addr} {xs : List V} {k : Int} {h' : Heap} {R : It → Hp → Prop} (I1 : Inv X pins σ H1 s1) (hal : a < s1.heap.objs.size)
    (he : IsEnum h' (s1.heap.objs.size + 1) s1.heap.objs.size k .none) (hit : h'.get? s1.heap.objs.size = some (iterO b a)) (hk : ∀ c u, s1.heap.get? c = some u → h'.get? c = some u) (q : R (ItE X.K b a k) H1) :
    wpAny (model X.prog X.w) X.A (pyIter (.ref (s1.heap.objs.size + 1))) (PIE X pins σ (.Tuple elts kk tpos) R) X.xe { s1 with heap := h' } := by
  refine wpAny_pyIter_enum he ?_
  have I2 : Inv X pins σ H1 { s1 with heap := h' } := I1.kept (t' := s1.toks) hk
  refine ⟨s1.heap.objs.size + 1, [s1.heap.objs.size + 1, s1.heap.objs.size], _, _, H1, rfl, I2, turn_E b k a (s1.heap.objs.size + 1) s1.heap.objs.size, ⟨⟨.none, by simpa using he⟩, iterH_new hit, Nat.succ_ne_self _, Nat.ne_of_lt hal, Nat.ne_of_lt (Nat.lt_succ_of_lt hal)⟩, fun c hc => ?_, q⟩
  have e' : c = s1.heap.objs.size + 1 ∨ c = s1.heap.objs.size := by simpa using hc
  have hle : s1.heap.objs.size ≤ c := by
    rcases e' with z | z
    · rw [z]; exact Nat.le_add_right _ _
    · rw [z]; exact Nat.le_refl _
  exact I1.fpOk hle (I1.hok.fresh hle)
theorem pi_E {e : Expr} {ta : TA} {p pos tpos : Pos} {elts : List Expr} {kk : Nat} (hg : Gl X "enumerate") (hm : X.mg "enumerate" = none) (ha : PA X [e] ta) (hs : starEach [e] X.env = [(false, eval e X.env)]) :
    PI X (.Tuple elts kk tpos) (.Call (.Name "enumerate" p) [e] [] pos) (iE X.K ta) := by
  refine ⟨fun pins s σ H R I h => ?_⟩
  refine Call_ (ld_blt I hg hm boot_enumerate (PyProof.Rows.callWith_type1 (thn (ha.run pos pins s σ H _ I h) fun us s1 ⟨vs, H1, I1, r1, q1⟩ => ?_) hs rfl))
  obtain ⟨b, a, xs, ex, hq, q⟩ := q1
  subst ex
  cases r1 with
  | cons r rr =>
    cases rr
    cases r
    obtain ⟨its, rv, p', hal, hz⟩ := seqA I1 hq
    exact call_enum1 (begins_A b a its.toArray) p' fun h' he hit hk => enum_pie (xs := xs) I1 hal he hit hk (q hz)
theorem pi_E2 {e e2 : Expr} {ta : TA} {p pos tpos : Pos} {elts : List Expr} {kk : Nat} (hg : Gl X "enumerate") (hm : X.mg "enumerate" = none) (ha : PA X [e, e2] ta)
    (hs : starEach [e, e2] X.env = (false, eval e X.env) :: starEach [e2] X.env) (hpl : (backTo pos (starEach [e2] X.env)).any (·.1) = false) :
    PI X (.Tuple elts kk tpos) (.Call (.Name "enumerate" p) [e, e2] [] pos) (iE2 X.K ta) := by
  refine ⟨fun pins s σ H R I h => ?_⟩
  refine Call_ (ld_blt I hg hm boot_enumerate (PyProof.Rows.callWith_type1 (thn (ha.run pos pins s σ H _ I h) fun us s1 ⟨vs, H1, I1, r1, q1⟩ => ?_) hs hpl))
  obtain ⟨b, a, xs, k, ex, k0, k1, hq, q⟩ := q1
  subst ex
  cases r1 with
  | cons r rr =>
    cases rr with
    | cons r' rr =>
      cases rr
      cases r
      obtain ⟨t, rfl⟩ := r'
      obtain ⟨its, rv, p', hal, hz⟩ := seqA I1 hq
      exact enum_begins (begins_A b a its.toArray) p' k0 k1 fun h' he hit _ hk => enum_pie (xs := xs) I1 hal he hit hk (q hz)
end
end Mn

set_option Elab.async false
set_option linter.all false
set_option autoImplicit false
set_option maxRecDepth 100000
set_option maxHeartbeats 2000000
/-! Mn7b: zip of any two. -/
namespace Mn
open PySem PySem.Spec PyProof.Rows L2
def ItZ (K : PySem.W.Frag) (b1 b2 : Bool) (a1 a2 : Addr) : It :=
  ⟨fun i H => ∃ (xs ys : List V) (x y : V), SqA K H b1 a1 xs ∧ SqA K H b2 a2 ys ∧ xs[i]? = some x ∧ ys[i]? = some y,
    fun i H v H' => ∃ T x y, v = .ref T ∧ H T = none ∧ H' = upd H T (.tup [x, y]) ∧ (∀ xs, SqA K H b1 a1 xs → xs[i]? = some x) ∧ ∀ ys, SqA K H b2 a2 ys → ys[i]? = some y,
    fun i H => ∃ xs ys : List V, SqA K H b1 a1 xs ∧ SqA K H b2 a2 ys ∧ i ≤ xs.length ∧ i ≤ ys.length ∧ (i = xs.length ∨ i = ys.length)⟩
theorem turn_Z {P : Program} {w : World} {K : PySem.W.Frag} {elts : List Expr} {kk : Nat} {tpos : Pos} {b1 b2 : Bool} {a1 a2 z TI TO i1 i2 : Addr} (S : ZipSep2 z TI TO i1 i2 [i1, a1] [i2, a2]) (ne1 : a1 ≠ i1) (ne2 : a2 ≠ i2) :
    Turn P w K (.Tuple elts kk tpos) (ItZ K b1 b2 a1 a2) [z, TI, TO, i1, i2] z (fun i h => IsZip h z TI TO .none ∧ IsTupOf2 h TI (.ref i1) (.ref i2) ∧ (∃ x y, IsTupOf2 h TO x y) ∧ IterH h b1 i1 a1 i ∧ IterH h b2 i2 a2 i) where
  mem := by simp
  obj := fun i h st c hc => by
    obtain ⟨hz, hTI, ⟨x, y, hTO⟩, h1, h2⟩ := st
    have e' : c = z ∨ c = TI ∨ c = TO ∨ c = i1 ∨ c = i2 := by simpa using hc
    rcases e' with q | q | q | q | q
    · rw [q]; exact ⟨_, hz, fun v q => nomatch q⟩
    · rw [q]; exact ⟨_, hTI, fun v q => nomatch q⟩
    · rw [q]; exact ⟨_, hTO, fun v q => nomatch q⟩
    · rw [q]; exact h1.obj
    · rw [q]; exact h2.obj
  keep := fun i h h' st k => by
    obtain ⟨hz, hTI, ⟨x, y, hTO⟩, h1, h2⟩ := st
    exact ⟨k z (by simp) _ hz, k TI (by simp) _ hTI, ⟨x, y, k TO (by simp) _ hTO⟩, h1.keep fun o q => k i1 (by simp) o q, h2.keep fun o q => k i2 (by simp) o q⟩
  item := by
    intro X hP hw hK hc i pins s σ H E I hf st hg
    subst hP hw hK
    obtain ⟨hz, hTI, ⟨x0, y0, hTO⟩, h1, h2⟩ := st
    obtain ⟨xs, ys, x, y, hqx, hqy, hx, hy⟩ := hg
    obtain ⟨its, rv, p, hal, _⟩ := seqA I hqx
    obtain ⟨its2, rv2, p2, hal2, _⟩ := seqA I hqy
    obtain ⟨u, hu, ru⟩ := rv.get hx
    obtain ⟨u2, hu2, ru2⟩ := rv2.get hy
    have hzl : z < s.heap.objs.size := Heap.lt_size hz
    have hlt : i < its.toArray.size := by have := (List.getElem?_eq_some_iff.mp hu).1; simpa using this
    have hlt2 : i < its2.toArray.size := by have := (List.getElem?_eq_some_iff.mp hu2).1; simpa using this
    have D1 := draws_A (prog := X.prog) (w := X.w) (A := X.A.in1) (I.ok.hd hc) b1 i1 a1 ne1 its.toArray
    have D2 := draws_A (prog := X.prog) (w := X.w) (A := X.A.in1) (I.ok.hd hc) b2 i2 a2 ne2 its2.toArray
    refine wpAny_pyNext_zipD2_item S D1 D2 hz hTI hTO ⟨h1, p⟩ ⟨h2, p2⟩ hlt hlt2 fun v1 v2 h' tk hv1 hv2 hz' hTO' st1 st2 hT hsz hk => ?_
    have e1 : v1 = u := by
      have q1 : its.toArray[i]? = some u := by simpa using hu
      rw [q1] at hv1; exact (Option.some.inj hv1).symm
    have e2 : v2 = u2 := by
      have q1 : its2.toArray[i]? = some u2 := by simpa using hu2
      rw [q1] at hv2; exact (Option.some.inj hv2).symm
    subst e1 e2
    refine ⟨_, rfl, wpAny_letOwnedTupleGo_zip (s := { s with heap := h', toks := tk }) hz' fun h'' z'' sb => ?_⟩
    have hT2 : h''.get? s.heap.objs.size = some { cls := .type "tuple", data := .seq #[v1, v2] } := (sb.2 _ (Nat.ne_of_gt hzl)).trans hT
    have new : ObjOk X.prog X.w (upd H s.heap.objs.size (.tup [x, y])) h'' s.heap.objs.size (.tup [x, y]) :=
      ⟨by show 2 ≤ sizeLine; decide, [v1, v2], .cons ru (.cons ru2 .nil), ⟨_, hT2, rfl, _, rfl⟩⟩
    have I1 : Inv X pins σ (upd H s.heap.objs.size (.tup [x, y])) { s with heap := h'', toks := tk } :=
      I.turnedNew (ch := [z, TI, TO, i1, i2]) (fun c o hb q => (sb.2 c (fun q' => hb (by simp [q']))).trans (hk c o (fun q' => hb (by simp [q'])) (fun q' => hb (by simp [q'])) (fun q' => hb (by simp [q'])) (fun q' => hb (by simp [q'])) q)) hf (Nat.le_refl _) new
    refine ⟨.ref s.heap.objs.size, _, I1, rfl, ⟨_, x, y, rfl, I.hok.fresh (Nat.le_refl _), rfl, fun l hl => by rw [seqA_inj I hl hqx]; exact hx, fun l hl => by rw [seqA_inj I hl hqy]; exact hy⟩, ⟨z'', ?_, ⟨v1, v2, ?_⟩, ?_, ?_⟩, fun c hcm => ?_⟩
    · exact (sb.2 _ S.TIz).trans (hk _ _ S.TIz S.TITO S.TIi1 S.TIi2 hTI)
    · exact (sb.2 _ S.TOz).trans hTO'
    · exact st1.1.keep fun o q => (sb.2 _ (Ne.symm S.zi1)).trans q
    · exact st2.1.keep fun o q => (sb.2 _ (Ne.symm S.zi2)).trans q
    · have hlt : c < s.heap.objs.size := by
        have e' : c = z ∨ c = TI ∨ c = TO ∨ c = i1 ∨ c = i2 := by simpa using hcm
        rcases e' with q | q | q | q | q
        · rw [q]; exact hzl
        · rw [q]; exact Heap.lt_size hTI
        · rw [q]; exact Heap.lt_size hTO
        · rw [q]; obtain ⟨_, e1, _⟩ := h1.obj; exact Heap.lt_size e1
        · rw [q]; obtain ⟨_, e2, _⟩ := h2.obj; exact Heap.lt_size e2
      rw [upd_ne (Nat.ne_of_lt hlt)]
      exact (hf c hcm).1
  done := by
    intro X hP hw hK hc i pins s σ H E I hf st hg
    subst hP hw hK
    obtain ⟨hz, hTI, ⟨x0, y0, hTO⟩, h1, h2⟩ := st
    obtain ⟨xs, ys, hqx, hqy, l1, l2, hend⟩ := hg
    obtain ⟨its, rv, p, hal, _⟩ := seqA I hqx
    obtain ⟨its2, rv2, p2, hal2, _⟩ := seqA I hqy
    have D1 := draws_A (prog := X.prog) (w := X.w) (A := X.A.in1) (I.ok.hd hc) b1 i1 a1 ne1 its.toArray
    have D2 := draws_A (prog := X.prog) (w := X.w) (A := X.A.in1) (I.ok.hd hc) b2 i2 a2 ne2 its2.toArray
    have e1 : its.toArray.size = xs.length := by rw [List.size_toArray]; exact rv.length.symm
    have e2 : its2.toArray.size = ys.length := by rw [List.size_toArray]; exact rv2.length.symm
    exact wpAny_pyNext_zipD2_end S D1 D2 hz hTI hTO ⟨h1, p⟩ ⟨h2, p2⟩ (by omega) (by omega) (by omega) fun h' tk hk => ⟨rfl, I.turnedL (t' := tk) (ch := [z, TI, TO, i1, i2]) (fun c o hb q =>
      hk c o (fun q' => hb (by simp [q'])) (fun q' => hb (by simp [q'])) (fun q' => hb (by simp [q'])) (fun q' => hb (by simp [q'])) q) hf⟩
  self := fun A i s Q E st h => wpAny_pyIter_zip st.1 h
def iZ (K : PySem.W.Frag) (ta : TA) : TI := fun σ H R => ta σ H fun vs H1 => ∃ b1 b2 a1 a2 xs ys, vs = [.ref a1, .ref a2] ∧ SqA K H1 b1 a1 xs ∧ SqA K H1 b2 a2 ys ∧ (xs.length ≤ sizeLine → R (ItZ K b1 b2 a1 a2) H1)
section
variable {X : Cx}
theorem pi_Z {e e2 : Expr} {ta : TA} {p pos tpos : Pos} {elts : List Expr} {kk : Nat} (hg : Gl X "zip") (hm : X.mg "zip" = none) (ha : PA X [e, e2] ta)
    (hs : starEach [e, e2] X.env = (false, eval e X.env) :: starEach [e2] X.env) (hpl : (backTo pos (starEach [e2] X.env)).any (·.1) = false) :
    PI X (.Tuple elts kk tpos) (.Call (.Name "zip" p) [e, e2] [] pos) (iZ X.K ta) := by
  refine ⟨fun pins s σ H R I h => ?_⟩
  refine Call_ (ld_blt I hg hm PyProof.Rows.boot_zip (PyProof.Rows.callWith_type1 (thn (ha.run pos pins s σ H _ I h) fun us s1 ⟨vs, H1, I1, r1, q1⟩ => ?_) hs hpl))
  obtain ⟨b1, b2, a1, a2, xs, ys, ex, hq1, hq2, q⟩ := q1
  subst ex
  cases r1 with
  | cons r rr =>
    cases rr with
    | cons r' rr =>
      cases rr
      cases r
      cases r'
      obtain ⟨its, rv, p1, l1, hz1⟩ := seqA I1 hq1
      obtain ⟨its2, rv2, p2, l2, _⟩ := seqA I1 hq2
      refine zip_begins2 (begins_A b1 a1 its.toArray) (begins_A b2 a2 its2.toArray) p1 p2 fun h' hz hTI hTO e1 e2 hsz hk => wpAny_pyIter_zip hz ?_
      have I2 : Inv X pins σ H1 { s1 with heap := h' } := I1.kept (t' := s1.toks) hk
      have sep := zip_sep2 (N := s1.heap.objs.size) (fp1 := [a1]) (fp2 := [a2]) (fun c hc => by rw [List.mem_singleton.mp hc]; exact l1) (fun c hc => by rw [List.mem_singleton.mp hc]; exact l2)
      refine ⟨s1.heap.objs.size + 4, [s1.heap.objs.size + 4, s1.heap.objs.size + 2, s1.heap.objs.size + 3, s1.heap.objs.size, s1.heap.objs.size + 1], _, _, H1, rfl, I2, turn_Z (b1 := b1) (b2 := b2) sep (Nat.ne_of_lt l1) (Nat.ne_of_lt (Nat.lt_succ_of_lt l2)),
        ⟨hz, hTI, ⟨_, _, hTO⟩, iterH_new e1, iterH_new e2⟩, fun c hcm => ?_, q hz1⟩
      have e' : c = s1.heap.objs.size + 4 ∨ c = s1.heap.objs.size + 2 ∨ c = s1.heap.objs.size + 3 ∨ c = s1.heap.objs.size ∨ c = s1.heap.objs.size + 1 := by simpa using hcm
      have hle : s1.heap.objs.size ≤ c := by
        rcases e' with z | z | z | z | z
        · rw [z]; exact Nat.le_add_right _ _
        · rw [z]; exact Nat.le_add_right _ _
        · rw [z]; exact Nat.le_add_right _ _
        · rw [z]; exact Nat.le_refl _
        · rw [z]; exact Nat.le_add_right _ _
      exact I1.fpOk hle (I1.hok.fresh hle)
end
end Mn

set_option Elab.async false
set_option linter.all false
set_option autoImplicit false
set_option maxRecDepth 100000
set_option maxHeartbeats 2000000
/-! Mn8: sources, loops, comprehensions, own lists. -/
namespace Mn
open PySem PySem.Spec PyProof.Rows L2
/-- J hands on the items ds, in any later heap -/
structure Enum (K : PySem.W.Frag) (w : Wd) (J : It) (ds : List D) : Prop where
  len : ds.length ≤ 16777216
  go : ∀ w' H' i, Le w w' → Same w'.hs H' → i < ds.length → J.go i H'
  yld : ∀ w' c' H' i x H2, Le w w' → Ok w' c' H' → i < ds.length → J.yld i H' x H2 → ∃ w2 d, ds[i]? = some d ∧ Ext w' H' w2 H2 ∧ Ok w2 c' H2 ∧ Rep K w2 x d
  stop : ∀ w' H', Le w w' → Same w'.hs H' → J.stop ds.length H'
section
variable {X : Cx} {W : WX} {w0 w : Wd} {c : Nat} {H0 H : Hp} {τ : Sl} {σ : L2.St} {Q : VK}
def tI (X : Cx) (W : WX) (w0 : Wd) (H0 : Hp) (f : XA) : TI := fun σ H R => ∃ w c τ, Rel X.K w0 H0 w c H τ σ ∧
  wp (f τ) c (fun ds c' => ∀ w' H' J, Ext w H w' H' → Ok w' c' H' → Enum X.K w' J ds → R J H') (PX X W w H σ)
structure DI (X : Cx) (W : WX) (tg e : Expr) (f : XA) : Prop where
  ok : ∀ w0 H0, PI X tg e (tI X W w0 H0 f)
theorem _root_.L2.PI.weak {tg e : Expr} {t t' : TI} (h : PI X tg e t) (k : ∀ σ H R, t' σ H R → t σ H R) : PI X tg e t' := ⟨fun pins s σ H R I q => h.run pins s σ H R I (k σ H R q)⟩
/-! ### lists and tuples -/
theorem sqA_up {K : PySem.W.Frag} {b : Bool} {a : Addr} {vs : List V} {H H' : Hp} (s : Same H H') (h : SqA K H b a vs) : SqA K H' b a vs := by
  cases b with
  | true => exact same_seqT s h
  | false => exact s.seq h
def ItS (K : PySem.W.Frag) : Bool → Addr → It
  | true, a => Itt K a
  | false, a => Itl K a
def iS (K : PySem.W.Frag) (tl : TE) : TI := fun σ H R => tl σ H fun x H1 => ∃ b a xs, x = .ref a ∧ SqA K H1 b a xs ∧ (xs.length ≤ sizeLine → R (ItS K b a) H1)
theorem pi_S {tg l : Expr} {tl : TE} (hl : PE X l tl) : PI X tg l (iS X.K tl) := by
  refine ⟨fun pins s σ H R I h => ?_⟩
  refine thn (hl.run pins s σ H _ I h) fun v s1 ⟨x, H1, I1, r1, b, a, xs, ex, hq, q⟩ => ?_
  subst ex
  cases r1
  obtain ⟨its, rv, p, hal, hz⟩ := seqA I1 hq
  have fin : ∀ (tn : Nat → Heap → Prop), Turn X.prog X.w X.K tg (ItS X.K b a) [s1.heap.objs.size] s1.heap.objs.size tn → tn 0 (s1.heap.push (iterO b a)) → PIE X pins σ tg R (.ref s1.heap.objs.size) { s1 with heap := s1.heap.push (iterO b a) } := fun tn T st => by
    refine ⟨s1.heap.objs.size, [s1.heap.objs.size], _, _, H1, rfl, I1.kept (t' := s1.toks) fun b o e => Heap.get?_push_of_some _ e, T, st, fun c hc => ?_, q hz⟩
    rw [List.mem_singleton.mp hc]
    exact I1.fpOk (Nat.le_refl _) (I1.hok.fresh (Nat.le_refl _))
  cases b with
  | true => exact wpAny_pyIter_tuple p (fin _ (turn_tuple a _) ⟨_, Heap.get?_push_size _ rfl, rfl, rfl⟩)
  | false => exact wpAny_pyIter_list p (fin _ (turn_list a _) ⟨_, Heap.get?_push_size _ rfl, rfl, rfl⟩)
/-- a value that stays: its items -/
theorem Rep.seqA {K : PySem.W.Frag} {v : V} {d : D} {l : List D} (e : d = .tup l ∨ d = .lst l) (h : Rep K w v d) : ∃ b a vs, v = .ref a ∧ SqA K w.hs b a vs ∧ Reps K w vs l := by
  rcases e with rfl | rfl
  · cases h with
    | tup q r => exact ⟨true, _, _, rfl, q, r⟩
  · cases h with
    | lst q r => exact ⟨false, _, _, rfl, .inl (.inl q), r⟩
theorem enum_S {K : PySem.W.Frag} {b : Bool} {a : Addr} {vs : List V} {ds : List D} (h : SqA K w.hs b a vs) (r : Reps K w vs ds) (hz : vs.length ≤ sizeLine) : Enum K w (ItS K b a) ds := by
  have hl := r.length
  refine ⟨by rw [← hl, ← sizeLine_eq]; exact hz, fun w' H' i le s hi => ?_, fun w' c' H' i x H2 le ok hi y => ?_, fun w' H' le s => ?_⟩
  · have hx : i < vs.length := by omega
    cases b with
    | true => exact ⟨vs, vs[i], same_seqT (le.hs.trans s) h, by simp [hx]⟩
    | false => exact ⟨vs, vs[i], (le.hs.trans s).seq h, by simp [hx]⟩
  · have h2 := sqA_up (le.hs.trans ok.sub) h
    have e : H2 = H' ∧ vs[i]? = some x := by
      cases b with
      | true => exact ⟨y.1, y.2 vs h2⟩
      | false => exact ⟨y.1, y.2 vs h2⟩
    obtain ⟨e, hx⟩ := e
    subst e
    obtain ⟨d, hd, rd⟩ := r.getV hx
    exact ⟨w', d, hd, .refl _ _, ok, rd.le le⟩
  · have h2 := sqA_up (le.hs.trans s) h
    cases b with
    | true => exact ⟨vs, h2, by omega⟩
    | false => exact ⟨vs, h2, by omega⟩
theorem di_S {tg e : Expr} {f : XE} (h : DE X W e f) : DI X W tg e (wS f) := by
  refine ⟨fun w0 H0 => (pi_S (h.ok w0 H0)).weak fun σ H R ⟨w, c, τ, rel, q⟩ => ?_⟩
  refine ⟨w, c, τ, rel, wp_mono (wp_bind.1 q) (fun d c' _ k w' H' v e ok rv => ?_) fun _ _ _ _ k => k⟩
  rw [← M.bind_ret (asS d)] at k
  obtain ⟨l, el, k3⟩ := asS_cases k
  obtain ⟨b, a, vs, ev, hs, rs⟩ := rv.seqA el
  exact ⟨b, a, vs, ev, sqA_up ok.sub hs, fun hz => k3 w' H' _ e ok (enum_S hs rs hz)⟩
/-! ### range -/
theorem upTo_get : ∀ (n : Nat) (a : Int) (i : Nat), i < n → (upTo a n)[i]? = some (.int (a + i))
  | 0, _, _, h => by omega
  | n + 1, a, 0, _ => by simp [upTo]
  | n + 1, a, i + 1, h => by
    simp only [upTo, List.getElem?_cons_succ]
    rw [upTo_get n (a + 1) i (by omega)]
    have e : a + 1 + (i : Int) = a + ((i + 1 : Nat) : Int) := by omega
    rw [e]
theorem upTo_length : ∀ (n : Nat) (a : Int), (upTo a n).length = n
  | 0, _ => rfl
  | n + 1, a => congrArg Nat.succ (upTo_length n (a + 1))
theorem enum_R {K : PySem.W.Frag} {lo : Int} {n : Nat} (hn : n ≤ 16777216) : Enum K w (Itr lo n) (upTo lo n) := by
  have hl := upTo_length n lo
  refine ⟨by omega, fun w' H' i le s hi => (show i < n by omega), fun w' c' H' i x H2 le ok hi y => ?_, fun w' H' le s => (show n ≤ (upTo lo n).length by omega)⟩
  obtain ⟨e, ex⟩ := y
  subst e ex
  exact ⟨w', _, upTo_get n lo i (by omega), .refl _ _, ok, .int _⟩

theorem di_R1 {tg e : Expr} {p pos : Pos} {f : XE} (hg : Gl X "range") (hm : X.mg "range" = none) (h : DE X W e f) (hs : starEach [e] X.env = [(false, eval e X.env)] := by rfl) : DI X W tg (.Call (.Name "range" p) [e] [] pos) (wRng1 f) := by
  refine ⟨fun w0 H0 => (pi_range1 hg hm ((das_cons h das_nil hs).ok w0 H0) hs).weak fun σ H R ⟨w, c, τ, rel, q⟩ => ?_⟩
  refine ⟨w, c, τ, rel, ?_⟩
  refine wp_bind.2 (wp_mono (wp_bind.1 q) (fun d c' _ k => ?_) fun _ _ _ _ k => k)
  show ∀ w' H' vs, Ext w H w' H' → Ok w' c' H' → Reps X.K w' vs [d] → _
  intro w' H' vs e ok rs
  cases rs with
  | cons r rr =>
    cases rr
    cases d with
    | int n =>
      have k : wp (if n ≤ 16777216 ∧ -16777216 ≤ n then M.ret (upTo 0 n.toNat) else .stk) c' _ _ := k
      by_cases hn : n ≤ 16777216 ∧ -16777216 ≤ n
      · rw [if_pos hn] at k
        cases r
        exact ⟨n, rfl, by omega, by omega, k w' H' _ e ok (enum_R (by omega))⟩
      · rw [if_neg hn] at k; exact k.elim
    | _ => exact k.elim
theorem di_R2 {tg a b : Expr} {p pos : Pos} {f g : XE} (hg : Gl X "range") (hm : X.mg "range" = none) (h : DE X W a f) (h2 : DE X W b g)
    (hs : starEach [a, b] X.env = [(false, eval a X.env), (false, eval b X.env)] := by rfl) (hs2 : starEach [b] X.env = [(false, eval b X.env)] := by rfl) (hs3 : starEach [a, b] X.env = (false, eval a X.env) :: starEach [b] X.env := by rfl) : DI X W tg (.Call (.Name "range" p) [a, b] [] pos) (wRng2 f g) := by
  refine ⟨fun w0 H0 => (pi_range2 hg hm ((das_cons h (das_cons h2 das_nil hs2) hs3).ok w0 H0) hs hs2).weak fun σ H R ⟨w, c, τ, rel, q⟩ => ?_⟩
  refine ⟨w, c, τ, rel, ?_⟩
  refine wp_bind.2 (wp_mono (wp_bind.1 q) (fun x c1 _ k => ?_) fun _ _ _ _ k => k)
  refine wp_bind.2 (wp_bind.2 (wp_mono (wp_bind.1 k) (fun y c2 _ k => ?_) fun _ _ _ _ k => k))
  show ∀ w' H' vs, Ext w H w' H' → Ok w' c2 H' → Reps X.K w' vs [x, y] → _
  intro w' H' vs e ok rs
  cases rs with
  | cons r rr =>
    cases rr with
    | cons r' rr =>
      cases rr
      cases x with
      | int i =>
        cases y with
        | int j =>
          have k : wp (if -1000000 < i ∧ i < 1000000 ∧ j < 1000000 ∧ -1000000 < j then M.ret (upTo i (j - i).toNat) else .stk) c2 _ _ := k
          by_cases hn : -1000000 < i ∧ i < 1000000 ∧ j < 1000000 ∧ -1000000 < j
          · rw [if_pos hn] at k
            cases r
            cases r'
            exact ⟨i, j, rfl, by omega, k w' H' _ e ok (enum_R (by omega))⟩
          · rw [if_neg hn] at k; exact k.elim
        | _ => exact k.elim
      | _ => exact k.elim
/-! ### enumerate -/
theorem numbered_length : ∀ (ds : List D) (k : Int), (numbered k ds).length = ds.length
  | [], _ => rfl
  | _ :: ds, k => congrArg Nat.succ (numbered_length ds (k + 1))
theorem numbered_get : ∀ (ds : List D) (k : Int) (i : Nat) (d : D), ds[i]? = some d → (numbered k ds)[i]? = some (.tup [.int (k + i), d])
  | [], _, _, _, h => by simp at h
  | x :: ds, k, 0, d, h => by simp at h; subst h; simp [numbered]
  | x :: ds, k, i + 1, d, h => by
    simp only [numbered, List.getElem?_cons_succ] at h ⊢
    rw [numbered_get ds (k + 1) i d h]
    have e : k + 1 + (i : Int) = k + ((i + 1 : Nat) : Int) := by omega
    rw [e]
theorem enum_E {K : PySem.W.Frag} {b : Bool} {a : Addr} {vs : List V} {ds : List D} {k0 : Int} (h : SqA K w.hs b a vs) (r : Reps K w vs ds) (hz : vs.length ≤ sizeLine) : Enum K w (ItE K b a k0) (numbered k0 ds) := by
  have hl := r.length
  have hn := numbered_length ds k0
  refine ⟨by rw [hn, ← hl, ← sizeLine_eq]; exact hz, fun w' H' i le s hi => ?_, fun w' c' H' i x H2 le ok hi y => ?_, fun w' H' le s => ?_⟩
  · have hx : i < vs.length := by omega
    exact ⟨vs, vs[i], sqA_up (le.hs.trans s) h, by simp [hx]⟩
  · obtain ⟨T, x', rfl, hT, rfl, hx⟩ := y
    have hx := hx vs (sqA_up (le.hs.trans ok.sub) h)
    obtain ⟨d, hd, rd⟩ := r.getV hx
    obtain ⟨ok2, e2⟩ := ok.laid hT (.tup [.int (k0 + (i : Nat)), x'])
    refine ⟨_, _, numbered_get ds k0 i d hd, e2, ok2, .tup (.inl (.inl ?_)) (.cons (.int _) (.cons ((rd.le le).le e2.le) .nil))⟩
    show upd w'.hs T _ T = _
    rw [upd_same]
  · exact ⟨vs, sqA_up (le.hs.trans s) h, by omega⟩
theorem di_E {e : Expr} {f : XE} {p pos tpos : Pos} {elts : List Expr} {kk : Nat} (hg : Gl X "enumerate") (hm : X.mg "enumerate" = none) (h : DE X W e f) (hs : starEach [e] X.env = [(false, eval e X.env)] := by rfl) :
    DI X W (.Tuple elts kk tpos) (.Call (.Name "enumerate" p) [e] [] pos) (wEnum f) := by
  refine ⟨fun w0 H0 => (pi_E hg hm ((das_cons h das_nil hs).ok w0 H0) hs).weak fun σ H R ⟨w, c, τ, rel, q⟩ => ?_⟩
  refine ⟨w, c, τ, rel, ?_⟩
  refine wp_bind.2 (wp_mono (wp_bind.1 q) (fun d c' _ k => ?_) fun _ _ _ _ k => k)
  show ∀ w' H' vs, Ext w H w' H' → Ok w' c' H' → Reps X.K w' vs [d] → _
  intro w' H' vs e ok rs
  obtain ⟨l, el, k⟩ := asS_cases k
  cases rs with
  | cons r rr =>
    cases rr
    obtain ⟨b, a, vs, rfl, hs, rs⟩ := r.seqA el
    exact ⟨b, a, vs, rfl, sqA_up ok.sub hs, fun hz => k w' H' _ e ok (enum_E hs rs hz)⟩
theorem di_E2 {e e2 : Expr} {f g : XE} {p pos tpos : Pos} {elts : List Expr} {kk : Nat} (hg : Gl X "enumerate") (hm : X.mg "enumerate" = none) (h : DE X W e f) (h2 : DE X W e2 g)
    (hs : starEach [e, e2] X.env = (false, eval e X.env) :: starEach [e2] X.env := by rfl) (hs2 : starEach [e2] X.env = (false, eval e2 X.env) :: starEach [] X.env := by rfl) (hpl : (backTo pos (starEach [e2] X.env)).any (·.1) = false := by rfl) :
    DI X W (.Tuple elts kk tpos) (.Call (.Name "enumerate" p) [e, e2] [] pos) (wEnum2 f g) := by
  refine ⟨fun w0 H0 => (pi_E2 hg hm ((das_cons h (das_cons h2 das_nil hs2) hs).ok w0 H0) hs hpl).weak fun σ H R ⟨w, c, τ, rel, q⟩ => ?_⟩
  refine ⟨w, c, τ, rel, ?_⟩
  refine wp_bind.2 (wp_mono (wp_bind.1 q) (fun x c1 _ k => ?_) fun _ _ _ _ k => k)
  refine wp_bind.2 (wp_bind.2 (wp_mono (wp_bind.1 k) (fun y c2 _ k => ?_) fun _ _ _ _ k => k))
  show ∀ w' H' vs, Ext w H w' H' → Ok w' c2 H' → Reps X.K w' vs [x, y] → _
  intro w' H' vs e ok rs
  obtain ⟨l, el, k⟩ := asS_cases k
  cases y with
  | int n =>
    have k : wp (if -1000000 < n ∧ n < 1000000 then M.ret (numbered n l) else .stk) c2 _ _ := k
    by_cases hn : -1000000 < n ∧ n < 1000000
    · rw [if_pos hn] at k
      cases rs with
      | cons r rr =>
        cases rr with
        | cons r' rr =>
          cases rr
          cases r'
          obtain ⟨b, a, vs, rfl, hs, rs⟩ := r.seqA el
          exact ⟨b, a, vs, n, rfl, by omega, by omega, sqA_up ok.sub hs, fun hz => k w' H' _ e ok (enum_E hs rs hz)⟩
    · rw [if_neg hn] at k; exact k.elim
  | _ => exact k.elim
/-! ### zip -/
theorem paired_length : ∀ (xs ys : List D), (paired xs ys).length = min xs.length ys.length
  | [], ys => by cases ys <;> simp [paired]
  | x :: xs, [] => by simp [paired]
  | x :: xs, y :: ys => by simp only [paired, List.length_cons, paired_length xs ys]; omega
theorem paired_get : ∀ (xs ys : List D) (i : Nat) (x y : D), xs[i]? = some x → ys[i]? = some y → (paired xs ys)[i]? = some (.tup [x, y])
  | [], _, _, _, _, h, _ => by simp at h
  | x :: xs, [], _, _, _, _, h => by simp at h
  | x :: xs, y :: ys, 0, a, b, h, k => by simp at h k; subst h k; simp [paired]
  | x :: xs, y :: ys, i + 1, a, b, h, k => by
    simp only [paired, List.getElem?_cons_succ] at h k ⊢
    exact paired_get xs ys i a b h k
theorem enum_Z {K : PySem.W.Frag} {b1 b2 : Bool} {a1 a2 : Addr} {vs us : List V} {ds es : List D} (h : SqA K w.hs b1 a1 vs) (h2 : SqA K w.hs b2 a2 us) (r : Reps K w vs ds) (r2 : Reps K w us es) (hz : vs.length ≤ sizeLine) : Enum K w (ItZ K b1 b2 a1 a2) (paired ds es) := by
  have hl := r.length
  have hl2 := r2.length
  have hn := paired_length ds es
  have hz' : vs.length ≤ 16777216 := by rw [← sizeLine_eq]; exact hz
  refine ⟨by omega, fun w' H' i le s hi => ?_, fun w' c' H' i x H2 le ok hi y => ?_, fun w' H' le s => ?_⟩
  · have hx : i < vs.length := by omega
    have hy : i < us.length := by omega
    exact ⟨vs, us, vs[i], us[i], sqA_up (le.hs.trans s) h, sqA_up (le.hs.trans s) h2, by simp [hx], by simp [hy]⟩
  · obtain ⟨T, x', y', rfl, hT, rfl, hx, hy⟩ := y
    have hx := hx vs (sqA_up (le.hs.trans ok.sub) h)
    have hy := hy us (sqA_up (le.hs.trans ok.sub) h2)
    obtain ⟨d, hd, rd⟩ := r.getV hx
    obtain ⟨d2, hd2, rd2⟩ := r2.getV hy
    obtain ⟨ok2, e2⟩ := ok.laid hT (.tup [x', y'])
    refine ⟨_, _, paired_get ds es i d d2 hd hd2, e2, ok2, .tup (.inl (.inl ?_)) (.cons ((rd.le le).le e2.le) (.cons ((rd2.le le).le e2.le) .nil))⟩
    show upd w'.hs T _ T = _
    rw [upd_same]
  · exact ⟨vs, us, sqA_up (le.hs.trans s) h, sqA_up (le.hs.trans s) h2, by omega, by omega, by omega⟩
theorem di_Z {e e2 : Expr} {f g : XE} {p pos tpos : Pos} {elts : List Expr} {kk : Nat} (hg : Gl X "zip") (hm : X.mg "zip" = none) (h : DE X W e f) (h2 : DE X W e2 g)
    (hs : starEach [e, e2] X.env = (false, eval e X.env) :: starEach [e2] X.env := by rfl) (hs2 : starEach [e2] X.env = (false, eval e2 X.env) :: starEach [] X.env := by rfl) (hpl : (backTo pos (starEach [e2] X.env)).any (·.1) = false := by rfl) :
    DI X W (.Tuple elts kk tpos) (.Call (.Name "zip" p) [e, e2] [] pos) (wZip f g) := by
  refine ⟨fun w0 H0 => (pi_Z hg hm ((das_cons h (das_cons h2 das_nil hs2) hs).ok w0 H0) hs hpl).weak fun σ H R ⟨w, c, τ, rel, q⟩ => ?_⟩
  refine ⟨w, c, τ, rel, ?_⟩
  refine wp_bind.2 (wp_mono (wp_bind.1 q) (fun x c1 _ k => ?_) fun _ _ _ _ k => k)
  refine wp_bind.2 (wp_bind.2 (wp_mono (wp_bind.1 k) (fun y c2 _ k => ?_) fun _ _ _ _ k => k))
  show ∀ w' H' vs, Ext w H w' H' → Ok w' c2 H' → Reps X.K w' vs [x, y] → _
  intro w' H' vs e ok rs
  obtain ⟨l, el, k⟩ := asS_cases k
  obtain ⟨m, em, k⟩ := asS_cases k
  cases rs with
  | cons r rr =>
    cases rr with
    | cons r' rr =>
      cases rr
      obtain ⟨b, a, vs, rfl, hs, rs⟩ := r.seqA el
      obtain ⟨b', a', vs', rfl, hs', rs'⟩ := r'.seqA em
      exact ⟨b, b', a, a', vs, vs', rfl, sqA_up ok.sub hs, sqA_up ok.sub hs', fun hz => k w' H' _ e ok (enum_Z hs hs' rs rs' hz)⟩
/-! ### loops -/
theorem PSX.up {w1 : Wd} {H1 : Hp} (e : Ext w0 H0 w1 H1) {x : String} {fs : List D} {c' : Nat} (h : PSX X W w0 H0 x fs c') : PSX X W w1 H0 x fs c' := fun w' H' cls d σ' x2 ok r => h w' H' cls d σ' (e.re x2) ok r
theorem ds_for {tg e : Expr} {body : List Stmt} {pos : Pos} {fs : XA} {g : Tg} {fb : XS} (hp : PassesOwn (model X.prog X.w) X.A X.env X.xe) (hc : X.calm = true) (hi : DI X W tg e fs) (hg : DG X tg g) (hb : DSs X W body fb)
    (hs : ∀ x, foldedSetIterable e X.env x = pure x := by intro _; rfl) : DS X W (.For tg e body [] pos) (sFor fs g fb) := by
  refine ⟨fun w0 H0 => ?_⟩
  -- the body's readings at each later world
  have hbw : PSs X body (fun D' σ H => ∃ w1, tS X W w1 H0 fb D' σ H) := ⟨fun pins s σ H D' I ⟨w1, h⟩ => (hb.ok w1 H0).run pins s σ H D' I h⟩
  refine (ps_for hp hc (hi.ok w0 H0) hg.ok hbw hs).weak fun D' σ H ⟨w, c, τ, rel, q⟩ => ?_
  refine ⟨w, c, τ, rel, wp_mono (wp_toPX (σ := σ) rel.ext (wp_bind.1 q)) (fun ds c' _ k w1 H1 J e1 ok1 en => ?_) fun _ _ _ _ k => k⟩
  refine ⟨fun i m σ H => i + m = ds.length ∧ ∃ w2 c2 τ2, Le w1 w2 ∧ Rel X.K w0 H0 w2 c2 H τ2 σ ∧ wp (forGo g fb (ds.drop i) τ2) c2 (PSN X.K w0 H0 D') (PSX X W w0 H0), ⟨ds.length, by omega, w1, c', τ, Le.refl _, rel.go e1 ok1, k⟩, fun i m σ2 H2 ⟨him, w2, c2, τ2, le2, rel2, k2⟩ => ?_⟩
  by_cases h : i < ds.length
  · refine .inr ⟨en.go w2 H2 i le2 rel2.ok.sub h, fun σ' H' => ∃ w3 c3 τ3, Le w1 w3 ∧ Rel X.K w0 H0 w3 c3 H' τ3 σ' ∧ wp (forGo g fb (ds.drop (i + 1)) τ3) c3 (PSN X.K w0 H0 D') (PSX X W w0 H0), fun σ' H' z => ⟨m - 1, by omega, by omega, z⟩, fun x H3 y => ?_⟩
    obtain ⟨w3, d, hd, e3, ok3, rd⟩ := en.yld w2 c2 H2 i x H3 le2 rel2.ok h y
    rw [List.drop_eq_getElem_cons h] at k2
    have ed : ds[i] = d := by rw [List.getElem?_eq_getElem h] at hd; exact Option.some.inj hd
    rw [ed] at k2
    have k2 : wp ((ofO (g.go d τ2)).bind fun σ1 => (fb σ1).bind fun r => match r with
      | (.nx, σ2) => forGo g fb (ds.drop (i + 1)) σ2
      | (.rt d, σ2) => .ret (.rt d, σ2)) c2 (PSN X.K w0 H0 D') (PSX X W w0 H0) := k2
    cases eg : g.go d τ2 with
    | none => rw [eg] at k2; exact k2.elim
    | some τ3 =>
      rw [eg] at k2
      refine Tg.real g (rel2.go e3 ok3) rd eg fun σ' r' _ => ⟨w3, w3, c2, τ3, r'.up, wp_mono (wp_bind.1 k2) (fun rr c4 _ k3 => ?_) fun _ _ _ _ k => PSX.up r'.ext k⟩
      obtain ⟨fl, τ4⟩ := rr
      cases fl with
      | nx => exact fun w5 H5 σ5 r5 => ⟨w5, c4, τ4, (le2.trans e3.le).trans r5.ext.le, r5.down r'.ext, k3⟩
      | rt d => exact fun w5 H5 v e5 ok5 rv => k3 w5 H5 v (r'.ext.re e5) ok5 rv
  · have e : i = ds.length := by omega
    subst e
    rw [List.drop_length] at k2
    exact .inl ⟨en.stop w2 H2 le2 rel2.ok.sub, k2 w2 H2 σ2 rel2⟩
theorem ds_while {t : Expr} {body : List Stmt} {pos : Pos} {ft : XB} {fb : XS} (hp : PassesOwn (model X.prog X.w) X.A X.env X.xe) (ht : DT X W t ft) (hb : DSs X W body fb) : DS X W (.While t body [] pos) (sWhile ft fb) := by
  refine ⟨fun w0 H0 => (ps_while hp (ht.ok w0 H0) (hb.ok w0 H0)).weak fun D' σ H ⟨w, c, τ, rel, q⟩ => ?_⟩
  refine ⟨fun m σ H => ∃ w2 c2 τ2, Rel X.K w0 H0 w2 c2 H τ2 σ ∧ wp (whGo ft fb m τ2) c2 (PSN X.K w0 H0 D') (PSX X W w0 H0), ⟨100000, w, c, τ, rel, q⟩, fun m σ2 H2 ⟨w2, c2, τ2, rel2, k2⟩ => ?_⟩
  cases m with
  | zero => exact k2.elim
  | succ m =>
    refine ⟨w2, c2, τ2, rel2, wp_mono (wp_toPX (σ := σ2) rel2.ext (wp_bind.1 k2)) (fun b c3 _ k3 w3 H3 e3 ok3 => ?_) fun _ _ _ _ k => k⟩
    cases b with
    | true =>
      rw [if_pos rfl] at k3 ⊢
      refine ⟨fun σ' H' => ∃ w4 c4 τ4, Rel X.K w0 H0 w4 c4 H' τ4 σ' ∧ wp (whGo ft fb m τ4) c4 (PSN X.K w0 H0 D') (PSX X W w0 H0), fun σ' H' z => ⟨m, by omega, z⟩, w3, c3, τ2, rel2.go e3 ok3, wp_mono (wp_bind.1 k3) (fun rr c4 _ k4 => ?_) fun _ _ _ _ k => k⟩
      obtain ⟨fl, τ4⟩ := rr
      cases fl with
      | nx => exact fun w5 H5 σ5 r5 => ⟨w5, c4, τ4, r5, k4⟩
      | rt d => exact k4
    | false =>
      rw [if_neg Bool.false_ne_true] at k3 ⊢
      exact k3 w3 H3 σ2 (rel2.go e3 ok3)
end
end Mn

set_option Elab.async false
set_option linter.all false
set_option autoImplicit false
set_option maxRecDepth 100000
set_option maxHeartbeats 2000000
/-! Mn9: comprehensions, own lists. -/
namespace Mn
open PySem PySem.Spec PyProof.Rows L2
abbrev WF : WX := fun _ _ _ _ => False
theorem wipe_get : ∀ (vs : List Nat) (σ : L2.St) (i : Nat), (L2.wipe σ vs)[i]? = if i ∈ vs then (σ[i]?).map fun _ => none else σ[i]?
  | [], σ, i => by simp [L2.wipe]
  | v :: vs, σ, i => by
    unfold L2.wipe
    rw [List.getElem?_set, wipe_get vs σ i, L2.wipe_length]
    by_cases h : v = i
    · subst h
      rw [if_pos rfl, if_pos List.mem_cons_self]
      by_cases hl : v < σ.length
      · rw [if_pos hl, List.getElem?_eq_getElem hl]; rfl
      · rw [if_neg hl, List.getElem?_eq_none (by omega)]; rfl
    · rw [if_neg h]
      have e : (i ∈ v :: vs) ↔ i ∈ vs := by simp [List.mem_cons, Ne.symm h]
      by_cases hm : i ∈ vs
      · rw [if_pos hm, if_pos (e.2 hm)]
      · rw [if_neg hm, if_neg (fun z => hm (e.1 z))]
theorem wipe_idem (σ : L2.St) (vs : List Nat) : L2.wipe (L2.wipe σ vs) vs = L2.wipe σ vs := by
  refine List.ext_getElem? fun i => ?_
  rw [wipe_get, wipe_get]
  split
  · cases σ[i]? <;> rfl
  · rfl
structure DTs (X : Cx) (W : WX) (e : List Expr) (f : XB) : Prop where
  ok : ∀ w0 H0, PTs X e (tT X W w0 H0 f)
section
variable {X : Cx} {W : WX} {w0 w : Wd} {c : Nat} {H0 H : Hp} {τ : Sl} {σ : L2.St} {Q : VK}
theorem dts_nil : DTs X W [] bYes := ⟨fun w0 H0 => ⟨fun pins s σ H Q I ⟨w, c, τ, r, q⟩ => pts_nil.run pins s σ H Q I (q w H (.refl _ _) r.ok)⟩⟩
theorem dts_one {e : Expr} {f : XB} (h : DT X W e f) : DTs X W [e] f := ⟨fun w0 H0 => pts_one (h.ok w0 H0)⟩
/-- an object of one's own, in no slot, is changed -/
theorem Rel.other {K : PySem.W.Frag} {D : Addr} (r : Rel K w0 H0 w c H τ σ) (o : HO) (n1 : w.hs D = none) (n2 : ¬ w.draw D) (n3 : H0 D = none) (hno : ∀ j, isOwn (τ.getD j .un) = true → σ.getD j none ≠ some (.ref D)) : Rel K w0 H0 w c (upd H D o) τ σ := by
  refine ⟨r.ok.wrote n1 n2 o, fun b n => r.dom b (by
    have nb : b ≠ D := fun z => by rw [z, upd_same] at n; cases n
    rw [upd_ne nb] at n; exact n), ⟨r.ext.le, fun a u e h1 h2 => ?_⟩, r.len, fun i => ?_, r.own⟩
  · have ne : a ≠ D := fun z => by rw [z, n3] at e; cases e
    rw [upd_ne ne]
    exact r.ext.keep a u e h1 h2
  · have q := r.slot i
    have z := hno i
    cases e : τ.getD i .un with
    | un => trivial
    | val d => rw [e] at q; exact q
    | own l =>
      rw [e] at q z
      obtain ⟨b, vs, eb, h, hb, rl⟩ := q
      have nb : b ≠ D := fun q => z rfl (by rw [eb, q])
      exact ⟨b, vs, eb, h, by rw [upd_ne nb]; exact hb, rl⟩
    | ownd l =>
      rw [e] at q z
      obtain ⟨b, eb, h, hb⟩ := q
      have nb : b ≠ D := fun q => z rfl (by rw [eb, q])
      refine ⟨b, eb, h, ?_⟩
      rw [upd_ne nb]; exact hb
theorem Rel.noAt {K : PySem.W.Frag} {D : Addr} (r : Rel K w0 H0 w c H τ σ) (n : H D = none) : ∀ j, isOwn (τ.getD j .un) = true → σ.getD j none ≠ some (.ref D) := fun j h e => by
  obtain ⟨o, q⟩ := r.own_at h e
  rw [n] at q; cases q
theorem mwipe_own : ∀ (vs : List Nat) (τ : Sl) (j : Nat), isOwn ((Mn.wipe τ vs).getD j .un) = true → isOwn (τ.getD j .un) = true ∧ j ∉ vs
  | [], τ, j, h => ⟨h, by simp⟩
  | v :: vs, τ, j, h => by
    unfold Mn.wipe at h
    rw [getD_set] at h
    split at h
    · cases h
    · rename_i hh
      obtain ⟨h1, h2⟩ := mwipe_own vs τ j h
      refine ⟨h1, fun z => ?_⟩
      rcases List.mem_cons.mp z with rfl | z
      · apply hh
        refine ⟨rfl, ?_⟩
        by_cases hl : j < (Mn.wipe τ vs).length
        · exact hl
        · rw [List.getD_eq_getElem?_getD, List.getElem?_eq_none (by omega)] at h; cases h
      · exact h2 z
theorem noAt_wipe {D : Addr} {τ : Sl} {σ : L2.St} (h : ∀ j, isOwn (τ.getD j .un) = true → σ.getD j none ≠ some (.ref D)) (vs : List Nat) : ∀ j, isOwn ((Mn.wipe τ vs).getD j .un) = true → (L2.wipe σ vs).getD j none ≠ some (.ref D) := fun j hj => by
  obtain ⟨h1, h2⟩ := mwipe_own vs τ j hj
  rw [List.getD_eq_getElem?_getD, wipe_get, if_neg h2, ← List.getD_eq_getElem?_getD]
  exact h j h1
theorem Ext.put {w1 w2 : Wd} {H1 H2 : Hp} {D : Addr} (e : Ext w1 H1 w2 H2) (n : H1 D = none) (o : HO) : Ext w1 H1 w2 (upd H2 D o) :=
  ⟨e.le, fun a u q h1 h2 => by
    have ne : a ≠ D := fun z => by rw [z, n] at q; cases q
    rw [upd_ne ne]
    exact e.keep a u q h1 h2⟩
theorem lc_of {fs : XA} {g : Tg} {ft : XB} {fe : XE} {vs : List Nat} (hv : ∀ i ∈ g.vars, i ∈ vs) (h : tF X W w0 H0 (xLc fs vs g ft fe) σ H Q) : tLc (tI X W w0 H0 fs) (g.tg X.K) (tT X WF w0 H0 ft) (tE X WF w0 H0 fe) vs σ H Q := by
  obtain ⟨w, c, τ, rel, q⟩ := h
  refine ⟨w, c, τ, rel, wp_mono (wp_bind.1 q) (fun ds c1 _ k w1 H1 J e1 ok1 en => ?_) fun _ _ _ _ k => k⟩
  intro D hD
  have k := wp_noX.1 (wp_bind.1 k)
  have rel1 := rel.go e1 ok1
  obtain ⟨ok2, e2⟩ := ok1.made hD (.lst [])
  have nd := ok1.fresh hD
  have hD0 := rel1.fresh hD
  have hno := noAt_wipe (rel1.noAt hD) vs
  generalize hP : (fun (xs : List Mn.D) (c' : Nat) => wp (M.ret (Mn.D.lst xs)) c' (fun d c' => ∀ w' H' v, Ext w H w' H' → Ok w' c' H' → NewR X.K w' H H' v d → Q v H') (PX X W w H σ)) = P at k
  refine ⟨fun i m H2 => i + m = ds.length ∧ ∃ w2 c2 acc accd, Ext w1 H1 w2 H2 ∧ Rel X.K w0 H0 w2 c2 H2 (Mn.wipe τ vs) (L2.wipe σ vs) ∧ H2 D = some (.lst acc) ∧ w2.hs D = none ∧ ¬ w2.draw D ∧ Reps X.K w2 acc accd ∧ acc.length ≤ i ∧
    wp (lcGo g ft fe (Mn.wipe τ vs) (ds.drop i)) c2 (fun xs c' => P (accd ++ xs) c') (fun _ _ _ => False),
    ⟨ds.length, by omega, w1, c1, [], [], e2, (rel1.go e2 ok2).wipe vs, upd_same, nd.1, nd.2, .nil, Nat.le_refl _, k⟩, fun i m H2 ⟨him, w2, c2, acc, accd, x2, r2, hD2, n1, n2, ra, hl, k2⟩ => ?_⟩
  by_cases h : i < ds.length
  · refine .inr ⟨en.go w2 H2 i x2.le r2.ok.sub h, fun H' => ∃ w3 c3 acc3 accd3, Ext w1 H1 w3 H' ∧ Rel X.K w0 H0 w3 c3 H' (Mn.wipe τ vs) (L2.wipe σ vs) ∧ H' D = some (.lst acc3) ∧ w3.hs D = none ∧ ¬ w3.draw D ∧ Reps X.K w3 acc3 accd3 ∧ acc3.length ≤ i + 1 ∧
      wp (lcGo g ft fe (Mn.wipe τ vs) (ds.drop (i + 1))) c3 (fun xs c' => P (accd3 ++ xs) c') (fun _ _ _ => False), fun H' z => ⟨m - 1, by omega, by omega, z⟩, fun x H3 y => ?_⟩
    obtain ⟨w3, d, hd, e3, ok3, rd⟩ := en.yld w2 c2 H2 i x H3 x2.le r2.ok h y
    rw [List.drop_eq_getElem_cons h] at k2
    have ed : ds[i] = d := by rw [List.getElem?_eq_getElem h] at hd; exact Option.some.inj hd
    rw [ed] at k2
    have k2 : wp ((ofO (g.go d (Mn.wipe τ vs))).bind fun σ1 => (ft σ1).bind fun b =>
      if b then (fe σ1).bind fun x => (lcGo g ft fe (Mn.wipe τ vs) (ds.drop (i + 1))).bind fun xs => .ret (x :: xs) else lcGo g ft fe (Mn.wipe τ vs) (ds.drop (i + 1))) c2 (fun xs c' => P (accd ++ xs) c') (fun _ _ _ => False) := k2
    cases eg : g.go d (Mn.wipe τ vs) with
    | none => rw [eg] at k2; exact k2.elim
    | some τ3 =>
      rw [eg] at k2
      refine Tg.real g (r2.go e3 ok3) rd eg fun σ' r' hw => ⟨(hw vs hv).trans (wipe_idem σ vs), w3, c2, τ3, r', wp_mono (wp_bind.1 k2) (fun b c4 _ k3 w4 H4 e4 ok4 => ?_) fun _ _ _ _ k => k.elim⟩
      cases b with
      | false =>
        rw [if_neg Bool.false_ne_true] at k3 ⊢
        obtain ⟨kD, kn1, kn2⟩ := (e3.trans e4).keep D _ hD2 n1 n2
        exact ⟨w4, c4, acc, accd, x2.trans (e3.trans e4), r2.go (e3.trans e4) ok4, kD, kn1, kn2, ra.le (e3.trans e4).le, by omega, k3⟩
      | true =>
        rw [if_pos rfl] at k3 ⊢
        refine ⟨w4, c4, τ3, r'.go e4 ok4, wp_mono (wp_bind.1 k3) (fun d5 c5 _ k5 w5 H5 v e5 ok5 rv => ?_) fun _ _ _ _ k => k.elim⟩
        have ee := e3.trans (e4.trans e5)
        obtain ⟨kD, kn1, kn2⟩ := ee.keep D _ hD2 n1 n2
        have hlen := en.len
        refine ⟨acc, kD, by rw [sizeLine_eq]; omega, w5, c5, acc ++ [v], accd ++ [d5], (x2.trans ee).put hD _, (r2.go ee ok5).other _ kn1 kn2 hD0 hno, upd_same, kn1, kn2, (ra.le ee.le).append (.cons rv .nil), by simp; omega, wp_mono (wp_bind.1 k5) (fun xs c6 _ k6 => ?_) fun _ _ _ _ k => k⟩
        have k6 : P (accd ++ d5 :: xs) c6 := k6
        rw [List.append_assoc]; exact k6
  · have e : i = ds.length := by omega
    subst e
    rw [List.drop_length] at k2
    have k2 : P (accd ++ []) c2 := k2
    rw [← hP, List.append_nil] at k2
    exact .inl ⟨en.stop w2 H2 x2.le r2.ok.sub, k2 w2 H2 (.ref D) (e1.trans x2) r2.ok ⟨D, rfl, e1.was_free rel.ok ok1 hD, n1, n2, .inl ⟨acc, accd, rfl, hD2, ra⟩⟩⟩
section
variable {elt tg iter : Expr} {ifs : List Expr} {scope : Scope} {own : List (Str × Nat)} {pos spos py : Pos} {fs : XA} {g : Tg} {ft : XB} {fe : XE} {i : Nat} {y : Str}
theorem fe_lc (own : List (Str × Nat)) (hc : X.calm = true) (hN : X.N.Nodup) (hi : DI X W tg iter fs) (ok : BlkOk X.N X.env.scope scope own)
    (hg : ∀ (s : Shared) (H : Hp) (C : Addr) (cl : List (Str × Addr)) (fp : List Addr), DG (X.blk s H scope (compEnvC scope cl C X.env) fp) tg g) (ht : ∀ (s : Shared) (H : Hp) (C : Addr) (cl : List (Str × Addr)) (fp : List Addr), DTs (X.blk s H scope (compEnvC scope cl C X.env) fp) WF ifs ft)
    (he : ∀ (s : Shared) (H : Hp) (C : Addr) (cl : List (Str × Addr)) (fp : List Addr), DE (X.blk s H scope (compEnvC scope cl C X.env) fp) WF elt fe)
    (hv : ∀ i ∈ g.vars, i ∈ own.map (·.2) := by decide) (hs : ∀ x, foldedSetIterable iter X.env x = pure x := by intro _; rfl) :
    FE X W (.ListComp elt [⟨tg, iter, ifs, 0⟩] scope pos) (xLc fs (own.map (·.2)) g ft fe) :=
  ⟨fun w0 H0 => (pe_lc hc hN (hi.ok w0 H0) ok (fun s H C cl fp => (hg s H C cl fp).ok) (fun s H C cl fp => (ht s H C cl fp).ok w0 H0) (fun s H C cl fp => (he s H C cl fp).ok w0 H0) hs).weak fun _ _ _ h => lc_of hv h⟩
theorem tAsg_own {t : TE} {f : XE} (ht : ∀ (σ : L2.St) (H : Hp) (Q : VK), tF X W w0 H0 f σ H Q → t σ H Q) {D' : Ends} (h : tS X W w0 H0 (sOwn i f) D' σ H) : tAsg t (gName i) D' σ H := by
  obtain ⟨w, c, τ, rel, q⟩ := h
  have q1 := wp_toPX (σ := σ) rel.ext (wp_bind.1 q)
  refine ht σ H _ ⟨w, c, τ, rel, wp_mono q1 (fun d c' _ k w' H' v e ok rv => ?_) fun _ _ _ _ k => k⟩
  obtain ⟨s, e1, e2, r'⟩ := rel.setOwn e ok i rv
  obtain ⟨a, _, _, _, _, hh⟩ := rv
  show D'.nx _ H'
  rcases hh with ⟨vs, l, rfl, _⟩ | ⟨kvs, l, rfl, _⟩ | ⟨kvs, l, _, rfl, _⟩
  · rw [e1 l rfl] at r'; exact k w' H' _ r'
  · rw [e2 l rfl] at r'; exact k w' H' _ r'
  · rw [e2 l rfl] at r'; exact k w' H' _ r'
theorem ds_ownLc (own : List (Str × Nat)) (hc : X.calm = true) (hN : X.N.Nodup) (hi : DI X W tg iter fs) (ok : BlkOk X.N X.env.scope scope own)
    (hg : ∀ (s : Shared) (H : Hp) (C : Addr) (cl : List (Str × Addr)) (fp : List Addr), DG (X.blk s H scope (compEnvC scope cl C X.env) fp) tg g) (ht : ∀ (s : Shared) (H : Hp) (C : Addr) (cl : List (Str × Addr)) (fp : List Addr), DTs (X.blk s H scope (compEnvC scope cl C X.env) fp) WF ifs ft)
    (he : ∀ (s : Shared) (H : Hp) (C : Addr) (cl : List (Str × Addr)) (fp : List Addr), DE (X.blk s H scope (compEnvC scope cl C X.env) fp) WF elt fe)
    (hsw : swapsWith (.ListComp elt [⟨tg, iter, ifs, 0⟩] scope pos) (some (.Name y py)) spos.line X.env = pure true)
    (hy : X.N[i]? = some y := by rfl) (hyl : X.env.scope.names.lookup y = some .local := by rfl) (hv : ∀ i ∈ g.vars, i ∈ own.map (·.2) := by decide) (hs : ∀ x, foldedSetIterable iter X.env x = pure x := by intro _; rfl) :
    DS X W (.Assign [.Name y py] (.ListComp elt [⟨tg, iter, ifs, 0⟩] scope pos) spos) (sOwn i (xLc fs (own.map (·.2)) g ft fe)) :=
  ⟨fun w0 H0 => (ps_setLc hc hN hy hyl hsw (hi.ok w0 H0) ok (fun s H C cl fp => (hg s H C cl fp).ok) (fun s H C cl fp => (ht s H C cl fp).ok w0 H0) (fun s H C cl fp => (he s H C cl fp).ok w0 H0) hs).weak fun D' σ H h => tAsg_own (fun _ _ _ h => lc_of hv h) h⟩
end
end
end Mn

set_option Elab.async false
set_option linter.all false
set_option autoImplicit false
set_option maxRecDepth 100000
set_option maxHeartbeats 2000000
/-! Mn10: built-ins. -/
namespace Mn
open PySem PySem.Spec PyProof.Rows L2
/-- sorted: alike data -/
def alikeB (l : List D) : Bool := l.all fun a => l.all fun b => PySem.W.alike (toP a) (toP b)
def tupsB (l : List D) : Bool := l.all fun a => match a with
  | .tup (_ :: _) => true
  | _ => false
def othersB (l : List D) : Bool := l.all fun a => match a with
  | .tup _ => false
  | .non => false
  | _ => true
def dLe (a b : D) : Bool := PySem.W.dataLe false toP a b
def sortable (l : List D) : Bool := flats 49 l && alikeB l && (tupsB l || othersB l)
def fSorted : List D → M D
  | [.lst l] => if sortable l then .ret (.lst (l.mergeSort dLe)) else .stk
  | _ => .stk
section
variable {X : Cx} {W : WX} {w0 w : Wd} {c : Nat} {H0 H : Hp} {τ : Sl} {σ : L2.St} {Q : VK}
theorem RepBs.one {K : PySem.W.Frag} {vs : List V} {d : D} (h : RepBs K w H vs [d]) : ∃ v, vs = [v] ∧ RepB K w H v d := by
  cases h with
  | cons r rr => cases rr; exact ⟨_, rfl, r⟩
theorem RepBs.two {K : PySem.W.Frag} {vs : List V} {d e : D} (h : RepBs K w H vs [d, e]) : ∃ v u, vs = [v, u] ∧ RepB K w H v d ∧ RepB K w H u e := by
  cases h with
  | cons r rr =>
    cases rr with
    | cons r' rr => cases rr; exact ⟨_, _, rfl, r, r'⟩
theorem wp_stk {α : Type} {c : Nat} {Qr : α → Nat → Prop} {E : String → List D → Nat → Prop} (h : wp (M.stk : M α) c Qr E) : False := h
theorem seqL_lst {K : PySem.W.Frag} {a : Addr} {vs : List V} (h : H a = some (.lst vs)) : SqL K H a vs := .inl (.inl h)
/-! len -/
abbrev rLen (X : Cx) : List V → Hp → VK → Prop := fun xs H Q => ((∃ p ys, xs = [.ref p] ∧ (SqL X.K H p ys ∨ SqT X.K H p ys) ∧ Q (.int ys.length) H) ∨ ∃ z, xs = [.str z] ∧ z.length ≤ sizeLine ∧ Q (.int z.length) H)
theorem call_lenM : CallR X (.builtin "len") (rLen X) := call_len_seq.or call_len_str
theorem rc_len : RC X W fLen (rLen X) := by
  intro w c H σ vs ds Q ok rs h
  match ds, rs, h with
  | [d], rs, h =>
    obtain ⟨v, rfl, r⟩ := rs.one
    cases d with
    | lst l =>
      obtain ⟨a, us, rfl, hs, ru⟩ := r.lst ok
      refine .inl ⟨a, us, rfl, .inl (seqL_lst hs), ?_⟩
      rw [ru.length]
      exact FinE.here h ok (.int _)
    | tup l =>
      obtain ⟨a, us, rfl, hs, ru⟩ := r.tup ok
      refine .inl ⟨a, us, rfl, .inr hs, ?_⟩
      rw [ru.length]
      exact FinE.here h ok (.int _)
    | str s =>
      have := r.str; subst this
      obtain ⟨h1, h⟩ := ite_ret h
      exact .inr ⟨s, rfl, by rw [← line_eq]; exact h1, FinE.here h ok (.int _)⟩
    | scr l =>
      rcases r with r | ⟨_, _, _, _, e, _⟩ | ⟨_, _, _, e, _⟩
      · cases r with
        | scr q =>
          refine .inl ⟨_, l.map V.int, rfl, .inl (ok.sub.seq q), ?_⟩
          rw [List.length_map]
          exact FinE.here h ok (.int _)
      · cases e
      · cases e
    | _ => exact h.elim
  | [], rs, h => exact h.elim
  | a :: b :: t, rs, h => cases a <;> exact h.elim
/-! abs, int, sum, any, all -/
theorem rc_abs : RC X W fAbs (fun xs H Q => ∃ i, xs = [.int i] ∧ Q (.int (if i < 0 then -i else i)) H) := by
  intro w c H σ vs ds Q ok rs h
  match ds, rs, h with
  | [d], rs, h =>
    obtain ⟨v, rfl, r⟩ := rs.one
    cases d with
    | int i =>
      have := r.int; subst this
      exact ⟨i, rfl, FinE.here h ok (.int _)⟩
    | _ => exact h.elim
  | [], rs, h => exact h.elim
  | a :: b :: t, rs, h => cases a <;> exact h.elim
theorem rc_int : RC X W fInt (fun xs H Q => (∃ i, xs = [.int i] ∧ Q (.int i) H) ∨ ∃ k, xs = [.bl k] ∧ Q (.int (if k then 1 else 0)) H) := by
  intro w c H σ vs ds Q ok rs h
  match ds, rs, h with
  | [d], rs, h =>
    obtain ⟨v, rfl, r⟩ := rs.one
    cases d with
    | int i =>
      have := r.int; subst this
      exact .inl ⟨i, rfl, FinE.here h ok (.int _)⟩
    | bl i =>
      have := r.bl; subst this
      exact .inr ⟨i, rfl, FinE.here h ok (.int _)⟩
    | _ => exact h.elim
  | [], rs, h => exact h.elim
  | a :: b :: t, rs, h => cases a <;> exact h.elim
theorem fInts {f : List Int → Int} {g : List D → M D} (hg : ∀ l, g [.lst l] = match intsOf l with
    | some bs => M.ret (D.int (f bs))
    | none => .stk) (hg2 : ∀ ds, (∀ l, ds ≠ [.lst l]) → g ds = .stk) {r : List V → Hp → VK → Prop} (hr : ∀ (a : Addr) (bs : List Int) (H : Hp) (Q : VK), SqL X.K H a (bs.map V.int) → Q (.int (f bs)) H → r [.ref a] H Q) : RC X W g r := by
  intro w c H σ vs ds Q ok rs h
  by_cases hd : ∃ l, ds = [.lst l]
  · obtain ⟨l, rfl⟩ := hd
    obtain ⟨v, rfl, r⟩ := rs.one
    obtain ⟨a, us, rfl, hs, ru⟩ := r.lst ok
    rw [hg] at h
    cases e : intsOf l with
    | none => rw [e] at h; exact h.elim
    | some ns =>
      rw [e] at h
      have e2 := ru.ints e
      subst e2
      exact hr a ns H Q (seqL_lst hs) (FinE.here h ok (.int _))
  · rw [hg2 ds fun l e => hd ⟨l, e⟩] at h
    exact h.elim
theorem rc_sum : RC X W fSum (rSum X.K) := fInts (f := fun bs => bs.sum) (fun l => rfl) (fun ds h => by
  unfold fSum
  split
  · rename_i l; exact absurd rfl (h l)
  · rfl) fun a bs H Q s q => ⟨a, bs, rfl, s, q⟩
theorem fBuls {f : List Bool → Bool} {g : List D → M D} (hg : ∀ l, g [.lst l] = match bulsOf l with
    | some bs => M.ret (D.bl (f bs))
    | none => .stk) (hg2 : ∀ ds, (∀ l, ds ≠ [.lst l]) → g ds = .stk) {r : List V → Hp → VK → Prop} (hr : ∀ (a : Addr) (bs : List Bool) (H : Hp) (Q : VK), SqL X.K H a (bs.map V.bl) → Q (.bl (f bs)) H → r [.ref a] H Q) : RC X W g r := by
  intro w c H σ vs ds Q ok rs h
  by_cases hd : ∃ l, ds = [.lst l]
  · obtain ⟨l, rfl⟩ := hd
    obtain ⟨v, rfl, r⟩ := rs.one
    obtain ⟨a, us, rfl, hs, ru⟩ := r.lst ok
    rw [hg] at h
    cases e : bulsOf l with
    | none => rw [e] at h; exact h.elim
    | some ns =>
      rw [e] at h
      have e2 := ru.buls e
      subst e2
      exact hr a ns H Q (seqL_lst hs) (FinE.here h ok (.bl _))
  · rw [hg2 ds fun l e => hd ⟨l, e⟩] at h
    exact h.elim
theorem rc_any : RC X W fAny (rAny X.K) := fBuls (f := fun bs => bs.any id) (fun l => rfl) (fun ds h => by
  unfold fAny
  split
  · rename_i l; exact absurd rfl (h l)
  · rfl) fun a bs H Q s q => ⟨a, bs, rfl, s, q⟩
theorem rc_all : RC X W fAll (rAll X.K) := fBuls (f := fun bs => bs.all id) (fun l => rfl) (fun ds h => by
  unfold fAll
  split
  · rename_i l; exact absurd rfl (h l)
  · rfl) fun a bs H Q s q => ⟨a, bs, rfl, s, q⟩
/-! tuple, list -/
theorem rc_tuple : RC X W fTuple (fun xs H Q => ∃ p ys, xs = [.ref p] ∧ ((SqL X.K H p ys ∧ ∀ l, H l = none → Q (.ref l) (upd H l (.tup ys))) ∨ (SqT X.K H p ys ∧ Q (.ref p) H))) := by
  intro w c H σ vs ds Q ok rs h
  match ds, rs, h with
  | [d], rs, h =>
    obtain ⟨v, rfl, r⟩ := rs.one
    cases d with
    | lst l =>
      obtain ⟨a, us, rfl, hs, ru⟩ := r.lst ok
      exact ⟨a, us, rfl, .inl ⟨seqL_lst hs, fun p n => FinE.tup h ok ru n⟩⟩
    | tup l =>
      rcases r with r | ⟨_, _, _, _, e, _⟩ | ⟨_, _, _, e, _⟩
      · cases r with
        | tup q ru => exact ⟨_, _, rfl, .inr ⟨same_seqT ok.sub q, FinE.here h ok (.tup q ru)⟩⟩
      · cases e
      · cases e
    | _ => exact h.elim
  | [], rs, h => exact h.elim
  | a :: b :: t, rs, h => cases a <;> exact h.elim
theorem rc_list : RCF X W fList (fun xs H Q => ∃ p ys, xs = [.ref p] ∧ (SqL X.K H p ys ∨ SqT X.K H p ys) ∧ ∀ l, H l = none → Q (.ref l) (upd H l (.lst ys))) := by
  intro w c H σ vs ds Q ok rs h
  match ds, rs, h with
  | [d], rs, h =>
    obtain ⟨v, rfl, r⟩ := rs.one
    cases d with
    | lst l =>
      obtain ⟨a, us, rfl, hs, ru⟩ := r.lst ok
      exact ⟨a, us, rfl, .inl (seqL_lst hs), fun p n => FinF.lst h ok ru n⟩
    | tup l =>
      obtain ⟨a, us, rfl, hs, ru⟩ := r.tup ok
      exact ⟨a, us, rfl, .inr hs, fun p n => FinF.lst h ok ru n⟩
    | _ => exact h.elim
  | [], rs, h => exact h.elim
  | a :: b :: t, rs, h => cases a <;> exact h.elim
/-! isinstance of a built-in class -/
theorem sqT_ty {K : PySem.W.Frag} {a : Addr} {vs : List V} (h : SqT K H a vs) : TyX K H (.ref a) (.type "tuple") := by
  rcases h with (h | ⟨o, h⟩) | ⟨o, _, _, h1, h2, _⟩
  · exact .base (.tup h)
  · exact .fTuple h
  · exact .kTuple h1 h2
def tyOf : D → String
  | .non => "NoneType"
  | .bl _ => "bool"
  | .int _ => "int"
  | .str _ => "str"
  | .tup _ => "tuple"
  | .lst _ => "list"
  | _ => ""
theorem tyX_of (ok : Ok w c H) {v : V} {d : D} (r : RepB X.K w H v d) (hk : known d = true) : TyX X.K H v (.type (tyOf d)) := by
  cases d with
  | non => have := r.non; subst this; exact .base .non
  | bl b => have := r.bl; subst this; exact .base (.bl b)
  | int b => have := r.int; subst this; exact .base (.int b)
  | str b => have := r.str; subst this; exact .base (.str b)
  | tup l => obtain ⟨a, us, rfl, hs, ru⟩ := r.tup ok; exact sqT_ty hs
  | lst l => obtain ⟨a, us, rfl, hs, ru⟩ := r.lst ok; exact .base (.lst hs)
  | _ => cases hk
theorem PX.none {w : Wd} {H : Hp} {x : String} {fs : List D} {c' : Nat} (h : PX X W w H σ x fs c') : PX X W w H σ x fs c' := h
theorem de_isi {T : Str} {Tn : String} {p q pos : Pos} {e : Expr} {f : XE} {g : D → Bool} (hg : Gl X "isinstance") (hm : X.mg "isinstance" = none) (hgt : Gl X T) (hmt : X.mg T = none) (hv : bootBuiltins T = some (.type Tn)) (he : BE X W e f)
    (hk : ∀ d, known d = true → kitB (tyOf d) Tn = some (g d)) (hnT : T ≠ "__name__" := by decide) (hdT : (T == ("__debug__" : Str)) = false := by decide)
    (hs : starEach [e, .Name T q] X.env = (false, eval e X.env) :: starEach [.Name T q] X.env := by rfl) (hs2 : starEach [.Name T q] X.env = (false, eval (.Name T q) X.env) :: starEach [] X.env := by rfl) (hpl : (backTo pos (starEach [.Name T q] X.env)).any (·.1) = false := by rfl) :
    DE X W (.Call (.Name "isinstance" p) [e, .Name T q] [] pos) (x1 (gIsi g) f) := by
  refine ⟨fun w0 H0 => (pe_callB call_isi hg hm (by rfl) (pa_cons (he.ok w0 H0) (pa_cons (pe_bltn (v := .ty Tn) hgt hmt hv rfl hnT hdT) pa_nil hs2) hs) (by decide) (by decide) hs hpl).weak fun σ H Q ⟨w, c, τ, rel, q⟩ => ?_⟩
  obtain ⟨w1, c1, τ1, rel1, q1⟩ := tB_bind (W := W) rel q
  refine ⟨w1, c1, τ1, rel1, wp_mono q1 (fun d c2 _ k w2 H2 v e2 ok2 rv => ?_) fun _ _ _ _ k => k⟩
  obtain ⟨w3, c3, d3, e3, rel3, r3, q3⟩ := k w2 H2 v e2 ok2 rv
  obtain ⟨h1, h2⟩ := ite_ret q3
  exact ⟨v, .ty Tn, .type (tyOf d3), .type Tn, g d3, rfl, .ty _, tyX_of rel3.ok r3 h1, kit_ty (hk _ h1), h2 w3 H2 _ e3 rel3.ok (.bl _)⟩
theorem kb_int : ∀ d, known d = true → kitB (tyOf d) "int" = some (isIntT d) := by
  intro d h
  cases d <;> first | (cases h; done) | (simp only [tyOf, isIntT]; decide +kernel)
theorem kb_bool : ∀ d, known d = true → kitB (tyOf d) "bool" = some (isBlT d) := by
  intro d h
  cases d <;> first | (cases h; done) | (simp only [tyOf, isBlT]; decide +kernel)
theorem kb_str : ∀ d, known d = true → kitB (tyOf d) "str" = some (isStrT d) := by
  intro d h
  cases d <;> first | (cases h; done) | (simp only [tyOf, isStrT]; decide +kernel)
theorem kb_tuple : ∀ d, known d = true → kitB (tyOf d) "tuple" = some (isTup d) := by
  intro d h
  cases d <;> first | (cases h; done) | (simp only [tyOf, isTup]; decide +kernel)
theorem kb_list : ∀ d, known d = true → kitB (tyOf d) "list" = some (isLstT d) := by
  intro d h
  cases d <;> first | (cases h; done) | (simp only [tyOf, isLstT]; decide +kernel)
/-! ### min, max -/
theorem dpAll_ints {K : PySem.W.Frag} : ∀ ns : List Int, DpAll K H (ns.map V.int) (ns.map PyData.int)
  | [] => .nil
  | n :: r => .cons (.int n) (dpAll_ints r)
theorem alikeAll_ints (ns : List Int) : PySem.W.AlikeAll (ns.map PyData.int) := by
  refine ⟨fun a ha b hb => ?_, fun a ha => ?_⟩
  · obtain ⟨x, _, rfl⟩ := List.mem_map.mp ha
    obtain ⟨y, _, rfl⟩ := List.mem_map.mp hb
    simp [PySem.W.alike]
  · obtain ⟨x, _, rfl⟩ := List.mem_map.mp ha
    intro h; cases h
def rMM (K : PySem.W.Frag) (f : Int → List Int → Int) (f2 : Int → Int → Int) : List V → Hp → VK → Prop := fun xs H Q => (∃ p n ns, xs = [.ref p] ∧ (SqL K H p ((n :: ns).map V.int) ∨ SqT K H p ((n :: ns).map V.int)) ∧ Q (.int (f n ns)) H) ∨ ∃ i j, xs = [.int i, .int j] ∧ Q (.int (f2 i j)) H
theorem cr_maxM (hc : X.calm = true) (hu : X.A.units + 64 < cLine) : CallR X (.builtin "max") (rMM X.K mostOf fun i j => if j > i then j else i) := by
  intro pins s σ H xs us Q I r h
  rcases h with ⟨p, n, ns, rfl, hq, q⟩ | h
  · obtain ⟨u, rfl, rx⟩ := vals1 r
    cases rx
    have hd : X.A.units + 1 + PyData.depthAll ((n :: ns).map PyData.int) < cLine := by rw [PySem.W.depth_ints]; omega
    rcases hq with hq | hq
    · obtain ⟨its, rv, pl, hz⟩ := I.list hq
      obtain ⟨as, ra⟩ := Dp.readsAll I _ _ _ (dpAll_ints (K := X.K) (H := H) (n :: ns)) rv
      refine PySem.W.max_list_data (x := .int n) (xs := ns.map .int) (I.ok.hd hc) pl.isList (by simpa using ra) (alikeAll_ints (n :: ns)) hd fun i v h' tk bs hi rr hk => ?_
      rw [PySem.W.maxD_ints] at rr
      cases rr
      exact ⟨.int _, H, I.kept hk, ⟨_, rfl⟩, q⟩
    · obtain ⟨its, rv, pl, hz⟩ := I.tuple hq
      obtain ⟨as, ra⟩ := Dp.readsAll I _ _ _ (dpAll_ints (K := X.K) (H := H) (n :: ns)) rv
      refine PySem.W.max_tuple_data (x := .int n) (xs := ns.map .int) (I.ok.hd hc) pl (by simpa using ra) (alikeAll_ints (n :: ns)) hd fun i v h' tk bs hi rr hk => ?_
      rw [PySem.W.maxD_ints] at rr
      cases rr
      exact ⟨.int _, H, I.kept hk, ⟨_, rfl⟩, q⟩
  · exact call_max2 hc pins s σ H xs us Q I r h
theorem cr_minM (hc : X.calm = true) (hu : X.A.units + 64 < cLine) : CallR X (.builtin "min") (rMM X.K leastOf fun i j => if j < i then j else i) := by
  intro pins s σ H xs us Q I r h
  rcases h with ⟨p, n, ns, rfl, hq, q⟩ | h
  · obtain ⟨u, rfl, rx⟩ := vals1 r
    cases rx
    have hd : X.A.units + 1 + PyData.depthAll ((n :: ns).map PyData.int) < cLine := by rw [PySem.W.depth_ints]; omega
    rcases hq with hq | hq
    · obtain ⟨its, rv, pl, hz⟩ := I.list hq
      obtain ⟨as, ra⟩ := Dp.readsAll I _ _ _ (dpAll_ints (K := X.K) (H := H) (n :: ns)) rv
      refine PySem.W.min_list_data (x := .int n) (xs := ns.map .int) (I.ok.hd hc) pl.isList (by simpa using ra) (alikeAll_ints (n :: ns)) hd fun i v h' tk bs hi rr hk => ?_
      rw [PySem.W.minD_ints] at rr
      cases rr
      exact ⟨.int _, H, I.kept hk, ⟨_, rfl⟩, q⟩
    · obtain ⟨its, rv, pl, hz⟩ := I.tuple hq
      obtain ⟨as, ra⟩ := Dp.readsAll I _ _ _ (dpAll_ints (K := X.K) (H := H) (n :: ns)) rv
      refine PySem.W.min_tuple_data (x := .int n) (xs := ns.map .int) (I.ok.hd hc) pl (by simpa using ra) (alikeAll_ints (n :: ns)) hd fun i v h' tk bs hi rr hk => ?_
      rw [PySem.W.minD_ints] at rr
      cases rr
      exact ⟨.int _, H, I.kept hk, ⟨_, rfl⟩, q⟩
  · exact call_min2 hc pins s σ H xs us Q I r h
theorem rcMM {f : Int → List Int → Int} {f2 : Int → Int → Int} {g : List D → M D} (h1 : ∀ l, g [.lst l] = match intsOf l with
    | some (x :: r) => M.ret (D.int (f x r))
    | _ => .stk) (h2 : ∀ l, g [.tup l] = match intsOf l with
    | some (x :: r) => M.ret (D.int (f x r))
    | _ => .stk) (h3 : ∀ i j, g [.int i, .int j] = .ret (.int (f2 i j))) (h4 : ∀ ds, (∀ l, ds ≠ [.lst l]) → (∀ l, ds ≠ [.tup l]) → (∀ i j, ds ≠ [.int i, .int j]) → g ds = .stk) : RC X W g (rMM X.K f f2) := by
  intro w c H σ vs ds Q ok rs h
  by_cases hd : ∃ l, ds = [.lst l]
  · obtain ⟨l, rfl⟩ := hd
    obtain ⟨v, rfl, r⟩ := rs.one
    obtain ⟨a, us, rfl, hs, ru⟩ := r.lst ok
    rw [h1] at h
    split at h
    · rename_i x r e
      have e2 := ru.ints e
      subst e2
      exact .inl ⟨a, x, r, rfl, .inl (seqL_lst hs), FinE.here h ok (.int _)⟩
    · exact h.elim
  · by_cases hd2 : ∃ l, ds = [.tup l]
    · obtain ⟨l, rfl⟩ := hd2
      obtain ⟨v, rfl, r⟩ := rs.one
      obtain ⟨a, us, rfl, hs, ru⟩ := r.tup ok
      rw [h2] at h
      split at h
      · rename_i x r e
        have e2 := ru.ints e
        subst e2
        exact .inl ⟨a, x, r, rfl, .inr hs, FinE.here h ok (.int _)⟩
      · exact h.elim
    · by_cases hd3 : ∃ i j, ds = [.int i, .int j]
      · obtain ⟨i, j, rfl⟩ := hd3
        obtain ⟨v, u, rfl, r, r'⟩ := rs.two
        have := r.int; subst this
        have := r'.int; subst this
        rw [h3] at h
        exact .inr ⟨i, j, rfl, FinE.here h ok (.int _)⟩
      · rw [h4 ds (fun l e => hd ⟨l, e⟩) (fun l e => hd2 ⟨l, e⟩) (fun i j e => hd3 ⟨i, j, e⟩)] at h
        exact h.elim
theorem rc_max : RC X W fMax (rMM X.K mostOf fun i j => if j > i then j else i) := rcMM (fun l => rfl) (fun l => rfl) (fun i j => rfl) fun ds a b c => by
  unfold fMax
  split
  · rename_i l; exact absurd rfl (a l)
  · rename_i l; exact absurd rfl (b l)
  · rename_i i j; exact absurd rfl (c i j)
  · rfl
theorem rc_min : RC X W fMin (rMM X.K leastOf fun i j => if j < i then j else i) := rcMM (fun l => rfl) (fun l => rfl) (fun i j => rfl) fun ds a b c => by
  unfold fMin
  split
  · rename_i l; exact absurd rfl (a l)
  · rename_i l; exact absurd rfl (b l)
  · rename_i i j; exact absurd rfl (c i j)
  · rfl
/-! ### sorted -/
def rSortD (K : PySem.W.Frag) : List V → Hp → VK → Prop := fun xs H Q => ∃ (a : Addr) (bs : List (V × Mn.D)), xs = [.ref a] ∧ SqL K H a (bs.map (·.1)) ∧ DpAll K H (bs.map (·.1)) (toPs (bs.map (·.2))) ∧ flats 49 (bs.map (·.2)) = true ∧ alikeB (bs.map (·.2)) = true ∧ (tupsB (bs.map (·.2)) || othersB (bs.map (·.2))) = true ∧
  ∀ p, H p = none → Q (.ref p) (upd H p (.lst ((bs.mergeSort fun x y => dLe x.2 y.2).map (·.1))))
theorem toPs_map : ∀ l : List D, toPs l = l.map toP
  | [] => by simp [toPs]
  | d :: l => by simp [toPs, toPs_map l]
theorem each_vals : ∀ (bs : List (V × Mn.D)) (us : List Value), Vals (bs.map (·.1)) us → PySem.W.EachIs (fun v b => RelV b.1 v) us bs
  | [], us, h => by cases h; exact .nil
  | b :: bs, us, h => by
    have h' : Vals (b.1 :: bs.map (·.1)) us := h
    cases h' with
    | cons r t => exact .cons r (each_vals bs _ t)
theorem vals_each : ∀ (bs : List (V × Mn.D)) (us : List Value), PySem.W.EachIs (fun v b => RelV b.1 v) us bs → Vals (bs.map (·.1)) us
  | _, _, .nil => .nil
  | _, _, .cons r t => .cons r (vals_each _ _ t)
theorem flats_mem : ∀ {n : Nat} {l : List Mn.D} {d : Mn.D}, flats n l = true → d ∈ l → flat n d = true
  | n, [], d, _, h => by cases h
  | n, x :: l, d, h, hm => by
    rcases List.mem_cons.mp hm with rfl | hm
    · exact (flats_cons h).1
    · exact flats_mem (flats_cons h).2 hm
theorem cr_sortD (hu : X.A.units + 64 < cLine) : CallR X (.builtin "sorted") (rSortD X.K) := by
  intro pins s σ H vs us Q I r h
  obtain ⟨a, bs, rfl, hs, hd, hf, ha, hk, q⟩ := h
  obtain ⟨its, rv, hl, hz⟩ := I.list hs
  obtain ⟨u, rfl, rx⟩ := vals1 r
  cases rx
  obtain ⟨as, ra⟩ := Dp.readsAll I _ _ _ hd rv
  have em : toPs (bs.map (·.2)) = bs.map fun b => toP b.2 := by rw [toPs_map, List.map_map]; rfl
  rw [em] at ra
  have ha' := List.all_eq_true.mp ha
  refine PySem.W.sorted_data (R := fun v b => RelV b.1 v) (enc := fun b : V × Mn.D => toP b.2) (bs := bs) hl.isList (each_vals bs its rv) (PySem.W.readsAll_each (fun b : V × Mn.D => toP b.2) ra) (fun d hdm d' hdm' => ?_) ?_ (by rw [List.length_map] at hz; exact hz) (fun b hb => ?_) fun out hlen he => ?_
  · obtain ⟨x, hx, rfl⟩ := List.mem_map.mp hdm
    obtain ⟨y, hy, rfl⟩ := List.mem_map.mp hdm'
    exact List.all_eq_true.mp (ha' x.2 (List.mem_map.mpr ⟨x, hx, rfl⟩)) y.2 (List.mem_map.mpr ⟨y, hy, rfl⟩)
  · rcases Bool.or_eq_true_iff.mp hk with hk | hk
    · refine .inl fun d hdm => ?_
      obtain ⟨x, hx, rfl⟩ := List.mem_map.mp hdm
      have := List.all_eq_true.mp hk x.2 (List.mem_map.mpr ⟨x, hx, rfl⟩)
      show ∃ x_1 r, toP x.2 = _
      split at this
      · rename_i _ y ys e
        rw [e]
        exact ⟨toP y, toPs ys, by simp only [toP, toPs]⟩
      · cases this
    · refine .inr fun d hdm => ?_
      obtain ⟨x, hx, rfl⟩ := List.mem_map.mp hdm
      have := List.all_eq_true.mp hk x.2 (List.mem_map.mpr ⟨x, hx, rfl⟩)
      have hfx := flats_mem hf (List.mem_map.mpr ⟨x, hx, rfl⟩)
      show toP x.2 ≠ _ ∧ ∀ xs, toP x.2 ≠ _
      cases e : x.2 with
      | non => rw [e] at this; cases this
      | tup l => rw [e] at this; cases this
      | dct l => rw [e] at hfx; cases hfx
      | st => rw [e] at hfx; cases hfx
      | scr l => rw [e] at hfx; cases hfx
      | obj l => rw [e] at hfx; cases hfx
      | _ => exact ⟨by simp [toP], by simp [toP]⟩
  · have h1 := depth_of b.2 49 (flats_mem hf (List.mem_map.mpr ⟨b, hb, rfl⟩))
    omega
  · obtain ⟨ep, he'⟩ := PyProof.Rows.sortedAll_at s.heap its out.toArray
    have hv := vals_each _ _ he
    have hlen2 : ((bs.mergeSort fun x y => dLe x.2 y.2).map (·.1)).length ≤ sizeLine := by rw [List.length_map, List.length_mergeSort]; rw [List.length_map] at hz; exact hz
    exact ⟨.ref _, upd H (s.heap.objs.size + 1) (.lst _), I.laid (t' := s.toks) (fun _ _ => PyProof.Rows.sortedAll_old) (Nat.le_succ _) ⟨hlen2, out, ep, hv, he'⟩, rfl, q _ (I.hok.fresh (Nat.le_succ _))⟩
theorem reps_pairs {K : PySem.W.Frag} : ∀ bs : List (V × Mn.D), (∀ b ∈ bs, Rep K w b.1 b.2) → Reps K w (bs.map (·.1)) (bs.map (·.2))
  | [], _ => .nil
  | b :: bs, h => .cons (h b List.mem_cons_self) (reps_pairs bs fun x hx => h x (List.mem_cons_of_mem _ hx))
theorem pairs_reps {K : PySem.W.Frag} : ∀ {vs : List V} {ds : List Mn.D}, Reps K w vs ds → ∃ bs : List (V × Mn.D), bs.map (·.1) = vs ∧ bs.map (·.2) = ds ∧ ∀ b ∈ bs, Rep K w b.1 b.2
  | _, _, .nil => ⟨[], rfl, rfl, fun _ h => by cases h⟩
  | _, _, .cons (v := v) (d := d) r t => by
    obtain ⟨bs, e1, e2, h⟩ := pairs_reps t
    refine ⟨(v, d) :: bs, by rw [List.map_cons, e1], by rw [List.map_cons, e2], fun b hb => ?_⟩
    rcases List.mem_cons.mp hb with rfl | hb
    · exact r
    · exact h b hb
theorem rc_sorted : RCF X W fSorted (rSortD X.K) := by
  intro w c H σ vs ds Q ok rs h
  by_cases hd : ∃ l, ds = [.lst l]
  · obtain ⟨l, rfl⟩ := hd
    obtain ⟨v, rfl, r⟩ := rs.one
    obtain ⟨a, us, rfl, hs, ru⟩ := r.lst ok
    obtain ⟨h1, h2⟩ := ite_ret (show wp (if sortable l then M.ret (Mn.D.lst (l.mergeSort dLe)) else .stk) c (FinF X w H Q) _ from h)
    obtain ⟨bs, e1, e2, hb⟩ := pairs_reps ru
    subst e1 e2
    have h3 := Bool.and_eq_true_iff.mp h1
    have h4 := Bool.and_eq_true_iff.mp h3.1
    refine ⟨a, bs, rfl, seqL_lst hs, reps_dp ok.sub 49 ru h4.1, h4.1, h4.2, h3.2, fun p n => FinF.lst h2 ok ?_ n⟩
    have e : (bs.map (·.2)).mergeSort dLe = (bs.mergeSort fun x y => dLe x.2 y.2).map (·.2) := (List.map_mergeSort (f := fun b : V × Mn.D => b.2) (r := fun x y => dLe x.2 y.2) (s := dLe) (l := bs) (fun _ _ _ _ => rfl)).symm
    rw [e]
    exact reps_pairs _ fun b hm => hb b ((List.mergeSort_perm _ _).mem_iff.mp hm)
  · have e : fSorted ds = .stk := by
      unfold fSorted
      split
      · rename_i l; exact absurd ⟨l, rfl⟩ hd
      · rfl
    rw [e] at h
    exact h.elim
end
end Mn

set_option Elab.async false
set_option linter.all false
set_option autoImplicit false
set_option maxRecDepth 100000
set_option maxHeartbeats 2000000
/-! Mn11: own lists by their methods, parallel stores, chains, defs. -/
namespace Mn
open PySem PySem.Spec PyProof.Rows L2
section
variable {X : Cx} {W : WX} {w0 w : Wd} {c : Nat} {H0 H : Hp} {τ : Sl} {σ : L2.St} {Q : VK}
/-! ### chains -/
theorem chain_of {r r' : R2} {g g' : D → D → M D} {fa fb fc : XE} (hr : RO2 X W g r) (hr' : RO2 X W g' r') (h : tE X W w0 H0 (xChain g g' fa fb fc) σ H Q) : tChain r r' (tE X W w0 H0 fa) (tE X W w0 H0 fb) (tE X W w0 H0 fc) σ H Q := by
  obtain ⟨w, c, τ, rel, q⟩ := h
  obtain ⟨w1, c1, τ1, rel1, q1⟩ := tE_bind (W := W) rel q
  refine ⟨w1, c1, τ1, rel1, wp_mono q1 (fun dx c2 _ k w2 H2 x e2 ok2 rx => ?_) fun _ _ _ _ k => k⟩
  obtain ⟨w3, c3, d3, e3, rel3, r3, q3⟩ := k w2 H2 x e2 ok2 rx
  obtain ⟨w4, c4, τ4, rel4, q4⟩ := tE_bind (W := W) rel3 q3
  refine ⟨w4, c4, τ4, rel4, wp_mono q4 (fun dy c5 _ k5 w5 H5 y e5 ok5 ry => ?_) fun _ _ _ _ k => k⟩
  obtain ⟨w6, c6, d6, e6, rel6, r6, q6⟩ := k5 w5 H5 y e5 ok5 ry
  have q7 := wp_bind.1 q6
  refine hr rel6.ok (.inl (r3.le e6.le)) (.inl r6) (wp_mono q7 (fun dz c7 _ k7 w8 H8 z e8 ok8 rz => ?_) fun _ _ _ _ k => k)
  cases dz with
  | bl kb =>
    cases rz
    refine ⟨kb, rfl, ?_⟩
    have ee := e3.trans (e6.trans e8)
    have k8 : wp (if kb then (fc τ).bind fun u => g' d6 u else .ret (.bl false)) c7 _ _ := k7
    cases kb with
    | true =>
      rw [if_pos rfl] at k8 ⊢
      obtain ⟨w9, c9, τ9, rel9, q9⟩ := tE_bind (W := W) (rel3.go (e6.trans e8) ok8) (wp_ext (W := W) (σ := σ) e8 k8)
      refine ⟨w9, c9, τ9, rel9, wp_mono q9 (fun du c10 _ k10 w11 H11 u e11 ok11 ru => ?_) fun _ _ _ _ k => k⟩
      obtain ⟨w12, c12, d12, e12, rel12, r12, q12⟩ := k10 w11 H11 u e11 ok11 ru
      exact hr' rel12.ok (.inl ((r6.le e8.le).le e12.le)) (.inl r12) (wp_mono q12 (fun d c _ k w' H' v e ok r => k w' H' v (ee.trans (e12.trans e)) ok r) fun _ _ _ _ k => k)
    | false =>
      rw [if_neg Bool.false_ne_true] at k8 ⊢
      exact k8 w8 H8 _ ee ok8 (.bl _)
  | _ => exact k7.elim
theorem de_chain {op op' : CmpOp} {r r' : R2} {g g' : D → D → M D} {a b d : Expr} {pos : Pos} {fa fb fc : XE} (ho : OpR X (compareOp op) r) (hr : RO2 X W g r) (ho' : OpR X (compareOp op') r') (hr' : RO2 X W g' r') (ha : DE X W a fa) (hb : DE X W b fb) (hd : DE X W d fc)
    (hm : lastMarks [op, op'] [b, d] = false := by with_unfolding_all rfl) : DE X W (.Compare a [op, op'] [b, d] pos) (xChain g g' fa fb fc) :=
  ⟨fun w0 H0 => (pe_chain ho ho' (ha.ok w0 H0) (hb.ok w0 H0) (hd.ok w0 H0) hm).weak fun σ H Q h => chain_of hr hr' h⟩
theorem dt_chain {op op' : CmpOp} {r r' : R2} {g g' : D → D → M D} {a b d : Expr} {pos : Pos} {fa fb fc : XE} (ho : OpR X (compareOp op) r) (hr : RO2 X W g r) (ho' : OpR X (compareOp op') r') (hr' : RO2 X W g' r') (ha : DE X W a fa) (hb : DE X W b fb) (hd : DE X W d fc)
    (hm : lastMarks [op, op'] [b, d] = false := by with_unfolding_all rfl) : DT X W (.Compare a [op, op'] [b, d] pos) (bV (xChain g g' fa fb fc)) :=
  ⟨fun w0 H0 => (pt_chain ho ho' (ha.ok w0 H0) (hb.ok w0 H0) (hd.ok w0 H0) hm).weak fun σ H Q h => chain_of hr hr' (tT_of h)⟩
/-! ### own lists by their methods -/
theorem own_cases {α : Type} {i : Nat} {k : List D → M α} {Qr : α → Nat → Prop} {E : String → List D → Nat → Prop} (h : wp ((ownAt τ i).bind k) c Qr E) : ∃ l, τ.getD i .un = .own l ∧ wp (k l) c Qr E := by
  unfold ownAt at h
  cases e : τ.getD i .un with
  | own l => rw [e] at h; exact ⟨l, rfl, h⟩
  | un => rw [e] at h; exact h.elim
  | val _ => rw [e] at h; exact h.elim
  | ownd _ => rw [e] at h; exact h.elim
theorem Rel.ownl {K : PySem.W.Frag} (r : Rel K w0 H0 w c H τ σ) {i : Nat} {l : List D} (e : τ.getD i .un = .own l) : ∃ a vs, σ[i]? = some (some (.ref a)) ∧ Own w H0 a ∧ H a = some (.lst vs) ∧ Reps K w vs l := by
  have s := r.slot i
  rw [e] at s
  obtain ⟨a, vs, es, o, ha, rl⟩ := s
  exact ⟨a, vs, slot_some (K := K) (w := w) (c := c) (τ := τ) es, o, ha, rl⟩
theorem getD_of {i : Nat} {v : V} (h : σ[i]? = some (some v)) : σ.getD i none = some v := by rw [List.getD_eq_getElem?_getD, h]; rfl
theorem Rel.chgL {K : PySem.W.Frag} (r : Rel K w0 H0 w c H τ σ) {i : Nat} {a : Addr} {l l' : List D} {vs vs' : List V} (e : τ.getD i .un = .own l) (es : σ[i]? = some (some (.ref a))) (rl : Reps K w vs' l') :
    Rel K w0 H0 w c (upd H a (.lst vs')) (τ.set i (.own l')) σ := by
  have s := r.slot i
  rw [e] at s
  obtain ⟨b, us, eb, o, hb, _⟩ := s
  rw [getD_of es] at eb
  cases eb
  exact r.chg (by rw [e]; rfl) (getD_of es) rfl ⟨a, vs', rfl, o, upd_same, rl⟩
section
variable {i : Nat} {x : Str} {e : Expr} {f : XE} {p apos cpos pos : Pos}
theorem ds_app (he : DE X W e f) (hN : X.N[i]? = some x := by rfl) (hv : Vis X.env.scope x := by first | exact Or.inl rfl | exact Or.inr (Or.inl rfl) | exact Or.inr (Or.inr rfl)) (hd : (x == ("__debug__" : Str)) = false := by decide) (hcd : (x == ("__classdict__" : Str)) = false := by decide)
    (hbase : attributeBase (.Name x p) "append" X.env (eval (.Name x p) X.env) = eval (.Name x p) X.env := by rfl)
    (hfew : ((backTo cpos (starEach [e] X.env)).all (fun x => !x.1) && (backToKw cpos (keywordEach [] X.env)).all (fun x => x.1.isSome)
      && decide (([e] : List Expr).length + ([] : List Keyword).length + (if ([] : List Keyword).isEmpty then 0 else 1) < 30)) = true := by rfl)
    (hline : (apos.endLine == cpos.line) = true := by rfl) (hs : starEach [e] X.env = (false, eval e X.env) :: starEach [] X.env := by rfl) (hplain : (backTo cpos (starEach [] X.env)).any (·.1) = false := by rfl)
    (hsw : swapsWith (.Call (.Attribute (.Name x p) "append" apos) [e] [] cpos) none pos.line X.env = pure false := by rfl) :
    DS X W (.Expr (.Call (.Attribute (.Name x p) "append" apos) [e] [] cpos) pos) (sApp i f) := by
  refine ⟨fun w0 H0 => (ps_expr (pe_bm PySem.F.plainAttrs_list PySem.F.slot_list_append PySem.F.type_list_append mt_append (pe_var hN hv hd hcd) ((das_cons he das_nil hs).ok w0 H0) hbase hfew hline hs hplain) hsw).weak fun D' σ H ⟨w, c, τ, rel, q⟩ => ?_⟩
  obtain ⟨l, el, q⟩ := own_cases q
  obtain ⟨a, vs, es, o, ha, rl⟩ := rel.ownl el
  refine ⟨.ref a, es, .inl ⟨rfl, _, seqL_lst ha⟩, w, c, τ, rel, ?_⟩
  refine wp_bind.2 (wp_mono (wp_toPX (σ := σ) rel.ext (wp_bind.1 q)) (fun d c' _ k => ?_) fun _ _ _ _ k => k)
  show ∀ w' H' us, Ext w H w' H' → Ok w' c' H' → Reps X.K w' us [d] → _
  intro w' H' us e ok rs
  obtain ⟨h1, k⟩ := ite_ret k
  cases rs with
  | cons r rr =>
    cases rr
    obtain ⟨ka, kn, kd⟩ := e.keep a _ ha o.hs o.dr
    have rl' := rl.le e.le
    refine ⟨a, vs, _, rfl, rfl, ka, by rw [rl.length, sizeLine_eq]; exact h1, k w' _ σ ((rel.go e ok).chgL (l := l) (vs := vs) el es (rl'.append (.cons r .nil)))⟩
theorem ds_ext (he : BE X W e f) (hN : X.N[i]? = some x := by rfl) (hv : Vis X.env.scope x := by first | exact Or.inl rfl | exact Or.inr (Or.inl rfl) | exact Or.inr (Or.inr rfl)) (hd : (x == ("__debug__" : Str)) = false := by decide) (hcd : (x == ("__classdict__" : Str)) = false := by decide)
    (hbase : attributeBase (.Name x p) "extend" X.env (eval (.Name x p) X.env) = eval (.Name x p) X.env := by rfl)
    (hfew : ((backTo cpos (starEach [e] X.env)).all (fun x => !x.1) && (backToKw cpos (keywordEach [] X.env)).all (fun x => x.1.isSome)
      && decide (([e] : List Expr).length + ([] : List Keyword).length + (if ([] : List Keyword).isEmpty then 0 else 1) < 30)) = true := by rfl)
    (hline : (apos.endLine == cpos.line) = true := by rfl) (hs : starEach [e] X.env = (false, eval e X.env) :: starEach [] X.env := by rfl) (hplain : (backTo cpos (starEach [] X.env)).any (·.1) = false := by rfl)
    (hsw : swapsWith (.Call (.Attribute (.Name x p) "extend" apos) [e] [] cpos) none pos.line X.env = pure false := by rfl) :
    DS X W (.Expr (.Call (.Attribute (.Name x p) "extend" apos) [e] [] cpos) pos) (sExt i f) := by
  refine ⟨fun w0 H0 => (ps_expr (pe_bm PySem.F.plainAttrs_list PySem.F.slot_list_extend PySem.F.type_list_extend mt_extend (pe_var hN hv hd hcd) (pa_cons (he.ok w0 H0) pa_nil hs) hbase hfew hline hs hplain) hsw).weak fun D' σ H ⟨w, c, τ, rel, q⟩ => ?_⟩
  obtain ⟨l, el, q⟩ := own_cases q
  obtain ⟨a, vs, es, o, ha, rl⟩ := rel.ownl el
  refine ⟨.ref a, es, .inl ⟨rfl, _, seqL_lst ha⟩, w, c, τ, rel, ?_⟩
  refine wp_mono (wp_toPX (σ := σ) rel.ext (wp_bind.1 q)) (fun d c' _ k w' H' v e ok rv => ?_) fun _ _ _ _ k => k
  cases d with
  | lst m =>
    obtain ⟨b, us, rfl, hb, ru⟩ := rv.lst ok
    have k : wp (if l.length + m.length ≤ 16777216 then M.ret (Fl.nx, τ.set i (SV.own (l ++ m))) else .stk) c' _ _ := k
    obtain ⟨h1, k⟩ := ite_ret k
    obtain ⟨ka, kn, kd⟩ := e.keep a _ ha o.hs o.dr
    have rl' := rl.le e.le
    exact ⟨a, b, vs, us, rfl, rfl, ka, hb, by rw [rl.length, ru.length, sizeLine_eq]; exact h1, k w' _ σ ((rel.go e ok).chgL (l := l) (vs := vs) el es (rl'.append ru))⟩
  | _ => exact k.elim
/-- x[k] = e, x a list of one's own -/
theorem ds_putL {k : Expr} {fk : XE} {spos : Pos} (he : DE X W e f) (hk : DE X W k fk) (hN : X.N[i]? = some x := by rfl) (hv : Vis X.env.scope x := by first | exact Or.inl rfl | exact Or.inr (Or.inl rfl) | exact Or.inr (Or.inr rfl)) (hd : (x == ("__debug__" : Str)) = false := by decide) (hcd : (x == ("__classdict__" : Str)) = false := by decide)
    (ha : ∀ v, assign (.Subscript (.Name x p) k spos) X.env v = (do
      let ov ← holding [v] (eval (.Name x p) X.env)
      let iv ← holding [v, ov] (eval k X.env)
      standAt spos
      holding [v, ov, iv] (setItem ov iv v)
      release [v, ov, iv] []) := by intro _; rfl)
    (hs : swapsWithSole [.Subscript (.Name x p) k spos] e pos.line X.env = pure false := by rfl) (hw : swappedStores [.Subscript (.Name x p) k spos] e X.env = pure none := by rfl) (h1 : (assignEach [.Subscript (.Name x p) k spos] X.env).map (·.2) = [assign (.Subscript (.Name x p) k spos) X.env] := by rfl) :
    DS X W (.Assign [.Subscript (.Name x p) k spos] e pos) (sPutL i fk f) := by
  refine ⟨fun w0 H0 => (ps_asg (he.ok w0 H0) (pg_sub (pe_var hN hv hd hcd) (hk.ok w0 H0) set_list ha) hs hw h1).weak fun D' σ H ⟨w, c, τ, rel, q⟩ => ?_⟩
  refine ⟨w, c, τ, rel, wp_mono (wp_toPX (σ := σ) rel.ext (wp_bind.1 q)) (fun d c1 _ q1 w1 H1 v e1 ok1 rv => ?_) fun _ _ _ _ k => k⟩
  have rel1 := rel.go e1 ok1
  obtain ⟨l, el, q1⟩ := own_cases q1
  obtain ⟨a, vs, es, o, hla, rl⟩ := rel1.ownl el
  refine ⟨.ref a, es, w1, c1, τ, rel1, wp_mono (wp_toPX (σ := σ) rel1.ext (wp_bind.1 q1)) (fun d2 c2 _ q2 w2 H2 u e2 ok2 ru => ?_) fun _ _ _ _ k => k⟩
  cases d2 with
  | int ki =>
    cases ru
    have q2 : wp ((ofO (placeI l.length ki)).bind fun n => .ret (Fl.nx, τ.set i (.own (l.set n d)))) c2 (PSN X.K w0 H0 D') (PSX X W w0 H0) := q2
    obtain ⟨n, hn, q2⟩ : ∃ n, placeI l.length ki = some n ∧ wp (.ret (Fl.nx, τ.set i (.own (l.set n d)))) c2 (PSN X.K w0 H0 D') (PSX X W w0 H0) := by
      cases hn : placeI l.length ki with
      | none => rw [hn] at q2; exact q2.elim
      | some d => rw [hn] at q2; exact ⟨d, rfl, q2⟩
    obtain ⟨ka, kn, kd⟩ := e2.keep a _ hla o.hs o.dr
    exact ⟨a, vs, ki, n, rfl, rfl, ka, by rw [rl.length, ← placeI_eq]; exact hn, q2 w2 _ σ ((rel1.go e2 ok2).chgL (l := l) (vs := vs) el es ((rl.le e2.le).set (rv.le e2.le) n))⟩
  | _ => exact q2.elim
/-- y = x.pop(), x a list of one's own -/
theorem ds_pop {j : Nat} {y : Str} {py : Pos} (hNd : X.N.Nodup) (hij : j ≠ i) (hN : X.N[i]? = some x := by rfl) (hv : Vis X.env.scope x := by first | exact Or.inl rfl | exact Or.inr (Or.inl rfl) | exact Or.inr (Or.inr rfl)) (hd : (x == ("__debug__" : Str)) = false := by decide) (hcd : (x == ("__classdict__" : Str)) = false := by decide)
    (hbase : attributeBase (.Name x p) "pop" X.env (eval (.Name x p) X.env) = eval (.Name x p) X.env := by rfl) (hline : (apos.endLine == cpos.line) = true := by rfl)
    (hi : X.N[j]? = some y := by rfl) (hx : Loc X.env.scope y := by first | exact Or.inl rfl | exact Or.inr rfl) (hs : swapsWith (.Call (.Attribute (.Name x p) "pop" apos) [] [] cpos) (some (.Name y py)) pos.line X.env = pure false := by rfl)
    (hf : X.fn y = true ∨ X.env.scope.names.lookup y = some .local := by first | exact .inl rfl | exact .inr rfl) :
    DS X W (.Assign [.Name y py] (.Call (.Attribute (.Name x p) "pop" apos) [] [] cpos) pos) (sPop j i) := by
  refine ⟨fun w0 H0 => (ps_set hNd hi hx (pe_bm0 PySem.F.plainAttrs_list PySem.F.slot_list_pop PySem.F.type_list_pop mt_pop (pe_var hN hv hd hcd) hbase hline) hs hf).weak fun D' σ H ⟨w, c, τ, rel, q⟩ => ?_⟩
  obtain ⟨l, el, q⟩ := own_cases q
  obtain ⟨a, vs, es, o, ha, rl⟩ := rel.ownl el
  obtain ⟨d, hd', q⟩ : ∃ d, l[l.length - 1]? = some d ∧ wp (.ret (Fl.nx, (τ.set i (SV.own l.dropLast)).set j (SV.val d))) c (PSN X.K w0 H0 D') (PSX X W w0 H0) := by
    cases hd' : l[l.length - 1]? with
    | none => rw [hd'] at q; exact q.elim
    | some d => rw [hd'] at q; exact ⟨d, rfl, q⟩
  obtain ⟨v, hv', rv⟩ := rl.get hd'
  refine ⟨.ref a, es, .inl ⟨rfl, _, seqL_lst ha⟩, a, vs, v, rfl, rfl, ha, by rw [rl.length]; exact hv', ?_⟩
  have rr := (rel.chgL (l := l) (l' := l.dropLast) (vs := vs) (vs' := vs.dropLast) el es (by rw [List.dropLast_eq_take, List.dropLast_eq_take, rl.length]; exact rl.take _)).set j rv
  exact q w _ _ rr
end
/-! ### parts that stay, parts of one's own -/
def MixV (K : PySem.W.Frag) (w : Wd) (H1 H : Hp) : SV → V → Prop
  | .un, _ => False
  | .val d, v => Rep K w v d
  | .own l, v => ∃ a vs, v = .ref a ∧ H1 a = none ∧ w.hs a = none ∧ ¬ w.draw a ∧ H a = some (.lst vs) ∧ Reps K w vs l
  | .ownd l, v => ∃ a, v = .ref a ∧ H1 a = none ∧ w.hs a = none ∧ ¬ w.draw a ∧ ((∃ kvs, H a = some (.dK kvs) ∧ RepK K w kvs l) ∨ ∃ kvs, l ≠ [] ∧ H a = some (.dT kvs) ∧ RepT K w kvs l)
def MixVs (K : PySem.W.Frag) (w : Wd) (H1 H : Hp) : List SV → List V → Prop
  | [], [] => True
  | s :: ss, v :: vs => MixV K w H1 H s v ∧ (isOwn s = true → ∀ k, isOwn (ss.getD k .un) = true → vs[k]? ≠ some v) ∧ MixVs K w H1 H ss vs
  | _, _ => False
theorem MixV.start {K : PySem.W.Frag} {H1 H2 : Hp} (h : ∀ a, H1 a = none → H2 a = none) : ∀ {s : SV} {v : V}, MixV K w H1 H s v → MixV K w H2 H s v
  | .un, _, q => q
  | .val d, _, q => q
  | .own l, _, ⟨a, vs, e, n, r⟩ => ⟨a, vs, e, h a n, r⟩
  | .ownd l, _, ⟨a, e, n, r⟩ => ⟨a, e, h a n, r⟩
theorem MixVs.start {K : PySem.W.Frag} {H1 H2 : Hp} (h : ∀ a, H1 a = none → H2 a = none) : ∀ {s : List SV} {v : List V}, MixVs K w H1 H s v → MixVs K w H2 H s v
  | [], [], q => q
  | s :: ss, v :: vs, ⟨a, b, t⟩ => ⟨a.start h, b, MixVs.start h t⟩
  | [], _ :: _, q => q.elim
  | _ :: _, [], q => q.elim
def tM (X : Cx) (W : WX) (w0 : Wd) (H0 : Hp) (f : XM) : TA := fun σ H Q => ∃ w c τ, Rel X.K w0 H0 w c H τ σ ∧
  wp (f τ) c (fun ss c' => ∀ w' H' vs, Ext w H w' H' → Ok w' c' H' → MixVs X.K w' H H' ss vs → Q vs H') (PX X W w H σ)
structure DMs (X : Cx) (W : WX) (es : List Expr) (f : XM) : Prop where
  ok : ∀ w0 H0, PA X es (tM X W w0 H0 f)
theorem dms_nil : DMs X W [] mNil := ⟨fun w0 H0 => pa_nil.weak fun σ H Q ⟨w, c, τ, r, q⟩ => q w H [] (.refl _ _) r.ok True.intro⟩
theorem dms_val {e : Expr} {es : List Expr} {fe : XE} {fr : XM} (he : DE X W e fe) (hr : DMs X W es fr) (hs : starEach (e :: es) X.env = (false, eval e X.env) :: starEach es X.env := by rfl) : DMs X W (e :: es) (mVal fe fr) := by
  refine ⟨fun w0 H0 => (pa_cons (he.ok w0 H0) (hr.ok w0 H0) hs).weak fun σ H Q ⟨w, c, τ, rel, q⟩ => ?_⟩
  refine ⟨w, c, τ, rel, wp_mono (wp_bind.1 q) (fun d c1 _ q1 w1 H1 v e1 ok1 rv => ?_) fun _ _ _ _ k => k⟩
  refine ⟨w1, c1, τ, rel.go e1 ok1, wp_mono (wp_bind.1 (wp_ext (W := W) (σ := σ) e1 q1)) (fun ss c2 _ q2 w2 H2 vs e2 ok2 rs => ?_) fun _ _ _ _ k => k⟩
  exact q2 w2 H2 (v :: vs) (e1.trans e2) ok2 ⟨rv.le e2.le, (fun h => nomatch h), rs.start fun a n => e1.was_free rel.ok ok1 n⟩
theorem dms_own {e : Expr} {es : List Expr} {fe : XE} {fr : XM} (he : FE X W e fe) (hr : DMs X W es fr) (hs : starEach (e :: es) X.env = (false, eval e X.env) :: starEach es X.env := by rfl) : DMs X W (e :: es) (mOwn fe fr) := by
  refine ⟨fun w0 H0 => (pa_cons (he.ok w0 H0) (hr.ok w0 H0) hs).weak fun σ H Q ⟨w, c, τ, rel, q⟩ => ?_⟩
  refine ⟨w, c, τ, rel, wp_mono (wp_bind.1 q) (fun d c1 _ q1 w1 H1 v e1 ok1 rv => ?_) fun _ _ _ _ k => k⟩
  obtain ⟨a, rfl, n0, n1, n2, hh⟩ := rv
  have other : ∀ {w2 : Wd} {H2 : Hp} {ss : List SV} {vs : List V}, (∃ o, H1 a = some o) → MixVs X.K w2 H1 H2 ss vs → ∀ k, isOwn (ss.getD k .un) = true → vs[k]? ≠ some (V.ref a) := by
    intro w2 H2 ss
    induction ss with
    | nil => intro vs _ _ k h; cases k <;> cases h
    | cons s ss ih =>
      intro vs ho m k h
      cases vs with
      | nil => exact m.elim
      | cons u us =>
        obtain ⟨m1, _, m2⟩ := m
        cases k with
        | zero =>
          obtain ⟨o, ho⟩ := ho
          have h : isOwn s = true := h
          intro z
          have z : u = .ref a := Option.some.inj z
          cases s with
          | un => cases h
          | val _ => cases h
          | own l => obtain ⟨b, _, e, n, _⟩ := m1; rw [z] at e; cases e; rw [n] at ho; cases ho
          | ownd l => obtain ⟨b, e, n, _⟩ := m1; rw [z] at e; cases e; rw [n] at ho; cases ho
        | succ k => exact ih (vs := us) ho m2 k h
  have step : ∀ (s : SV), ownOf d = .ret s → (∀ w2 H2, Ext w1 H1 w2 H2 → MixV X.K w2 H H2 s (.ref a)) → (∃ o, H1 a = some o) → tM X W w0 H0 fr σ H1 fun vs H2 => Q (.ref a :: vs) H2 := fun s hs hm ho => by
    rw [hs] at q1
    refine ⟨w1, c1, τ, rel.go e1 ok1, wp_mono (wp_bind.1 (wp_ext (W := W) (σ := σ) e1 q1)) (fun ss c2 _ q2 w2 H2 vs e2 ok2 rs => ?_) fun _ _ _ _ k => k⟩
    exact q2 w2 H2 (.ref a :: vs) (e1.trans e2) ok2 ⟨hm w2 H2 e2, fun _ => other ho rs, rs.start fun a n => e1.was_free rel.ok ok1 n⟩
  rcases hh with ⟨vs, l, rfl, ea, rl⟩ | ⟨kvs, l, rfl, ea, rl⟩ | ⟨kvs, l, ne, rfl, ea, rl⟩
  · refine step (.own l) rfl (fun w2 H2 e2 => ?_) ⟨_, ea⟩
    obtain ⟨k1, k2, k3⟩ := e2.keep a _ ea n1 n2
    exact ⟨a, vs, rfl, n0, k2, k3, k1, rl.le e2.le⟩
  · refine step (.ownd l) rfl (fun w2 H2 e2 => ?_) ⟨_, ea⟩
    obtain ⟨k1, k2, k3⟩ := e2.keep a _ ea n1 n2
    exact ⟨a, rfl, n0, k2, k3, .inl ⟨kvs, k1, rl.le e2.le⟩⟩
  · refine step (.ownd l) rfl (fun w2 H2 e2 => ?_) ⟨_, ea⟩
    obtain ⟨k1, k2, k3⟩ := e2.keep a _ ea n1 n2
    exact ⟨a, rfl, n0, k2, k3, .inr ⟨kvs, ne, k1, rl.le e2.le⟩⟩
/-- one more store: of a part that is in no slot yet -/
theorem Rel.setM {K : PySem.W.Frag} {H1 : Hp} (r : Rel K w0 H0 w c H τ σ) (h10 : ∀ a, H1 a = none → H0 a = none) {s : SV} {v : V} (m : MixV K w H1 H s v) (i : Nat)
    (hn : isOwn s = true → ∀ j, isOwn (τ.getD j .un) = true → σ.getD j none ≠ some v) : Rel K w0 H0 w c H (τ.set i s) (σ.set i (some v)) := by
  cases s with
  | un => exact m.elim
  | val d => exact r.set i m
  | own l =>
    obtain ⟨a, vs, rfl, n, n1, n2, ha, rl⟩ := m
    exact r.setR i ⟨a, vs, rfl, ⟨n1, n2, h10 a n⟩, ha, rl⟩ fun j b _ _ e h1 h2 => by cases e; exact hn rfl j h1 h2
  | ownd l =>
    obtain ⟨a, rfl, n, n1, n2, ha⟩ := m
    exact r.setR i ⟨a, rfl, ⟨n1, n2, h10 a n⟩, ha⟩ fun j b _ _ e h1 h2 => by cases e; exact hn rfl j h1 h2
theorem Rel.setMs {K : PySem.W.Frag} {H1 : Hp} (h10 : ∀ a, H1 a = none → H0 a = none) : ∀ (is : List Nat) (ss : List SV) (vs : List V) {τ : Sl} {σ : L2.St}, Rel K w0 H0 w c H τ σ → MixVs K w H1 H ss vs → ss.length = is.length →
    (∀ k, isOwn (ss.getD k .un) = true → ∀ v, vs[k]? = some v → ∀ j, isOwn (τ.getD j .un) = true → σ.getD j none ≠ some v) →
    ∃ σ', Rel K w0 H0 w c H (setAll is ss τ) σ' ∧ σ' = (is.zip vs).foldl (fun σ p => σ.set p.1 (some p.2)) σ
  | [], [], vs, τ, σ, r, m, _, _ => by
    refine ⟨σ, r, ?_⟩
    simp
  | i :: is, s :: ss, [], τ, σ, r, m, _, _ => m.elim
  | i :: is, s :: ss, v :: vs, τ, σ, r, ⟨m1, mo, m2⟩, hl, hn => by
    have r' := r.setM h10 m1 i fun h => hn 0 h v rfl
    obtain ⟨σ', r2, e⟩ := Rel.setMs h10 is ss vs r' m2 (by simpa using hl) fun k hk u hu j h1 h2 => by
      rw [getD_set] at h1 h2
      rw [r.len] at h1
      by_cases e : i = j ∧ i < σ.length
      · rw [if_pos e] at h1 h2
        have z : v = u := Option.some.inj h2
        subst z
        exact mo h1 k hk hu
      · rw [if_neg e] at h1 h2
        exact hn (k + 1) hk u hu j h1 h2
    exact ⟨σ', r2, by rw [e]; rfl⟩
  | [], _ :: _, _, _, _, _, _, h, _ => by cases h
  | _ :: _, [], _, _, _, _, _, h, _ => by cases h
theorem par_of {es : List Nat} {f : XM} {D' : Ends} (h : tS X W w0 H0 (sPar es f) D' σ H) : tM X W w0 H0 f σ H fun vs H1 => vs.length = es.length ∧ D'.nx ((es.zip vs).foldl (fun σ p => σ.set p.1 (some p.2)) σ) H1 := by
  obtain ⟨w, c, τ, rel, q⟩ := h
  refine ⟨w, c, τ, rel, wp_mono (wp_toPX (σ := σ) rel.ext (wp_bind.1 q)) (fun ss c' _ k w' H' vs e ok m => ?_) fun _ _ _ _ k => k⟩
  obtain ⟨hl, k⟩ := ite_ret k
  have len : ∀ {ss : List SV} {vs : List V}, MixVs X.K w' H H' ss vs → vs.length = ss.length := by
    intro ss
    induction ss with
    | nil => intro vs m; cases vs with
      | nil => rfl
      | cons _ _ => exact m.elim
    | cons s ss ih => intro vs m; cases vs with
      | nil => exact m.elim
      | cons v vs => exact congrArg Nat.succ (ih m.2.2)
  have own : ∀ {ss : List SV} {vs : List V} (k : Nat), MixVs X.K w' H H' ss vs → isOwn (ss.getD k .un) = true → ∀ v, vs[k]? = some v → ∃ a, v = .ref a ∧ H a = none := by
    intro ss
    induction ss with
    | nil => intro vs k m h; cases k <;> cases h
    | cons s ss ih =>
      intro vs k m h v hv
      cases vs with
      | nil => exact m.elim
      | cons u us =>
        cases k with
        | zero =>
          have h : isOwn s = true := h
          have hv : u = v := Option.some.inj hv
          subst hv
          cases s with
          | un => cases h
          | val _ => cases h
          | own l => obtain ⟨b, _, e, n, _⟩ := m.1; exact ⟨b, e, n⟩
          | ownd l => obtain ⟨b, e, n, _⟩ := m.1; exact ⟨b, e, n⟩
        | succ k => exact ih k m.2.2 h v hv
  obtain ⟨σ', r', e'⟩ := Rel.setMs (H1 := H) (fun a n => rel.dom a n) es ss vs (rel.go e ok) m hl fun k hk v hv j h1 h2 => by
    obtain ⟨a, rfl, n⟩ := own k m hk v hv
    obtain ⟨o, ho⟩ := rel.own_at h1 h2
    rw [n] at ho; cases ho
  refine ⟨(len m).trans hl, ?_⟩
  rw [← e']
  exact k w' H' σ' r'
theorem ds_par {i j : Nat} {x y : Str} {a b : Expr} {f : XM} {px py pt pos : Pos} {kt k2 pt2} (hc : X.calm = true) (hN : X.N.Nodup) (ha : DMs X W [a, b] f)
    (hw : swappedStores [.Tuple [.Name x px, .Name y py] kt pt] (.Tuple [a, b] k2 pt2) X.env = pure (some [x, y])) (hij : i ≠ j := by decide) (hi : X.N[i]? = some x := by rfl) (hj : X.N[j]? = some y := by rfl)
    (hx : X.env.scope.names.lookup x = some .local := by rfl) (hy : X.env.scope.names.lookup y = some .local := by rfl)
    (hs : swapsWithSole [.Tuple [.Name x px, .Name y py] kt pt] (.Tuple [a, b] k2 pt2) pos.line X.env = pure false := by rfl) :
    DS X W (.Assign [.Tuple [.Name x px, .Name y py] kt pt] (.Tuple [a, b] k2 pt2) pos) (sPar [i, j] f) := by
  refine ⟨fun w0 H0 => (ps_par hc hN hi hj hij hx hy (ha.ok w0 H0) hw hs).weak fun D' σ H h => ?_⟩
  obtain ⟨w, c, τ, rel, q⟩ := par_of h
  refine ⟨w, c, τ, rel, wp_mono q (fun ss c' _ k w' H' vs e ok m => ?_) fun _ _ _ _ k => k⟩
  obtain ⟨hl, k⟩ := k w' H' vs e ok m
  match vs, hl, k with
  | [v, u], _, k => exact ⟨v, u, rfl, k⟩
theorem ds_par3 {i j l : Nat} {x y z : Str} {a b d : Expr} {f : XM} {px py pz pt pos : Pos} {kt k2 pt2} (hc : X.calm = true) (hN : X.N.Nodup) (ha : DMs X W [a, b, d] f)
    (hw : swappedStores [.Tuple [.Name x px, .Name y py, .Name z pz] kt pt] (.Tuple [a, b, d] k2 pt2) X.env = pure (some [x, y, z])) (hij : i ≠ j := by decide) (hil : i ≠ l := by decide) (hjl : j ≠ l := by decide) (hi : X.N[i]? = some x := by rfl) (hj : X.N[j]? = some y := by rfl) (hl : X.N[l]? = some z := by rfl)
    (hx : X.env.scope.names.lookup x = some .local := by rfl) (hy : X.env.scope.names.lookup y = some .local := by rfl) (hz : X.env.scope.names.lookup z = some .local := by rfl)
    (hs : swapsWithSole [.Tuple [.Name x px, .Name y py, .Name z pz] kt pt] (.Tuple [a, b, d] k2 pt2) pos.line X.env = pure false := by rfl) :
    DS X W (.Assign [.Tuple [.Name x px, .Name y py, .Name z pz] kt pt] (.Tuple [a, b, d] k2 pt2) pos) (sPar [i, j, l] f) := by
  refine ⟨fun w0 H0 => (ps_par3 hc hN hi hj hl hij hil hjl hx hy hz (ha.ok w0 H0) hw hs).weak fun D' σ H h => ?_⟩
  obtain ⟨w, c, τ, rel, q⟩ := par_of h
  refine ⟨w, c, τ, rel, wp_mono q (fun ss c' _ k w' H' vs e ok m => ?_) fun _ _ _ _ k => k⟩
  obtain ⟨hl, k⟩ := k w' H' vs e ok m
  match vs, hl, k with
  | [v, u, t], _, k => exact ⟨v, u, t, rfl, k⟩
end
/-! ### defs -/
section
variable {P : Program} {w : World} {K : PySem.W.Frag} {mg : Str → Option Value} {base : Heap} {x qual : Str} {params : Arguments} {body : List Stmt} {scope : Scope} {f : Addr} {fd : FuncData}
theorem rel_start {N : List Str} {w0 : Wd} {c : Nat} {H : Hp} {vs : List V} {ds : List Mn.D} (ok : Ok w0 c H) (rs : Reps K w0 vs ds) (hk : ds.length ≤ N.length) :
    Rel K w0 H w0 c H (ds.map SV.val ++ List.replicate (N.length - ds.length) SV.un) (L2.start N vs) := by
  have hl := rs.length
  have own : ∀ i, isOwn ((ds.map SV.val ++ List.replicate (N.length - ds.length) SV.un).getD i .un) = true → False := fun i h => by
    rw [List.getD_eq_getElem?_getD, List.getElem?_append] at h
    split at h
    · rename_i hi
      rw [List.getElem?_map] at h
      cases e : ds[i]? with
      | none => rw [e] at h; cases h
      | some d => rw [e] at h; cases h
    · rw [List.getElem?_replicate] at h
      split at h <;> cases h
  refine ⟨ok, fun _ n => n, .refl _ _, by simp [L2.start, hl], fun i => ?_, fun i j a _ h => (own i h).elim⟩
  unfold L2.start
  rw [List.getD_eq_getElem?_getD, List.getD_eq_getElem?_getD, List.getElem?_append, List.getElem?_append]
  rw [List.length_map, List.length_map, hl]
  split
  · rename_i hi
    rw [List.getElem?_map, List.getElem?_map, List.getElem?_eq_getElem hi]
    obtain ⟨v, hv, rv⟩ := rs.get (List.getElem?_eq_getElem hi)
    rw [hv]
    exact ⟨v, rfl, rv⟩
  · rw [List.getElem?_replicate]
    split <;> exact True.intro
theorem mn_ok {N ps : List Str} {k : Nat} {fb : XS} (F : FunD K x qual params body scope [] [] f fd) (S : FnScope N ps scope) (hle : ps.length ≤ N.length)
    (hbody : ∀ (cdv : Value) (A : Around) (outer : List Env) (s : Shared) (H : Hp) (E : XK), Room k (A.deeper (envOfC qual scope s.heap.objs.size f cdv)) → DSs (cxOf (L2.CX P w) P w K mg base N qual scope f cdv A outer s H E) (fun cls d _ H' => E cls d H') body fb) :
    FnOk P w K mg base (L2.CX P w) (k + 1) f fd ps (spOf K mg ps.length (fnOf N.length ps.length fb)) := by
  refine F.ok S (fun vs H Q E ⟨w0, c, ds, ok, hl, rs, q⟩ => rs.length.trans hl) fun cdv A outer s H vs Q E hr ⟨w0, c, ds, ok, hl, rs, q⟩ => ?_
  refine ⟨_, (hbody cdv A outer s H E hr).ok w0 H, w0, c, _, rel_start (N := N) ok rs (by omega), ?_⟩
  unfold fnOf at q
  rw [if_pos hl, ← hl] at q
  refine wp_mono (wp_bind.1 q) (fun r c' _ k2 => ?_) fun x fs c' _ k2 => fun w' H' cls d σ' e ok' r => k2 w' H' cls d e ok' r
  obtain ⟨fl, τ'⟩ := r
  cases fl with
  | nx => exact fun w' H' σ' r' => k2 w' H' .non r'.ext r'.ok .non
  | rt d => exact k2
/-- a def that can be called by name -/
structure Fn0 (P : Program) (w : World) (K : PySem.W.Frag) (mg : Str → Option Value) (base : Heap) (k : Nat) (x : Str) (n : Nat) (fm : List Mn.D → M Mn.D) : Prop where
  ex : ∃ (a : Addr) (fd : FuncData) (ps : List Str), mg x = some (.ref a) ∧ PySem.W.keepIn K (.ref a) = true ∧ Binds K fd ps [] ∧ FnOk P w K mg base (L2.CX P w) k a fd ps (spOf K mg n fm)
theorem de_fn {X : Cx} {W : WX} {k n : Nat} {x : Str} {p pos : Pos} {e : Expr} {es : List Expr} {fm : List Mn.D → M Mn.D} {fa : XA} (F : Fn0 X.prog X.w X.K X.mg X.base k x n fm) (hr : Room k X.A) (tk : Takes X W) (ha : DAs X W (e :: es) fa)
    (hl : Len n fa := by repeat (first | exact len_nil | refine len_cons ?_)) (hg : Gl X x := by rfl) (hdb : (x == ("__debug__" : Str)) = false := by decide)
    (he : starEach (e :: es) X.env = (false, eval e X.env) :: starEach es X.env := by rfl) (hpl : (backTo pos (starEach es X.env)).any (·.1) = false := by rfl) : DE X W (.Call (.Name x p) (e :: es) [] pos) (xCall fm fa) := by
  obtain ⟨a, fd, ps, hm, kp, hb, G⟩ := F.ex
  exact de_call G hr tk hm kp hb ha hl hg hdb he hpl
theorem takes_WF {X : Cx} : Takes X WF := fun u s' ⟨_, _, _, _, _, _, _, _, _, _, _, _, _, _, _, _, w⟩ => w.elim
end
end Mn

set_option Elab.async false
set_option linter.all false
set_option autoImplicit false
set_option maxRecDepth 100000
set_option maxHeartbeats 2000000
/-! Mn12: more of the forms. -/
namespace Mn
open PySem PySem.Spec PyProof.Rows L2
section
variable {X : Cx} {W : WX} {w0 w : Wd} {c : Nat} {H0 H : Hp} {τ : Sl} {σ : L2.St} {Q : VK}
theorem op_mulA : OpR X (binaryOp .Mult) (fun x y H Q => rI CMul (fun i j => .int (i * j)) x y H Q ∨ rRepA X.K x y H Q) := op_mul.or op_repA
theorem ro_mulA : RO2 X W gMulA (fun x y H Q => rI CMul (fun i j => .int (i * j)) x y H Q ∨ rRepA X.K x y H Q) := by
  intro w c H σ x y dx dy Q ok hx hy h
  cases dx with
  | int i => exact .inl (ro_mul (X := X) (W := W) ok hx hy h)
  | _ => exact .inr (ro_rep (X := X) (W := W) ok hx hy h)
/-- a comprehension's list stays -/
theorem lcE_F {fs : XA} {g : Tg} {ft : XB} {fe : XE} {vs : List Nat} (h : tE X W w0 H0 (xLc fs vs g ft fe) σ H Q) : tF X W w0 H0 (xLc fs vs g ft fe) σ H Q := by
  obtain ⟨w, c, τ, rel, q⟩ := h
  refine ⟨w, c, τ, rel, wp_bind.2 (wp_mono (wp_bind.1 q) (fun ds c1 _ k => wp_bind.2 (wp_mono (wp_bind.1 k) (fun xs c2 _ k2 => ?_) fun _ _ _ _ k => k)) fun _ _ _ _ k => k)⟩
  have k2 : FinE X w H Q (.lst xs) c2 := k2
  intro w' H' v e ok ⟨a, ev, n, n1, n2, rv⟩
  subst ev
  rcases rv with ⟨vs, l, e2, e3, r3⟩ | ⟨kvs, l, e2, _⟩ | ⟨kvs, l, ne, e2, _⟩
  · cases e2
    obtain ⟨k1, _, k3⟩ := NewR.lstRep ok n1 n2 e3 r3
    exact k2 _ _ _ (e.lay n n1) k1 k3
  · cases e2
  · cases e2
section
variable {elt tg iter : Expr} {ifs : List Expr} {scope : Scope} {own : List (Str × Nat)} {pos spos py : Pos} {fs : XA} {g : Tg} {ft : XB} {fe : XE} {i : Nat} {y : Str}
theorem ds_setLc (own : List (Str × Nat)) (hc : X.calm = true) (hN : X.N.Nodup) (hi : DI X W tg iter fs) (ok : BlkOk X.N X.env.scope scope own)
    (hg : ∀ (s : Shared) (H : Hp) (C : Addr) (cl : List (Str × Addr)) (fp : List Addr), DG (X.blk s H scope (compEnvC scope cl C X.env) fp) tg g) (ht : ∀ (s : Shared) (H : Hp) (C : Addr) (cl : List (Str × Addr)) (fp : List Addr), DTs (X.blk s H scope (compEnvC scope cl C X.env) fp) WF ifs ft)
    (he : ∀ (s : Shared) (H : Hp) (C : Addr) (cl : List (Str × Addr)) (fp : List Addr), DE (X.blk s H scope (compEnvC scope cl C X.env) fp) WF elt fe)
    (hsw : swapsWith (.ListComp elt [⟨tg, iter, ifs, 0⟩] scope pos) (some (.Name y py)) spos.line X.env = pure true)
    (hy : X.N[i]? = some y := by rfl) (hyl : X.env.scope.names.lookup y = some .local := by rfl) (hv : ∀ i ∈ g.vars, i ∈ own.map (·.2) := by decide) (hs : ∀ x, foldedSetIterable iter X.env x = pure x := by intro _; rfl) :
    DS X W (.Assign [.Name y py] (.ListComp elt [⟨tg, iter, ifs, 0⟩] scope pos) spos) (sSet i (xLc fs (own.map (·.2)) g ft fe)) := by
  refine ⟨fun w0 H0 => (ps_setLc (g := g.tg X.K) (tt := tT X WF w0 H0 ft) (te := tE X WF w0 H0 fe) hc hN hy hyl hsw (hi.ok w0 H0) ok (fun s H C cl fp => (hg s H C cl fp).ok) (fun s H C cl fp => (ht s H C cl fp).ok w0 H0) (fun s H C cl fp => (he s H C cl fp).ok w0 H0) hs).weak fun D' σ H ⟨w, c, τ, rel, q⟩ => ?_⟩
  have q1 := wp_toPX (σ := σ) rel.ext (wp_bind.1 q)
  exact lc_of hv (lcE_F ⟨w, c, τ, rel, wp_mono q1 (fun d c' _ k w' H' v e ok rv => k w' H' _ ((rel.go e ok).set i rv)) fun _ _ _ _ k => k⟩)
end
/-! tuple(range(..)), list(range(..)) -/
theorem rg_reps {K : PySem.W.Frag} (a : Int) : ∀ n : Nat, Reps K w ((List.range n).map fun i => V.int (a + (i : Nat))) (upTo a n)
  | 0 => .nil
  | n + 1 => by
    rw [List.range_succ_eq_map, List.map_cons, List.map_map]
    have ih := rg_reps (K := K) (a + 1) n
    have e : ((fun i : Nat => V.int (a + (i : Int))) ∘ Nat.succ) = fun i : Nat => V.int (a + 1 + (i : Int)) := by
      funext i
      simp only [Function.comp]
      congr 1
      omega
    rw [e]
    have e0 : V.int (a + ((0 : Nat) : Int)) = V.int a := by simp
    rw [e0]
    exact .cons (.int a) ih
theorem rng1_cases {f : XE} {α : Type} {k : List Mn.D → M α} {Qr : α → Nat → Prop} {E : String → List Mn.D → Nat → Prop} {d : Mn.D} (h : wp (((asI d).bind fun n => if n ≤ 16777216 ∧ -16777216 ≤ n then M.ret (upTo 0 n.toNat) else .stk).bind k) c Qr E) : ∃ n, d = .int n ∧ n ≤ 16777216 ∧ -16777216 ≤ n ∧ wp (k (upTo 0 n.toNat)) c Qr E := by
  cases d with
  | int n =>
    by_cases hn : n ≤ 16777216 ∧ -16777216 ≤ n
    · have h : wp ((if n ≤ 16777216 ∧ -16777216 ≤ n then M.ret (upTo 0 n.toNat) else .stk).bind k) c Qr E := h
      rw [if_pos hn] at h
      exact ⟨n, rfl, hn.1, hn.2, h⟩
    · have h : wp ((if n ≤ 16777216 ∧ -16777216 ≤ n then M.ret (upTo 0 n.toNat) else .stk).bind k) c Qr E := h
      rw [if_neg hn] at h
      exact h.elim
  | _ => exact h.elim
theorem rng2_cases {α : Type} {k : List Mn.D → M α} {Qr : α → Nat → Prop} {E : String → List Mn.D → Nat → Prop} {x y : Mn.D} (h : wp (((asI x).bind fun i => (asI y).bind fun j => if -1000000 < i ∧ i < 1000000 ∧ j < 1000000 ∧ -1000000 < j then M.ret (upTo i (j - i).toNat) else .stk).bind k) c Qr E) :
    ∃ i j, x = .int i ∧ y = .int j ∧ -1000000 < i ∧ i < 1000000 ∧ j < 1000000 ∧ -1000000 < j ∧ wp (k (upTo i (j - i).toNat)) c Qr E := by
  cases x with
  | int i =>
    cases y with
    | int j =>
      have h : wp ((if -1000000 < i ∧ i < 1000000 ∧ j < 1000000 ∧ -1000000 < j then M.ret (upTo i (j - i).toNat) else .stk).bind k) c Qr E := h
      by_cases hn : -1000000 < i ∧ i < 1000000 ∧ j < 1000000 ∧ -1000000 < j
      · rw [if_pos hn] at h
        exact ⟨i, j, rfl, rfl, hn.1, hn.2.1, hn.2.2.1, hn.2.2.2, h⟩
      · rw [if_neg hn] at h
        exact h.elim
    | _ => exact h.elim
  | _ => exact h.elim
section
variable {e e2 : Expr} {f f2 : XE} {p p2 pos pos2 : Pos}
theorem rg1_of {mk : List Mn.D → Mn.D} {mkV : List V → HO} {R : VK → Wd → Hp → Mn.D → Nat → Prop} (h : ∃ w c τ, Rel X.K w0 H0 w c H τ σ ∧ wp ((wRng1 f τ).bind fun l => .ret (mk l)) c (R Q w H) (PX X W w H σ))
    (fin : ∀ w c c' w' H' vs l, Ok w c H → Ext w H w' H' → Ok w' c' H' → Reps X.K w' vs l → R Q w H (mk l) c' → ∀ q, H' q = none → Q (.ref q) (upd H' q (mkV vs))) :
    tRg1 (tE X W w0 H0 f) σ H fun a b H1 => RgOk a b ∧ ∀ q, H1 q = none → Q (.ref q) (upd H1 q (mkV (rgV a b))) := by
  obtain ⟨w, c, τ, rel, q⟩ := h
  unfold wRng1 at q
  rw [M.bind_assoc] at q
  refine ⟨w, c, τ, rel, wp_mono (wp_bind.1 q) (fun d c' _ k w' H' v e ok rv => ?_) fun _ _ _ _ k => k⟩
  obtain ⟨n, rfl, h1, h2, k⟩ := rng1_cases (f := f) k
  cases rv
  refine ⟨n, rfl, ⟨by omega, by omega, by omega, by omega, by omega⟩, fin w c c' w' H' _ _ rel.ok e ok ?_ k⟩
  unfold rgV
  rw [Int.sub_zero]
  exact rg_reps 0 n.toNat
theorem rg2_of {mk : List Mn.D → Mn.D} {mkV : List V → HO} {R : VK → Wd → Hp → Mn.D → Nat → Prop} (h : ∃ w c τ, Rel X.K w0 H0 w c H τ σ ∧ wp ((wRng2 f f2 τ).bind fun l => .ret (mk l)) c (R Q w H) (PX X W w H σ))
    (fin : ∀ w c c' w' H' vs l, Ok w c H → Ext w H w' H' → Ok w' c' H' → Reps X.K w' vs l → R Q w H (mk l) c' → ∀ q, H' q = none → Q (.ref q) (upd H' q (mkV vs))) :
    tRg2 (tE X W w0 H0 f) (tE X W w0 H0 f2) σ H fun a b H1 => RgOk a b ∧ ∀ q, H1 q = none → Q (.ref q) (upd H1 q (mkV (rgV a b))) := by
  obtain ⟨w, c, τ, rel, q⟩ := h
  unfold wRng2 at q
  rw [M.bind_assoc] at q
  refine ⟨w, c, τ, rel, wp_mono (wp_bind.1 q) (fun d c' _ k w' H' v e ok rv => ?_) fun _ _ _ _ k => k⟩
  rw [M.bind_assoc] at k
  refine ⟨w', c', τ, rel.go e ok, wp_mono (wp_bind.1 (wp_ext (W := W) (σ := σ) e k)) (fun d2 c2 _ k2 w2 H2 v2 e2 ok2 rv2 => ?_) fun _ _ _ _ k => k⟩
  obtain ⟨i, j, rfl, rfl, h1, h2, h3, h4, k2⟩ := rng2_cases k2
  cases rv
  cases rv2
  exact ⟨i, j, rfl, rfl, ⟨by omega, by omega, by omega, by omega, by omega⟩, fin w c c2 w2 H2 _ _ rel.ok (e.trans e2) ok2 (rg_reps i (j - i).toNat) k2⟩
theorem de_tupRg1 (hc : X.calm = true) (hg : Gl X "tuple") (hm : X.mg "tuple" = none) (hg2 : Gl X "range") (hm2 : X.mg "range" = none) (he : DE X W e f) (na : starEach [.Call (.Name "range" p) [e] [] pos] X.env = (false, eval (.Call (.Name "range" p) [e] [] pos) X.env) :: starEach [] X.env := by rfl) (nb : starEach [e] X.env = (false, eval e X.env) :: starEach [] X.env := by rfl) :
    DE X W (.Call (.Name "tuple" p2) [.Call (.Name "range" p) [e] [] pos] [] pos2) (xTupRg1 f) :=
  ⟨fun w0 H0 => (pe_tupRg hc hg hm (prg_1 hg2 hm2 (he.ok w0 H0) nb) na).weak fun σ H Q h => rg1_of (mk := Mn.D.tup) (mkV := HO.tup) (R := fun Q w H => FinE X w H Q) h fun w c c' w' H' vs l _ e ok rs k q n => FinE.tup (FinE.ext e k) ok rs n⟩
theorem fe_lstRg1 (hc : X.calm = true) (hg : Gl X "list") (hm : X.mg "list" = none) (hg2 : Gl X "range") (hm2 : X.mg "range" = none) (he : DE X W e f) (na : starEach [.Call (.Name "range" p) [e] [] pos] X.env = (false, eval (.Call (.Name "range" p) [e] [] pos) X.env) :: starEach [] X.env := by rfl) (nb : starEach [e] X.env = (false, eval e X.env) :: starEach [] X.env := by rfl) :
    FE X W (.Call (.Name "list" p2) [.Call (.Name "range" p) [e] [] pos] [] pos2) (xLstRg1 f) :=
  ⟨fun w0 H0 => (pe_listRg hc hg hm (prg_1 hg2 hm2 (he.ok w0 H0) nb) na).weak fun σ H Q h => rg1_of (mk := Mn.D.lst) (mkV := HO.lst) (R := fun Q w H => FinF X w H Q) h fun w c c' w' H' vs l ok0 e ok rs k q n => FinF.lst (FinF.ext e ok0 ok k) ok rs n⟩
theorem de_tupRg2 (hc : X.calm = true) (hg : Gl X "tuple") (hm : X.mg "tuple" = none) (hg2 : Gl X "range") (hm2 : X.mg "range" = none) (he : DE X W e f) (he2 : DE X W e2 f2) (na : starEach [.Call (.Name "range" p) [e, e2] [] pos] X.env = (false, eval (.Call (.Name "range" p) [e, e2] [] pos) X.env) :: starEach [] X.env := by rfl)
    (nb : starEach [e, e2] X.env = (false, eval e X.env) :: starEach [e2] X.env := by rfl) (nc : starEach [e2] X.env = (false, eval e2 X.env) :: starEach [] X.env := by rfl) (nd : (backTo pos (starEach [e2] X.env)).any (·.1) = false := by rfl) :
    DE X W (.Call (.Name "tuple" p2) [.Call (.Name "range" p) [e, e2] [] pos] [] pos2) (xTupRg2 f f2) :=
  ⟨fun w0 H0 => (pe_tupRg hc hg hm (prg_2 hg2 hm2 (he.ok w0 H0) (he2.ok w0 H0) nb nc nd) na).weak fun σ H Q h => rg2_of (mk := Mn.D.tup) (mkV := HO.tup) (R := fun Q w H => FinE X w H Q) h fun w c c' w' H' vs l _ e ok rs k q n => FinE.tup (FinE.ext e k) ok rs n⟩
theorem fe_lstRg2 (hc : X.calm = true) (hg : Gl X "list") (hm : X.mg "list" = none) (hg2 : Gl X "range") (hm2 : X.mg "range" = none) (he : DE X W e f) (he2 : DE X W e2 f2) (na : starEach [.Call (.Name "range" p) [e, e2] [] pos] X.env = (false, eval (.Call (.Name "range" p) [e, e2] [] pos) X.env) :: starEach [] X.env := by rfl)
    (nb : starEach [e, e2] X.env = (false, eval e X.env) :: starEach [e2] X.env := by rfl) (nc : starEach [e2] X.env = (false, eval e2 X.env) :: starEach [] X.env := by rfl) (nd : (backTo pos (starEach [e2] X.env)).any (·.1) = false := by rfl) :
    FE X W (.Call (.Name "list" p2) [.Call (.Name "range" p) [e, e2] [] pos] [] pos2) (xLstRg2 f f2) :=
  ⟨fun w0 H0 => (pe_listRg hc hg hm (prg_2 hg2 hm2 (he.ok w0 H0) (he2.ok w0 H0) nb nc nd) na).weak fun σ H Q h => rg2_of (mk := Mn.D.lst) (mkV := HO.lst) (R := fun Q w H => FinF X w H Q) h fun w c c' w' H' vs l ok0 e ok rs k q n => FinF.lst (FinF.ext e ok0 ok k) ok rs n⟩
end
theorem takes_fn {P : Program} {w : World} {K : PySem.W.Frag} {mg : Str → Option Value} {base : Heap} {N : List Str} {qual : Str} {scope : Scope} {f : Addr} {cdv : Value} {A : Around} {outer : List Env} {s : Shared} {H : Hp} {E : XK} : Takes (cxOf (L2.CX P w) P w K mg base N qual scope f cdv A outer s H E) (fun cls d _ H => E cls d H) := takes_of rfl rfl rfl rfl
theorem own_fn {P : Program} {w : World} {K : PySem.W.Frag} {mg : Str → Option Value} {base : Heap} {N : List Str} {qual : Str} {scope : Scope} {f : Addr} {cdv : Value} {A : Around} {outer : List Env} {s : Shared} {H : Hp} {E : XK} : PassesOwn (model (cxOf (L2.CX P w) P w K mg base N qual scope f cdv A outer s H E).prog (cxOf (L2.CX P w) P w K mg base N qual scope f cdv A outer s H E).w) (cxOf (L2.CX P w) P w K mg base N qual scope f cdv A outer s H E).A (cxOf (L2.CX P w) P w K mg base N qual scope f cdv A outer s H E).env (cxOf (L2.CX P w) P w K mg base N qual scope f cdv A outer s H E).xe := passes_of rfl
theorem u64 {k : Nat} {A : Around} (r : Room k A) : A.units + 64 < cLine := r.units
theorem u65 {k : Nat} {A : Around} (r : Room k A) : A.units + 65 < cLine := by have := r.un; omega
end
end Mn

set_option Elab.async false
set_option linter.all false
set_option autoImplicit false
set_option maxRecDepth 100000
set_option maxHeartbeats 2000000
/-! Mn13: the draws' object. -/
namespace Mn
open PySem PySem.Spec PyProof.Rows L2
def fDraw : List Mn.D → M Mn.D := fun ds => match ds with
  | [.st, .int n] => .draw n fun r => .ret (.int r)
  | _ => .stk
/-- a mixer of two ints -/
def MixOk (m : List Mn.D → M Mn.D) : Prop := ∀ a b : Int, -2000000000000000 < b → b < 2000000000000000 → ∃ z, m [.int a, .int b] = .ret (.int z) ∧ 0 ≤ z ∧ z < 2147483629
abbrev rIntR : List V → Hp → VK → Prop := fun xs H Q => (∃ i, xs = [.int i] ∧ Q (.int i) H) ∨ ∃ k, xs = [.bl k] ∧ Q (.int (if k then 1 else 0)) H
abbrev rPl : R2 := rI0 fun i j => .int (i + j)
abbrev rMd : R2 := rI (fun _ j => 0 < j) fun i j => .int (i % j)
abbrev tLd (s : Str) : TE := tDGet (tVar 0) (tC (.str s))
def tD (K : PySem.W.Frag) (rl : List V → Hp → VK → Prop) (spM : Sp) (EW : L2.St → XK) (t7 : TE) : TS :=
  tSeq (tAsg (tLd "at") (gName 2)) (tSeq (sDPut (tVar 0) (tC (.str "at")) (tOp rPl (tVar 2) (tC (.int 1)))) (tSeq (tAsg (tOp rMd (tCB rIntR (tCons (tVar 2) tNil)) (tCB rl (tCons (tLd "cells") tNil))) (gName 3))
    (tSeq (tAsg (tOp (rIx K) (tLd "lefts") (tVar 3)) (gName 4)) (tSeq (tIfS (tTest (tOp (rI0 fun i j => .bl (decide (j < i))) (tVar 4) (tC (.int 0))))
      (tSeq (tAsg (tOp (rI CDiv fun i j => .int (i / j)) (tVar 4) (tVar 1)) (L2.gSub (tLd "lefts") (tVar 3) rSetL)) (tRet (tOp rMd (tCB rIntR (tCons (tVar 4) tNil)) (tVar 1)))) tNext)
      (tSeq (tAsg (tCallS spM EW (tCons (tCallS spM EW (tCons (tOp (rIx K) (tLd "cells") (tVar 3)) (tCons (tVar 2) tNil))) (tCons (tOp rPl (tC (.int 40)) (tVar 2)) tNil))) (gName 5)) (tRet t7))))))
def f7 (m : List Mn.D → M Mn.D) : XE := x2 gMod (x2 gFdiv (xCall fInt (aCons (x2 gAdd (x2 gMulA (xV 5) (xC (.int 2147483647))) (xCall m (aCons (xV 5) (aCons (x2 gAdd (xC (.int 7)) (xV 2)) aNil)))) aNil)) (xC (.int 64))) (xV 1)
section
variable {X : Cx} {W : WX} {w0 w : Wd} {c : Nat} {H0 H : Hp} {Q : VK}
/-- the draws' dict counts on, and a value of lefts may change -/
theorem Ok.drawn {g : DA} (ok : Ok w (c + 1) H) (eg : w.g = some g) : ∃ (ns ls : List Int) (k : Int), H g.d = some (.dK [(Sum.inr "cells", .ref g.c), (Sum.inr "lefts", .ref g.l), (Sum.inr "at", .int k), (Sum.inr "room", .int 0)]) ∧
    H g.l = some (.lst (ls.map V.int)) ∧ H g.c = some (.lst (ns.map V.int)) ∧ ns ≠ [] ∧ ls.length = ns.length ∧ 0 ≤ k ∧ k < cap ∧ ∀ (ls' : List Int), ls'.length = ls.length →
    Ext w H w (upd (upd H g.d (.dK [(Sum.inr "cells", .ref g.c), (Sum.inr "lefts", .ref g.l), (Sum.inr "at", .int (k + 1)), (Sum.inr "room", .int 0)])) g.l (.lst (ls'.map V.int))) ∧
    Ok w c (upd (upd H g.d (.dK [(Sum.inr "cells", .ref g.c), (Sum.inr "lefts", .ref g.l), (Sum.inr "at", .int (k + 1)), (Sum.inr "room", .int 0)])) g.l (.lst (ls'.map V.int))) := by
  obtain ⟨n1, n2, ns, ls, k, h1, h2, h3, h4, h5, h6, h7, h8⟩ := ok.dr.2 g eg
  have hdl : g.d ≠ g.l := fun e => by rw [← e, h1] at h2; cases h2
  refine ⟨ns, ls, k, h1, h2, ok.sub _ _ h3, h4, h6, h7, by omega, fun ls' hl => ⟨⟨Le.refl w, fun a o e e1 e2 => ?_⟩, ⟨fun b u e => ?_, by have := ok.dr.1; omega, fun g' eg' => ?_⟩⟩⟩
  · have a1 : a ≠ g.d := fun z => e2 ⟨g, eg, .inl z⟩
    have a2 : a ≠ g.l := fun z => e2 ⟨g, eg, .inr z⟩
    rw [upd_ne a2, upd_ne a1]
    exact ⟨e, e1, e2⟩
  · have a1 : b ≠ g.d := fun z => by rw [z, n1] at e; cases e
    have a2 : b ≠ g.l := fun z => by rw [z, n2] at e; cases e
    rw [upd_ne a2, upd_ne a1]
    exact ok.sub b u e
  · rw [eg] at eg'
    cases eg'
    refine ⟨n1, n2, ns, ls', k + 1, by rw [upd_ne hdl, upd_same], upd_same, h3, h4, h5, hl.trans h6, by omega, by omega⟩
theorem va_at (a b x y : V) : valV [((Sum.inr "cells" : Key), a), (Sum.inr "lefts", b), (Sum.inr "at", x), (Sum.inr "room", y)] (Sum.inr "at") = some x := by
  have n1 : ¬ (Sum.inr (Str.ofString "cells") : Key) = Sum.inr (Str.ofString "at") := by decide
  have n2 : ¬ (Sum.inr (Str.ofString "lefts") : Key) = Sum.inr (Str.ofString "at") := by decide
  rw [valV_neg n1, valV_neg n2, valV_pos rfl]
theorem va_lefts (a b x y : V) : valV [((Sum.inr "cells" : Key), a), (Sum.inr "lefts", b), (Sum.inr "at", x), (Sum.inr "room", y)] (Sum.inr "lefts") = some b := by
  have n1 : ¬ (Sum.inr (Str.ofString "cells") : Key) = Sum.inr (Str.ofString "lefts") := by decide
  rw [valV_neg n1, valV_pos rfl]
theorem draw_pure {m : List Mn.D → M Mn.D} (hm : MixOk m) {vs : List V} {ds : List Mn.D} (ok : Ok w c H) (rs : Reps X.K w vs ds) {EX : String → List Mn.D → Nat → Prop}
    (q : wp (fDraw ds) c (fun d c' => ∀ w' H' v, Ext w H w' H' → Ok w' c' H' → Rep X.K w' v d → Q v H') EX) {qn : L2.St → Hp → Prop} {EW : L2.St → XK} (hl : ds.length = 2) :
    tD X.K (rLen X) (spOf X.K X.mg 2 m) EW (fun σ1 H1 Q1 => ∃ w1 H1', tE X W w1 H1' (f7 m) σ1 H1 Q1) { nx := qn, rt := Q } (vs.map some ++ List.replicate (6 - vs.length) none) H := by
  match ds, rs, q, hl with
  | [d1, d2], .cons r1 (.cons r2 .nil), q, _ =>
    cases d1 with
    | st =>
      cases d2 with
      | int n =>
        cases r2
        cases r1 with
        | st eg =>
          rename_i g
          obtain ⟨⟨hn, hn9, hc⟩, q⟩ := q
          obtain ⟨c, rfl⟩ : ∃ c', c = c' + 1 := ⟨c - 1, by omega⟩
          obtain ⟨ns, ls, k, e1, e2, e3, hne, hll, hk0, hk1, nxt⟩ := ok.drawn eg
          have hcap : cap = 1000000000000000 := rfl
          have hdl : g.d ≠ g.l := fun e => by rw [← e, e1] at e2; cases e2
          have hcd : g.c ≠ g.d := fun e => by rw [e, e1] at e3; cases e3
          have hlen : 0 < ns.length := List.length_pos_iff.mpr hne
          have hq : ∀ ls' : List Int, ls'.length = ls.length → ∀ r : Int, 0 ≤ r → r < n → Q (.int r) (upd (upd H g.d (.dK [(Sum.inr "cells", .ref g.c), (Sum.inr "lefts", .ref g.l), (Sum.inr "at", .int (k + 1)), (Sum.inr "room", .int 0)])) g.l (.lst (ls'.map V.int))) :=
            fun ls' hl r h0 h1 => q r h0 h1 w _ _ (nxt ls' hl).1 (nxt ls' hl).2 (.int r)
          generalize hS1 : (HO.dK [(Sum.inr "cells", V.ref g.c), (Sum.inr "lefts", V.ref g.l), (Sum.inr "at", V.int (k + 1)), (Sum.inr "room", V.int 0)]) = S1 at hq nxt
          have hp0 : 0 ≤ k % (ns.length : Int) := Int.emod_nonneg _ (by omega)
          have hp1 : k % (ns.length : Int) < (ns.length : Int) := Int.emod_lt_of_pos _ (by omega)
          have hgs : (upd H g.d S1) g.d = some (.dK [(Sum.inr "cells", .ref g.c), (Sum.inr "lefts", .ref g.l), (Sum.inr "at", .int (k + 1)), (Sum.inr "room", .int 0)]) := by rw [← hS1, upd_same]
          have hgl : (upd H g.d S1) g.l = some (.lst (ls.map V.int)) := by rw [upd_ne (Ne.symm hdl)]; exact e2
          have hgc : (upd H g.d S1) g.c = some (.lst (ns.map V.int)) := by rw [upd_ne hcd]; exact e3
          obtain ⟨p, hp⟩ : ∃ p : Nat, k % (ns.length : Int) = p := ⟨(k % (ns.length : Int)).toNat, by omega⟩
          have hpn : p < ns.length := by omega
          have hpl : p < ls.length := by omega
          have ixat : ∀ (zs : List Int) (h : p < zs.length), atI (zs.map V.int) (k % (ns.length : Int)) = some (V.int zs[p]) := fun zs h => by
            unfold atI ixN
            rw [hp, List.length_map, if_pos (by omega), if_pos (by omega)]
            simp [h]
          have nx0 : Ext w H w (upd H g.d S1) ∧ Ok w c (upd H g.d S1) := by
            have z := nxt ls rfl
            have e : upd (upd H g.d S1) g.l (.lst (ls.map V.int)) = upd H g.d S1 := by
              funext a
              by_cases ha : a = g.l
              · rw [ha, upd_same, hgl]
              · rw [upd_ne ha]
            rw [e] at z
            exact z
          have dg : ∀ {H1 : Hp} {kvs : List (Key × V)} {s : Str} {v : V}, H1 g.d = some (.dK kvs) → valV kvs (Sum.inr s) = some v → DGet H1 g.d (.str s) (some v) := fun {H1 kvs s v} e h => h ▸ DGet.k (k := Sum.inr s) e
          have hput : DPut H g.d (.str "at") (.int (k + 1)) (upd H g.d S1) := by
            have z := DPut.k (k := Sum.inr "at") (v := V.int (k + 1)) e1 (by show 4 < sizeLine; decide)
            have e : putK [((Sum.inr "cells" : Key), V.ref g.c), (Sum.inr "lefts", .ref g.l), (Sum.inr "at", .int k), (Sum.inr "room", .int 0)] (Sum.inr "at") (V.int (k + 1)) = [((Sum.inr "cells" : Key), V.ref g.c), (Sum.inr "lefts", .ref g.l), (Sum.inr "at", .int (k + 1)), (Sum.inr "room", .int 0)] := by
              unfold putK
              rw [if_pos (by simp)]
              simp only [List.map_cons, List.map_nil]
              rw [if_neg (by decide), if_neg (by decide), if_pos True.intro, if_neg (by decide)]
            rw [e, hS1] at z
            exact z
          refine ⟨_, rfl, g.d, .int k, rfl, dg e1 (by exact va_at _ _ _ _), ?_⟩
          refine ⟨_, rfl, k, 1, rfl, rfl, _, rfl, g.d, upd H g.d S1, rfl, hput, ?_⟩
          refine ⟨_, rfl, .inl ⟨k, rfl, _, rfl, g.d, .ref g.c, rfl, dg hgs (by rw [valV_pos rfl]), .inl ⟨g.c, _, rfl, .inl (seqL_lst hgc), k, ns.length, rfl, by rw [List.length_map], by omega, ?_⟩⟩⟩
          refine ⟨_, rfl, g.d, .ref g.l, rfl, dg hgs (by exact va_lefts _ _ _ _), _, rfl, .inl ⟨g.l, _, _, _, rfl, rfl, seqL_lst hgl, ixat ls hpl, ?_⟩⟩
          refine ⟨_, rfl, ls[p], 0, rfl, rfl, decide (0 < ls[p]), rfl, ?_⟩
          by_cases hleft : 0 < ls[p]
          · show (if decide (0 < ls[p]) = true then _ else _)
            rw [decide_eq_true hleft, if_pos rfl]
            refine ⟨_, rfl, _, rfl, ls[p], n, rfl, rfl, ⟨hn, by omega⟩, _, rfl, g.d, .ref g.l, rfl, dg hgs (by exact va_lefts _ _ _ _), _, rfl, g.l, ls.map V.int, k % (ns.length : Int), p, rfl, rfl, hgl, ?_, ?_⟩
            · unfold ixN
              rw [hp, List.length_map, if_pos (by omega), if_pos (by omega)]
              simp
            · refine ⟨_, rfl, .inl ⟨ls[p], rfl, _, rfl, ls[p], n, rfl, rfl, hn, ?_⟩⟩
              have e : (ls.map V.int).set p (.int (ls[p] / n)) = (ls.set p (ls[p] / n)).map V.int := by rw [List.map_set]
              show Q _ (upd _ g.l (.lst ((ls.map V.int).set p (.int (ls[p] / n)))))
              rw [e]
              exact hq (ls.set p (ls[p] / n)) (by rw [List.length_set]) _ (Int.emod_nonneg _ (by omega)) (Int.emod_lt_of_pos _ hn)
          · show (if decide (0 < ls[p]) = true then _ else _)
            rw [decide_eq_false hleft, if_neg Bool.false_ne_true]
            obtain ⟨z1, m1, _, _⟩ := hm ns[p] k (by omega) (by omega)
            refine ⟨_, rfl, g.d, .ref g.c, rfl, dg hgs (by rw [valV_pos rfl]), _, rfl, .inl ⟨g.c, _, _, _, rfl, rfl, seqL_lst hgc, ixat ns hpn, _, rfl, ?_⟩⟩
            refine ⟨w, c, [.int ns[p], .int k], nx0.2, rfl, .cons (.int _) (.cons (.int _) .nil), ?_⟩
            rw [m1]
            intro w2 H2 v2 x2 ok2 r2
            cases r2
            obtain ⟨z2, m2, p20, p21⟩ := hm z1 (40 + k) (by omega) (by omega)
            refine ⟨_, rfl, 40, k, rfl, rfl, ?_⟩
            refine ⟨w2, c, [.int z1, .int (40 + k)], ok2, rfl, .cons (.int _) (.cons (.int _) .nil), ?_⟩
            rw [m2]
            intro w3 H3 v3 x3 ok3 r3
            cases r3
            obtain ⟨z3, m3, p30, p31⟩ := hm z2 (7 + k) (by omega) (by omega)
            refine ⟨w3, H3, w3, c, _, rel_start (N := List.replicate 6 "") (vs := [.ref g.d, .int n, .int k, .int (k % (ns.length : Int)), .int ls[p], .int z2]) (ds := [.st, .int n, .int k, .int (k % (ns.length : Int)), .int ls[p], .int z2]) ok3
              (.cons (.st ((nx0.1.le.trans (x2.le.trans x3.le)).g g eg)) (.cons (.int _) (.cons (.int _) (.cons (.int _) (.cons (.int _) (.cons (.int _) .nil)))))) (Nat.le_refl _), ?_⟩
            have hv : f7 m ([Mn.D.st, .int n, .int k, .int (k % (ns.length : Int)), .int ls[p], .int z2].map SV.val ++ List.replicate ((List.replicate 6 (Str.ofString "")).length - [Mn.D.st, .int n, .int k, .int (k % (ns.length : Int)), .int ls[p], .int z2].length) SV.un) = .ret (.int ((z2 * 2147483647 + z3) / 64 % n)) := by
              have hsm : small 2147483647 = true := by decide
              simp [f7, Mn.x2, xCall, xV, xC, aCons, aNil, gMulA, gMul, gAdd, fInt, gFdiv, gMod, hsm, m3, hn]
            rw [hv]
            exact fun w4 H4 v4 x4 ok4 r4 => q ((z2 * 2147483647 + z3) / 64 % n) (Int.emod_nonneg _ (by omega)) (Int.emod_lt_of_pos _ hn) w4 H4 v4 (nx0.1.trans (x2.trans (x3.trans x4))) ok4 r4
      | _ => exact q.elim
    | _ => exact q.elim
/-! ### the begin -/
def spBegin (K : PySem.W.Frag) : Sp := fun vs H Q _ => ∃ (a : Addr) (ns : List Int) (w : Wd), vs = [.ref a] ∧ SqL K H a (ns.map V.int) ∧ ns.length ≤ 63 ∧ Ok w cap H ∧ w.g = none ∧
  ∀ w' H' v, Ext w H w' H' → Ok w' cap H' → Rep K w' v .st → Q v H'
def tBg (K : PySem.W.Frag) (tl : TE) : TS := tSeq (tAsg (tIf (tTest (tOp (rNeD K) (tVar 0) (tLst tNil))) (tCB (fun xs H Q => ∃ p ys, xs = [.ref p] ∧ (SqL K H p ys ∨ SqT K H p ys) ∧ ∀ l, H l = none → Q (.ref l) (upd H l (.lst ys))) (tCons (tVar 0) tNil)) (tLst (tCons (tC (.int 0)) tNil))) (gName 1))
  (tRet (tDisp [(tC (.str "cells"), tVar 1), (tC (.str "lefts"), tl), (tC (.str "at"), tC (.int 0)), (tC (.str "room"), tC (.int 0))]))
def fLeft (i : Nat) : XE := xLc (wS (xV 1)) [i] (.n i) bYes (xIf (bV (x2 gGe (xV i) (x2 gPow (xC (.int 10)) (xC (.int 18))))) (xV i) (xC (.int 0)))
theorem lefts_val (ns : List Int) : ∀ σ : Sl, 2 < σ.length → lcGo (.n 2) bYes (xIf (bV (x2 gGe (xV 2) (x2 gPow (xC (.int 10)) (xC (.int 18))))) (xV 2) (xC (.int 0))) σ (ns.map Mn.D.int) = .ret ((ns.map fun n => if 10 ^ 18 ≤ n then n else 0).map Mn.D.int) := by
  intro σ hσ
  induction ns with
  | nil => rfl
  | cons n ns ih =>
    have hg : (σ.set 2 (SV.val (.int n))).getD 2 .un = .val (.int n) := by rw [getD_set, if_pos ⟨rfl, hσ⟩]
    have hsm : small 10 = true := by decide
    simp only [List.map_cons, lcGo, Tg.go, ofO_some, M.ret_bind, bYes]
    rw [if_pos True.intro, ih]
    simp only [xIf, bV, Mn.x2, xV, xC, hg, M.ret_bind, gPow, hsm, gGe, gCmp, asB]
    have e18 : (10 : Int) ^ 18 = 1000000000000000000 := by decide
    rw [e18]
    by_cases h : (1000000000000000000 : Int) ≤ n
    · simp [h, asB]
    · simp [h, asB]
theorem toPs_ints (ns : List Int) : toPs (ns.map Mn.D.int) = ns.map PyData.int := by
  induction ns with
  | nil => simp [toPs]
  | cons n ns ih => simp [toPs, toP, ih]
theorem begin_pure {vs : List V} {E : XK} (h : spBegin X.K vs H Q E) {qn : L2.St → Hp → Prop} :
    tBg X.K (fun σ1 H1 Q1 => ∃ w1 H1', tF X WF w1 H1' (fLeft 2) σ1 H1 Q1) { nx := qn, rt := Q } (vs.map some ++ List.replicate (3 - vs.length) none) H := by
  obtain ⟨a, ns, w, rfl, hs, h63, ok, hg, q⟩ := h
  -- the rest, from the list of the cells
  have rest : ∀ (H1 : Hp), Ok w cap H1 → Ext w H w H1 → ∀ (l : Addr) (ms : List Int), H1 l = none → ms ≠ [] → ms.length ≤ 63 → tRet (tDisp [(tC (.str "cells"), tVar 1), (tC (.str "lefts"), fun σ1 H1 Q1 => ∃ w1 H1', tF X WF w1 H1' (fLeft 2) σ1 H1 Q1), (tC (.str "at"), tC (.int 0)), (tC (.str "room"), tC (.int 0))]) { nx := qn, rt := Q } [some (.ref a), some (.ref l), none] (upd H1 l (.lst (ms.map V.int))) := by
    intro H1 okH xH l ms hl hne hm p hp
    obtain ⟨ok1, e1⟩ := okH.laid hl (.lst (ms.map V.int))
    obtain ⟨ok2, e2⟩ := ok1.made hp (.dK [])
    have np := ok1.fresh hp
    refine ⟨_, rfl, ?_⟩
    have rl : Rep X.K (w.lay l (.lst (ms.map V.int))) (.ref l) (.lst (ms.map Mn.D.int)) := .lst (by show upd w.hs l _ l = _; rw [upd_same]) (reps_ints ms)
    refine ⟨w.lay l (.lst (ms.map V.int)), upd (upd H1 l (.lst (ms.map V.int))) p (.dK []), w.lay l (.lst (ms.map V.int)), cap, [.un, .val (.lst (ms.map Mn.D.int)), .un], ?_, ?_⟩
    · refine ⟨ok2, fun _ n => n, .refl _ _, rfl, fun i => ?_, fun i j b _ h => ?_⟩
      · match i with
        | 0 => exact True.intro
        | 1 => exact ⟨_, rfl, rl⟩
        | 2 => exact True.intro
        | i + 3 => exact True.intro
      · exfalso
        match i, h with
        | 0, h => cases h
        | 1, h => cases h
        | 2, h => cases h
        | i + 3, h => cases h
    · have hv : fLeft 2 [.un, .val (.lst (ms.map Mn.D.int)), .un] = .ret (.lst ((ms.map fun n => if 10 ^ 18 ≤ n then n else 0).map Mn.D.int)) := by
        unfold fLeft xLc
        have e0 : wS (xV 1) [.un, .val (.lst (ms.map Mn.D.int)), .un] = .ret (ms.map Mn.D.int) := rfl
        rw [e0, M.ret_bind, lefts_val ms (Mn.wipe [.un, .val (.lst (ms.map Mn.D.int)), .un] [2]) (show 2 < 3 from Nat.lt_succ_self 2)]
        rfl
      rw [hv]
      intro w3 H3 v x3 ok3 nr
      obtain ⟨b, rfl, nb, nb1, nb2, hh⟩ := nr
      obtain ⟨kp, kp1, kp2⟩ := x3.keep p _ upd_same np.1 np.2
      have hb : ∃ us, H3 b = some (.lst us) ∧ us = (ms.map fun n => if 10 ^ 18 ≤ n then n else 0).map V.int := by
        rcases hh with ⟨us, l', e, hb, ru⟩ | ⟨_, _, e, _⟩ | ⟨_, _, _, e, _⟩
        · cases e
          refine ⟨us, hb, ?_⟩
          have : ∀ (zs : List Int) (us : List V), Reps X.K w3 us (zs.map Mn.D.int) → us = zs.map V.int := by
            intro zs
            induction zs with
            | nil => intro us r; cases r; rfl
            | cons z zs ih => intro us r; cases r with
              | cons r1 r2 => cases r1; rw [ih _ r2]; rfl
          exact this _ _ ru
        · cases e
        · cases e
      obtain ⟨us, hb, rfl⟩ := hb
      refine ⟨kp, [(Sum.inr "cells", .ref l), (Sum.inr "lefts", .ref b), (Sum.inr "at", .int 0), (Sum.inr "room", .int 0)], rfl, (show 4 ≤ 15 by decide), ?_⟩
      have em : mergeK [] [((Sum.inr "cells" : Key), V.ref l), (Sum.inr "lefts", .ref b), (Sum.inr "at", .int 0), (Sum.inr "room", .int 0)] = [((Sum.inr "cells" : Key), V.ref l), (Sum.inr "lefts", .ref b), (Sum.inr "at", .int 0), (Sum.inr "room", .int 0)] := by
        have n1 : ¬ (Sum.inr (Str.ofString "cells") : Key) = Sum.inr (Str.ofString "lefts") := by decide
        have n2 : ¬ (Sum.inr (Str.ofString "cells") : Key) = Sum.inr (Str.ofString "at") := by decide
        have n3 : ¬ (Sum.inr (Str.ofString "cells") : Key) = Sum.inr (Str.ofString "room") := by decide
        have n4 : ¬ (Sum.inr (Str.ofString "lefts") : Key) = Sum.inr (Str.ofString "at") := by decide
        have n5 : ¬ (Sum.inr (Str.ofString "lefts") : Key) = Sum.inr (Str.ofString "room") := by decide
        have n6 : ¬ (Sum.inr (Str.ofString "at") : Key) = Sum.inr (Str.ofString "room") := by decide
        simp only [mergeK, List.foldl, putK, List.any_nil, List.any_cons, decide_eq_false n1, decide_eq_false n2, decide_eq_false n3, decide_eq_false n4, decide_eq_false n5, decide_eq_false n6, Bool.or_false, Bool.false_eq_true, if_false, List.nil_append, List.cons_append]
      show Q (.ref p) (upd H3 p (.dK (mergeK [] _)))
      rw [em]
      have hcl : (w.lay l (.lst (ms.map V.int))).hs l = some (.lst (ms.map V.int)) := by show upd w.hs l _ l = _; rw [upd_same]
      have hcl3 := x3.le.hs _ _ hcl
      have hpb : p ≠ b := fun z => by rw [z, hb] at kp; cases kp
      have hH3l := ok3.sub _ _ hcl3
      have lp : l ≠ p := fun z => by rw [← z, hH3l] at kp; cases kp
      have g3 : w3.g = w3.g := rfl
      refine q ⟨some ⟨p, l, b⟩, w3.hs⟩ _ _ ?_ ?_ (.st (g := ⟨p, l, b⟩) rfl)
      · refine ⟨⟨(fun g e => by rw [hg] at e; cases e), (fun c o e => ?_)⟩, (fun c o e e1' e2' => ?_)⟩
        · exact x3.le.hs _ _ (e1.le.hs _ _ e)
        · obtain ⟨e, e1', e2'⟩ := xH.keep c o e e1' e2'
          have cl : c ≠ l := fun z => by rw [z, hl] at e; cases e
          have cp : c ≠ p := fun z => by rw [← z, upd_ne cl, e] at hp; cases hp
          obtain ⟨k1, k2, k3⟩ := e1.keep c o e e1' e2'
          obtain ⟨k4, k5, k6⟩ := e2.keep c o k1 k2 k3
          obtain ⟨k7, k8, k9⟩ := x3.keep c o k4 k5 k6
          have cb : c ≠ b := fun z => by rw [z, nb] at k4; cases k4
          refine ⟨by rw [upd_ne cp]; exact k7, k8, fun ⟨g, eg, z⟩ => ?_⟩
          cases eg
          rcases z with z | z
          · exact cp z
          · exact cb z
      · refine ⟨fun c o e => ?_, Nat.le_refl _, fun g eg => ?_⟩
        · have cp : c ≠ p := fun z => by rw [z, kp1] at e; cases e
          rw [upd_ne cp]
          exact ok3.sub _ _ e
        · cases eg
          exact ⟨kp1, nb1, ms, (ms.map fun n => if 10 ^ 18 ≤ n then n else 0), 0, upd_same, by rw [upd_ne hpb.symm]; exact hb, hcl3, hne, hm, by simp, by decide, by decide⟩
  -- the test, the cells
  refine ⟨_, rfl, (by decide : ([] : List V).length ≤ sizeLine), fun t0 ht0 => ?_⟩
  obtain ⟨okH, xH⟩ := ok.made ht0 (.lst [])
  have hts : SqL X.K (upd H t0 (.lst [])) a (ns.map V.int) := by
    rcases hs with (h | ⟨o, h⟩) | h
    · have ne : a ≠ t0 := fun z => by rw [z, ht0] at h; cases h
      exact .inl (.inl (by rw [upd_ne ne]; exact h))
    · have ne : a ≠ t0 := fun z => by rw [z, ht0] at h; cases h
      exact .inl (.inr ⟨o, by rw [upd_ne ne]; exact h⟩)
    · exact .inr h
  have hfl : ∀ zs : List Int, flats 49 (zs.map Mn.D.int) = true := by
    intro zs
    induction zs with
    | nil => rfl
    | cons z zs ih => simp only [List.map_cons, flats, flat, ih]; rfl
  refine ⟨toP (.lst (ns.map Mn.D.int)), toP (.lst []), ?_, ?_, shaped_of (n := 50) (by simp only [flat]; exact hfl ns) (by decide), shaped_of (n := 50) (by simp [flat, flats]) (by decide), !ns.isEmpty, ?_, ?_⟩
  · simp only [toP]
    exact .lst hts (by rw [toPs_ints]; exact dpAll_ints ns)
  · simp only [toP, toPs]
    exact .lst (.inl (.inl upd_same)) .nil
  · cases ns <;> simp [toP, toPs, PyData.eqv, PyData.eqvAll]
  · cases ns with
    | nil =>
      show (if (!true) = true then _ else _)
      rw [if_neg (by decide)]
      exact ⟨by decide, fun l hl => rest _ okH xH l [0] hl (by simp) (by decide)⟩
    | cons n ns =>
      show (if (!false) = true then _ else _)
      rw [if_pos (by decide)]
      exact ⟨_, rfl, a, _, rfl, .inl hts, fun l hl => rest _ okH xH l (n :: ns) hl (by simp) h63⟩
theorem DE.ex {e : Expr} {f : XE} (h : DE X W e f) : PE X e (fun σ1 H1 Q1 => ∃ w1 H1', tE X W w1 H1' f σ1 H1 Q1) := ⟨fun pins s σ H Q I ⟨w1, H1', q⟩ => (h.ok w1 H1').run pins s σ H Q I q⟩
theorem FE.ex {e : Expr} {f : XE} (h : FE X W e f) : PE X e (fun σ1 H1 Q1 => ∃ w1 H1', tF X W w1 H1' f σ1 H1 Q1) := ⟨fun pins s σ H Q I ⟨w1, H1', q⟩ => (h.ok w1 H1').run pins s σ H Q I q⟩
theorem DSs.ex {e : List Stmt} {f : XS} (h : DSs X W e f) : PSs X e (fun D' σ1 H1 => ∃ w1 H1', tS X W w1 H1' f D' σ1 H1) := ⟨fun pins s σ H Q I ⟨w1, H1', q⟩ => (h.ok w1 H1').run pins s σ H Q I q⟩
/-! ### the law -/
def spLaw (K : PySem.W.Frag) : Sp := fun vs H Q _ => ∃ (a : Addr) (ns : List Int), vs = [.ref a] ∧ SqL K H a (ns.map V.int) ∧ ns.length ≤ 63 ∧ ∀ H', Q (.bl true) H'
theorem law_pure {N : List Str} {fb : XS} {vs : List V} {E : XK} {EW : L2.St → XK} {qn : L2.St → Hp → Prop} (hN : 1 < N.length)
    (hlaw : ∀ ns : List Int, ns.length ≤ 63 → wp (fb (([Mn.D.scr ns].map SV.val ++ List.replicate (N.length - 1) SV.un).set 1 (.val .st))) cap (fun r _ => r.1 = Fl.rt (.bl true)) (fun _ _ _ => False))
    (h : spLaw X.K vs H Q E) : tSeq (tAsg (tCallS (spBegin X.K) EW (tCons (tVar 0) tNil)) (gName 1)) (fun D' σ1 H1 => ∃ w1 H1', tS X W w1 H1' fb D' σ1 H1) { nx := qn, rt := Q } (L2.start N vs) H := by
  obtain ⟨a, ns, rfl, hs, h63, q⟩ := h
  refine ⟨.ref a, rfl, a, ns, ⟨none, H⟩, rfl, hs, h63, ⟨Same.refl _, Nat.le_refl _, fun g e => by cases e⟩, rfl, fun w' H' v x ok rv => ?_⟩
  have hs' : SqL X.K w'.hs a (ns.map V.int) := x.le.hs.seq hs
  have r0 := rel_start (K := X.K) (N := N) (vs := [.ref a]) (ds := [.scr ns]) ok (.cons (.scr hs') .nil) (by show 1 ≤ N.length; omega)
  refine ⟨w', H', w', cap, _, r0.set 1 rv, wp_mono (hlaw ns h63) (fun r c' _ k => ?_) fun _ _ _ _ k => k.elim⟩
  obtain ⟨fl, τ'⟩ := r
  have k : fl = Fl.rt (.bl true) := k
  subst k
  intro w2 H2 v2 x2 ok2 r2
  cases r2
  exact q H2
theorem u1 {k : Nat} {A : Around} (r : Room k A) : A.units + 1 < cLine := by have := r.un; omega
theorem small_of {i : Int} (h : -1000000000000000000 < i) (h2 : i < 1000000000000000000) : small i = true := by
  unfold small
  rw [decide_eq_true h, decide_eq_true h2]; rfl
/-- a def told of by its own promise -/
structure FnS (P : Program) (w : World) (K : PySem.W.Frag) (mg : Str → Option Value) (base : Heap) (k : Nat) (x : Str) (sp : Sp) : Prop where
  ex : ∃ (a : Addr) (fd : FuncData) (ps : List Str), mg x = some (.ref a) ∧ PySem.W.keepIn K (.ref a) = true ∧ Binds K fd ps [] ∧ FnOk P w K mg base (L2.CX P w) k a fd ps sp
end
end Mn

set_option Elab.async false
set_option linter.all false
set_option autoImplicit false
set_option maxRecDepth 100000
set_option maxHeartbeats 2000000
/-! Mn14: comprehensions of two clauses. -/
namespace Mn
open PySem PySem.Spec PyProof.Rows L2
section
variable {X : Cx} {W : WX} {w0 w : Wd} {c : Nat} {H0 H : Hp} {τ : Sl} {σ : L2.St} {Q : VK}
/-- so far: the new list at D holds acc -/
structure Far (K : PySem.W.Frag) (w0 : Wd) (H0 : Hp) (w1 : Wd) (H1 : Hp) (Da : Addr) (w : Wd) (c : Nat) (H : Hp) (τ : Sl) (σ : L2.St) (acc : List V) (ds : List Mn.D) : Prop where
  ext : Ext w1 H1 w H
  rel : Rel K w0 H0 w c H τ σ
  at_ : H Da = some (.lst acc)
  hs : w.hs Da = none
  dr : ¬ w.draw Da
  rep : Reps K w acc ds
theorem Far.go {K : PySem.W.Frag} {w1 w' : Wd} {H1 H' : Hp} {Da : Addr} {c' : Nat} {acc : List V} {ds : List Mn.D} (f : Far K w0 H0 w1 H1 Da w c H τ σ acc ds) (e : Ext w H w' H') (ok : Ok w' c' H') : Far K w0 H0 w1 H1 Da w' c' H' τ σ acc ds := by
  obtain ⟨k1, k2, k3⟩ := e.keep Da _ f.at_ f.hs f.dr
  exact ⟨f.ext.trans e, f.rel.go e ok, k1, k2, k3, f.rep.le e.le⟩
theorem Far.put {K : PySem.W.Frag} {w1 : Wd} {H1 : Hp} {Da : Addr} {acc : List V} {ds : List Mn.D} {v : V} {d : Mn.D} (f : Far K w0 H0 w1 H1 Da w c H τ σ acc ds) (n1 : H1 Da = none) (n0 : H0 Da = none) (hno : ∀ j, isOwn (τ.getD j .un) = true → σ.getD j none ≠ some (.ref Da)) (rv : Rep K w v d) :
    Far K w0 H0 w1 H1 Da w c (upd H Da (.lst (acc ++ [v]))) τ σ (acc ++ [v]) (ds ++ [d]) :=
  ⟨f.ext.put n1 _, f.rel.other _ f.hs f.dr n0 hno, upd_same, f.hs, f.dr, f.rep.append (.cons rv .nil)⟩
theorem Far.slots {K : PySem.W.Frag} {w1 : Wd} {H1 : Hp} {Da : Addr} {acc : List V} {ds : List Mn.D} {τ' : Sl} {σ' : L2.St} (f : Far K w0 H0 w1 H1 Da w c H τ σ acc ds) (r : Rel K w0 H0 w c H τ' σ') : Far K w0 H0 w1 H1 Da w c H τ' σ' acc ds := ⟨f.ext, r, f.at_, f.hs, f.dr, f.rep⟩
mutual
theorem Tg.go_own : ∀ (g : Tg) {d : Mn.D} {τ τ' : Sl} (j : Nat), Tg.go g d τ = some τ' → isOwn (τ'.getD j .un) = true → isOwn (τ.getD j .un) = true
  | .n i, d, τ, τ', j, e, h => by
    simp only [Tg.go, Option.some.injEq] at e
    subst e
    rw [getD_set] at h
    split at h
    · cases h
    · exact h
  | .t l, d, τ, τ', j, e, h => by
    cases d with
    | tup ds => exact Tg.goes_own l j (by simpa only [Tg.go] using e) h
    | _ => simp [Tg.go] at e
theorem Tg.goes_own : ∀ (g : List Tg) {d : List Mn.D} {τ τ' : Sl} (j : Nat), Tg.goes g d τ = some τ' → isOwn (τ'.getD j .un) = true → isOwn (τ.getD j .un) = true
  | [], d, τ, τ', j, e, h => by
    cases d with
    | nil => simp only [Tg.goes, Option.some.injEq] at e; subst e; exact h
    | cons _ _ => simp [Tg.goes] at e
  | g :: gs, d, τ, τ', j, e, h => by
    cases d with
    | nil => simp [Tg.goes] at e
    | cons d ds =>
      simp only [Tg.goes] at e
      cases e1 : g.go d τ with
      | none => rw [e1] at e; cases e
      | some τ1 =>
        rw [e1] at e
        exact Tg.go_own g j e1 (Tg.goes_own gs j e h)
end
theorem wipe_eq_at {σ σ' : L2.St} {vs : List Nat} (h : L2.wipe σ' vs = L2.wipe σ vs) {j : Nat} (hj : j ∉ vs) : σ'.getD j none = σ.getD j none := by
  have e : (L2.wipe σ' vs)[j]? = (L2.wipe σ vs)[j]? := by rw [h]
  rw [wipe_get, wipe_get, if_neg hj, if_neg hj] at e
  rw [List.getD_eq_getElem?_getD, List.getD_eq_getElem?_getD, e]
/-- behind a target's store into wiped names -/
theorem noAt_go {Da : Addr} {g : Tg} {d : Mn.D} {τ τ1 : Sl} {σ σ1 : L2.St} {vs : List Nat} (hno : ∀ j, isOwn ((Mn.wipe τ vs).getD j .un) = true → (L2.wipe σ vs).getD j none ≠ some (.ref Da)) (e : g.go d (Mn.wipe τ vs) = some τ1)
    (hw : L2.wipe σ1 vs = L2.wipe (L2.wipe σ vs) vs) : ∀ j, isOwn (τ1.getD j .un) = true → σ1.getD j none ≠ some (.ref Da) := fun j hj => by
  have h1 := Tg.go_own g j e hj
  have h2 := (mwipe_own vs τ j h1).2
  rw [wipe_eq_at hw h2]
  exact hno j h1
end
section
variable {X : Cx} {W : WX} {w0 w : Wd} {c : Nat} {H0 H : Hp} {τ : Sl} {σ : L2.St} {Q : VK}
theorem lc2_of {fs fs1 : XA} {g g1 : Tg} {ft ft1 : XB} {fe : XE} {vs vs1 : List Nat} (hv : ∀ i ∈ g.vars, i ∈ vs) (hv1 : ∀ i ∈ g1.vars, i ∈ vs1) (h : tF X W w0 H0 (xLc2 fs vs g ft fs1 vs1 g1 ft1 fe) σ H Q) :
    tLc2 (tI X W w0 H0 fs) (g.tg X.K) (tT X WF w0 H0 ft) (tI X WF w0 H0 fs1) (g1.tg X.K) (tT X WF w0 H0 ft1) (tE X WF w0 H0 fe) vs vs1 σ H Q := by
  obtain ⟨w, c, τ, rel, q⟩ := h
  refine ⟨w, c, τ, rel, wp_mono (wp_bind.1 q) (fun ds c1 _ k w1 H1 J e1 ok1 en => ?_) fun _ _ _ _ k => k⟩
  intro D hD
  by_cases hlen : ds.length ≤ 4000
  case neg => rw [if_neg hlen] at k; exact k.elim
  rw [if_pos hlen] at k
  have k := wp_noX.1 (wp_bind.1 k)
  have rel1 := rel.go e1 ok1
  obtain ⟨ok2, e2⟩ := ok1.made hD (.lst [])
  have nd := ok1.fresh hD
  have hD0 := rel1.fresh hD
  have hno := noAt_wipe (rel1.noAt hD) vs
  generalize hP : (fun (xs : List Mn.D) (c' : Nat) => wp (M.ret (Mn.D.lst xs)) c' (fun d c' => ∀ w' H' v, Ext w H w' H' → Ok w' c' H' → NewR X.K w' H H' v d → Q v H') (PX X W w H σ)) = P at k
  refine ⟨fun i m H2 => i + m = ds.length ∧ ∃ w2 c2 acc accd, Far X.K w0 H0 w1 H1 D w2 c2 H2 (Mn.wipe τ vs) (L2.wipe σ vs) acc accd ∧ acc.length ≤ i * 4000 ∧
    wp (lc2Go g ft fs1 vs1 g1 ft1 fe (Mn.wipe τ vs) (ds.drop i)) c2 (fun xs c' => P (accd ++ xs) c') (fun _ _ _ => False),
    ⟨ds.length, by omega, w1, c1, [], [], ⟨e2, (rel1.go e2 ok2).wipe vs, upd_same, nd.1, nd.2, .nil⟩, Nat.zero_le _, k⟩, fun i m H2 ⟨him, w2, c2, acc, accd, far, hl, k2⟩ => ?_⟩
  by_cases h : i < ds.length
  · refine .inr ⟨en.go w2 H2 i far.ext.le far.rel.ok.sub h, fun H' => ∃ w3 c3 acc3 accd3, Far X.K w0 H0 w1 H1 D w3 c3 H' (Mn.wipe τ vs) (L2.wipe σ vs) acc3 accd3 ∧ acc3.length ≤ (i + 1) * 4000 ∧
      wp (lc2Go g ft fs1 vs1 g1 ft1 fe (Mn.wipe τ vs) (ds.drop (i + 1))) c3 (fun xs c' => P (accd3 ++ xs) c') (fun _ _ _ => False), fun H' z => ⟨m - 1, by omega, by omega, z⟩, fun x H3 y => ?_⟩
    obtain ⟨w3, d, hd, e3, ok3, rd⟩ := en.yld w2 c2 H2 i x H3 far.ext.le far.rel.ok h y
    rw [List.drop_eq_getElem_cons h] at k2
    have ed : ds[i] = d := by rw [List.getElem?_eq_getElem h] at hd; exact Option.some.inj hd
    rw [ed] at k2
    have k2 : wp ((ofO (g.go d (Mn.wipe τ vs))).bind fun σ1 => (ft σ1).bind fun b =>
      if b then (fs1 σ1).bind fun es => if es.length ≤ 4000 then (lcGo g1 ft1 fe (Mn.wipe σ1 vs1) es).bind fun xs => (lc2Go g ft fs1 vs1 g1 ft1 fe (Mn.wipe τ vs) (ds.drop (i + 1))).bind fun ys => .ret (xs ++ ys) else .stk
      else lc2Go g ft fs1 vs1 g1 ft1 fe (Mn.wipe τ vs) (ds.drop (i + 1))) c2 (fun xs c' => P (accd ++ xs) c') (fun _ _ _ => False) := k2
    cases eg : g.go d (Mn.wipe τ vs) with
    | none => rw [eg] at k2; exact k2.elim
    | some τ3 =>
      rw [eg] at k2
      refine Tg.real g (far.rel.go e3 ok3) rd eg fun σ' r' hw => ⟨(hw vs hv).trans (wipe_idem σ vs), w3, c2, τ3, r', wp_mono (wp_bind.1 k2) (fun b c4 _ k3 w4 H4 e4 ok4 => ?_) fun _ _ _ _ k => k.elim⟩
      have far4 := far.go (e3.trans e4) ok4
      have no3 := noAt_go hno eg (hw vs hv)
      cases b with
      | false =>
        rw [if_neg Bool.false_ne_true] at k3
        show (if false = true then _ else _)
        rw [if_neg Bool.false_ne_true]
        exact ⟨w4, c4, acc, accd, far4, by omega, k3⟩
      | true =>
        rw [if_pos rfl] at k3
        show (if true = true then _ else _)
        rw [if_pos rfl]
        refine ⟨w4, c4, τ3, r'.go e4 ok4, wp_mono (wp_bind.1 k3) (fun es c5 _ k5 w5 H5 J1 e5 ok5 en1 => ?_) fun _ _ _ _ k => k.elim⟩
        by_cases hes : es.length ≤ 4000
        case neg => rw [if_neg hes] at k5; exact k5.elim
        rw [if_pos hes] at k5
        have no4 := noAt_wipe no3 vs1
        have far5 := far4.go e5 ok5
        refine ⟨fun j k H6 => j + k = es.length ∧ ∃ w6 c6 acc6 accd6, Le w5 w6 ∧ Far X.K w0 H0 w1 H1 D w6 c6 H6 (Mn.wipe τ vs) (L2.wipe σ vs) acc6 accd6 ∧ Rel X.K w0 H0 w6 c6 H6 (Mn.wipe τ3 vs1) (L2.wipe σ' vs1) ∧ acc6.length ≤ i * 4000 + j ∧
          wp (lcGo g1 ft1 fe (Mn.wipe τ3 vs1) (es.drop j)) c6 (fun xs c' => wp (lc2Go g ft fs1 vs1 g1 ft1 fe (Mn.wipe τ vs) (ds.drop (i + 1))) c' (fun ys c'' => P ((accd6 ++ xs) ++ ys) c'') (fun _ _ _ => False)) (fun _ _ _ => False),
          ⟨es.length, by omega, w5, c5, acc, accd, Le.refl _, far5, ((r'.go e4 ok4).go e5 ok5).wipe vs1, by omega, wp_mono (wp_bind.1 k5) (fun xs c' _ k6 => wp_mono (wp_bind.1 k6) (fun ys c'' _ k7 => by rw [List.append_assoc]; exact k7) fun _ _ _ _ k => k) fun _ _ _ _ k => k⟩, fun j k H6 ⟨hjk, w6, c6, acc6, accd6, x6, far6, r6, hl6, k6⟩ => ?_⟩
        by_cases h1 : j < es.length
        · refine .inr ⟨en1.go w6 H6 j x6 r6.ok.sub h1, fun H' => ∃ w7 c7 acc7 accd7, Le w5 w7 ∧ Far X.K w0 H0 w1 H1 D w7 c7 H' (Mn.wipe τ vs) (L2.wipe σ vs) acc7 accd7 ∧ Rel X.K w0 H0 w7 c7 H' (Mn.wipe τ3 vs1) (L2.wipe σ' vs1) ∧ acc7.length ≤ i * 4000 + (j + 1) ∧
            wp (lcGo g1 ft1 fe (Mn.wipe τ3 vs1) (es.drop (j + 1))) c7 (fun xs c' => wp (lc2Go g ft fs1 vs1 g1 ft1 fe (Mn.wipe τ vs) (ds.drop (i + 1))) c' (fun ys c'' => P ((accd7 ++ xs) ++ ys) c'') (fun _ _ _ => False)) (fun _ _ _ => False), fun H' z => ⟨k - 1, by omega, by omega, z⟩, fun x7 H7 y7 => ?_⟩
          obtain ⟨w7, d7, hd7, e7, ok7, rd7⟩ := en1.yld w6 c6 H6 j x7 H7 x6 r6.ok h1 y7
          rw [List.drop_eq_getElem_cons h1] at k6
          have ed7 : es[j] = d7 := by rw [List.getElem?_eq_getElem h1] at hd7; exact Option.some.inj hd7
          rw [ed7] at k6
          have k6 := k6
          unfold lcGo at k6
          cases eg1 : g1.go d7 (Mn.wipe τ3 vs1) with
          | none => rw [eg1] at k6; exact k6.elim
          | some τ8 =>
            rw [eg1] at k6
            refine Tg.real g1 (r6.go e7 ok7) rd7 eg1 fun σ8 r8 hw8 => ⟨(hw8 vs1 hv1).trans (wipe_idem σ' vs1), w7, c6, τ8, r8, wp_mono (wp_bind.1 k6) (fun b c9 _ k9 w9 H9 e9 ok9 => ?_) fun _ _ _ _ k => k.elim⟩
            have far9 := far6.go (e7.trans e9) ok9
            have r9 := r6.go (e7.trans e9) ok9
            cases b with
            | false =>
              rw [if_neg Bool.false_ne_true] at k9
              show (if false = true then _ else _)
              rw [if_neg Bool.false_ne_true]
              exact ⟨w9, c9, acc6, accd6, x6.trans (e7.trans e9).le, far9, r9, by omega, k9⟩
            | true =>
              rw [if_pos rfl] at k9
              show (if true = true then _ else _)
              rw [if_pos rfl]
              refine ⟨w9, c9, τ8, r8.go e9 ok9, wp_mono (wp_bind.1 k9) (fun d10 c10 _ k10 w10 H10 v e10 ok10 rv => ?_) fun _ _ _ _ k => k.elim⟩
              have far10 := far9.go e10 ok10
              have hi4 : i * 4000 ≤ 4000 * 4000 := Nat.mul_le_mul_right 4000 (by omega)
              refine ⟨acc6, far10.at_, by rw [sizeLine_eq]; omega, w10, c10, acc6 ++ [v], accd6 ++ [d10], x6.trans ((e7.trans e9).trans e10).le, far10.put hD hD0 hno rv, (r9.go e10 ok10).other _ far10.hs far10.dr hD0 no4, by simp; omega, wp_mono (wp_bind.1 k10) (fun xs c11 _ k11 => ?_) fun _ _ _ _ k => k⟩
              · have k11 : wp (lc2Go g ft fs1 vs1 g1 ft1 fe (Mn.wipe τ vs) (ds.drop (i + 1))) c11 (fun ys c'' => P ((accd6 ++ d10 :: xs) ++ ys) c'') (fun _ _ _ => False) := k11
                rw [List.append_assoc accd6 [d10] xs]
                exact k11
        · have ej : j = es.length := by omega
          subst ej
          rw [List.drop_length] at k6
          have k6 : wp (lc2Go g ft fs1 vs1 g1 ft1 fe (Mn.wipe τ vs) (ds.drop (i + 1))) c6 (fun ys c'' => P ((accd6 ++ []) ++ ys) c'') (fun _ _ _ => False) := k6
          rw [List.append_nil] at k6
          exact .inl ⟨en1.stop w6 H6 x6 r6.ok.sub, w6, c6, acc6, accd6, far6, by have := en1.len; omega, k6⟩
  · have e : i = ds.length := by omega
    subst e
    rw [List.drop_length] at k2
    have k2 : P (accd ++ []) c2 := k2
    rw [← hP, List.append_nil] at k2
    exact .inl ⟨en.stop w2 H2 far.ext.le far.rel.ok.sub, k2 w2 H2 (.ref D) (e1.trans far.ext) far.rel.ok ⟨D, rfl, e1.was_free rel.ok ok1 hD, far.hs, far.dr, .inl ⟨acc, accd, rfl, far.at_, far.rep⟩⟩⟩
theorem lc2E_F {fs fs1 : XA} {g g1 : Tg} {ft ft1 : XB} {fe : XE} {vs vs1 : List Nat} (h : tE X W w0 H0 (xLc2 fs vs g ft fs1 vs1 g1 ft1 fe) σ H Q) : tF X W w0 H0 (xLc2 fs vs g ft fs1 vs1 g1 ft1 fe) σ H Q := by
  obtain ⟨w, c, τ, rel, q⟩ := h
  refine ⟨w, c, τ, rel, wp_bind.2 (wp_mono (wp_bind.1 q) (fun ds c1 _ k => ?_) fun _ _ _ _ k => k)⟩
  by_cases hl : ds.length ≤ 4000
  case neg => rw [if_neg hl] at k; exact k.elim
  rw [if_pos hl] at k ⊢
  refine wp_bind.2 (wp_mono (wp_bind.1 k) (fun xs c2 _ k2 => ?_) fun _ _ _ _ k => k)
  have k2 : FinE X w H Q (.lst xs) c2 := k2
  intro w' H' v e ok ⟨a, ev, n, n1, n2, rv⟩
  subst ev
  rcases rv with ⟨vs, l, e2, e3, r3⟩ | ⟨kvs, l, e2, _⟩ | ⟨kvs, l, ne, e2, _⟩
  · cases e2
    obtain ⟨k1, _, k3⟩ := NewR.lstRep ok n1 n2 e3 r3
    exact k2 _ _ _ (e.lay n n1) k1 k3
  · cases e2
  · cases e2
section
variable {elt tg iter tg1 iter1 : Expr} {ifs ifs1 : List Expr} {scope : Scope} {own : List (Str × Nat)} {pos spos py : Pos} {fs fs1 : XA} {g g1 : Tg} {ft ft1 : XB} {fe : XE} {i : Nat} {y : Str} {vs1 : List Nat}
theorem fe_lc2 (own : List (Str × Nat)) (vs1 : List Nat) (hc : X.calm = true) (hN : X.N.Nodup) (hi : DI X W tg iter fs) (ok : BlkOk X.N X.env.scope scope own)
    (hg : ∀ (s : Shared) (H : Hp) (C : Addr) (cl : List (Str × Addr)) (fp : List Addr), DG (X.blk s H scope (compEnvC scope cl C X.env) fp) tg g) (ht : ∀ (s : Shared) (H : Hp) (C : Addr) (cl : List (Str × Addr)) (fp : List Addr), DTs (X.blk s H scope (compEnvC scope cl C X.env) fp) WF ifs ft)
    (hi1 : ∀ (s : Shared) (H : Hp) (C : Addr) (cl : List (Str × Addr)) (fp : List Addr), DI (X.blk s H scope (compEnvC scope cl C X.env) fp) WF tg1 iter1 fs1)
    (hg1 : ∀ (s : Shared) (H : Hp) (C : Addr) (cl : List (Str × Addr)) (fp : List Addr), DG (X.blk s H scope (compEnvC scope cl C X.env) fp) tg1 g1) (ht1 : ∀ (s : Shared) (H : Hp) (C : Addr) (cl : List (Str × Addr)) (fp : List Addr), DTs (X.blk s H scope (compEnvC scope cl C X.env) fp) WF ifs1 ft1)
    (he : ∀ (s : Shared) (H : Hp) (C : Addr) (cl : List (Str × Addr)) (fp : List Addr), DE (X.blk s H scope (compEnvC scope cl C X.env) fp) WF elt fe)
    (hv : ∀ i ∈ g.vars, i ∈ own.map (·.2) := by decide) (hv1 : ∀ i ∈ g1.vars, i ∈ vs1 := by decide) (hvo : ∀ i ∈ vs1, i ∈ own.map (·.2) := by decide) (hs : ∀ x, foldedSetIterable iter X.env x = pure x := by intro _; rfl) (hs1 : ∀ env x, foldedSetIterable iter1 env x = pure x := by intro _ _; rfl) :
    FE X W (.ListComp elt [⟨tg, iter, ifs, 0⟩, ⟨tg1, iter1, ifs1, 0⟩] scope pos) (xLc2 fs (own.map (·.2)) g ft fs1 vs1 g1 ft1 fe) :=
  ⟨fun w0 H0 => (pe_lc2 (g := g.tg X.K) (g1 := g1.tg X.K) (wi1 := tI X WF w0 H0 fs1) (tt := tT X WF w0 H0 ft) (tt1 := tT X WF w0 H0 ft1) (te := tE X WF w0 H0 fe) hc hN (hi.ok w0 H0) ok hvo (fun s H C cl fp => (hg s H C cl fp).ok) (fun s H C cl fp => (ht s H C cl fp).ok w0 H0) (fun s H C cl fp => (hi1 s H C cl fp).ok w0 H0) (fun s H C cl fp => (hg1 s H C cl fp).ok) (fun s H C cl fp => (ht1 s H C cl fp).ok w0 H0) (fun s H C cl fp => (he s H C cl fp).ok w0 H0) hs hs1).weak fun _ _ _ h => lc2_of hv hv1 h⟩
theorem ds_ownLc2 (own : List (Str × Nat)) (vs1 : List Nat) (hc : X.calm = true) (hN : X.N.Nodup) (hi : DI X W tg iter fs) (ok : BlkOk X.N X.env.scope scope own)
    (hg : ∀ (s : Shared) (H : Hp) (C : Addr) (cl : List (Str × Addr)) (fp : List Addr), DG (X.blk s H scope (compEnvC scope cl C X.env) fp) tg g) (ht : ∀ (s : Shared) (H : Hp) (C : Addr) (cl : List (Str × Addr)) (fp : List Addr), DTs (X.blk s H scope (compEnvC scope cl C X.env) fp) WF ifs ft)
    (hi1 : ∀ (s : Shared) (H : Hp) (C : Addr) (cl : List (Str × Addr)) (fp : List Addr), DI (X.blk s H scope (compEnvC scope cl C X.env) fp) WF tg1 iter1 fs1)
    (hg1 : ∀ (s : Shared) (H : Hp) (C : Addr) (cl : List (Str × Addr)) (fp : List Addr), DG (X.blk s H scope (compEnvC scope cl C X.env) fp) tg1 g1) (ht1 : ∀ (s : Shared) (H : Hp) (C : Addr) (cl : List (Str × Addr)) (fp : List Addr), DTs (X.blk s H scope (compEnvC scope cl C X.env) fp) WF ifs1 ft1)
    (he : ∀ (s : Shared) (H : Hp) (C : Addr) (cl : List (Str × Addr)) (fp : List Addr), DE (X.blk s H scope (compEnvC scope cl C X.env) fp) WF elt fe)
    (hsw : swapsWith (.ListComp elt [⟨tg, iter, ifs, 0⟩, ⟨tg1, iter1, ifs1, 0⟩] scope pos) (some (.Name y py)) spos.line X.env = pure true)
    (hy : X.N[i]? = some y := by rfl) (hyl : X.env.scope.names.lookup y = some .local := by rfl) (hv : ∀ i ∈ g.vars, i ∈ own.map (·.2) := by decide) (hv1 : ∀ i ∈ g1.vars, i ∈ vs1 := by decide) (hvo : ∀ i ∈ vs1, i ∈ own.map (·.2) := by decide) (hs : ∀ x, foldedSetIterable iter X.env x = pure x := by intro _; rfl) (hs1 : ∀ env x, foldedSetIterable iter1 env x = pure x := by intro _ _; rfl) :
    DS X W (.Assign [.Name y py] (.ListComp elt [⟨tg, iter, ifs, 0⟩, ⟨tg1, iter1, ifs1, 0⟩] scope pos) spos) (sOwn i (xLc2 fs (own.map (·.2)) g ft fs1 vs1 g1 ft1 fe)) :=
  ⟨fun w0 H0 => (ps_setLc2 (g := g.tg X.K) (g1 := g1.tg X.K) (wi1 := tI X WF w0 H0 fs1) (tt := tT X WF w0 H0 ft) (tt1 := tT X WF w0 H0 ft1) (te := tE X WF w0 H0 fe) hc hN hy hyl hsw (hi.ok w0 H0) ok hvo (fun s H C cl fp => (hg s H C cl fp).ok) (fun s H C cl fp => (ht s H C cl fp).ok w0 H0) (fun s H C cl fp => (hi1 s H C cl fp).ok w0 H0) (fun s H C cl fp => (hg1 s H C cl fp).ok) (fun s H C cl fp => (ht1 s H C cl fp).ok w0 H0) (fun s H C cl fp => (he s H C cl fp).ok w0 H0) hs hs1).weak fun D' σ H h => tAsg_own (fun _ _ _ h => lc2_of hv hv1 h) h⟩
theorem ds_setLc2 (own : List (Str × Nat)) (vs1 : List Nat) (hc : X.calm = true) (hN : X.N.Nodup) (hi : DI X W tg iter fs) (ok : BlkOk X.N X.env.scope scope own)
    (hg : ∀ (s : Shared) (H : Hp) (C : Addr) (cl : List (Str × Addr)) (fp : List Addr), DG (X.blk s H scope (compEnvC scope cl C X.env) fp) tg g) (ht : ∀ (s : Shared) (H : Hp) (C : Addr) (cl : List (Str × Addr)) (fp : List Addr), DTs (X.blk s H scope (compEnvC scope cl C X.env) fp) WF ifs ft)
    (hi1 : ∀ (s : Shared) (H : Hp) (C : Addr) (cl : List (Str × Addr)) (fp : List Addr), DI (X.blk s H scope (compEnvC scope cl C X.env) fp) WF tg1 iter1 fs1)
    (hg1 : ∀ (s : Shared) (H : Hp) (C : Addr) (cl : List (Str × Addr)) (fp : List Addr), DG (X.blk s H scope (compEnvC scope cl C X.env) fp) tg1 g1) (ht1 : ∀ (s : Shared) (H : Hp) (C : Addr) (cl : List (Str × Addr)) (fp : List Addr), DTs (X.blk s H scope (compEnvC scope cl C X.env) fp) WF ifs1 ft1)
    (he : ∀ (s : Shared) (H : Hp) (C : Addr) (cl : List (Str × Addr)) (fp : List Addr), DE (X.blk s H scope (compEnvC scope cl C X.env) fp) WF elt fe)
    (hsw : swapsWith (.ListComp elt [⟨tg, iter, ifs, 0⟩, ⟨tg1, iter1, ifs1, 0⟩] scope pos) (some (.Name y py)) spos.line X.env = pure true)
    (hy : X.N[i]? = some y := by rfl) (hyl : X.env.scope.names.lookup y = some .local := by rfl) (hv : ∀ i ∈ g.vars, i ∈ own.map (·.2) := by decide) (hv1 : ∀ i ∈ g1.vars, i ∈ vs1 := by decide) (hvo : ∀ i ∈ vs1, i ∈ own.map (·.2) := by decide) (hs : ∀ x, foldedSetIterable iter X.env x = pure x := by intro _; rfl) (hs1 : ∀ env x, foldedSetIterable iter1 env x = pure x := by intro _ _; rfl) :
    DS X W (.Assign [.Name y py] (.ListComp elt [⟨tg, iter, ifs, 0⟩, ⟨tg1, iter1, ifs1, 0⟩] scope pos) spos) (sSet i (xLc2 fs (own.map (·.2)) g ft fs1 vs1 g1 ft1 fe)) :=
  ⟨fun w0 H0 => (ps_setLc2 (g := g.tg X.K) (g1 := g1.tg X.K) (wi1 := tI X WF w0 H0 fs1) (tt := tT X WF w0 H0 ft) (tt1 := tT X WF w0 H0 ft1) (te := tE X WF w0 H0 fe) hc hN hy hyl hsw (hi.ok w0 H0) ok hvo (fun s H C cl fp => (hg s H C cl fp).ok) (fun s H C cl fp => (ht s H C cl fp).ok w0 H0) (fun s H C cl fp => (hi1 s H C cl fp).ok w0 H0) (fun s H C cl fp => (hg1 s H C cl fp).ok) (fun s H C cl fp => (ht1 s H C cl fp).ok w0 H0) (fun s H C cl fp => (he s H C cl fp).ok w0 H0) hs hs1).weak fun D' σ H ⟨w, c, τ, rel, q⟩ => lc2_of hv hv1 (lc2E_F ⟨w, c, τ, rel, wp_mono (wp_toPX (σ := σ) rel.ext (wp_bind.1 q)) (fun d c' _ k w' H' v e ok rv => k w' H' _ ((rel.go e ok).set i rv)) fun _ _ _ _ k => k⟩)⟩
end
end
end Mn

set_option Elab.async false
set_option linter.all false
set_option autoImplicit false
set_option maxRecDepth 100000
set_option maxHeartbeats 2000000
/-! Mn15: dicts with ints or texts as keys. -/
namespace Mn
open PySem PySem.Spec PyProof.Rows L2
def keyEq : Mn.D → Mn.D → Bool
  | .int i, .int j => i == j
  | .str a, .str b => strEq a b
  | _, _ => false
def isKeyD : Mn.D → Bool
  | .int _ => true
  | .str _ => true
  | _ => false
def getK (l : List (Mn.D × Mn.D)) (k : Mn.D) : Option Mn.D := (l.find? fun p => keyEq p.1 k).map (·.2)
def putKD (l : List (Mn.D × Mn.D)) (k d : Mn.D) : List (Mn.D × Mn.D) := if (l.any fun p => keyEq p.1 k) = true then l.map (fun p => if keyEq p.1 k = true then (p.1, d) else p) else l ++ [(k, d)]
/-- d[k], d a dict, a list or a tuple -/
def gIxD : Mn.D → Mn.D → M Mn.D
  | .dct l, k => if isKeyD k then ofO (getK l k) else .stk
  | a, k => gIx a k
theorem keyEq_iff (a b : Key) : keyEq (keyD a) (keyD b) = decide (a = b) := by
  cases a with
  | inl i => cases b with
    | inl j =>
      by_cases h : i = j
      · subst h; simp [keyD, keyEq]
      · simp [keyD, keyEq, h]
    | inr s => simp [keyD, keyEq]
  | inr s => cases b with
    | inl j => simp [keyD, keyEq]
    | inr t =>
      simp only [keyD, keyEq, strEq_eq]
      by_cases h : s = t
      · subst h; simp
      · simp [h, beq_eq_false_iff_ne.mpr h]
theorem isKey_of {d : Mn.D} (h : isKeyD d = true) : ∃ k : Key, d = keyD k := by
  cases d with
  | int i => exact ⟨.inl i, rfl⟩
  | str s => exact ⟨.inr s, rfl⟩
  | _ => cases h
section
variable {K : PySem.W.Frag} {w : Wd}
theorem RepK.find (k : Key) : ∀ {kvs : List (Key × V)} {l : List (Mn.D × Mn.D)}, RepK K w kvs l → (∀ d, getK l (keyD k) = some d → ∃ v, valV kvs k = some v ∧ Rep K w v d) ∧ (getK l (keyD k) = none → valV kvs k = none)
  | _, _, .nil => ⟨(fun d h => by cases h), (fun _ => rfl)⟩
  | _, _, .cons (k := k') (v := v) (d := d) r t => by
    have ih := RepK.find k t
    have e := keyEq_iff k' k
    by_cases h : k' = k
    · subst h
      have e : keyEq (keyD k') (keyD k') = true := by rw [e]; simp
      refine ⟨fun d' hd => ?_, fun hn => ?_⟩
      · simp only [getK, List.find?_cons, e] at hd
        cases hd
        exact ⟨v, valV_pos rfl, r⟩
      · simp only [getK, List.find?_cons, e] at hn
        cases hn
    · have e : keyEq (keyD k') (keyD k) = false := by rw [e]; simp [h]
      rw [valV_neg h]
      simp only [getK, List.find?_cons, e]
      exact ih
theorem RepK.anyK (k : Key) : ∀ {kvs : List (Key × V)} {l : List (Mn.D × Mn.D)}, RepK K w kvs l → (l.any fun p => keyEq p.1 (keyD k)) = kvs.any fun kv => decide (kv.1 = k)
  | _, _, .nil => rfl
  | _, _, .cons r t => by simp only [List.any_cons, keyEq_iff, RepK.anyK k t]
theorem RepK.mapK (k : Key) {v : V} {d : Mn.D} (rv : Rep K w v d) : ∀ {kvs : List (Key × V)} {l : List (Mn.D × Mn.D)}, RepK K w kvs l → RepK K w (kvs.map fun kv => if kv.1 = k then (kv.1, v) else kv) (l.map fun p => if keyEq p.1 (keyD k) = true then (p.1, d) else p)
  | _, _, .nil => .nil
  | _, _, .cons (k := k') (v := v') (d := d') r t => by
    have ih := RepK.mapK k rv t
    rw [List.map_cons, List.map_cons]
    by_cases h : k' = k
    · have e : keyEq (keyD k') (keyD k) = true := by rw [keyEq_iff]; simp [h]
      rw [if_pos h, if_pos e]
      exact .cons rv ih
    · have e : ¬ keyEq (keyD k') (keyD k) = true := by rw [keyEq_iff]; simp [h]
      rw [if_neg h, if_neg e]
      exact .cons r ih
theorem RepK.snoc {k : Key} {v : V} {d : Mn.D} (rv : Rep K w v d) : ∀ {kvs : List (Key × V)} {l : List (Mn.D × Mn.D)}, RepK K w kvs l → RepK K w (kvs ++ [(k, v)]) (l ++ [(keyD k, d)])
  | _, _, .nil => .cons rv .nil
  | _, _, .cons r t => .cons r (RepK.snoc rv t)
theorem RepK.put {k : Key} {v : V} {d : Mn.D} (rv : Rep K w v d) {kvs : List (Key × V)} {l : List (Mn.D × Mn.D)} (r : RepK K w kvs l) : RepK K w (putK kvs k v) (putKD l (keyD k) d) := by
  unfold putK putKD
  rw [r.anyK k]
  split
  · exact r.mapK k rv
  · exact r.snoc rv
theorem RepK.length : ∀ {kvs : List (Key × V)} {l : List (Mn.D × Mn.D)}, RepK K w kvs l → kvs.length = l.length
  | _, _, .nil => rfl
  | _, _, .cons _ t => congrArg Nat.succ t.length
end
section
variable {X : Cx} {W : WX} {w0 w : Wd} {c : Nat} {H0 H : Hp} {τ : Sl} {σ : L2.St} {Q : VK}
theorem ix_dict (hu : X.A.units + 1 < cLine) : IxR X (fun x y H Q => ∃ a v, x = .ref a ∧ DGet H a y (some v) ∧ Q v H) := by
  intro value slice pins s σ H x y v u Q I rx ry h hs
  obtain ⟨a, z, rfl, g, q⟩ := h
  cases rx
  exact tail_any (dict_typeIs I g) PySem.F.slot_dict_getitem.lookup (d_getItem hu I g ry fun w' s3 I3 rw' => ⟨z, H, I3, rw', q⟩) hs
theorem RepT.noK {K : PySem.W.Frag} (k : Key) : ∀ {kvs : List (List Key × V)} {l : List (Mn.D × Mn.D)}, RepT K w kvs l → getK l (keyD k) = none
  | _, _, .nil => rfl
  | _, _, .cons (k := k') r t => by
    have ih := RepT.noK k t
    have e : keyEq (.tup (k'.map keyD)) (keyD k) = false := by cases k <;> rfl
    unfold getK at ih ⊢
    rw [List.find?_cons, e]
    exact ih
theorem dget_dK {K : PySem.W.Frag} {a : Addr} {kvs : List (Key × V)} {l : List (Mn.D × Mn.D)} {k : Key} {d : Mn.D} (h : Rd H a (.dK kvs)) (r : RepK K w kvs l) (hk : getK l (keyD k) = some d) : ∃ u, DGet H a (kV k) (some u) ∧ Rep K w u d := by
  obtain ⟨u, hu, ru⟩ := (r.find k).1 d hk
  exact ⟨u, .inl ⟨kvs, k, h, rfl, hu.symm⟩, ru⟩
theorem RepB.dctK (ok : Ok w c H) {v : V} {l : List (Mn.D × Mn.D)} {k : Key} {d : Mn.D} (r : RepB X.K w H v (.dct l)) (hk : getK l (keyD k) = some d) : ∃ a u, v = .ref a ∧ DGet H a (kV k) (some u) ∧ Rep X.K w u d := by
  rcases r with r | ⟨_, _, _, _, e, _⟩ | ⟨a, l', e1, e2, _, _, h⟩
  · cases r with
    | dk q rk =>
      obtain ⟨u, g, ru⟩ := dget_dK (.inr ⟨_, ok.sub _ _ q⟩) rk hk
      exact ⟨_, u, rfl, g, ru⟩
    | dt n q rt => rw [rt.noK k] at hk; cases hk
  · cases e
  · cases e2
    rcases h with ⟨kvs, q, rk⟩ | ⟨kvs, n, q, rt⟩
    · obtain ⟨u, g, ru⟩ := dget_dK (.inl q) rk hk
      exact ⟨a, u, e1, g, ru⟩
    · rw [rt.noK k] at hk; cases hk
abbrev rIxD (K : PySem.W.Frag) : R2 := fun x y H Q => (∃ a v, x = .ref a ∧ DGet H a y (some v) ∧ Q v H) ∨ rIx K x y H Q
theorem ro_ixD : RO2 X W gIxD (rIxD X.K) := by
  intro w c H σ x y dx dy Q ok hx hy h
  cases dx with
  | dct l =>
    obtain ⟨hk, h⟩ := (show isKeyD dy = true ∧ wp (ofO (getK l dy)) c (FinE X w H Q) (PX X W w H σ) by
      have h : wp (if isKeyD dy then ofO (getK l dy) else .stk) c (FinE X w H Q) (PX X W w H σ) := by cases dy <;> exact h
      by_cases hk : isKeyD dy = true
      · rw [if_pos hk] at h; exact ⟨hk, h⟩
      · rw [if_neg hk] at h; exact h.elim)
    obtain ⟨k, rfl⟩ := isKey_of hk
    obtain ⟨d, hd, h⟩ := ofO_cases h
    obtain ⟨a, u, rfl, g, ru⟩ := hx.dctK ok hd
    have ey : y = kV k := by
      cases k with
      | inl i => exact hy.int
      | inr s => exact hy.str
    subst ey
    exact .inl ⟨a, u, rfl, g, FinE.here h ok ru⟩
  | _ => exact .inr (ro_ix (X := X) (W := W) ok hx hy (by cases dy <;> exact h))
theorem de_ixD {a b : Expr} {pos : Pos} {fa fb : XE} (hu : X.A.units + 1 < cLine) (ha : BE X W a fa) (hb : BE X W b fb) (hs : PlainIx b := by exact fun _ _ => rfl) : DE X W (.Subscript a b pos) (x2 gIxD fa fb) :=
  ⟨fun w0 H0 => (pe_ix ((ix_dict hu).or ix_seq) (ha.ok w0 H0) (hb.ok w0 H0) hs).weak fun _ _ _ h => op2 ro_ixD h⟩
/-- a dict of one's own, in a slot -/
def getDc : SV → M (List (Mn.D × Mn.D))
  | .ownd l => .ret l
  | _ => .stk
def sPutD (j : Nat) (k e : XE) : XS := fun σ => (e σ).bind fun d => (getDc (σ.getD j .un)).bind fun l => (k σ).bind fun x => if isKeyD x = true ∧ l.length < 16777216 ∧ (l.all fun p => isKeyD p.1) = true then .ret (.nx, σ.set j (.ownd (putKD l x d))) else .stk
theorem RepT.keys {K : PySem.W.Frag} : ∀ {kvs : List (List Key × V)} {l : List (Mn.D × Mn.D)}, RepT K w kvs l → l ≠ [] → (l.all fun p => isKeyD p.1) = true → False
  | _, _, .nil, h, _ => h rfl
  | _, _, .cons _ _, _, h => by simp [isKeyD] at h
theorem ds_putD {i : Nat} {x : Str} {e k : Expr} {f fk : XE} {p pos spos : Pos} (hu : X.A.units + 1 < cLine) (he : DE X W e f) (hk : DE X W k fk) (hN : X.N[i]? = some x := by rfl) (hv : Vis X.env.scope x := by first | exact Or.inl rfl | exact Or.inr (Or.inl rfl) | exact Or.inr (Or.inr rfl)) (hd : (x == ("__debug__" : Str)) = false := by decide) (hcd : (x == ("__classdict__" : Str)) = false := by decide)
    (hs : swapsWith e (some (.Subscript (.Name x p) k spos)) pos.line X.env = pure false := by rfl) : DS X W (.Assign [.Subscript (.Name x p) k spos] e pos) (sPutD i fk f) := by
  refine ⟨fun w0 H0 => (ps_dput hu (pe_var hN hv hd hcd) (hk.ok w0 H0) (he.ok w0 H0) hs).weak fun D' σ H ⟨w, c, τ, rel, q⟩ => ?_⟩
  refine ⟨w, c, τ, rel, wp_mono (wp_toPX (σ := σ) rel.ext (wp_bind.1 q)) (fun d c1 _ q1 w1 H1 v e1 ok1 rv => ?_) fun _ _ _ _ k => k⟩
  have rel1 := rel.go e1 ok1
  have s1 := rel1.slot i
  cases ei : τ.getD i .un with
  | un => rw [ei] at q1; exact q1.elim
  | val _ => rw [ei] at q1; exact q1.elim
  | own _ => rw [ei] at q1; exact q1.elim
  | ownd l =>
    rw [ei] at q1 s1
    obtain ⟨a, es, o, ha⟩ := s1
    refine ⟨.ref a, slot_some (K := X.K) (w := w1) (c := c1) (τ := τ) es, w1, c1, τ, rel1, wp_mono (wp_toPX (σ := σ) rel1.ext (wp_bind.1 q1)) (fun dk c2 _ q2 w2 H2 u e2 ok2 ru => ?_) fun _ _ _ _ k => k⟩
    obtain ⟨⟨h1, h2, h3⟩, q2⟩ := ite_ret q2
    obtain ⟨k', rfl⟩ := isKey_of h1
    have eu : u = kV k' := by
      cases k' with
      | inl i => cases ru; rfl
      | inr s => cases ru; rfl
    subst eu
    rcases ha with ⟨kvs, ha, rk⟩ | ⟨kvs, n, ha, rt⟩
    · obtain ⟨ka, kn, kd⟩ := e2.keep a _ ha o.hs o.dr
      have rk2 := rk.le e2.le
      refine ⟨a, _, rfl, DPut.k ka (by rw [rk.length, sizeLine_eq]; exact h2), q2 w2 _ σ ?_⟩
      refine (rel1.go e2 ok2).chg (i := i) (by rw [ei]; rfl) es rfl ⟨a, rfl, ⟨kn, kd, o.new⟩, .inl ⟨_, upd_same, rk2.put (rv.le e2.le)⟩⟩
    · exact (rt.keys n h3).elim
def xD0 : XE := fun _ => .ret (.dct [])
theorem fe_dct0 {pos : Pos} : FE X W (.Dict [] [] pos) xD0 := ⟨fun w0 H0 => pe_dnewK.weak fun σ H Q ⟨w, c, τ, rel, q⟩ => fun p n => by
  obtain ⟨ok', e'⟩ := rel.ok.made n (.dK [])
  obtain ⟨n1, n2⟩ := rel.ok.fresh n
  exact q w _ (.ref p) e' ok' ⟨p, rfl, n, n1, n2, .inr (.inl ⟨[], [], rfl, upd_same, .nil⟩)⟩⟩
/-- k in d, d a dict; else as gIn -/
def gInD : Mn.D → Mn.D → M Mn.D
  | k, .dct l => if isKeyD k = true ∧ (l.all fun p => isKeyD p.1) = true then .ret (.bl (getK l k).isSome) else .stk
  | k, a => gIn k a
end
end Mn

set_option Elab.async false
set_option linter.all false
set_option autoImplicit false
set_option maxRecDepth 100000
set_option maxHeartbeats 2000000
/-! Mn16: stores of several parts, into dicts too; sorted of a dict's int keys. -/
namespace Mn
open PySem PySem.Spec PyProof.Rows L2
/-- d[k], x = e -/
def sPutDN (j : Nat) (k : XE) (i : Nat) (e : XE) : XS := fun σ => (e σ).bind fun d => match d with
  | .tup [d1, d2] => (getDc (σ.getD j .un)).bind fun l => (k σ).bind fun x => if isKeyD x = true ∧ l.length < 16777216 ∧ (l.all fun p => isKeyD p.1) = true then .ret (.nx, (σ.set j (.ownd (putKD l x d1))).set i (.val d2)) else .stk
  | _ => .stk
section
variable {X : Cx} {W : WX} {w0 w : Wd} {c : Nat} {H0 H : Hp} {τ : Sl} {σ : L2.St} {Q : VK}
theorem dc_cases {α : Type} {i : Nat} {k : List (Mn.D × Mn.D) → M α} {Qr : α → Nat → Prop} {E : String → List Mn.D → Nat → Prop} (h : wp ((getDc (τ.getD i .un)).bind k) c Qr E) : ∃ l, τ.getD i .un = .ownd l ∧ wp (k l) c Qr E := by
  cases e : τ.getD i .un with
  | ownd l => rw [e] at h; exact ⟨l, rfl, h⟩
  | un => rw [e] at h; exact h.elim
  | val _ => rw [e] at h; exact h.elim
  | own _ => rw [e] at h; exact h.elim
theorem Rel.dcAt {K : PySem.W.Frag} (r : Rel K w0 H0 w c H τ σ) {i : Nat} {l : List (Mn.D × Mn.D)} (e : τ.getD i .un = .ownd l) (hk : (l.all fun p => isKeyD p.1) = true) : ∃ a kvs, σ[i]? = some (some (.ref a)) ∧ H a = some (.dK kvs) ∧ RepK K w kvs l ∧ Own w H0 a := by
  have s := r.slot i
  rw [e] at s
  obtain ⟨a, es, o, ha⟩ := s
  rcases ha with ⟨kvs, ha, rk⟩ | ⟨kvs, n, ha, rt⟩
  · exact ⟨a, kvs, slot_some (K := K) (w := w) (c := c) (τ := τ) es, ha, rk, o⟩
  · exact (rt.keys n hk).elim
theorem Rel.dcPut {K : PySem.W.Frag} (r : Rel K w0 H0 w c H τ σ) {i : Nat} {a : Addr} {l : List (Mn.D × Mn.D)} {kvs : List (Key × V)} {k : Key} {v : V} {d : Mn.D} (e : τ.getD i .un = .ownd l) (es : σ[i]? = some (some (.ref a))) (rk : RepK K w kvs l) (o : Own w H0 a) (rv : Rep K w v d) :
    Rel K w0 H0 w c (upd H a (.dK (putK kvs k v))) (τ.set i (.ownd (putKD l (keyD k) d))) σ :=
  r.chg (i := i) (by rw [e]; rfl) (getD_of es) rfl ⟨a, rfl, o, .inl ⟨_, upd_same, rk.put rv⟩⟩
theorem ds_putDN {j i : Nat} {x y : Str} {e k : Expr} {f fk : XE} {p spos py tpos pos : Pos} {kk : Nat} (hu : X.A.units + 1 < cLine) (hc : X.calm = true) (hNd : X.N.Nodup) (he : DE X W e f) (hk : DE X W k fk) (hN : X.N[j]? = some x := by rfl) (hv : Vis X.env.scope x := by first | exact Or.inl rfl | exact Or.inr (Or.inl rfl) | exact Or.inr (Or.inr rfl)) (hd : (x == ("__debug__" : Str)) = false := by decide) (hcd : (x == ("__classdict__" : Str)) = false := by decide)
    (hi : X.N[i]? = some y := by rfl) (hy : Loc X.env.scope y := by first | exact Or.inl rfl | exact Or.inr rfl) (hf : X.fn y = true ∨ X.env.scope.names.lookup y = some .local := by first | exact .inl rfl | exact .inr rfl)
    (ha : ∀ v, assign (.Subscript (.Name x p) k spos) X.env v = (do
      let ov ← holding [v] (eval (.Name x p) X.env)
      let iv ← holding [v, ov] (eval k X.env)
      standAt spos
      holding [v, ov, iv] (setItem ov iv v)
      release [v, ov, iv] []) := by intro _; rfl)
    (hn : (assignEach [.Subscript (.Name x p) k spos, .Name y py] X.env).length = 2 := by rfl) (hst : (assignEach [.Subscript (.Name x p) k spos, .Name y py] X.env).findIdx? (·.1) = none := by rfl)
    (h2 : (assignEach [.Subscript (.Name x p) k spos, .Name y py] X.env).map (·.2) = assign (.Subscript (.Name x p) k spos) X.env :: (assignEach [.Name y py] X.env).map (·.2) := by rfl) (h3 : (assignEach [.Name y py] X.env).map (·.2) = assign (.Name y py) X.env :: (assignEach [] X.env).map (·.2) := by rfl)
    (hs : swapsWithSole [.Tuple [.Subscript (.Name x p) k spos, .Name y py] kk tpos] e pos.line X.env = pure false := by rfl) (hw : swappedStores [.Tuple [.Subscript (.Name x p) k spos, .Name y py] kk tpos] e X.env = pure none := by rfl) (h1 : (assignEach [.Tuple [.Subscript (.Name x p) k spos, .Name y py] kk tpos] X.env).map (·.2) = [assign (.Tuple [.Subscript (.Name x p) k spos, .Name y py] kk tpos) X.env] := by rfl) :
    DS X W (.Assign [.Tuple [.Subscript (.Name x p) k spos, .Name y py] kk tpos] e pos) (sPutDN j fk i f) := by
  refine ⟨fun w0 H0 => (ps_asg (he.ok w0 H0) (pg_tup hc (pgs_cons (pg_sub (pe_var hN hv hd hcd) (hk.ok w0 H0) (set_dict hu) ha) (pgs_cons (pg_name hNd hi hy hf) pgs_nil h3) h2) hn hst) hs hw h1).weak fun D' σ H ⟨w, c, τ, rel, q⟩ => ?_⟩
  refine ⟨w, c, τ, rel, wp_mono (wp_toPX (σ := σ) rel.ext (wp_bind.1 q)) (fun d c1 _ q1 w1 H1 v e1 ok1 rv => ?_) fun _ _ _ _ k => k⟩
  have rel1 := rel.go e1 ok1
  match d, rv, q1 with
  | .tup [d1, d2], .tup hT rs, q1 =>
    cases rs with
    | cons r1 rs =>
      cases rs with
      | cons r2 rs =>
        cases rs
        obtain ⟨l, el, q1⟩ := dc_cases q1
        refine ⟨_, _, rfl, same_seqT ok1.sub hT, rfl, _, _, rfl, ?_⟩
        have s1 := rel1.slot j
        rw [el] at s1
        obtain ⟨a, es, _, _⟩ := s1
        refine ⟨.ref a, slot_some (K := X.K) (w := w1) (c := c1) (τ := τ) es, w1, c1, τ, rel1, wp_mono (wp_toPX (σ := σ) rel1.ext (wp_bind.1 q1)) (fun dk c2 _ q2 w2 H2 u e2 ok2 ru => ?_) fun _ _ _ _ k => k⟩
        obtain ⟨⟨g1, g2, g3⟩, q2⟩ := ite_ret q2
        obtain ⟨k', rfl⟩ := isKey_of g1
        have eu : u = kV k' := by
          cases k' with
          | inl i => cases ru; rfl
          | inr s => cases ru; rfl
        subst eu
        have rel2 := rel1.go e2 ok2
        obtain ⟨b, kvs, eb, hb, rk, o⟩ := rel2.dcAt el g3
        have eab : b = a := by rw [getD_of eb] at es; cases es; rfl
        subst eab
        refine ⟨b, _, rfl, DPut.k hb (by rw [rk.length, sizeLine_eq]; exact g2), _, _, rfl, rfl, ?_⟩
        exact q2 w2 _ _ ((rel2.dcPut el eb rk o (r1.le e2.le)).set i (r2.le e2.le))
  | .non, _, q1 => exact q1.elim
  | .bl _, _, q1 => exact q1.elim
  | .int _, _, q1 => exact q1.elim
  | .str _, _, q1 => exact q1.elim
  | .lst _, _, q1 => exact q1.elim
  | .dct _, _, q1 => exact q1.elim
  | .st, _, q1 => exact q1.elim
  | .scr _, _, q1 => exact q1.elim
  | .obj _, _, q1 => exact q1.elim
  | .tup [], _, q1 => exact q1.elim
  | .tup [_], _, q1 => exact q1.elim
  | .tup (_ :: _ :: _ :: _), _, q1 => exact q1.elim
end
end Mn

set_option Elab.async false
set_option linter.all false
set_option autoImplicit false
set_option maxRecDepth 100000
set_option maxHeartbeats 2000000
/-! Mn17: sorted of a dict's int keys. -/
namespace Mn
open PySem PySem.Spec PyProof.Rows L2
def intKeys : List (Mn.D × Mn.D) → Option (List Int)
  | [] => some []
  | (.int i, _) :: r => (intKeys r).map (i :: ·)
  | _ :: _ => none
def leI (a b : Int) : Bool := decide (a ≤ b)
def fSortedD : List Mn.D → M Mn.D
  | [.dct l] => (match intKeys l with
    | some ks => if ks.length < 64 then .ret (.lst ((ks.mergeSort leI).map Mn.D.int)) else .stk
    | none => .stk)
  | ds => fSorted ds
section
variable {X : Cx} {W : WX} {w0 w : Wd} {c : Nat} {H0 H : Hp} {τ : Sl} {σ : L2.St} {Q : VK}
theorem RepK.ints {K : PySem.W.Frag} : ∀ {kvs : List (Key × V)} {l : List (Mn.D × Mn.D)} {ks : List Int}, RepK K w kvs l → intKeys l = some ks → kvs.map (·.1) = ks.map Sum.inl
  | _, _, _, .nil, e => by cases e; rfl
  | _, _, ks, .cons (k := k) (ds := ds) r t, e => by
    cases k with
    | inr s => cases e
    | inl i =>
      simp only [keyD, intKeys] at e
      cases q : intKeys ds with
      | none => rw [q] at e; cases e
      | some ms =>
        rw [q] at e
        cases e
        rw [List.map_cons, RepK.ints t q]; rfl
theorem RepT.ints {K : PySem.W.Frag} : ∀ {kvs : List (List Key × V)} {l : List (Mn.D × Mn.D)} {ks : List Int}, RepT K w kvs l → l ≠ [] → intKeys l = some ks → False
  | _, _, _, .nil, h, _ => h rfl
  | _, _, _, .cons _ _, _, e => by cases e
theorem sort_uniq {ys ks : List Int} (p : ys.Perm ks) (s : ys.Pairwise (· ≤ ·)) : ys = ks.mergeSort leI := by
  have s2 : (ks.mergeSort leI).Pairwise (fun a b => leI a b = true) := List.pairwise_mergeSort (fun a b c h1 h2 => by unfold leI at *; simp only [decide_eq_true_eq] at *; omega) (fun a b => by unfold leI; simp only [Bool.or_eq_true, decide_eq_true_eq]; omega) ks
  refine List.Perm.eq_of_pairwise (le := fun a b : Int => a ≤ b) (fun a b _ _ h1 h2 => by omega) s (s2.imp fun h => by unfold leI at h; simpa using h) (p.trans (List.mergeSort_perm ks leI).symm)
abbrev rSortDD (K : PySem.W.Frag) : List V → Hp → VK → Prop := fun xs H Q => rSortD K xs H Q ∨ ∃ (a : Addr) (kvs : List (Key × V)) (ks : List Int), xs = [.ref a] ∧ Rd H a (.dK kvs) ∧ kvs.map (·.1) = ks.map Sum.inl ∧ ks.length < 64 ∧ ∀ (ys : List Int) (p : Addr), ys.Perm ks → ys.Pairwise (· ≤ ·) → H p = none → Q (.ref p) (upd H p (.lst (ys.map V.int)))
theorem cr_sortDD (hc : X.calm = true) (hu : X.A.units + 64 < cLine) : CallR X (.builtin "sorted") (rSortDD X.K) := (cr_sortD hu).or (call_sortedDI hc)
theorem rc_sortedD : RCF X W fSortedD (rSortDD X.K) := by
  intro w c H σ vs ds Q ok rs h
  by_cases hd : ∃ l, ds = [.dct l]
  · obtain ⟨l, rfl⟩ := hd
    obtain ⟨v, rfl, r⟩ := rs.one
    have h : wp (match intKeys l with
      | some ks => if ks.length < 64 then M.ret (Mn.D.lst ((ks.mergeSort leI).map Mn.D.int)) else .stk
      | none => .stk) c (FinF X w H Q) (PX X W w H σ) := h
    cases e : intKeys l with
    | none => rw [e] at h; exact h.elim
    | some ks =>
      rw [e] at h
      obtain ⟨h1, h⟩ := ite_ret h
      have fin : ∀ (a : Addr) (kvs : List (Key × V)), v = .ref a → Rd H a (.dK kvs) → RepK X.K w kvs l → rSortDD X.K [v] H Q := fun a kvs ev hr rk => by
        subst ev
        refine .inr ⟨a, kvs, ks, rfl, hr, rk.ints e, h1, fun ys p hp hs n => ?_⟩
        have ey := sort_uniq hp hs
        subst ey
        exact FinF.lst h ok (reps_ints _) n
      rcases r with r | ⟨_, _, _, _, e2, _⟩ | ⟨a, l', e1, e2, _, _, hh⟩
      · cases r with
        | dk q rk => exact fin _ _ rfl (.inr ⟨_, ok.sub _ _ q⟩) rk
        | dt n q rt => exact (rt.ints n e).elim
      · cases e2
      · cases e2
        rcases hh with ⟨kvs, q, rk⟩ | ⟨kvs, n, q, rt⟩
        · exact fin a kvs e1 (.inl q) rk
        · exact (rt.ints n e).elim
  · have e : fSortedD ds = fSorted ds := by
      unfold fSortedD
      split
      · rename_i l; exact absurd ⟨l, rfl⟩ hd
      · rfl
    rw [e] at h
    exact .inl (rc_sorted (X := X) (W := W) ok rs h)
end
end Mn

set_option Elab.async false
set_option linter.all false
set_option autoImplicit false
set_option maxRecDepth 100000
set_option maxHeartbeats 2000000
/-! Mn18: names that are read no more are forgotten. -/
namespace Mn
open PySem PySem.Spec PyProof.Rows L2
def sWipe (vs : List Nat) : XS := fun σ => .ret (.nx, Mn.wipe σ vs)
section
variable {X : Cx} {W : WX} {K : PySem.W.Frag} {w0 w : Wd} {c : Nat} {H0 H : Hp} {τ : Sl} {σ : L2.St}
theorem getD_set_un {τ : Sl} {i j : Nat} : (τ.set i .un).getD j .un = if i = j then .un else τ.getD j .un := by
  rw [List.getD_eq_getElem?_getD, List.getD_eq_getElem?_getD, List.getElem?_set]
  by_cases h : i = j
  · rw [if_pos h, if_pos h]
    split <;> rfl
  · rw [if_neg h, if_neg h]
theorem Rel.unT (i : Nat) (r : Rel K w0 H0 w c H τ σ) : Rel K w0 H0 w c H (τ.set i .un) σ := by
  refine ⟨r.ok, r.dom, r.ext, by rw [List.length_set]; exact r.len, fun j => ?_, fun j k a hjk h1 h2 e1 e2 => ?_⟩
  · rw [getD_set_un]
    split
    · exact True.intro
    · exact r.slot j
  · rw [getD_set_un] at h1 h2
    by_cases hj : i = j
    · rw [if_pos hj] at h1; cases h1
    · by_cases hk : i = k
      · rw [if_pos hk] at h2; cases h2
      · rw [if_neg hj] at h1
        rw [if_neg hk] at h2
        exact r.own j k a hjk h1 h2 e1 e2
theorem Rel.wipeT (r : Rel K w0 H0 w c H τ σ) : ∀ vs : List Nat, Rel K w0 H0 w c H (Mn.wipe τ vs) σ
  | [] => r
  | v :: vs => (Rel.wipeT r vs).unT v
theorem dss_wipe (vs : List Nat) {ss : List Stmt} {f : XS} (h : DSs X W ss f) : DSs X W ss (sSeq f (sWipe vs)) := by
  refine ⟨fun w0 H0 => (h.ok w0 H0).weak fun D' σ H ⟨w, c, τ, rel, q⟩ => ?_⟩
  refine ⟨w, c, τ, rel, wp_mono (wp_bind.1 q) (fun rr c' _ k => ?_) fun _ _ _ _ k => k⟩
  obtain ⟨fl, τ'⟩ := rr
  cases fl with
  | nx => exact fun w' H' σ' r' => k w' H' σ' (r'.wipeT vs)
  | rt d => exact k
end
theorem ap_Wipe {vs : List Nat} {σ : Sl} : sWipe vs σ = .ret (.nx, Mn.wipe σ vs) := rfl
end Mn

set_option Elab.async false
set_option linter.all false
set_option autoImplicit false
set_option maxRecDepth 100000
set_option maxHeartbeats 2000000
/-! Mn19: stores by a tuple where a name is a cell. -/
namespace Mn
open PySem PySem.Spec PyProof.Rows L2
section
variable {X : Cx} {W : WX} {w0 w : Wd} {c : Nat} {H0 H : Hp} {τ : Sl} {σ : L2.St}
theorem MixV.ext {K : PySem.W.Frag} {w w' : Wd} {H1 H H' : Hp} (x : Ext w H w' H') : ∀ {s : SV} {v : V}, MixV K w H1 H s v → MixV K w' H1 H' s v
  | .un, _, q => q
  | .val d, _, q => Rep.le x.le q
  | .own l, _, ⟨a, vs, e, n, n1, n2, ha, r⟩ => by
    obtain ⟨k1, k2, k3⟩ := x.keep a _ ha n1 n2
    exact ⟨a, vs, e, n, k2, k3, k1, r.le x.le⟩
  | .ownd l, _, ⟨a, e, n, n1, n2, q⟩ => by
    rcases q with ⟨kvs, ha, r⟩ | ⟨kvs, ne, ha, r⟩
    · obtain ⟨k1, k2, k3⟩ := x.keep a _ ha n1 n2
      exact ⟨a, e, n, k2, k3, .inl ⟨kvs, k1, r.le x.le⟩⟩
    · obtain ⟨k1, k2, k3⟩ := x.keep a _ ha n1 n2
      exact ⟨a, e, n, k2, k3, .inr ⟨kvs, ne, k1, r.le x.le⟩⟩
theorem MixVs.ext {K : PySem.W.Frag} {w w' : Wd} {H1 H H' : Hp} (x : Ext w H w' H') : ∀ {s : List SV} {v : List V}, MixVs K w H1 H s v → MixVs K w' H1 H' s v
  | [], [], q => q
  | _ :: _, _ :: _, ⟨a, b, t⟩ => ⟨a.ext x, b, MixVs.ext x t⟩
  | [], _ :: _, q => q.elim
  | _ :: _, [], q => q.elim
theorem tM_alloc {f : XM} {Q : List V → Hp → Prop} (h : tM X W w0 H0 f σ H Q) : tM X W w0 H0 f σ H fun vs H1 => Q vs H1 ∧ ∀ p, H1 p = none → Q vs (upd H1 p (.tup vs)) := by
  obtain ⟨w, c, τ, rel, q⟩ := h
  refine ⟨w, c, τ, rel, wp_mono q (fun ss c' _ k w' H' vs e ok m => ⟨k w' H' vs e ok m, fun p n => ?_⟩) fun _ _ _ _ k => k⟩
  obtain ⟨o2, e2⟩ := ok.made n (.tup vs)
  exact k w' _ vs (e.trans e2) o2 (m.ext e2)
theorem tM_mono {f : XM} {Q Q' : List V → Hp → Prop} (h : tM X W w0 H0 f σ H Q) (hq : ∀ vs H1, Q vs H1 → Q' vs H1) : tM X W w0 H0 f σ H Q' := by
  obtain ⟨w, c, τ, rel, q⟩ := h
  exact ⟨w, c, τ, rel, wp_mono q (fun ss c' _ k w' H' vs e ok m => hq _ _ (k w' H' vs e ok m)) fun _ _ _ _ k => k⟩
theorem ds_parT {i j : Nat} {a b : Expr} {f : XM} {x y : Str} {px py pt pos : Pos} {kt k2 pt2} (hc : X.calm = true) (hN : X.N.Nodup) (ha : DMs X W [a, b] f) (hi : X.N[i]? = some x := by rfl) (hj : X.N[j]? = some y := by rfl)
    (hx : Loc X.env.scope x := by first | exact Or.inl rfl | exact Or.inr rfl) (hy : Loc X.env.scope y := by first | exact Or.inl rfl | exact Or.inr rfl)
    (hfx : X.fn x = true ∨ X.env.scope.names.lookup x = some .local := by first | exact .inl rfl | exact .inr rfl) (hfy : X.fn y = true ∨ X.env.scope.names.lookup y = some .local := by first | exact .inl rfl | exact .inr rfl)
    (hs : swapsWithSole [.Tuple [.Name x px, .Name y py] kt pt] (.Tuple [a, b] k2 pt2) pos.line X.env = pure false := by rfl) (hw : swappedStores [.Tuple [.Name x px, .Name y py] kt pt] (.Tuple [a, b] k2 pt2) X.env = pure none := by rfl)
    (h1 : (assignEach [.Tuple [.Name x px, .Name y py] kt pt] X.env).map (·.2) = [assign (.Tuple [.Name x px, .Name y py] kt pt) X.env] := by rfl)
    (ha1 : (assignEach [.Name x px, .Name y py] X.env).map (·.2) = assign (.Name x px) X.env :: (assignEach [.Name y py] X.env).map (·.2) := by rfl)
    (ha2 : (assignEach [.Name y py] X.env).map (·.2) = assign (.Name y py) X.env :: (assignEach [] X.env).map (·.2) := by rfl)
    (hn : (assignEach [.Name x px, .Name y py] X.env).length = 2 := by rfl) (hst : (assignEach [.Name x px, .Name y py] X.env).findIdx? (·.1) = none := by rfl) :
    DS X W (.Assign [.Tuple [.Name x px, .Name y py] kt pt] (.Tuple [a, b] k2 pt2) pos) (sPar [i, j] f) := by
  have hg : PG X (.Tuple [.Name x px, .Name y py] kt pt) (gTup X.K 2 (gCons (gName i) (gCons (gName j) gNil))) := pg_tup hc (pgs_cons (pg_name hN hi hx hfx) (pgs_cons (pg_name hN hj hy hfy) pgs_nil ha2) ha1) hn hst
  refine ⟨fun w0 H0 => (ps_asg (pe_tup (ha.ok w0 H0)) hg hs hw h1).weak fun D' σ H h => ?_⟩
  have q := tM_alloc (par_of h)
  refine tM_mono q fun vs H1 ⟨⟨hl, _⟩, k⟩ => ⟨by rw [hl, sizeLine_eq]; simp, fun p n => ?_⟩
  obtain ⟨_, k⟩ := k p n
  match vs, hl, k with
  | [v, u], _, k => exact ⟨p, [v, u], rfl, .inl (.inl (by rw [upd_same])), rfl, v, [u], rfl, u, [], rfl, rfl, k⟩
end
end Mn

set_option Elab.async false
set_option linter.all false
set_option autoImplicit false
set_option maxRecDepth 100000
set_option maxHeartbeats 2000000
/-! Mn20: sorted of a tuple. -/
namespace PySem.W
open PySem PySem.Calls PyProof.Rows
section
variable {prog : Program} {w : World} {A : Around} {E : Value → Shared → Prop} {s : Shared}
theorem collect_tupM {l : Addr} {vs : List Value} {Q : List Value → Shared → Prop} (hl : s.heap.IsTuple l vs.toArray)
    (h : Q vs { s with heap := (s.heap.push (seqObj "list" #[] 0)).update s.heap.objs.size (Obj.mapSeq (· ++ vs.toArray)) }) (hsz : vs.length ≤ sizeLine) :
    wpAny (model prog w) A (collect (.ref l)) Q E s := by
  obtain ⟨o, ho, hc, n, hd⟩ := id hl
  unfold collect
  refine wpAny_bind (wpAny_runValue (codeAny_builtin entry_proto_collect' ?_))
  show wpAny _ _ (do again (.builtin "list.__iadd__" ⟨[← newList [], .ref l], []⟩)) _ _ s
  refine wpAny_bind (wpAny_newList (wpAny_pure ⟨Code.quiet_builtin _ (by decide +kernel), codeAny_builtin entry_list_iadd' ?_⟩))
  show wpAny _ _ (Builtin.List.listExtendWith (.ref s.heap.objs.size) (.ref l) (.ref s.heap.objs.size)) _ _ { s with heap := s.heap.push (seqObj "list" #[] 0) }
  unfold Builtin.List.listExtendWith
  have ho' : (s.heap.push (seqObj "list" #[] 0)).get? l = some o := Heap.get?_push_of_some _ ho
  refine wpAny_bind (wpAny_typeOf (T := "tuple") ⟨o, ho', hc⟩ ?_)
  have ht : (Value.type "tuple" == Value.type "tuple") = true := by rfl
  rw [if_pos (by rw [ht]; simp)]
  refine wpAny_bind (listItems_at ho' hd ?_)
  refine wpAny_bind (listItems_at (xs := #[]) (n := 0) (Heap.get?_push_size _ rfl) rfl ?_)
  rw [if_neg (by simp)]
  refine wpAny_bind (listUpdate_at (xs := #[]) (n := 0) (Heap.get?_push_size _ rfl) rfl ?_ (Nat.zero_le _) (by show (#[] ++ vs.toArray).size ≤ sizeLine + 1; simp only [Array.size_append, List.size_toArray, List.length_nil]; omega))
  refine wpAny_pure ?_
  show wpAny (model prog w) A (do
      let o ← load s.heap.objs.size
      match o.data with
      | .seq xs _ => pure xs.toList
      | _ => unsupported "internal:collect") Q E { s with heap := (s.heap.push (seqObj "list" #[] 0)).update s.heap.objs.size (Obj.mapSeq (· ++ vs.toArray)) }
  refine wpAny_bind (wpAny_load (get?_update_seq (Heap.get?_push_size _ rfl) _) ?_)
  show wpAny _ _ (pure ((#[] : Array Value) ++ vs.toArray).toList) Q E _
  rw [show ((#[] : Array Value) ++ vs.toArray).toList = vs by simp]
  exact wpAny_pure h
theorem sorted_of_sortT {l : Addr} {vs : List Value} {kw : List (Str × Value)} {Q : Value → Shared → Prop} (hl : s.heap.IsTuple l vs.toArray) (hL : vs.length ≤ sizeLine) (ha1 : argsOk "sorted" ⟨[.ref l], kw⟩) (ha2 : ∀ x, argsOk "list.sort" ⟨[.ref x], kw⟩)
    (body : ∀ E' : Value → Shared → Prop, wpAny (model prog w) A.in1.in1 (Builtin.«list.sort» ⟨[.ref (s.heap.objs.size + 1)], kw⟩) (fun f s' => f = .done (.ret .none) ∧ Q (.ref (s.heap.objs.size + 1)) s') E' { s with heap := copyHeap s.heap vs }) :
    wpAny (model prog w) A (call (.builtin "sorted") [.ref l] kw) Q E s := by
  refine call_function_entry_kw kind_sorted plain_sorted entry_sorted ha1 ?_
  unfold Builtin.«sorted»
  refine wpAny_bind (m := checkCount "sorted" 1 1 _) (wpAny_pure ?_)
  refine wpAny_bind (collect_tupM hl ?_ hL)
  refine wpAny_bind (wpAny_newList ?_ hL)
  have hsz : ((s.heap.push (seqObj "list" #[] 0)).update s.heap.objs.size (Obj.mapSeq (· ++ vs.toArray))).objs.size = s.heap.objs.size + 1 := by
    rw [Heap.size_update, size_push']
  show wpAny _ _ _ _ _ { s with heap := copyHeap s.heap vs }
  rw [hsz]
  refine wpAny_bind (wpAny_holding (wpAny_call_entry_kw slot_list_sort ⟨_, copyHeap_at s.heap vs, rfl⟩ entry_list_sort ?body (ha2 _)))
  case body =>
    show wpAny (model prog w) A.in1.in1 (Builtin.«list.sort» ⟨[.ref (s.heap.objs.size + 1)], kw⟩) _ _ _
    refine wpAny_mono (body _) (fun f s' hf => ?_) fun _ _ e => e
    obtain ⟨rfl, hq⟩ := hf
    exact ⟨_, rfl, wpAny_pure ⟨_, rfl, hq⟩⟩
theorem sorted_dataT {β : Type} {vs : List Value} {bs : List β} {enc : β → PyData} {R : Value → β → Prop} {l : Addr} {Q : Value → Shared → Prop} (hl : s.heap.IsTuple l vs.toArray) (e : EachIs R vs bs) (er : EachIs (fun v b => ∃ as, Reads s.heap v (enc b) as) vs bs) (hal : AllAlike (bs.map enc)) (hk : Sortable (bs.map enc)) (hL : bs.length ≤ sizeLine)
    (hu : ∀ b, b ∈ bs → A.units + 2 + (enc b).depth < cLine) (h : ∀ out, out.length = bs.length → EachIs R out (bs.mergeSort (dataLe false enc)) → Q (.ref (s.heap.objs.size + 1)) { s with heap := sortedAll s.heap vs (List.toArray out) }) :
    wpAny (model prog w) A (call (.builtin "sorted") [.ref l]) Q E s := by
  have er' : EachIs (fun v b => ∃ as, Reads (sortingHeap (copyHeap s.heap vs) (s.heap.objs.size + 1) vs) v (enc b) as) vs bs := er.mono fun _ _ ⟨as, r⟩ => ⟨as, PyProof.Rows.Reads.keeps (fun _ _ => sorting_copy_old) r⟩
  have S : SortsAt prog w A.in1.in1 { s with heap := sortingHeap (copyHeap s.heap vs) (s.heap.objs.size + 1) vs } _ vs := (SortsAt.data (s := { s with heap := sortingHeap (copyHeap s.heap vs) (s.heap.objs.size + 1) vs }) (each_map (R := fun v d => ∃ as, Reads (sortingHeap (copyHeap s.heap vs) (s.heap.objs.size + 1) vs) v d as) enc er') hal hk (bound_map hu))
  have hL' : vs.length ≤ sizeLine := by rw [e.length]; exact hL
  exact sorted_of_sortT hl hL' (args_sorted1 _) (fun _ => args_list_sort _) fun _ => list_sort_vals (s := { s with heap := copyHeap s.heap vs }) (copyHeap_at s.heap vs) S hL'
    ⟨rfl, h _ (by rw [sortVals_length false rfl]; exact e.length) (sortVals_data false e er' hal)⟩
end
end PySem.W
namespace Mn
open PySem PySem.Spec PyProof.Rows L2
/-- sorted: of a list or a tuple -/
def fSortedT : List Mn.D → M Mn.D
  | [.lst l] => if sortable l then .ret (.lst (l.mergeSort dLe)) else .stk
  | [.tup l] => if sortable l then .ret (.lst (l.mergeSort dLe)) else .stk
  | _ => .stk
section
variable {X : Cx} {W : WX} {w0 w : Wd} {c : Nat} {H0 H : Hp} {τ : Sl} {σ : L2.St} {Q : VK}
def rSortT (K : PySem.W.Frag) : List V → Hp → VK → Prop := fun xs H Q => ∃ (a : Addr) (bs : List (V × Mn.D)), xs = [.ref a] ∧ SqT K H a (bs.map (·.1)) ∧ DpAll K H (bs.map (·.1)) (toPs (bs.map (·.2))) ∧ flats 49 (bs.map (·.2)) = true ∧ alikeB (bs.map (·.2)) = true ∧ (tupsB (bs.map (·.2)) || othersB (bs.map (·.2))) = true ∧
  ∀ p, H p = none → Q (.ref p) (upd H p (.lst ((bs.mergeSort fun x y => dLe x.2 y.2).map (·.1))))
theorem cr_sortTup (hu : X.A.units + 64 < cLine) : CallR X (.builtin "sorted") (rSortT X.K) := by
  intro pins s σ H vs us Q I r h
  obtain ⟨a, bs, rfl, hs, hd, hf, ha, hk, q⟩ := h
  obtain ⟨its, rv, hl, hz⟩ := I.tuple hs
  obtain ⟨u, rfl, rx⟩ := vals1 r
  cases rx
  obtain ⟨as, ra⟩ := Dp.readsAll I _ _ _ hd rv
  have em : toPs (bs.map (·.2)) = bs.map fun b => toP b.2 := by rw [toPs_map, List.map_map]; rfl
  rw [em] at ra
  have ha' := List.all_eq_true.mp ha
  have hl' : s.heap.IsTuple a its.toArray := by
    obtain ⟨o, e1, e2, n, e3⟩ := hl
    exact ⟨o, e1, e2, n, e3⟩
  refine PySem.W.sorted_dataT (R := fun v b => RelV b.1 v) (enc := fun b : V × Mn.D => toP b.2) (bs := bs) hl' (each_vals bs its rv) (PySem.W.readsAll_each (fun b : V × Mn.D => toP b.2) ra) (fun d hdm d' hdm' => ?_) ?_ (by rw [List.length_map] at hz; exact hz) (fun b hb => ?_) fun out hlen he => ?_
  · obtain ⟨x, hx, rfl⟩ := List.mem_map.mp hdm
    obtain ⟨y, hy, rfl⟩ := List.mem_map.mp hdm'
    exact List.all_eq_true.mp (ha' x.2 (List.mem_map.mpr ⟨x, hx, rfl⟩)) y.2 (List.mem_map.mpr ⟨y, hy, rfl⟩)
  · rcases Bool.or_eq_true_iff.mp hk with hk | hk
    · refine .inl fun d hdm => ?_
      obtain ⟨x, hx, rfl⟩ := List.mem_map.mp hdm
      have := List.all_eq_true.mp hk x.2 (List.mem_map.mpr ⟨x, hx, rfl⟩)
      show ∃ x_1 r, toP x.2 = _
      split at this
      · rename_i _ y ys e
        rw [e]
        exact ⟨toP y, toPs ys, by simp only [toP, toPs]⟩
      · cases this
    · refine .inr fun d hdm => ?_
      obtain ⟨x, hx, rfl⟩ := List.mem_map.mp hdm
      have := List.all_eq_true.mp hk x.2 (List.mem_map.mpr ⟨x, hx, rfl⟩)
      have hfx := flats_mem hf (List.mem_map.mpr ⟨x, hx, rfl⟩)
      show toP x.2 ≠ _ ∧ ∀ xs, toP x.2 ≠ _
      cases e : x.2 with
      | non => rw [e] at this; cases this
      | tup l => rw [e] at this; cases this
      | dct l => rw [e] at hfx; cases hfx
      | st => rw [e] at hfx; cases hfx
      | scr l => rw [e] at hfx; cases hfx
      | obj l => rw [e] at hfx; cases hfx
      | _ => exact ⟨by simp [toP], by simp [toP]⟩
  · have h1 := depth_of b.2 49 (flats_mem hf (List.mem_map.mpr ⟨b, hb, rfl⟩))
    omega
  · obtain ⟨ep, he'⟩ := PyProof.Rows.sortedAll_at s.heap its out.toArray
    have hv := vals_each _ _ he
    have hlen2 : ((bs.mergeSort fun x y => dLe x.2 y.2).map (·.1)).length ≤ sizeLine := by rw [List.length_map, List.length_mergeSort]; rw [List.length_map] at hz; exact hz
    exact ⟨.ref _, upd H (s.heap.objs.size + 1) (.lst _), I.laid (t' := s.toks) (fun _ _ => PyProof.Rows.sortedAll_old) (Nat.le_succ _) ⟨hlen2, out, ep, hv, he'⟩, rfl, q _ (I.hok.fresh (Nat.le_succ _))⟩
theorem rc_sortT : RCF X W fSortedT (fun vs H Q => rSortD X.K vs H Q ∨ rSortT X.K vs H Q) := by
  intro w c H σ vs ds Q ok rs h
  have ms : ∀ bs : List (V × Mn.D), (bs.map (·.2)).mergeSort dLe = (bs.mergeSort fun x y => dLe x.2 y.2).map (·.2) := fun bs => (List.map_mergeSort (f := fun b : V × Mn.D => b.2) (r := fun x y => dLe x.2 y.2) (s := dLe) (l := bs) (fun _ _ _ _ => rfl)).symm
  match ds, rs, h with
  | [], _, h => exact h.elim
  | d :: _ :: _, _, h => cases d <;> exact (show False from h).elim
  | [d], rs, h =>
    cases d with
    | lst l =>
      refine .inl (rc_sorted (X := X) (W := W) (σ := σ) ok rs ?_)
      exact h
    | tup l =>
      obtain ⟨v, rfl, r⟩ := rs.one
      obtain ⟨h1, h2⟩ := ite_ret (show wp (if sortable l then M.ret (Mn.D.lst (l.mergeSort dLe)) else .stk) c (FinF X w H Q) _ from h)
      have h3 := Bool.and_eq_true_iff.mp h1
      have h4 := Bool.and_eq_true_iff.mp h3.1
      rcases r with r | ⟨_, _, _, _, e, _⟩ | ⟨_, _, _, e, _⟩
      · cases r with
        | tup hs ru =>
          obtain ⟨bs, e1, e2, hb⟩ := pairs_reps ru
          subst e1 e2
          refine .inr ⟨_, bs, rfl, same_seqT ok.sub hs, reps_dp ok.sub 49 ru h4.1, h4.1, h4.2, h3.2, fun p n => FinF.lst h2 ok ?_ n⟩
          rw [ms bs]
          exact reps_pairs _ fun b hm => hb b ((List.mergeSort_perm _ _).mem_iff.mp hm)
      · cases e
      · cases e
    | non => exact h.elim
    | bl _ => exact h.elim
    | int _ => exact h.elim
    | str _ => exact h.elim
    | dct _ => exact h.elim
    | st => exact h.elim
    | scr _ => exact h.elim
    | obj _ => exact h.elim
end
end Mn

set_option Elab.async false
set_option linter.all false
set_option autoImplicit false
set_option maxRecDepth 100000
set_option maxHeartbeats 2000000
namespace Mn
open PySem PySem.Spec PyProof.Rows L2
theorem walk_own {l : PySem.W.OpenLaw} {n k : Nat} {q : Program} {loose : List Str} {XP : (Str → Option Value) → Heap → Prop} {YP : World → Heap → Prop} {d : DefRec} {x : Str}
    (hn : l.most = some n) (hn2 : n ≤ sizeLine) (hdf : d.params.defaults = []) (hr : Room k callerA)
    (F : ∀ (w : World) (mg : Str → Option Value) (fa : Addr) (h : Heap), YP w h → h.Ns mainGlobals mg → mg d.name = some (.ref fa) →
      ∃ (K : PySem.W.Frag) (fd : FuncData) (sp : Sp), K.In h ∧ (∀ (s : Shared) (u : Value), BindsTo s fd ⟨[u], []⟩ [(x, u)]) ∧
        (∀ (H : Hp) (a : Addr) (ns : List Int), ns.length ≤ n → SqL K H a (ns.map V.int) → sp [.ref a] H (fun v _ => v = .bl true) fun _ _ _ => False) ∧
        ∀ base : Heap, K.In base → base.Ns mainGlobals mg → FnOk l.prog w K mg base (L2.CX l.prog w) k fa fd [x] sp) :
    PySem.W.WalkO q loose XP YP l.row.toRowW d [] (fun f vs => PySem.call f vs) := by
  refine Att.attach_call hn hdf fun w s₀ s₁ mg mb fa o pm cd doc a vs ns G Y ho hd hcd hmg hobj hints hlen hg => ?_
  obtain ⟨K, fd, sp, KX, hb, hsp, hF⟩ := F w mg fa _ Y G.T.g hmg
  exact law_call KX G.T.g G.T.b G.T.builtins G.T.nolimit hg hobj hints (Nat.le_trans hlen hn2) hr hF hb (fun H hO hS => hsp H a ns hlen hS) fun H e s' ⟨_, _, _, _, _, _, _, _, _, _, _, _, w⟩ => w.elim
end Mn

set_option Elab.async false
set_option linter.all false
set_option autoImplicit false
set_option maxRecDepth 100000
set_option maxHeartbeats 2000000
/-! Mm: plain laws of the combinators. -/
namespace Mn
/-- m makes at most k draws, lets nothing out, and ends by Q -/
structure Runs {α : Type} (m : M α) (k : Nat) (Q : α → Prop) : Prop where
  go : ∀ c, k ≤ c → wp m c (fun a c' => c ≤ c' + k ∧ Q a) (fun _ _ _ => False)
section
variable {α β : Type} {m : M α} {Q Q' : α → Prop}
theorem Runs.ret {a : α} {k : Nat} (h : Q a) : Runs (.ret a) k Q := ⟨fun c _ => ⟨Nat.le_add_right _ _, h⟩⟩
theorem Runs.draw {n : Int} {f : Int → M α} {k : Nat} (h0 : 0 < n) (h1 : n < 1000000000) (h : ∀ r, 0 ≤ r → r < n → Runs (f r) k Q) : Runs (.draw n f) (k + 1) Q := ⟨fun c hc =>
  ⟨⟨h0, h1, by omega⟩, fun r r0 r1 => wp_mono ((h r r0 r1).go (c - 1) (by omega)) (fun a c' _ ⟨z, q⟩ => ⟨by omega, q⟩) fun _ _ _ _ k => k⟩⟩
theorem Runs.bind {f : α → M β} {k j : Nat} {R : β → Prop} (h : Runs m k Q) (hf : ∀ a, Q a → Runs (f a) j R) : Runs (m.bind f) (k + j) R := ⟨fun c hc => by
  refine wp_bind.2 (wp_mono (h.go c (by omega)) (fun a c' hc' ⟨z, q⟩ => ?_) fun _ _ _ _ k => k)
  exact wp_mono ((hf a q).go c' (by omega)) (fun b c2 _ ⟨z2, q2⟩ => ⟨by omega, q2⟩) fun _ _ _ _ k => k⟩
theorem Runs.mono {k k' : Nat} (h : Runs m k Q) (hk : k ≤ k') (hq : ∀ a, Q a → Q' a) : Runs m k' Q' := ⟨fun c hc => wp_mono (h.go c (by omega)) (fun a c' _ ⟨z, q⟩ => ⟨by omega, hq a q⟩) fun _ _ _ _ k => k⟩
theorem Runs.le {k k' : Nat} (h : Runs m k Q) (hk : k ≤ k') : Runs m k' Q := h.mono hk fun _ q => q
theorem Runs.noX {k : Nat} (h : Runs m k Q) : Runs (noX m) k Q := ⟨fun c hc => wp_noX.2 (h.go c hc)⟩
theorem Runs.wp {k c : Nat} (h : Runs m k Q) (hk : k ≤ c) : wp m c (fun a _ => Q a) (fun _ _ _ => False) := wp_mono (h.go c hk) (fun a c' _ ⟨_, q⟩ => q) fun _ _ _ _ k => k
end
/-- where a turn ends -/
def RIs (I : Sl → Prop) (R : D → Prop) (r : Fl × Sl) : Prop := match r with
  | (.nx, σ) => I σ
  | (.rt d, _) => R d
theorem runs_for {g : Tg} {b : XS} {R : D → Prop} {k : Nat} : ∀ (ds : List D) (I : Nat → Sl → Prop) (σ : Sl), I 0 σ → (∀ i d, ds[i]? = some d → ∀ σ, I i σ → ∃ σ1, g.go d σ = some σ1 ∧ Runs (b σ1) k (RIs (I (i + 1)) R)) →
    Runs (forGo g b ds σ) (ds.length * k) (RIs (I ds.length) R)
  | [], I, σ, h, _ => .ret h
  | d :: ds, I, σ, h, step => by
    obtain ⟨σ1, e, r⟩ := step 0 d rfl σ h
    have e2 : forGo g b (d :: ds) σ = (b σ1).bind fun r => match r with
      | (.nx, σ2) => forGo g b ds σ2
      | (.rt d, σ2) => .ret (.rt d, σ2) := by
      show (ofO (g.go d σ)).bind _ = _
      rw [e]; rfl
    rw [e2, List.length_cons, Nat.add_mul, Nat.one_mul, Nat.add_comm]
    refine r.bind fun a ha => ?_
    obtain ⟨fl, σ2⟩ := a
    cases fl with
    | nx => exact runs_for ds (fun i => I (i + 1)) σ2 ha fun i d hd σ hi => step (i + 1) d hd σ hi
    | rt d => exact .ret ha
theorem lcGo_pure {α : Type} {enc : α → D} {g : Tg} {t : XB} {e : XE} {σ : Sl} {p : α → Bool} {f : α → D} : ∀ (l : List α), (∀ x ∈ l, ∃ σ1, g.go (enc x) σ = some σ1 ∧ t σ1 = .ret (p x) ∧ (p x = true → e σ1 = .ret (f x))) →
    lcGo g t e σ (l.map enc) = .ret ((l.filter p).map f)
  | [], _ => rfl
  | x :: l, h => by
    obtain ⟨σ1, e1, e2, e3⟩ := h x List.mem_cons_self
    have ih := lcGo_pure l fun y hy => h y (List.mem_cons_of_mem _ hy)
    show (ofO (g.go (enc x) σ)).bind _ = _
    rw [e1]
    simp only [ofO_some, M.ret_bind, e2]
    cases hp : p x with
    | true =>
      rw [if_pos rfl, e3 hp]
      simp only [M.ret_bind, ih, List.filter_cons, hp, if_true, List.map_cons]
    | false =>
      rw [if_neg Bool.false_ne_true]
      simp only [ih, List.filter_cons, hp, Bool.false_eq_true, if_false]
theorem lc_pure {α : Type} {enc : α → D} {g : Tg} {t : XB} {e : XE} {σ : Sl} {src : XA} {vs : List Nat} {p : α → Bool} {f : α → D} {l : List α} (hs : src σ = .ret (l.map enc)) (h : ∀ x ∈ l, ∃ σ1, g.go (enc x) (wipe σ vs) = some σ1 ∧ t σ1 = .ret (p x) ∧ (p x = true → e σ1 = .ret (f x))) :
    xLc src vs g t e σ = .ret (.lst ((l.filter p).map f)) := by
  unfold xLc
  rw [hs, M.ret_bind, lcGo_pure l h]; rfl
theorem lc_all {α : Type} {enc : α → D} {g : Tg} {e : XE} {σ : Sl} {src : XA} {vs : List Nat} {f : α → D} {l : List α} (hs : src σ = .ret (l.map enc)) (h : ∀ x ∈ l, ∃ σ1, g.go (enc x) (wipe σ vs) = some σ1 ∧ e σ1 = .ret (f x)) :
    xLc src vs g bYes e σ = .ret (.lst (l.map f)) := by
  rw [lc_pure (t := bYes) (p := fun _ => true) hs fun x hx => let ⟨σ1, a, b⟩ := h x hx; ⟨σ1, a, rfl, fun _ => b⟩]
  rw [List.filter_eq_self.mpr fun _ _ => rfl]
theorem runs_lcE {g : Tg} {e : XE} {σ : Sl} {R : D → Prop} {k : Nat} : ∀ (ds : List D), (∀ d ∈ ds, ∃ σ1, g.go d σ = some σ1 ∧ Runs (e σ1) k R) → Runs (lcGo g bYes e σ ds) (ds.length * k) (fun xs => xs.length = ds.length ∧ ∀ x ∈ xs, R x)
  | [], _ => .ret ⟨rfl, fun _ h => by cases h⟩
  | d :: ds, h => by
    obtain ⟨σ1, e1, r⟩ := h d List.mem_cons_self
    have e2 : lcGo g bYes e σ (d :: ds) = (e σ1).bind fun x => (lcGo g bYes e σ ds).bind fun xs => .ret (x :: xs) := by
      show (ofO (g.go d σ)).bind _ = _
      rw [e1]; rfl
    rw [e2, List.length_cons, Nat.add_mul, Nat.one_mul, Nat.add_comm]
    refine r.bind fun x hx => ?_
    have ih := runs_lcE (g := g) (e := e) (σ := σ) (R := R) (k := k) ds fun y hy => h y (List.mem_cons_of_mem _ hy)
    refine (ih.bind (j := 0) fun xs ⟨h1, h2⟩ => .ret ?_).le (by omega)
    refine ⟨by rw [List.length_cons, h1], fun y hy => ?_⟩
    rcases List.mem_cons.mp hy with rfl | hy
    · exact hx
    · exact h2 y hy
theorem runs_lcF {α : Type} {enc f : α → D} {g : Tg} {t : XB} {e : XE} {σ : Sl} {k : Nat} : ∀ (l : List α), (∀ x ∈ l, ∃ σ1, g.go (enc x) σ = some σ1 ∧ Runs (t σ1) k (fun _ => True) ∧ e σ1 = .ret (f x)) → Runs (lcGo g t e σ (l.map enc)) (l.length * k) (fun xs => ∃ l' : List α, l'.Sublist l ∧ xs = l'.map f)
  | [], _ => .ret ⟨[], .refl _, rfl⟩
  | d :: ds, h => by
    obtain ⟨σ1, e1, r, e3⟩ := h d List.mem_cons_self
    have e2 : lcGo g t e σ ((d :: ds).map enc) = (t σ1).bind fun b => if b then (lcGo g t e σ (ds.map enc)).bind fun xs => .ret (f d :: xs) else lcGo g t e σ (ds.map enc) := by
      show (ofO (g.go (enc d) σ)).bind _ = _
      rw [e1]
      simp only [ofO_some, M.ret_bind, e3]
    rw [e2, List.length_cons, Nat.add_mul, Nat.one_mul, Nat.add_comm]
    have ih := runs_lcF (g := g) (t := t) (e := e) (σ := σ) (k := k) ds fun y hy => h y (List.mem_cons_of_mem _ hy)
    refine r.bind fun b _ => ?_
    cases b with
    | true => exact (ih.bind (j := 0) fun xs ⟨l', h1, h2⟩ => .ret ⟨d :: l', .cons_cons d h1, by rw [h2]; rfl⟩).le (by omega)
    | false => exact ih.mono (Nat.le_refl _) fun xs ⟨l', h1, h2⟩ => ⟨l', .cons d h1, h2⟩
theorem runs_lc {src : XA} {vs : List Nat} {g : Tg} {t : XB} {e : XE} {σ : Sl} {ds : List D} {k : Nat} {P : List D → Prop} (hs : src σ = .ret ds) (h : Runs (lcGo g t e (wipe σ vs) ds) k P) : Runs (xLc src vs g t e σ) k (fun d => ∃ xs, d = .lst xs ∧ P xs) := by
  unfold xLc
  rw [hs, M.ret_bind]
  exact (h.noX.bind (j := 0) fun xs hx => .ret ⟨xs, rfl, hx⟩).le (by omega)
/-! places -/
theorem itemI_nat {l : List D} {i : Nat} (h : i < l.length) : itemI l (i : Int) = some l[i] := by
  unfold itemI placeI
  rw [if_pos (by omega), if_pos (by omega)]
  simp [h]
theorem itemI_at {l : List D} {i : Int} (h0 : 0 ≤ i) (h : i < l.length) : itemI l i = l[i.toNat]? := by
  unfold itemI placeI
  rw [if_pos h0, if_pos h]; rfl
theorem upTo_map : ∀ (n : Nat) (a : Int), upTo a n = (List.range n).map fun i => D.int (a + (i : Nat))
  | 0, _ => rfl
  | n + 1, a => by
    rw [List.range_succ_eq_map, List.map_cons, List.map_map, upTo, upTo_map n (a + 1)]
    congr 1
    · simp
    · apply List.map_congr_left
      intro i _
      simp only [Function.comp]
      congr 1
      omega
theorem upTo0 (n : Nat) : upTo 0 n = (List.range n).map fun i => D.int (i : Nat) := by rw [upTo_map]; simp
theorem numbered_map {α : Type} (enc : α → D) : ∀ (l : List α) (k : Nat), numbered k (l.map enc) = (l.zipIdx k).map fun p => D.tup [.int (p.2 : Nat), enc p.1]
  | [], _ => rfl
  | x :: l, k => by
    simp only [List.map_cons, numbered, List.zipIdx_cons]
    congr 1
    have := numbered_map enc l (k + 1)
    push_cast at this
    exact this
theorem paired_map {α β : Type} (f : α → D) (g : β → D) : ∀ (l : List α) (r : List β), paired (l.map f) (r.map g) = (l.zip r).map fun p => D.tup [f p.1, g p.2]
  | [], r => by simp [paired]
  | x :: l, [] => by simp [paired]
  | x :: l, y :: r => by simp [paired, paired_map f g l r]
theorem intsOf_map (l : List Int) : intsOf (l.map D.int) = some l := by
  induction l with
  | nil => rfl
  | cons x l ih => simp [intsOf, ih]
theorem bulsOf_map (l : List Bool) : bulsOf (l.map D.bl) = some l := by
  induction l with
  | nil => rfl
  | cons x l ih => simp [bulsOf, ih]
theorem intsOf_mapf {α : Type} (f : α → Int) (l : List α) : intsOf (l.map fun x => D.int (f x)) = some (l.map f) := by
  rw [← intsOf_map, List.map_map]; rfl
theorem bulsOf_mapf {α : Type} (f : α → Bool) (l : List α) : bulsOf (l.map fun x => D.bl (f x)) = some (l.map f) := by
  rw [← bulsOf_map, List.map_map]; rfl
/-! equality of data that is told alike -/
theorem pyEqs_refl' {l : List D} (h : ∀ d ∈ l, pyEq d d = true) : pyEqs l l = true := by
  induction l with
  | nil => rfl
  | cons x l ih => simp [pyEqs, h x List.mem_cons_self, ih fun d hd => h d (List.mem_cons_of_mem _ hd)]
theorem for_pure {α : Type} {enc : α → D} {g : Tg} {b : XS} : ∀ (l : List α) (I : Nat → Sl → Prop) (σ : Sl), I 0 σ → (∀ i x, l[i]? = some x → ∀ σ, I i σ → ∃ σ1 σ2, g.go (enc x) σ = some σ1 ∧ b σ1 = .ret (.nx, σ2) ∧ I (i + 1) σ2) →
    ∃ σ', forGo g b (l.map enc) σ = .ret (.nx, σ') ∧ I l.length σ'
  | [], I, σ, h, _ => ⟨σ, rfl, h⟩
  | x :: l, I, σ, h, step => by
    obtain ⟨σ1, σ2, e1, e2, h2⟩ := step 0 x rfl σ h
    obtain ⟨σ', e3, h3⟩ := for_pure l (fun i => I (i + 1)) σ2 h2 fun i y hy σ hi => step (i + 1) y hy σ hi
    refine ⟨σ', ?_, h3⟩
    show (ofO (g.go (enc x) σ)).bind _ = _
    rw [e1, ofO_some, M.ret_bind, e2, M.ret_bind]
    exact e3
theorem for_src {src : XA} {g : Tg} {b : XS} {σ : Sl} {ds : List D} (h : src σ = .ret ds) : sFor src g b σ = forGo g b ds σ := by
  unfold sFor
  rw [h, M.ret_bind]
theorem eqR {d : D} (h1 : isData d = true) (h2 : pyEq d d = true) : gNe d d = .ret (.bl false) := by unfold gNe; rw [h1, h2]; rfl
theorem eqR' {d : D} (h1 : isData d = true) (h2 : pyEq d d = true) : gEq d d = .ret (.bl true) := by unfold gEq; rw [h1, h2]; rfl
theorem flats_map {α : Type} {enc : α → D} {n : Nat} {l : List α} (h : ∀ x ∈ l, flat n (enc x) = true) : flats n (l.map enc) = true := by
  induction l with
  | nil => rfl
  | cons x l ih => simp only [List.map_cons, flats, h x List.mem_cons_self, ih fun y hy => h y (List.mem_cons_of_mem _ hy)]; rfl
theorem pyEqs_map {α : Type} {enc : α → D} {l : List α} (h : ∀ x ∈ l, pyEq (enc x) (enc x) = true) : pyEqs (l.map enc) (l.map enc) = true := pyEqs_refl' fun d hd => by
  obtain ⟨x, hx, rfl⟩ := List.mem_map.mp hd
  exact h x hx
mutual
theorem flat_up : ∀ {n m : Nat} (d : D), n ≤ m → flat n d = true → flat m d = true
  | n, m, .non, _, _ => by cases m <;> rfl
  | n, m, .bl _, _, _ => by cases m <;> rfl
  | n, m, .int _, _, _ => by cases m <;> rfl
  | n, m, .str s, _, h => by cases n <;> cases m <;> exact h
  | 0, m, .tup l, _, h => by cases h
  | n + 1, 0, .tup l, hl, h => by omega
  | n + 1, m + 1, .tup l, hl, h => by simp only [flat] at h ⊢; exact flats_up l (by omega) h
  | 0, m, .lst l, _, h => by cases h
  | n + 1, 0, .lst l, hl, h => by omega
  | n + 1, m + 1, .lst l, hl, h => by simp only [flat] at h ⊢; exact flats_up l (by omega) h
  | n, m, .dct _, _, h => by cases n <;> cases h
  | n, m, .st, _, h => by cases n <;> cases h
  | n, m, .scr _, _, h => by cases n <;> cases h
  | n, m, .obj _, _, h => by cases n <;> cases h
theorem flats_up : ∀ {n m : Nat} (l : List D), n ≤ m → flats n l = true → flats m l = true
  | n, m, [], _, _ => by cases m <;> rfl
  | n, m, d :: l, hl, h => by
    have h' := Bool.and_eq_true_iff.mp (show (flat n d && flats n l) = true by simpa [flats] using h)
    simp only [flats, flat_up d hl h'.1, flats_up l hl h'.2]; rfl
end
mutual
theorem pyEq_self : ∀ (n : Nat) (d : D), flat n d = true → pyEq d d = true
  | _, .non, _ => rfl
  | _, .bl b, _ => by simp [pyEq]
  | _, .int i, _ => by simp [pyEq]
  | _, .str s, _ => by simp [pyEq, strEq]
  | 0, .tup l, h => by cases h
  | n + 1, .tup l, h => by simp only [pyEq]; exact pyEqs_self n l (by simpa [flat] using h)
  | 0, .lst l, h => by cases h
  | n + 1, .lst l, h => by simp only [pyEq]; exact pyEqs_self n l (by simpa [flat] using h)
  | n, .dct _, h => by cases n <;> cases h
  | n, .st, h => by cases n <;> cases h
  | n, .scr _, h => by cases n <;> cases h
  | n, .obj _, h => by cases n <;> cases h
theorem pyEqs_self : ∀ (n : Nat) (l : List D), flats n l = true → pyEqs l l = true
  | _, [], _ => rfl
  | n, d :: l, h => by
    have h' := Bool.and_eq_true_iff.mp (show (flat n d && flats n l) = true by simpa [flats] using h)
    simp only [pyEqs, pyEq_self n d h'.1, pyEqs_self n l h'.2]; rfl
end
theorem ne_self {d : D} {n : Nat} (h : flat n d = true) (hn : n ≤ 50) : gNe d d = .ret (.bl false) := eqR (flat_up d hn h) (pyEq_self n d h)
theorem eq_self {d : D} {n : Nat} (h : flat n d = true) (hn : n ≤ 50) : gEq d d = .ret (.bl true) := eqR' (flat_up d hn h) (pyEq_self n d h)
theorem ne_int (i j : Int) : gNe (.int i) (.int j) = .ret (.bl (!(i == j))) := rfl
theorem eq_int (i j : Int) : gEq (.int i) (.int j) = .ret (.bl (i == j)) := rfl
theorem len_tup (l : List D) : fLen [.tup l] = .ret (.int l.length) := rfl
theorem len_lst (l : List D) : fLen [.lst l] = .ret (.int l.length) := rfl
/-- a cut from k on -/
theorem cutL_from (l : List D) (k : Nat) : cutL l (some (k : Int)) none = l.drop k := by
  have e : cutI l.length 0 (some (k : Int)) = min k l.length := by
    show (if (k : Int) < 0 then ((k : Int) + (l.length : Int)).toNat else min ((k : Int).toNat) l.length) = _
    rw [if_neg (by omega), Int.toNat_natCast]
  have e2 : cutI l.length l.length none = l.length := rfl
  unfold cutL
  rw [e, e2]
  by_cases h : k ≤ l.length
  · rw [Nat.min_eq_left h, List.take_of_length_le (by rw [List.length_drop]; exact Nat.le_refl _)]
  · rw [Nat.min_eq_right (by omega), List.drop_eq_nil_of_le (Nat.le_refl _), List.drop_eq_nil_of_le (by omega), List.take_nil]
theorem cutL_upto (l : List D) (k : Nat) : cutL l none (some (k : Int)) = l.take k := by
  have e : cutI l.length l.length (some (k : Int)) = min k l.length := by
    show (if (k : Int) < 0 then ((k : Int) + (l.length : Int)).toNat else min ((k : Int).toNat) l.length) = _
    rw [if_neg (by omega), Int.toNat_natCast]
  have e2 : cutI l.length 0 none = 0 := rfl
  unfold cutL
  rw [e, e2, List.drop_zero, Nat.sub_zero]
  by_cases h : k ≤ l.length
  · rw [Nat.min_eq_left h]
  · rw [Nat.min_eq_right (by omega), List.take_of_length_le (i := l.length) (Nat.le_refl _), List.take_of_length_le (i := k) (by omega)]
/-! ### one step of each form -/
def getV : SV → M D
  | .val d => .ret d
  | _ => .stk
def getO : SV → M D
  | .val d => .ret d
  | .own l => .ret (.lst l)
  | .ownd l => .ret (.dct l)
  | .un => .stk
def getL : SV → M (List D)
  | .own l => .ret l
  | _ => .stk
def seqK (b : XS) : Fl × Sl → M (Fl × Sl)
  | (.nx, σ1) => b σ1
  | (.rt d, σ1) => .ret (.rt d, σ1)
def fnK : Fl × Sl → M D
  | (.rt d, _) => .ret d
  | (.nx, _) => .ret .non
def ownK (i : Nat) (σ : Sl) : D → M (Fl × Sl)
  | .lst l => .ret (.nx, σ.set i (.own l))
  | .dct l => .ret (.nx, σ.set i (.ownd l))
  | _ => .stk
def frzS : SV → SV
  | .own l => .val (.lst l)
  | .ownd l => .val (.dct l)
  | s => s
section
variable {σ : Sl} {a b c : XE} {p q : XB} {s t : XS} {d e : D} {f : D → D → M D} {h : D → M D} {u : XA} {i : Nat} {v : SV} {α β : Type}
theorem ap_V : xV i σ = getV (σ.getD i .un) := by unfold xV getV; cases σ.getD i .un <;> rfl
theorem ap_O : xO i σ = getO (σ.getD i .un) := by unfold xO getO; cases σ.getD i .un <;> rfl
theorem ap_own : ownAt σ i = getL (σ.getD i .un) := by unfold ownAt getL; cases σ.getD i .un <;> rfl
theorem getV_val : getV (.val d) = .ret d := rfl
theorem getO_val : getO (.val d) = .ret d := rfl
theorem getO_own {l : List D} : getO (.own l) = .ret (.lst l) := rfl
theorem getO_ownd {l : List (D × D)} : getO (.ownd l) = .ret (.dct l) := rfl
theorem getL_own {l : List D} : getL (.own l) = .ret l := rfl
theorem ap_C : xC d σ = .ret d := rfl
theorem ap_1 : x1 h a σ = (a σ).bind h := rfl
theorem ap_2 : Mn.x2 f a b σ = (a σ).bind fun x => (b σ).bind fun y => f x y := rfl
theorem ap_And : xAnd a b σ = (a σ).bind fun x => (asB x).bind fun c => if c then b σ else .ret (.bl false) := rfl
theorem ap_Or : xOr a b σ = (a σ).bind fun x => (asB x).bind fun c => if c then .ret (.bl true) else b σ := rfl
theorem ap_Not : xNot p σ = (p σ).bind fun c => .ret (.bl (!c)) := rfl
theorem ap_If : xIf p a b σ = (p σ).bind fun c => if c then a σ else b σ := rfl
theorem ap_aNil : aNil σ = .ret [] := rfl
theorem ap_aCons : aCons a u σ = (a σ).bind fun x => (u σ).bind fun xs => .ret (x :: xs) := rfl
theorem ap_aStar : aStar a u σ = (a σ).bind fun x => (asS x).bind fun ys => (u σ).bind fun xs => .ret (ys ++ xs) := rfl
theorem ap_Tup : xTup u σ = (u σ).bind fun xs => .ret (.tup xs) := rfl
theorem ap_Lst : xLst u σ = (u σ).bind fun xs => .ret (.lst xs) := rfl
theorem ap_TupS : xTupS u σ = (u σ).bind fun xs => if xs.length ≤ 16777216 then .ret (.tup xs) else .stk := rfl
theorem ap_LstS : xLstS u σ = (u σ).bind fun xs => if xs.length ≤ 16777216 then .ret (.lst xs) else .stk := rfl
theorem ap_Call {f : List D → M D} : xCall f u σ = (u σ).bind f := rfl
theorem ap_Chain {f g : D → D → M D} : xChain f g a b c σ = (a σ).bind fun x => (b σ).bind fun y => (f x y).bind fun z => (asB z).bind fun k => if k then (c σ).bind fun u => g y u else .ret (.bl false) := rfl
theorem ap_Cut {l r : XO} : xCut a l r σ = (a σ).bind fun d => (l σ).bind fun x => (r σ).bind fun y => gCut x y d := rfl
theorem ap_oNone : oNone σ = .ret none := rfl
theorem ap_oSome : oSome a σ = (a σ).bind fun d => (asI d).bind fun i => .ret (some i) := rfl
theorem ap_bV : bV a σ = (a σ).bind asB := rfl
theorem ap_bAnd : bAnd p q σ = (p σ).bind fun c => if c then q σ else .ret false := rfl
theorem ap_bOr : bOr p q σ = (p σ).bind fun c => if c then .ret true else q σ := rfl
theorem ap_bNot : bNot p σ = (p σ).bind fun c => .ret (!c) := rfl
theorem ap_bYes : bYes σ = .ret true := rfl
theorem ap_wS : wS a σ = (a σ).bind asS := rfl
theorem ap_Rng1 : wRng1 a σ = (a σ).bind fun d => (asI d).bind fun n => if n ≤ 16777216 ∧ -16777216 ≤ n then .ret (upTo 0 n.toNat) else .stk := rfl
theorem ap_Rng2 : wRng2 a b σ = (a σ).bind fun x => (b σ).bind fun y => (asI x).bind fun i => (asI y).bind fun j => if -1000000 < i ∧ i < 1000000 ∧ j < 1000000 ∧ -1000000 < j then .ret (upTo i (j - i).toNat) else .stk := rfl
theorem ap_TupRg1 : xTupRg1 a σ = (wRng1 a σ).bind fun l => .ret (.tup l) := rfl
theorem ap_TupRg2 : xTupRg2 a b σ = (wRng2 a b σ).bind fun l => .ret (.tup l) := rfl
theorem ap_LstRg1 : xLstRg1 a σ = (wRng1 a σ).bind fun l => .ret (.lst l) := rfl
theorem ap_LstRg2 : xLstRg2 a b σ = (wRng2 a b σ).bind fun l => .ret (.lst l) := rfl
theorem ap_Enum : wEnum a σ = (a σ).bind fun d => (asS d).bind fun l => .ret (numbered 0 l) := rfl
theorem ap_Enum2 : wEnum2 a b σ = (a σ).bind fun d => (b σ).bind fun x => (asS d).bind fun l => (asI x).bind fun k => if -1000000 < k ∧ k < 1000000 then .ret (numbered k l) else .stk := rfl
theorem ap_Zip : wZip a b σ = (a σ).bind fun x => (b σ).bind fun y => (asS x).bind fun l => (asS y).bind fun m => .ret (paired l m) := rfl
theorem ap_mNil : mNil σ = .ret [] := rfl
theorem ap_mVal {m : XM} : mVal a m σ = (a σ).bind fun x => (m σ).bind fun xs => .ret (.val x :: xs) := rfl
theorem ap_mOwn {m : XM} : mOwn a m σ = (a σ).bind fun x => (ownOf x).bind fun s => (m σ).bind fun xs => .ret (s :: xs) := rfl
theorem ap_sNx : sNx σ = .ret (.nx, σ) := rfl
theorem ap_Seq : sSeq s t σ = (s σ).bind (seqK t) := rfl
theorem seqK_nx : seqK s (.nx, σ) = s σ := rfl
theorem seqK_rt : seqK s (.rt d, σ) = .ret (.rt d, σ) := rfl
theorem ap_Asg {g : Tg} : sAsg a g σ = (a σ).bind fun d => (ofO (g.go d σ)).bind fun σ1 => .ret (.nx, σ1) := rfl
theorem ap_Set : sSet i a σ = (a σ).bind fun d => .ret (.nx, σ.set i (.val d)) := rfl
theorem ap_Own : sOwn i a σ = (a σ).bind (ownK i σ) := rfl
theorem ownK_lst {l : List D} : ownK i σ (.lst l) = .ret (.nx, σ.set i (.own l)) := rfl
theorem ownK_dct {l : List (D × D)} : ownK i σ (.dct l) = .ret (.nx, σ.set i (.ownd l)) := rfl
theorem ap_Ret : sRet a σ = (a σ).bind fun d => .ret (.rt d, σ) := rfl
theorem ap_sIf : sIf p s t σ = (p σ).bind fun c => if c then s σ else t σ := rfl
theorem ap_Stk : sStk σ = .stk := rfl
theorem ap_Drop : sDrop a σ = (a σ).bind fun _ => .ret (.nx, σ) := rfl
theorem ap_App : sApp i a σ = (ownAt σ i).bind fun l => (a σ).bind fun d => if l.length < 16777216 then .ret (.nx, σ.set i (.own (l ++ [d]))) else .stk := rfl
theorem ap_Ext : sExt i a σ = (ownAt σ i).bind fun l => (a σ).bind fun d => (asL d).bind fun xs => if l.length + xs.length ≤ 16777216 then .ret (.nx, σ.set i (.own (l ++ xs))) else .stk := rfl
theorem ap_PutL : sPutL i a b σ = (b σ).bind fun d => (ownAt σ i).bind fun l => (a σ).bind fun x => (asI x).bind fun k => (ofO (placeI l.length k)).bind fun n => .ret (.nx, σ.set i (.own (l.set n d))) := rfl
theorem ap_Par {is : List Nat} {m : XM} : sPar is m σ = (m σ).bind fun ss => if ss.length = is.length then .ret (.nx, setAll is ss σ) else .stk := rfl
theorem ap_Frz : sFrz i s σ = s (σ.set i (frzS (σ.getD i .un))) := by
  have e : ∀ τ : Sl, τ.set i (τ.getD i .un) = τ := fun τ => by
    rw [List.getD_eq_getElem?_getD]
    by_cases hl : i < τ.length
    · rw [List.getElem?_eq_getElem hl]; simp
    · rw [List.set_eq_of_length_le (by omega)]
  have e0 := e σ
  unfold sFrz frz
  cases hs : σ.getD i .un with
  | own l => rfl
  | ownd l => rfl
  | un => rw [hs] at e0; show s σ = s (σ.set i .un); rw [e0]
  | val d => rw [hs] at e0; show s σ = s (σ.set i (.val d)); rw [e0]
theorem frzS_own {l : List D} : frzS (.own l) = .val (.lst l) := rfl
theorem frzS_val : frzS (.val d) = .val d := rfl
theorem ap_fn {n k : Nat} {ds : List D} : fnOf n k s ds = if ds.length = k then (s (ds.map SV.val ++ List.replicate (n - k) .un)).bind fnK else .stk := by
  rfl
theorem fnK_rt : fnK (.rt d, σ) = .ret d := rfl
theorem fnK_nx : fnK (.nx, σ) = .ret .non := rfl
theorem ite_bind {P : Prop} [Decidable P] {m n : M α} {k : α → M β} : (if P then m else n).bind k = if P then m.bind k else n.bind k := by split <;> rfl
theorem gIx_tup {l : List D} {k : Int} : gIx (.tup l) (.int k) = ofO (itemI l k) := rfl
theorem gIx_lst {l : List D} {k : Int} : gIx (.lst l) (.int k) = ofO (itemI l k) := rfl
theorem itemI0 {l : List D} : itemI (d :: l) 0 = some d := by
  unfold itemI placeI
  rw [if_pos (by decide), if_pos (by simp only [List.length_cons]; omega)]; rfl
theorem itemI1 {l : List D} : itemI (e :: d :: l) 1 = some d := by
  unfold itemI placeI
  rw [if_pos (by decide), if_pos (by simp only [List.length_cons]; omega)]; rfl
theorem itemI2 {l : List D} {x y : D} : itemI (x :: y :: d :: l) 2 = some d := by
  unfold itemI placeI
  rw [if_pos (by decide), if_pos (by simp only [List.length_cons]; omega)]; rfl
theorem itemI3 {l : List D} {x y z : D} : itemI (x :: y :: z :: d :: l) 3 = some d := by
  unfold itemI placeI
  rw [if_pos (by decide), if_pos (by simp only [List.length_cons]; omega)]; rfl
theorem gCut_tup {l : List D} {x y : Option Int} : gCut x y (.tup l) = .ret (.tup (cutL l x y)) := rfl
theorem gCut_lst {l : List D} {x y : Option Int} : gCut x y (.lst l) = .ret (.lst (cutL l x y)) := rfl
theorem asB_bl {x : Bool} : asB (.bl x) = .ret x := rfl
theorem asI_int {x : Int} : asI (.int x) = .ret x := rfl
theorem asS_tup {l : List D} : asS (.tup l) = .ret l := rfl
theorem asS_lst {l : List D} : asS (.lst l) = .ret l := rfl
theorem asL_lst {l : List D} : asL (.lst l) = .ret l := rfl
theorem gAdd_int {x y : Int} : gAdd (.int x) (.int y) = .ret (.int (x + y)) := rfl
theorem gAdd_tup {x y : List D} : gAdd (.tup x) (.tup y) = if x.length + y.length ≤ line then .ret (.tup (x ++ y)) else .stk := rfl
theorem gAdd_lst {x y : List D} : gAdd (.lst x) (.lst y) = if x.length + y.length ≤ line then .ret (.lst (x ++ y)) else .stk := rfl
theorem gSub_int {x y : Int} : gSub (.int x) (.int y) = .ret (.int (x - y)) := rfl
theorem gMulA_int {x y : Int} : gMulA (.int x) (.int y) = if small x || small y then .ret (.int (x * y)) else .stk := rfl
theorem gLt_int {x y : Int} : gLt (.int x) (.int y) = .ret (.bl (decide (x < y))) := rfl
theorem gLe_int {x y : Int} : gLe (.int x) (.int y) = .ret (.bl (decide (x ≤ y))) := rfl
theorem gGt_int {x y : Int} : gGt (.int x) (.int y) = .ret (.bl (decide (y < x))) := rfl
theorem gGe_int {x y : Int} : gGe (.int x) (.int y) = .ret (.bl (decide (y ≤ x))) := rfl
theorem fTuple_lst {l : List D} : fTuple [.lst l] = .ret (.tup l) := rfl
theorem fTuple_tup {l : List D} : fTuple [.tup l] = .ret (.tup l) := rfl
theorem fList_tup {l : List D} : fList [.tup l] = .ret (.lst l) := rfl
theorem fList_lst {l : List D} : fList [.lst l] = .ret (.lst l) := rfl
theorem fInt_int {x : Int} : fInt [.int x] = .ret (.int x) := rfl
theorem fInt_bl {x : Bool} : fInt [.bl x] = .ret (.int (if x then 1 else 0)) := rfl
theorem isi_ {g : D → Bool} (hk : known d = true) : gIsi g d = .ret (.bl (g d)) := by unfold gIsi; rw [if_pos hk]
theorem gIsi_int {g : D → Bool} {x : Int} : gIsi g (.int x) = .ret (.bl (g (.int x))) := rfl
theorem gIsi_bl {g : D → Bool} {x : Bool} : gIsi g (.bl x) = .ret (.bl (g (.bl x))) := rfl
theorem gIsi_tup {g : D → Bool} {x : List D} : gIsi g (.tup x) = .ret (.bl (g (.tup x))) := rfl
theorem gIsi_lst {g : D → Bool} {x : List D} : gIsi g (.lst x) = .ret (.bl (g (.lst x))) := rfl
theorem gIsi_str {g : D → Bool} {x : PySem.Str} : gIsi g (.str x) = .ret (.bl (g (.str x))) := rfl
theorem gIsi_non {g : D → Bool} : gIsi g .non = .ret (.bl (g .non)) := rfl
theorem gIsB_bl {x y : Bool} : gIsB (.bl x) (.bl y) = .ret (.bl (x == y)) := rfl
theorem gIsNotB_bl {x y : Bool} : gIsNotB (.bl x) (.bl y) = .ret (.bl (!(x == y))) := rfl
end
theorem fAll_map {α : Type} (f : α → Bool) (l : List α) : fAll [.lst (l.map fun x => D.bl (f x))] = .ret (.bl (l.all f)) := by
  show (match bulsOf (l.map fun x => D.bl (f x)) with
    | some bs => M.ret (D.bl (bs.all id))
    | none => .stk) = _
  rw [bulsOf_mapf f l]
  simp [List.all_map]
theorem fAny_map {α : Type} (f : α → Bool) (l : List α) : fAny [.lst (l.map fun x => D.bl (f x))] = .ret (.bl (l.any f)) := by
  show (match bulsOf (l.map fun x => D.bl (f x)) with
    | some bs => M.ret (D.bl (bs.any id))
    | none => .stk) = _
  rw [bulsOf_mapf f l]
  simp [List.any_map]
theorem fSum_map {α : Type} (f : α → Int) (l : List α) : fSum [.lst (l.map fun x => D.int (f x))] = .ret (.int (l.map f).sum) := by
  show (match intsOf (l.map fun x => D.int (f x)) with
    | some ns => M.ret (D.int ns.sum)
    | none => .stk) = _
  rw [intsOf_mapf f l]
theorem fMin_map {α : Type} (f : α → Int) (x : α) (l : List α) : fMin [.lst ((x :: l).map fun x => D.int (f x))] = .ret (.int (leastOf (f x) (l.map f))) := by
  show (match intsOf ((x :: l).map fun x => D.int (f x)) with
    | some (x :: r) => M.ret (D.int (leastOf x r))
    | _ => .stk) = _
  rw [intsOf_mapf f (x :: l)]; rfl
theorem fMax_map {α : Type} (f : α → Int) (x : α) (l : List α) : fMax [.lst ((x :: l).map fun x => D.int (f x))] = .ret (.int (mostOf (f x) (l.map f))) := by
  show (match intsOf ((x :: l).map fun x => D.int (f x)) with
    | some (x :: r) => M.ret (D.int (mostOf x r))
    | _ => .stk) = _
  rw [intsOf_mapf f (x :: l)]; rfl
theorem fMin_tup2 (a b : Int) : fMin [.tup [.int a, .int b]] = .ret (.int (min a b)) := rfl
theorem fMax_tup2 (a b : Int) : fMax [.tup [.int a, .int b]] = .ret (.int (max a b)) := rfl
theorem fMin_2 (a b : Int) : fMin [.int a, .int b] = .ret (.int (if b < a then b else a)) := rfl
theorem fMax_2 (a b : Int) : fMax [.int a, .int b] = .ret (.int (if b > a then b else a)) := rfl
/-- an own list that each turn puts more behind -/
theorem getElem_lt {α : Type} {l : List α} {i : Nat} {x : α} (h : l[i]? = some x) : i < l.length := (List.getElem?_eq_some_iff.mp h).1
theorem flatMap_take {α β : Type} (f : α → List β) (l : List α) (i : Nat) (x : α) (h : l[i]? = some x) : (l.take (i + 1)).flatMap f = (l.take i).flatMap f ++ f x := by
  have hi := getElem_lt h
  have e : l[i] = x := by rw [List.getElem?_eq_getElem hi] at h; exact Option.some.inj h
  rw [List.take_succ_eq_append_getElem hi, List.flatMap_append, e]; simp
def forK (g : Tg) (b : XS) (ds : List D) : Fl × Sl → M (Fl × Sl)
  | (.nx, σ) => forGo g b ds σ
  | (.rt d, σ) => .ret (.rt d, σ)
theorem forGo_nil {g : Tg} {b : XS} {σ : Sl} : forGo g b [] σ = .ret (.nx, σ) := rfl
theorem forGo_cons {g : Tg} {b : XS} {d : D} {ds : List D} {σ : Sl} : forGo g b (d :: ds) σ = (ofO (g.go d σ)).bind fun σ1 => (b σ1).bind (forK g b ds) := rfl
theorem forK_nx {g : Tg} {b : XS} {ds : List D} {σ : Sl} : forK g b ds (.nx, σ) = forGo g b ds σ := rfl
theorem forK_rt {g : Tg} {b : XS} {ds : List D} {d : D} {σ : Sl} : forK g b ds (.rt d, σ) = .ret (.rt d, σ) := rfl
theorem upTo2 : upTo 0 2 = [.int 0, .int 1] := rfl
theorem flatMap_if {α β : Type} (q : α → Bool) (f : α → β) (l : List α) : (l.flatMap fun j => if q j = true then [f j] else []) = (l.filter q).map f := by
  induction l with
  | nil => rfl
  | cons x l ih =>
    rw [List.flatMap_cons, ih, List.filter_cons]
    split <;> simp
theorem filter_gt (n i : Nat) (p : Nat → Bool) : (List.range n).filter (fun j => p j && decide (i < j)) = ((List.range n).drop (i + 1)).filter p := by
  have h1 : ((List.range n).take (i + 1)).filter (fun j => p j && decide (i < j)) = [] := by
    refine List.filter_eq_nil_iff.mpr fun a ha => ?_
    obtain ⟨k, hk, e⟩ := List.mem_iff_getElem.mp ha
    rw [List.getElem_take, List.getElem_range] at e
    rw [List.length_take] at hk
    have : ¬ i < a := by omega
    simp [this]
  have h2 : ((List.range n).drop (i + 1)).filter (fun j => p j && decide (i < j)) = ((List.range n).drop (i + 1)).filter p := by
    refine List.filter_congr fun a ha => ?_
    obtain ⟨k, hk, e⟩ := List.mem_iff_getElem.mp ha
    rw [List.getElem_drop, List.getElem_range] at e
    have : i < a := by omega
    simp [this]
  calc (List.range n).filter (fun j => p j && decide (i < j)) = ((List.range n).take (i + 1) ++ (List.range n).drop (i + 1)).filter (fun j => p j && decide (i < j)) := by rw [List.take_append_drop]
    _ = _ := by rw [List.filter_append, h1, h2, List.nil_append]
theorem ap_Lc {src : XA} {vs : List Nat} {g : Tg} {t : XB} {e : XE} {σ : Sl} : xLc src vs g t e σ = (src σ).bind fun ds => (noX (lcGo g t e (wipe σ vs) ds)).bind fun xs => .ret (.lst xs) := rfl
end Mn

set_option Elab.async false
set_option linter.all false
set_option autoImplicit false
set_option maxRecDepth 100000
set_option maxHeartbeats 2000000
/-! Mm2: comprehensions and loops by typed items. -/
namespace Mn
section
variable {α β γ : Type}
def oCons (o : Option β) (xs : List β) : List β := match o with
  | some x => x :: xs
  | none => xs
/-- items by turns, some left out -/
def FM (f : α → M (Option β)) : List α → M (List β)
  | [] => .ret []
  | d :: ds => (f d).bind fun o => (FM f ds).bind fun xs => .ret (oCons o xs)
theorem FM_nil {f : α → M (Option β)} : FM f [] = .ret [] := rfl
theorem FM_cons {f : α → M (Option β)} {d : α} {ds : List α} : FM f (d :: ds) = (f d).bind fun o => (FM f ds).bind fun xs => .ret (oCons o xs) := rfl
theorem oCons_some {x : β} {xs : List β} : oCons (some x) xs = x :: xs := rfl
theorem oCons_none {xs : List β} : oCons none xs = xs := rfl
theorem FM_map {enc : γ → α} {f : α → M (Option β)} : ∀ l : List γ, FM f (l.map enc) = FM (fun x => f (enc x)) l
  | [] => rfl
  | x :: l => by rw [List.map_cons, FM_cons, FM_cons, FM_map l]
theorem FM_congr {f g : α → M (Option β)} : ∀ {l : List α}, (∀ x ∈ l, f x = g x) → FM f l = FM g l
  | [], _ => rfl
  | x :: l, h => by rw [FM_cons, FM_cons, h x List.mem_cons_self, FM_congr fun y hy => h y (List.mem_cons_of_mem _ hy)]
theorem FM_opt {h : α → Option β} : ∀ l : List α, FM (fun x => .ret (h x)) l = .ret (l.filterMap h)
  | [] => rfl
  | x :: l => by
    rw [FM_cons, M.ret_bind, FM_opt l, M.ret_bind, List.filterMap_cons]
    cases h x <;> rfl
theorem FM_ret {h : α → β} (l : List α) : FM (fun x => .ret (some (h x))) l = .ret (l.map h) := by rw [FM_opt]; exact congrArg M.ret (List.filterMap_eq_map ▸ rfl)
theorem FM_non (l : List α) : FM (fun _ : α => .ret (none : Option β)) l = .ret [] := by rw [FM_opt]; simp
theorem FM_if {p : α → Bool} {h : α → β} (l : List α) : FM (fun x => if p x = true then .ret (some (h x)) else .ret none) l = .ret ((l.filter p).map h) := by
  induction l with
  | nil => rfl
  | cons x l ih =>
    rw [FM_cons, ih, List.filter_cons]
    cases hp : p x with
    | true => rw [if_pos rfl, if_pos rfl]; rfl
    | false => rw [if_neg (by decide), if_neg (by decide)]; rfl
end
def lcTurn (g : Tg) (t : XB) (e : XE) (σ : Sl) (d : D) : M (Option D) := (ofO (g.go d σ)).bind fun σ1 => (t σ1).bind fun b => if b then (e σ1).bind fun x => .ret (some x) else .ret none
theorem lcGo_FM (g : Tg) (t : XB) (e : XE) (σ : Sl) : ∀ ds : List D, lcGo g t e σ ds = FM (lcTurn g t e σ) ds
  | [] => rfl
  | d :: ds => by
    rw [FM_cons, ← lcGo_FM g t e σ ds]
    show (ofO (g.go d σ)).bind _ = _
    unfold lcTurn
    rw [M.bind_assoc]
    congr 1
    funext σ1
    rw [M.bind_assoc]
    congr 1
    funext b
    cases b with
    | true => rw [if_pos rfl, if_pos rfl, M.bind_assoc]; rfl
    | false =>
      rw [if_neg (by decide), if_neg (by decide), M.ret_bind]
      show _ = (lcGo g t e σ ds).bind .ret
      rw [M.bind_ret]
theorem ap_LcF {src : XA} {vs : List Nat} {g : Tg} {t : XB} {e : XE} {σ : Sl} : xLc src vs g t e σ = (src σ).bind fun ds => (noX (FM (lcTurn g t e (wipe σ vs)) ds)).bind fun xs => .ret (.lst xs) := by
  rw [ap_Lc]
  congr 1
  funext ds
  rw [lcGo_FM]
theorem ap_turn {g : Tg} {t : XB} {e : XE} {σ : Sl} {d : D} : lcTurn g t e σ d = (ofO (g.go d σ)).bind fun σ1 => (t σ1).bind fun b => if b then (e σ1).bind fun x => .ret (some x) else .ret none := rfl
/-- two clauses -/
def lc2Turn (g : Tg) (t : XB) (src : XA) (vs : List Nat) (g1 : Tg) (t1 : XB) (e : XE) (σ : Sl) (d : D) : M (List D) :=
  (ofO (g.go d σ)).bind fun σ1 => (t σ1).bind fun b => if b then (src σ1).bind fun es => if es.length ≤ 4000 then FM (lcTurn g1 t1 e (wipe σ1 vs)) es else .stk else .ret []
def FL {α β : Type} (f : α → M (List β)) : List α → M (List β)
  | [] => .ret []
  | d :: ds => (f d).bind fun xs => (FL f ds).bind fun ys => .ret (xs ++ ys)
theorem FL_nil {α β : Type} {f : α → M (List β)} : FL f [] = .ret [] := rfl
theorem FL_cons {α β : Type} {f : α → M (List β)} {d : α} {ds : List α} : FL f (d :: ds) = (f d).bind fun xs => (FL f ds).bind fun ys => .ret (xs ++ ys) := rfl
theorem FL_map {α β γ : Type} {enc : γ → α} {f : α → M (List β)} : ∀ l : List γ, FL f (l.map enc) = FL (fun x => f (enc x)) l
  | [] => rfl
  | x :: l => by rw [List.map_cons, FL_cons, FL_cons, FL_map l]
theorem FL_congr {α β : Type} {f g : α → M (List β)} : ∀ {l : List α}, (∀ x ∈ l, f x = g x) → FL f l = FL g l
  | [], _ => rfl
  | x :: l, h => by rw [FL_cons, FL_cons, h x List.mem_cons_self, FL_congr fun y hy => h y (List.mem_cons_of_mem _ hy)]
theorem FL_ret {α β : Type} {h : α → List β} : ∀ l : List α, FL (fun x => .ret (h x)) l = .ret (l.flatMap h)
  | [] => rfl
  | x :: l => by rw [FL_cons, M.ret_bind, FL_ret l, M.ret_bind, List.flatMap_cons]
theorem lc2Go_FL (g : Tg) (t : XB) (src : XA) (vs : List Nat) (g1 : Tg) (t1 : XB) (e : XE) (σ : Sl) : ∀ ds : List D, lc2Go g t src vs g1 t1 e σ ds = FL (lc2Turn g t src vs g1 t1 e σ) ds
  | [] => rfl
  | d :: ds => by
    rw [FL_cons, ← lc2Go_FL g t src vs g1 t1 e σ ds]
    show (ofO (g.go d σ)).bind _ = _
    unfold lc2Turn
    rw [M.bind_assoc]
    congr 1
    funext σ1
    rw [M.bind_assoc]
    congr 1
    funext b
    cases b with
    | true =>
      rw [if_pos rfl, if_pos rfl, M.bind_assoc]
      congr 1
      funext es
      split
      · rw [lcGo_FM]
      · rfl
    | false =>
      rw [if_neg (by decide), if_neg (by decide), M.ret_bind]
      show _ = (lc2Go g t src vs g1 t1 e σ ds).bind .ret
      rw [M.bind_ret]
theorem ap_Lc2F {src : XA} {vs : List Nat} {g : Tg} {t : XB} {s1 : XA} {v1 : List Nat} {g1 : Tg} {t1 : XB} {e : XE} {σ : Sl} : xLc2 src vs g t s1 v1 g1 t1 e σ = (src σ).bind fun ds => if ds.length ≤ 4000 then (noX (FL (lc2Turn g t s1 v1 g1 t1 e (wipe σ vs)) ds)).bind fun xs => .ret (.lst xs) else .stk := by
  show (src σ).bind _ = _
  congr 1
  funext ds
  rw [lc2Go_FL]
theorem ap_turn2 {g : Tg} {t : XB} {src : XA} {vs : List Nat} {g1 : Tg} {t1 : XB} {e : XE} {σ : Sl} {d : D} : lc2Turn g t src vs g1 t1 e σ d = (ofO (g.go d σ)).bind fun σ1 => (t σ1).bind fun b => if b then (src σ1).bind fun es => if es.length ≤ 4000 then FM (lcTurn g1 t1 e (wipe σ1 vs)) es else .stk else .ret [] := rfl
/-! ### loops by a state -/
section
variable {α S : Type} {enc : α → D} {g : Tg} {b : XS} {st : S → Sl}
/-- one turn -/
def turn (g : Tg) (b : XS) (d : D) (σ : Sl) : M (Fl × Sl) := (ofO (g.go d σ)).bind b
theorem ap_go {d : D} {σ : Sl} : turn g b d σ = (ofO (g.go d σ)).bind b := rfl
theorem forGo_turn {d : D} {ds : List D} {σ : Sl} : forGo g b (d :: ds) σ = (turn g b d σ).bind (forK g b ds) := by
  rw [forGo_cons, turn, M.bind_assoc]
theorem for_fold {step : S → α → S} : ∀ (l : List α) (s : S), (∀ s x, x ∈ l → turn g b (enc x) (st s) = .ret (.nx, st (step s x))) → forGo g b (l.map enc) (st s) = .ret (.nx, st (l.foldl step s))
  | [], s, _ => rfl
  | x :: l, s, h => by
    rw [List.map_cons, forGo_turn, h s x List.mem_cons_self, M.ret_bind, forK_nx, for_fold l _ fun s y hy => h s y (List.mem_cons_of_mem _ hy)]; rfl
/-- with an invariant of the place -/
theorem for_inv {step : S → α → S} : ∀ (l : List α) (I : Nat → S → Prop) (s : S), I 0 s → (∀ i x s, l[i]? = some x → I i s → turn g b (enc x) (st s) = .ret (.nx, st (step s x)) ∧ I (i + 1) (step s x)) → forGo g b (l.map enc) (st s) = .ret (.nx, st (l.foldl step s)) ∧ I l.length (l.foldl step s)
  | [], I, s, h0, _ => ⟨rfl, h0⟩
  | x :: l, I, s, h0, h => by
    obtain ⟨e, h1⟩ := h 0 x s rfl h0
    obtain ⟨e2, h2⟩ := for_inv l (fun i => I (i + 1)) _ h1 fun i y s hy hi => h (i + 1) y s hy hi
    exact ⟨by rw [List.map_cons, forGo_turn, e, M.ret_bind, forK_nx, e2]; rfl, h2⟩
/-- the state after so many turns is told -/
theorem for_at {s : Nat → S} : ∀ (l : List α), (∀ i x, l[i]? = some x → turn g b (enc x) (st (s i)) = .ret (.nx, st (s (i + 1)))) → forGo g b (l.map enc) (st (s 0)) = .ret (.nx, st (s l.length))
  | [], _ => rfl
  | x :: l, h => by
    rw [List.map_cons, forGo_turn, h 0 x rfl, M.ret_bind, forK_nx]
    exact for_at (s := fun i => s (i + 1)) l fun i y hy => h (i + 1) y hy
/-- a loop that ends the def at the first item that is so -/
theorem for_find {p : α → Bool} {σ : Sl} {r : D} {σr : α → Sl} : ∀ (l : List α), (∀ x ∈ l, turn g b (enc x) σ = if p x = true then .ret (.rt r, σr x) else .ret (.nx, σ)) → ∃ σ', forGo g b (l.map enc) σ = if l.any p = true then .ret (.rt r, σ') else .ret (.nx, σ)
  | [], _ => ⟨σ, rfl⟩
  | x :: l, h => by
    obtain ⟨σ', e⟩ := for_find l fun y hy => h y (List.mem_cons_of_mem _ hy)
    rw [List.map_cons, forGo_turn, h x List.mem_cons_self]
    cases hp : p x with
    | true => exact ⟨σr x, by rw [if_pos rfl, List.any_cons, hp]; rfl⟩
    | false => exact ⟨σ', by rw [if_neg (by decide), M.ret_bind, forK_nx, e, List.any_cons, hp, Bool.false_or]⟩
/-- turns that leave all as it was -/
theorem for_same {σ : Sl} : ∀ (l : List α), (∀ x ∈ l, turn g b (enc x) σ = .ret (.nx, σ)) → forGo g b (l.map enc) σ = .ret (.nx, σ)
  | [], _ => rfl
  | x :: l, h => by
    rw [List.map_cons, forGo_turn, h x List.mem_cons_self, M.ret_bind, forK_nx, for_same l fun y hy => h y (List.mem_cons_of_mem _ hy)]
/-- drawn turns -/
theorem runs_turns {R : D → Prop} {k : Nat} : ∀ (ds : List D) (I : Nat → Sl → Prop) (σ : Sl), I 0 σ → (∀ i d, ds[i]? = some d → ∀ σ, I i σ → Runs (turn g b d σ) k (RIs (I (i + 1)) R)) → Runs (forGo g b ds σ) (ds.length * k) (RIs (I ds.length) R)
  | [], I, σ, h, _ => .ret h
  | d :: ds, I, σ, h, step => by
    rw [forGo_turn, List.length_cons, Nat.add_mul, Nat.one_mul, Nat.add_comm]
    refine (step 0 d rfl σ h).bind fun a ha => ?_
    obtain ⟨fl, σ2⟩ := a
    cases fl with
    | nx => exact runs_turns ds (fun i => I (i + 1)) σ2 ha fun i d hd σ hi => step (i + 1) d hd σ hi
    | rt d => exact .ret ha
end
theorem ap_For {src : XA} {g : Tg} {b : XS} {σ : Sl} : sFor src g b σ = (src σ).bind fun ds => forGo g b ds σ := rfl
theorem numbered0 {α : Type} (enc : α → D) (l : List α) : numbered 0 (l.map enc) = l.zipIdx.map fun p => D.tup [.int (p.2 : Nat), enc p.1] := by
  rw [show (0 : Int) = ((0 : Nat) : Int) from rfl, numbered_map]
theorem mapV_nil : List.map SV.val [] = [] := rfl
theorem mapV_cons {d : D} {ds : List D} : List.map SV.val (d :: ds) = .val d :: List.map SV.val ds := rfl
end Mn

set_option maxHeartbeats 4000000
namespace Hd
open PySem PySem.Spec PyProof.Rows L2 Mn
def top (i : Nat) : Stmt := PySem.Challenge.pw_leastcells_k04_whole_right.main.body.getD i (.Pass ⟨0, 0, 0, 0⟩)
def d_is_integer : He.DefD := ⟨("is_integer", none), "is_integer", "is_integer", defArgs (top 10), defBody (top 10), defScope (top 10), [], []⟩
def d_is_between : He.DefD := ⟨("is_between", none), "is_between", "is_between", defArgs (top 11), defBody (top 11), defScope (top 11), [], []⟩
def d_are_rising : He.DefD := ⟨("are_rising", none), "are_rising", "are_rising", defArgs (top 12), defBody (top 12), defScope (top 12), [], []⟩
def d_is_tick : He.DefD := ⟨("is_tick", none), "is_tick", "is_tick", defArgs (top 13), defBody (top 13), defScope (top 13), [], []⟩
def d_is_call : He.DefD := ⟨("is_call", none), "is_call", "is_call", defArgs (top 14), defBody (top 14), defScope (top 14), [], []⟩
def d_is_value : He.DefD := ⟨("is_value", none), "is_value", "is_value", defArgs (top 15), defBody (top 15), defScope (top 15), [], []⟩
def d_need_record : He.DefD := ⟨("need_record", none), "need_record", "need_record", defArgs (top 16), defBody (top 16), defScope (top 16), [], []⟩
def d_is_lot : He.DefD := ⟨("is_lot", none), "is_lot", "is_lot", defArgs (top 17), defBody (top 17), defScope (top 17), [], []⟩
def d_need_lot : He.DefD := ⟨("need_lot", none), "need_lot", "need_lot", defArgs (top 18), defBody (top 18), defScope (top 18), [], []⟩
def d_need_number : He.DefD := ⟨("need_number", none), "need_number", "need_number", defArgs (top 19), defBody (top 19), defScope (top 19), [], []⟩
def d_calls_of : He.DefD := ⟨("calls_of", none), "calls_of", "calls_of", defArgs (top 20), defBody (top 20), defScope (top 20), [], []⟩
def d_near_of : He.DefD := ⟨("near_of", none), "near_of", "near_of", defArgs (top 21), defBody (top 21), defScope (top 21), [], []⟩
def d_far_of : He.DefD := ⟨("far_of", none), "far_of", "far_of", defArgs (top 22), defBody (top 22), defScope (top 22), [], []⟩
def d_early_in : He.DefD := ⟨("early_in", none), "early_in", "early_in", defArgs (top 23), defBody (top 23), defScope (top 23), [], []⟩
def d_early_reads : He.DefD := ⟨("early_reads", none), "early_reads", "early_reads", defArgs (top 24), defBody (top 24), defScope (top 24), [], []⟩
def d_is_forced_in : He.DefD := ⟨("is_forced_in", none), "is_forced_in", "is_forced_in", defArgs (top 25), defBody (top 25), defScope (top 25), [], []⟩
def d_are_odd_in : He.DefD := ⟨("are_odd_in", none), "are_odd_in", "are_odd_in", defArgs (top 26), defBody (top 26), defScope (top 26), [], []⟩
def d_need_pair : He.DefD := ⟨("need_pair", none), "need_pair", "need_pair", defArgs (top 27), defBody (top 27), defScope (top 27), [], []⟩
def d_is_forced : He.DefD := ⟨("is_forced", none), "is_forced", "is_forced", defArgs (top 28), defBody (top 28), defScope (top 28), [], []⟩
def d_odds_in : He.DefD := ⟨("odds_in", none), "odds_in", "odds_in", defArgs (top 29), defBody (top 29), defScope (top 29), [], []⟩
def d_all_odds : He.DefD := ⟨("all_odds", none), "all_odds", "all_odds", defArgs (top 30), defBody (top 30), defScope (top 30), [], []⟩
def d_need_both : He.DefD := ⟨("need_both", none), "need_both", "need_both", defArgs (top 32), defBody (top 32), defScope (top 32), [], []⟩
def d_can_stand : He.DefD := ⟨("can_stand", none), "can_stand", "can_stand", defArgs (top 33), defBody (top 33), defScope (top 33), [], []⟩
def d_ticks_from : He.DefD := ⟨("ticks_from", none), "ticks_from", "ticks_from", defArgs (top 34), defBody (top 34), defScope (top 34), [], []⟩
def d_soonest_in : He.DefD := ⟨("soonest_in", none), "soonest_in", "soonest_in", defArgs (top 35), defBody (top 35), defScope (top 35), [], []⟩
def d_need_row : He.DefD := ⟨("need_row", none), "need_row", "need_row", defArgs (top 36), defBody (top 36), defScope (top 36), [], []⟩
def d_soonest_placing : He.DefD := ⟨("soonest_placing", none), "soonest_placing", "soonest_placing", defArgs (top 37), defBody (top 37), defScope (top 37), [], []⟩
def d_early_of : He.DefD := ⟨("early_of", none), "early_of", "early_of", defArgs (top 39), defBody (top 39), defScope (top 39), [], []⟩
def d_is_right_in : He.DefD := ⟨("is_right_in", none), "is_right_in", "is_right_in", defArgs (top 40), defBody (top 40), defScope (top 40), [], []⟩
def d_is_right : He.DefD := ⟨("is_right", none), "is_right", "is_right", defArgs (top 41), defBody (top 41), defScope (top 41), [], []⟩
def d__law_mixed : He.DefD := ⟨("_law_mixed", none), "_law_mixed", "_law_mixed", defArgs (top 43), defBody (top 43), defScope (top 43), [], []⟩
def d__law_begin : He.DefD := ⟨("_law_begin", none), "_law_begin", "_law_begin", defArgs (top 44), defBody (top 44), defScope (top 44), [], []⟩
def d__law_draw : He.DefD := ⟨("_law_draw", none), "_law_draw", "_law_draw", defArgs (top 45), defBody (top 45), defScope (top 45), [], []⟩
def d__law_of : He.DefD := ⟨("_law_of", none), "_law_of", "_law_of", defArgs (top 46), defBody (top 46), defScope (top 46), [], []⟩
def d__law_calls : He.DefD := ⟨("_law_calls", none), "_law_calls", "_law_calls", defArgs (top 47), defBody (top 47), defScope (top 47), [], []⟩
def d__law_zone : He.DefD := ⟨("_law_zone", none), "_law_zone", "_law_zone", defArgs (top 48), defBody (top 48), defScope (top 48), [], []⟩
def d__law_forced : He.DefD := ⟨("_law_forced", none), "_law_forced", "_law_forced", defArgs (top 49), defBody (top 49), defScope (top 49), [], []⟩
def d__law_odd : He.DefD := ⟨("_law_odd", none), "_law_odd", "_law_odd", defArgs (top 50), defBody (top 50), defScope (top 50), [], []⟩
def d__law_early : He.DefD := ⟨("_law_early", none), "_law_early", "_law_early", defArgs (top 51), defBody (top 51), defScope (top 51), [], []⟩
def d__law_fits : He.DefD := ⟨("_law_fits", none), "_law_fits", "_law_fits", defArgs (top 52), defBody (top 52), defScope (top 52), [], []⟩
def d__law_holds : He.DefD := ⟨("_law_holds", none), "_law_holds", "_law_holds", defArgs (top 53), defBody (top 53), defScope (top 53), [], []⟩
def d__law_around : He.DefD := ⟨("_law_around", none), "_law_around", "_law_around", defArgs (top 54), defBody (top 54), defScope (top 54), [], []⟩
def d__law_cells : He.DefD := ⟨("_law_cells", none), "_law_cells", "_law_cells", defArgs (top 55), defBody (top 55), defScope (top 55), [], []⟩
def d__law_record : He.DefD := ⟨("_law_record", none), "_law_record", "_law_record", defArgs (top 56), defBody (top 56), defScope (top 56), [], []⟩
def d__law_lot : He.DefD := ⟨("_law_lot", none), "_law_lot", "_law_lot", defArgs (top 57), defBody (top 57), defScope (top 57), [], []⟩
def d__law_by_row : He.DefD := ⟨("_law_by_row", none), "_law_by_row", "_law_by_row", defArgs (top 58), defBody (top 58), defScope (top 58), [], []⟩
def d__law_rows : He.DefD := ⟨("_law_rows", none), "_law_rows", "_law_rows", defArgs (top 59), defBody (top 59), defScope (top 59), [], []⟩
def d__law_is_cell : He.DefD := ⟨("_law_is_cell", none), "_law_is_cell", "_law_is_cell", defArgs (top 60), defBody (top 60), defScope (top 60), [], []⟩
def d__law_at : He.DefD := ⟨("_law_at", none), "_law_at", "_law_at", defArgs (top 61), defBody (top 61), defScope (top 61), [], []⟩
def d__law_lots : He.DefD := ⟨("_law_lots", none), "_law_lots", "_law_lots", defArgs (top 62), defBody (top 62), defScope (top 62), [], []⟩
def d__law_record_right : He.DefD := ⟨("_law_record_right", none), "_law_record_right", "_law_record_right", defArgs (top 63), defBody (top 63), defScope (top 63), [], []⟩
def d_law : He.DefD := ⟨("law", none), "law", "law", defArgs (top 64), defBody (top 64), defScope (top 64), [], []⟩
def fn : List He.DefD := [d_is_integer, d_is_between, d_are_rising, d_is_tick, d_is_call, d_is_value, d_need_record, d_is_lot, d_need_lot, d_need_number, d_calls_of, d_near_of, d_far_of, d_early_in, d_early_reads, d_is_forced_in, d_are_odd_in, d_need_pair, d_is_forced, d_odds_in, d_all_odds, d_need_both, d_can_stand, d_ticks_from, d_soonest_in, d_need_row, d_soonest_placing, d_early_of, d_is_right_in, d_is_right, d__law_mixed, d__law_begin, d__law_draw, d__law_of, d__law_calls, d__law_zone, d__law_forced, d__law_odd, d__law_early, d__law_fits, d__law_holds, d__law_around, d__law_cells, d__law_record, d__law_lot, d__law_by_row, d__law_rows, d__law_is_cell, d__law_at, d__law_lots, d__law_record_right, d_law]
def fa : List He.Fa := [.int "MOST_TICK" 1000000000, .int "MOST_VALUES" 12, .int "MOST_READS" 4, .glo "is_integer", .glo "is_between", .glo "are_rising", .glo "is_tick", .glo "is_call", .glo "is_value", .glo "need_record", .glo "is_lot", .glo "need_lot", .glo "need_number", .glo "calls_of", .glo "near_of", .glo "far_of", .glo "early_in", .glo "early_reads", .glo "is_forced_in", .glo "are_odd_in", .glo "need_pair", .glo "is_forced", .glo "odds_in", .glo "all_odds", .glo "need_both", .glo "can_stand", .glo "ticks_from", .glo "soonest_in", .glo "need_row", .glo "soonest_placing", .glo "early_of", .glo "is_right_in", .glo "is_right", .glo "_law_mixed", .glo "_law_begin", .glo "_law_draw", .glo "_law_of", .glo "_law_calls", .glo "_law_zone", .glo "_law_forced", .glo "_law_odd", .glo "_law_early", .glo "_law_fits", .glo "_law_holds", .glo "_law_around", .glo "_law_cells", .glo "_law_record", .glo "_law_lot", .glo "_law_by_row", .glo "_law_rows", .glo "_law_is_cell", .glo "_law_at", .glo "_law_lots", .glo "_law_record_right", .glo "law", .free "all", .free "bool", .free "enumerate", .free "int", .free "isinstance", .free "len", .free "list", .free "max", .free "min", .free "range", .free "sorted", .free "super", .free "tuple", .free "zip"]
end Hd
namespace Hd
open PySem PySem.Spec PyProof.Rows L2 Mn
theorem sc__law_begin : FnScope ["_law_script", "_law_cells_here", "_law_cell"] ["_law_script"] (defScope (top 44)) := ⟨rfl, rfl, rfl, by decide +kernel, rfl, by decide +kernel, by decide +kernel⟩
theorem fn__law_begin {P : Program} {w : World} {K : PySem.W.Frag} {mg : Str → Option Value} {base h : Heap} (X : K.In h) (G : h.Ns mainGlobals mg) (c : He.SaysD fa fn K) : FnS P w K mg base 1 "_law_begin" (spBegin K) := by
  obtain ⟨fd, F⟩ := c.def_ 31 (d := d__law_begin) rfl
  have sc := sc__law_begin
  have g_list := He.free_ok X G (c.fact 61 (f := .free "list") rfl)
  refine ⟨⟨_, fd, ["_law_script"], He.glo_ok X G (c.fact 34 (f := .glo "_law_begin") rfl), F.kp, FunD.bindsN F (fun _ _ _ _ _ _ us hl => match us, hl with | [_], _ => rfl), F.ok (N := ["_law_script", "_law_cells_here", "_law_cell"]) sc (fun vs H Q E ⟨a, ns, w, e, _⟩ => by rw [e]; rfl) fun cdv A outer s H vs Q E hr hsp => ⟨tBg K (fun σ1 H1 Q1 => ∃ w1 H1', tF (cxOf (L2.CX P w) P w K mg base ["_law_script", "_law_cells_here", "_law_cell"] d__law_begin.qual d__law_begin.scope (He.ga K "_law_begin") cdv A outer s H E) WF w1 H1' (fLeft 2) σ1 H1 Q1), ?_, begin_pure (X := cxOf (L2.CX P w) P w K mg base ["_law_script", "_law_cells_here", "_law_cell"] d__law_begin.qual d__law_begin.scope (He.ga K "_law_begin") cdv A outer s H E) hsp⟩⟩⟩
  exact pss_cons (ps_set (i := 1) sc.nd rfl (Or.inl rfl) (pe_ifExp (pt_cmpR (op_neD (u64 hr)) (pv 0) (pe_lst pa_nil) (by rfl)) (pe_callTy call_list_of (by rfl) g_list boot_list (pa_cons (pv 0) pa_nil)) (pe_lst (pa_cons pe_int pa_nil))))
    (pss_one (ps_ret (pe_disp (pps_cons pe_str (pv 1) (pps_cons pe_str (FE.ex (fe_lc [("_law_cell", 2)] rfl sc.nd (di_S (de_v 1)) (blkOk_by (by kernel_rfl)) (fun _ _ _ _ _ => dg_n 2 sc.nd) (fun _ _ _ _ _ => dts_nil)
      (fun _ _ _ _ _ => de_if (dt_cmp op_ge ro_ge (DE.b (de_v 2)) (DE.b (de_op op_pow ro_pow (DE.b de_int) (DE.b de_int)))) (de_v 2) de_int))) (pps_cons pe_str pe_int (pps_cons pe_str pe_int pps_nil)))) (by rfl) (by rfl) (fun z => by cases z) (by decide))))
def b__law_mixed : XS := sSeq (sSet 0 (x2 gMod (xCall fInt (aCons (xV 0) (aNil))) (xC (.int 2147483647)))) (sRet (x2 gMod (x2 gMulA (x2 gMod (x2 gAdd (x2 gAdd (x2 gMulA (xV 0) (x2 gAdd (xC (.int 48271)) (x2 gMulA (x2 gMulA (xC (.int 2)) (xV 1)) (xV 1)))) (x2 gMulA (xC (.int 69621)) (xV 1))) (xC (.int 11))) (xC (.int 2147483647))) (xC (.int 69621))) (xC (.int 2147483629))))
def m__law_mixed : List D → M D := fnOf 2 2 b__law_mixed
theorem sc__law_mixed : FnScope ["_law_cell", "_law_k"] ["_law_cell", "_law_k"] (defScope (top 43)) := ⟨rfl, rfl, rfl, by decide +kernel, rfl, by decide +kernel, by decide +kernel⟩
theorem fn__law_mixed {P : Program} {w : World} {K : PySem.W.Frag} {mg : Str → Option Value} {base h : Heap} (X : K.In h) (G : h.Ns mainGlobals mg) (c : He.SaysD fa fn K) : Fn0 P w K mg base 1 "_law_mixed" 2 m__law_mixed := by
  obtain ⟨fd, F⟩ := c.def_ 30 (d := d__law_mixed) rfl
  have sc := sc__law_mixed
  have g_int := He.free_ok X G (c.fact 58 (f := .free "int") rfl)
  refine ⟨⟨_, fd, ["_law_cell", "_law_k"], He.glo_ok X G (c.fact 33 (f := .glo "_law_mixed") rfl), F.kp, FunD.bindsN F (fun _ _ _ _ _ _ us hl => match us, hl with | [_, _], _ => rfl), mn_ok (N := ["_law_cell", "_law_k"]) F sc (by decide) fun cdv A outer s H E hr => ?_⟩⟩
  exact dss_cons (ds_set (i := 0) sc.nd (de_op op_mod ro_mod (DE.b (de_callTy call_int1 rc_int g_int (by rfl) (bas_cons (DE.b (de_v 0)) (bas_nil)))) (DE.b (de_int)))) (dss_one (ds_ret (de_op op_mod ro_mod (DE.b (de_op op_mulA ro_mulA (DE.b (de_op op_mod ro_mod (DE.b (de_op op_addA ro_add (DE.b (de_op op_addA ro_add (DE.b (de_op op_mulA ro_mulA (DE.b (de_v 0)) (DE.b (de_op op_addA ro_add (DE.b (de_int)) (DE.b (de_op op_mulA ro_mulA (DE.b (de_op op_mulA ro_mulA (DE.b (de_int)) (DE.b (de_v 1)))) (DE.b (de_v 1)))))))) (DE.b (de_op op_mulA ro_mulA (DE.b (de_int)) (DE.b (de_v 1)))))) (DE.b (de_int)))) (DE.b (de_int)))) (DE.b (de_int)))) (DE.b (de_int)))))
theorem mix_ok : MixOk m__law_mixed := by
  intro a b h1 h2
  have s1 : small (a % 2147483647) = true := small_of (by have := Int.emod_nonneg a (b := 2147483647) (by decide); omega) (by have := Int.emod_lt_of_pos a (b := 2147483647) (by decide); omega)
  have s2 : small b = true := small_of (by omega) (by omega)
  have s3 : small 2 = true := by decide
  have s4 : small 69621 = true := by decide
  refine ⟨(a % 2147483647 * (48271 + 2 * b * b) + 69621 * b + 11) % 2147483647 * 69621 % 2147483629, ?_, Int.emod_nonneg _ (by decide), Int.emod_lt_of_pos _ (by decide)⟩
  simp [m__law_mixed, b__law_mixed, fnOf, sSeq, sSet, sRet, Mn.x2, xCall, xV, xC, aCons, aNil, gMod, gAdd, gMulA, gMul, fInt, s1, s2, s3, s4]
abbrev m__law_draw : List D → M D := fDraw
theorem dr_ (n : Int) : m__law_draw [.st, .int n] = .draw n fun r => .ret (.int r) := rfl
theorem sc__law_draw : FnScope ["_law_state", "_law_many", "_law_at_here", "_law_place", "_law_left", "_law_number"] ["_law_state", "_law_many"] (defScope (top 45)) := ⟨rfl, rfl, rfl, by decide +kernel, rfl, by decide +kernel, by decide +kernel⟩
theorem fn__law_draw {P : Program} {w : World} {K : PySem.W.Frag} {mg : Str → Option Value} {base h : Heap} (X : K.In h) (G : h.Ns mainGlobals mg) (c : He.SaysD fa fn K) : Fn0 P w K mg base 2 "_law_draw" 2 m__law_draw := by
  obtain ⟨fd, F⟩ := c.def_ 32 (d := d__law_draw) rfl
  have sc := sc__law_draw
  have c__law_mixed := fn__law_mixed (P := P) (w := w) (base := base) X G c
  obtain ⟨aM, fdM, psM, gM, kM, bM, GM⟩ := c__law_mixed.ex
  have g_int := He.free_ok X G (c.fact 58 (f := .free "int") rfl)
  have g_len := He.free_ok X G (c.fact 60 (f := .free "len") rfl)
  refine ⟨⟨_, fd, ["_law_state", "_law_many"], He.glo_ok X G (c.fact 35 (f := .glo "_law_draw") rfl), F.kp, FunD.bindsN F (fun _ _ _ _ _ _ us hl => match us, hl with | [_, _], _ => rfl), F.ok (N := ["_law_state", "_law_many", "_law_at_here", "_law_place", "_law_left", "_law_number"]) sc (fun vs H Q E ⟨w0, c, ds, ok, hl, rs, q⟩ => rs.length.trans hl) fun cdv A outer s H vs Q E hr ⟨w0, c0, ds, ok, hl, rs, q⟩ => ⟨tD K (rLen (cxOf (L2.CX P w) P w K mg base ["_law_state", "_law_many", "_law_at_here", "_law_place", "_law_left", "_law_number"] d__law_draw.qual d__law_draw.scope (He.ga K "_law_draw") cdv A outer s H E)) (spOf K mg 2 m__law_mixed) (WE fun cls d _ H' => E cls d H') (fun σ1 H1 Q1 => ∃ w1 H1', tE (cxOf (L2.CX P w) P w K mg base ["_law_state", "_law_many", "_law_at_here", "_law_place", "_law_left", "_law_number"] d__law_draw.qual d__law_draw.scope (He.ga K "_law_draw") cdv A outer s H E) (fun cls d _ H' => E cls d H') w1 H1' (f7 m__law_mixed) σ1 H1 Q1), ?_, draw_pure (X := (cxOf (L2.CX P w) P w K mg base ["_law_state", "_law_many", "_law_at_here", "_law_place", "_law_left", "_law_number"] d__law_draw.qual d__law_draw.scope (He.ga K "_law_draw") cdv A outer s H E)) mix_ok ok rs q hl⟩⟩⟩
  have hu := u1 hr
  exact pss_cons (ps_set (i := 2) sc.nd rfl (Or.inl rfl) (pe_dget hu (pv 0) pe_str (fun _ _ => rfl)))
    (pss_cons (ps_dput hu (pv 0) pe_str (pe_op op_add (pv 2) pe_int) (by rfl))
    (pss_cons (ps_set (i := 3) sc.nd rfl (Or.inl rfl) (pe_op op_mod (pe_callTy call_int1 (by rfl) g_int boot_int (pa_cons (pv 2) pa_nil)) (pe_callB call_lenM (by rfl) g_len boot_len (pa_cons (pe_dget hu (pv 0) pe_str (fun _ _ => rfl)) pa_nil))))
    (pss_cons (ps_set (i := 4) sc.nd rfl (Or.inl rfl) (pe_ix ix_seq (pe_dget hu (pv 0) pe_str (fun _ _ => rfl)) (pv 3) (fun _ _ => rfl)))
    (pss_cons (ps_if (pt_cmpR op_gt (pv 4) pe_int (by rfl)) (pss_cons (ps_asg (pe_op op_fdiv (pv 4) (pv 1)) (pg_sub (pe_dget hu (pv 0) pe_str (fun _ _ => rfl)) (pv 3) set_list)) (pss_one (ps_ret (pe_op op_mod (pe_callTy call_int1 (by rfl) g_int boot_int (pa_cons (pv 4) pa_nil)) (pv 1))))) pss_nil)
    (pss_cons (ps_set (i := 5) sc.nd rfl (Or.inl rfl) (pe_callS GM (hr.mono (by decide)) (by rfl) gM kM bM (fun σ => passAt takes_fn σ) (pa_cons (pe_callS GM (hr.mono (by decide)) (by rfl) gM kM bM (fun σ => passAt takes_fn σ) (pa_cons (pe_ix ix_seq (pe_dget hu (pv 0) pe_str (fun _ _ => rfl)) (pv 3) (fun _ _ => rfl)) (pa_cons (pv 2) pa_nil))) (pa_cons (pe_op op_add pe_int (pv 2)) pa_nil))))
    (pss_one (ps_ret (DE.ex (de_op op_mod ro_mod (DE.b (de_op op_fdiv ro_fdiv (DE.b (de_callTy call_int1 rc_int g_int (by rfl) (bas_cons (DE.b (de_op op_addA ro_add (DE.b (de_op op_mulA ro_mulA (DE.b (de_v 5)) (DE.b (de_int)))) (DE.b (de_fn c__law_mixed (hr.mono (by decide)) takes_fn (das_cons (de_v 5) (das_cons (de_op op_addA ro_add (DE.b (de_int)) (DE.b (de_v 2))) (das_nil))) (len_cons (len_cons len_nil)))))) (bas_nil)))) (DE.b (de_int)))) (DE.b (de_v 1)))))))))))
end Hd
namespace Hd
open PySem PySem.Spec PyProof.Rows L2 Mn
def b_is_integer : XS := sRet (xAnd (x1 (gIsi isIntT) (xV 0)) (xNot (bV (x1 (gIsi isBlT) (xV 0)))))
def m_is_integer : List D → M D := fnOf 1 1 b_is_integer
def e1_are_rising : XE := x2 gLt (xV 1) (xV 2)
def c1_are_rising : XE := xLc (wZip (xV 0) (xCut (xV 0) (oSome (xC (.int 1))) oNone)) [1, 2] (.t [.n 1, .n 2]) (bYes) (e1_are_rising)
def b_are_rising : XS := sRet (xCall fAll (aCons (c1_are_rising) (aNil)))
def m_are_rising : List D → M D := fnOf 3 1 b_are_rising
def b_calls_of : XS := sRet (xLstS (aCons (x2 gIx (xV 0) (xC (.int 0))) (aStar (x2 gIx (xV 0) (xC (.int 1))) (aNil))))
def m_calls_of : List D → M D := fnOf 1 1 b_calls_of
def e1_early_in : XE := x2 gAdd (xV 1) (xC (.int 1))
def t1_early_in : XB := bV (x2 gLt (x2 gIx (xV 2) (xC (.int 1))) (x2 gIx (x2 gIx (xV 0) (xC (.int 0))) (xC (.int 0))))
def c1_early_in : XE := xLc (wEnum (x2 gIx (xV 0) (xC (.int 1)))) [1, 2] (.t [.n 1, .n 2]) (t1_early_in) (e1_early_in)
def b_early_in : XS := sRet (c1_early_in)
def m_early_in : List D → M D := fnOf 3 1 b_early_in
def e1_ticks_from : XE := xCall fMax (aCons (xV 2) (aCons (x2 gIx (xV 3) (xC (.int 0))) (aNil)))
def c1_ticks_from : XE := xLc (wS (x2 gIx (xV 0) (xC (.int 1)))) [3] (.n 3) (bYes) (e1_ticks_from)
def b_ticks_from : XS := sSeq (sSet 2 (xCall fMax (aCons (xV 1) (aCons (x2 gIx (x2 gIx (xV 0) (xC (.int 0))) (xC (.int 0))) (aNil))))) (sRet (xCall fTuple (aCons (xLstS (aCons (xV 2) (aStar (c1_ticks_from) (aNil)))) (aNil))))
def m_ticks_from : List D → M D := fnOf 4 2 b_ticks_from
def b__law_calls : XS := sRet (x2 gAdd (xLst (aCons (x2 gIx (xV 0) (xC (.int 0))) (aNil))) (xCall fList (aCons (x2 gIx (xV 0) (xC (.int 1))) (aNil))))
def m__law_calls : List D → M D := fnOf 1 1 b__law_calls
def e1__law_early : XE := x2 gAdd (xV 1) (xC (.int 1))
def t1__law_early : XB := bV (x2 gLt (x2 gIx (xV 2) (xC (.int 1))) (x2 gIx (x2 gIx (xV 0) (xC (.int 0))) (xC (.int 0))))
def c1__law_early : XE := xLc (wEnum (x2 gIx (xV 0) (xC (.int 1)))) [1, 2] (.t [.n 1, .n 2]) (t1__law_early) (e1__law_early)
def b__law_early : XS := sRet (c1__law_early)
def m__law_early : List D → M D := fnOf 3 1 b__law_early
def e1__law_rows : XE := x2 gAdd (xV 4) (xTup (aCons (xV 5) (aNil)))
def t1__law_rows : XB := bV (x2 gNotIn (xV 5) (xV 4))
def c1__law_rows : XE := xLc (wRng1 (xV 0)) [5] (.n 5) (t1__law_rows) (e1__law_rows)
def lb1__law_rows : XS := sSeq (sExt 3 (c1__law_rows)) (sWipe [4])
def l1__law_rows : XS := sFor (wS (xV 1)) (.n 4) (lb1__law_rows)
def lb2__law_rows : XS := sSeq (sSeq (sOwn 3 (xLst (aNil))) (sSeq (l1__law_rows) (sSet 1 (xCall fList (aCons (xO 3) (aNil)))))) (sWipe [2, 3, 4])
def l2__law_rows : XS := sFor (wRng1 (xV 0)) (.n 2) (lb2__law_rows)
def b__law_rows : XS := sSeq (sSet 1 (xLst (aCons (xTup (aNil)) (aNil)))) (sSeq (l2__law_rows) (sRet (xV 1)))
def m__law_rows : List D → M D := fnOf 6 1 b__law_rows
def b__law_at : XS := sSeq (sAsg (x2 gIx (xV 0) (xV 1)) (.t [.n 4, .n 5])) (sSeq (sIf (bV (x2 gEq (xV 2) (xC (.int 0)))) (sSet 4 (xTup (aCons (xV 3) (aCons (xV 3) (aNil))))) (sSet 5 (x2 gAdd (x2 gAdd (xCut (xV 5) oNone (oSome (x2 gSub (xV 2) (xC (.int 1))))) (xTup (aCons (xTup (aCons (xV 3) (aCons (xV 3) (aNil)))) (aNil)))) (xCut (xV 5) (oSome (xV 2)) oNone)))) (sRet (x2 gAdd (x2 gAdd (xCall fTuple (aCons (xCut (xV 0) oNone (oSome (xV 1))) (aNil))) (xTup (aCons (xTup (aCons (xV 4) (aCons (xV 5) (aNil)))) (aNil)))) (xCall fTuple (aCons (xCut (xV 0) (oSome (x2 gAdd (xV 1) (xC (.int 1)))) oNone) (aNil))))))
def m__law_at : List D → M D := fnOf 6 4 b__law_at
def e1__law_lots : XE := x2 gAdd (xV 3) (xTup (aCons (xV 2) (aNil)))
def c1__law_lots : XE := xLc (wS (xV 1)) [3] (.n 3) (bYes) (e1__law_lots)
def lb1__law_lots : XS := sSeq (sSet 1 (x2 gAdd (xV 1) (c1__law_lots))) (sWipe [2])
def l1__law_lots : XS := sFor (wRng1 (xV 0)) (.n 2) (lb1__law_lots)
def b__law_lots : XS := sSeq (sSet 1 (xLst (aCons (xTup (aNil)) (aNil)))) (sSeq (l1__law_lots) (sRet (xV 1)))
def m__law_lots : List D → M D := fnOf 4 1 b__law_lots
def b_is_between : XS := sRet (xAnd (xCall m_is_integer (aCons (xV 0) (aNil))) (xChain gLe gLe (xV 1) (xV 0) (xV 2)))
def m_is_between : List D → M D := fnOf 3 3 b_is_between
def e1_near_of : XE := x2 gIx (xV 1) (xC (.int 1))
def c1_near_of : XE := xLc (wS (xCall m_calls_of (aCons (xV 0) (aNil)))) [1] (.n 1) (bYes) (e1_near_of)
def b_near_of : XS := sRet (xCall fMin (aCons (c1_near_of) (aNil)))
def m_near_of : List D → M D := fnOf 2 1 b_near_of
def e1_far_of : XE := x2 gIx (xV 1) (xC (.int 0))
def c1_far_of : XE := xLc (wS (xCall m_calls_of (aCons (xV 0) (aNil)))) [1] (.n 1) (bYes) (e1_far_of)
def b_far_of : XS := sRet (xCall fMax (aCons (c1_far_of) (aNil)))
def m_far_of : List D → M D := fnOf 2 1 b_far_of
def e1_need_row : XE := xCall m_is_integer (aCons (xV 2) (aNil))
def c1_need_row : XE := xLc (wS (xV 1)) [2] (.n 2) (bYes) (e1_need_row)
def b_need_row : XS := sIf (bOr (bNot (bV (x1 (gIsi isTup) (xV 1)))) (bOr (bNot (bV (xCall fAll (aCons (c1_need_row) (aNil))))) (bV (x2 gNe (xCall fTuple (aCons (xCall fSortedT (aCons (xV 1) (aNil))) (aNil))) (xV 0))))) (sStk) (sNx)
def m_need_row : List D → M D := fnOf 3 2 b_need_row
def e1_early_of : XE := xTup (aCons (xV 2) (aCons (xV 3) (aNil)))
def s1_early_of : XA := wS (xCall m_early_in (aCons (x2 gIx (xV 0) (xV 2)) (aNil)))
def c1_early_of : XE := xLc2 (wS (xV 1)) [2, 3] (.n 2) (bYes) (s1_early_of) [3] (.n 3) (bYes) (e1_early_of)
def b_early_of : XS := sRet (c1_early_of)
def m_early_of : List D → M D := fnOf 4 2 b_early_of
def e1__law_zone : XE := xV 3
def c1__law_zone : XE := xLc (wS (xV 1)) [2, 3] (.t [.n 2, .n 3]) (bYes) (e1__law_zone)
def e2__law_zone : XE := xV 2
def c2__law_zone : XE := xLc (wS (xV 1)) [2, 3] (.t [.n 2, .n 3]) (bYes) (e2__law_zone)
def b__law_zone : XS := sSeq (sSet 1 (xCall m__law_calls (aCons (xV 0) (aNil)))) (sRet (xTup (aCons (xCall fMin (aCons (c1__law_zone) (aNil))) (aCons (xCall fMax (aCons (c2__law_zone) (aNil))) (aNil)))))
def m__law_zone : List D → M D := fnOf 4 1 b__law_zone
def lb1__law_holds : XS := sSeq (sIf (bOr (bNot (bV (x1 (gIsi isIntT) (xV 8)))) (bOr (bV (x1 (gIsi isBlT) (xV 8))) (bOr (bNot (bV (xChain gLe gLe (xV 6) (xV 8) (xV 7)))) (bV (x2 gLt (xV 8) (x2 gIx (xV 4) (xC (.int 0)))))))) (sRet (xC (.bl false))) (sNx)) (sWipe [6, 7, 8])
def l1__law_holds : XS := sFor (wZip (xV 5) (xV 4)) (.t [.t [.n 6, .n 7], .n 8]) (lb1__law_holds)
def lb2__law_holds : XS := sSeq (sSeq (sSet 5 (xCall m__law_calls (aCons (xV 3) (aNil)))) (sSeq (sIf (bOr (bNot (bV (x1 (gIsi isTup) (xV 4)))) (bV (x2 gNe (xCall fLen (aCons (xV 4) (aNil))) (xCall fLen (aCons (xV 5) (aNil)))))) (sRet (xC (.bl false))) (sNx)) (sSeq (l1__law_holds) (sApp 2 (xTup (aCons (x2 gIx (xV 4) (xC (.int 0))) (aCons (xCall fMax (aCons (xV 4) (aNil))) (aNil)))))))) (sWipe [6, 5, 7, 8, 4, 3])
def l2__law_holds : XS := sFor (wZip (xV 0) (xV 1)) (.t [.n 3, .n 4]) (lb2__law_holds)
def e1__law_holds : XE := xC (.int 1)
def t1__law_holds : XB := bV (x2 gGt (x2 gIx (xV 9) (xC (.int 1))) (x2 gIx (xV 10) (xC (.int 0))))
def c1__law_holds : XE := xLc (wZip (xV 2) (xCut (xO 2) (oSome (xC (.int 1))) oNone)) [9, 10] (.t [.n 9, .n 10]) (t1__law_holds) (e1__law_holds)
def b__law_holds : XS := sSeq (sIf (bOr (bNot (bV (x1 (gIsi isTup) (xV 1)))) (bV (x2 gNe (xCall fLen (aCons (xV 1) (aNil))) (xCall fLen (aCons (xV 0) (aNil)))))) (sRet (xC (.bl false))) (sNx)) (sSeq (sOwn 2 (xLst (aNil))) (sSeq (l2__law_holds) (sSeq (sOwn 2 (xCall fSortedT (aCons (xO 2) (aNil)))) (sFrz 2 (sRet (x2 gEq (c1__law_holds) (xLst (aNil))))))))
def m__law_holds : List D → M D := fnOf 11 2 b__law_holds
def e1__law_by_row : XE := xCall fMax (aCons (x2 gIx (xV 7) (xC (.int 0))) (aCons (xV 8) (aNil)))
def c1__law_by_row : XE := xLc (wS (xV 6)) [8, 9] (.t [.n 8, .n 9]) (bYes) (e1__law_by_row)
def e2__law_by_row : XE := xC (.int 1)
def t1__law_by_row : XB := bV (x2 gGt (xV 10) (x2 gIx (xV 11) (xC (.int 1))))
def c2__law_by_row : XE := xLc (wZip (xV 7) (xCall m__law_calls (aCons (x2 gIx (xV 0) (xV 4)) (aNil)))) [10, 11] (.t [.n 10, .n 11]) (t1__law_by_row) (e2__law_by_row)
def lb1__law_by_row : XS := sSeq (sSeq (sAsg (x2 gIx (xV 0) (xV 4)) (.t [.n 5, .n 6])) (sSeq (sSet 7 (xLst (aCons (xCall fMax (aCons (xV 3) (aCons (x2 gIx (xV 5) (xC (.int 0))) (aNil)))) (aNil)))) (sSeq (sSet 7 (x2 gAdd (xV 7) (c1__law_by_row))) (sSeq (sIf (bV (x2 gNe (c2__law_by_row) (xLst (aNil)))) (sRet (xC .non)) (sNx)) (sPutDN 2 (xV 4) 3 (xTup (aCons (xCall fTuple (aCons (xV 7) (aNil))) (aCons (xCall fMax (aCons (xV 7) (aNil))) (aNil))))))))) (sWipe [4, 6, 7, 5])
def l1__law_by_row : XS := sFor (wS (xV 1)) (.n 4) (lb1__law_by_row)
def e3__law_by_row : XE := x2 gIxD (xO 2) (xV 4)
def c3__law_by_row : XE := xLc (wS (xCall fSortedD (aCons (xO 2) (aNil)))) [4] (.n 4) (bYes) (e3__law_by_row)
def b__law_by_row : XS := sSeq (sPar [2, 3] (mOwn (xD0) (mVal (x1 gNeg (x2 gPow (xC (.int 10)) (xC (.int 9)))) (mNil)))) (sSeq (l1__law_by_row) (sRet (xCall fTuple (aCons (c3__law_by_row) (aNil)))))
def m__law_by_row : List D → M D := fnOf 12 2 b__law_by_row
def b_is_tick : XS := sRet (xCall m_is_between (aCons (xV 0) (aCons (x2 gSub (xC (.int 0)) (xC (.int 1000000000))) (aCons (xC (.int 1000000000)) (aNil)))))
def m_is_tick : List D → M D := fnOf 1 1 b_is_tick
def e1_is_lot : XE := xCall m_is_between (aCons (xV 2) (aCons (xC (.int 0)) (aCons (x2 gSub (xCall fLen (aCons (xV 0) (aNil))) (xC (.int 1))) (aNil))))
def c1_is_lot : XE := xLc (wS (xV 1)) [2] (.n 2) (bYes) (e1_is_lot)
def b_is_lot : XS := sSeq (sIf (bOr (bNot (bV (x1 (gIsi isTup) (xV 1)))) (bNot (bV (xCall fAll (aCons (c1_is_lot) (aNil)))))) (sRet (xC (.bl false))) (sNx)) (sRet (xCall m_are_rising (aCons (xV 1) (aNil))))
def m_is_lot : List D → M D := fnOf 3 2 b_is_lot
def b_need_number : XS := sIf (bNot (bV (xCall m_is_between (aCons (xV 1) (aCons (xC (.int 0)) (aCons (x2 gSub (xCall fLen (aCons (xV 0) (aNil))) (xC (.int 1))) (aNil))))))) (sStk) (sNx)
def m_need_number : List D → M D := fnOf 2 2 b_need_number
def b_is_forced_in : XS := sRet (xAnd (x2 gNe (xV 1) (xV 2)) (x2 gLt (xCall m_near_of (aCons (x2 gIx (xV 0) (xV 1)) (aNil))) (xCall m_far_of (aCons (x2 gIx (xV 0) (xV 2)) (aNil)))))
def m_is_forced_in : List D → M D := fnOf 3 3 b_is_forced_in
def e1_can_stand : XE := xCall m_near_of (aCons (x2 gIx (xV 0) (xV 5)) (aNil))
def c1_can_stand : XE := xLc (wS (xCut (xV 1) (oSome (x2 gAdd (xV 2) (xC (.int 1)))) oNone)) [5] (.n 5) (bYes) (e1_can_stand)
def lb1_can_stand : XS := sSeq (sSeq (sSet 4 (c1_can_stand)) (sIf (bOr (bV (x2 gNe (xCall m_early_in (aCons (x2 gIx (xV 0) (xV 3)) (aNil))) (xLst (aNil)))) (bAnd (bV (x2 gNe (xV 4) (xLst (aNil)))) (bV (x2 gGt (xCall m_far_of (aCons (x2 gIx (xV 0) (xV 3)) (aNil))) (xCall fMin (aCons (xV 4) (aNil))))))) (sRet (xC (.bl false))) (sNx))) (sWipe [4, 3, 2])
def l1_can_stand : XS := sFor (wEnum (xV 1)) (.t [.n 2, .n 3]) (lb1_can_stand)
def b_can_stand : XS := sSeq (l1_can_stand) (sRet (xC (.bl true)))
def m_can_stand : List D → M D := fnOf 6 2 b_can_stand
def lb1_soonest_in : XS := sSeq (sSeq (sPutD 3 (xV 5) (xCall m_ticks_from (aCons (x2 gIx (xV 0) (xV 5)) (aCons (xV 4) (aNil))))) (sSet 4 (xCall fMax (aCons (xV 4) (aCons (xCall m_far_of (aCons (x2 gIx (xV 0) (xV 5)) (aNil))) (aNil)))))) (sWipe [5])
def l1_soonest_in : XS := sFor (wS (xV 2)) (.n 5) (lb1_soonest_in)
def e1_soonest_in : XE := x2 gIxD (xO 3) (xV 5)
def c1_soonest_in : XE := xLc (wS (xV 1)) [5] (.n 5) (bYes) (e1_soonest_in)
def b_soonest_in : XS := sSeq (sPar [3, 4] (mOwn (xD0) (mVal (x2 gSub (xC (.int 0)) (xC (.int 1000000000))) (mNil)))) (sSeq (l1_soonest_in) (sRet (xCall fTuple (aCons (c1_soonest_in) (aNil)))))
def m_soonest_in : List D → M D := fnOf 6 3 b_soonest_in
def b__law_of : XS := sRet (x2 gIx (xV 1) (xCall m__law_draw (aCons (xV 0) (aCons (xCall fLen (aCons (xV 1) (aNil))) (aNil)))))
def m__law_of : List D → M D := fnOf 2 2 b__law_of
def b__law_forced : XS := sRet (x2 gLt (x2 gIx (xCall m__law_zone (aCons (xV 0) (aNil))) (xC (.int 0))) (x2 gIx (xCall m__law_zone (aCons (xV 1) (aNil))) (xC (.int 1))))
def m__law_forced : List D → M D := fnOf 2 2 b__law_forced
def b__law_around : XS := sRet (xTup (aCons (x2 gSub (xV 1) (xCall m__law_draw (aCons (xV 0) (aCons (x2 gAdd (xV 2) (xC (.int 1))) (aNil))))) (aCons (x2 gAdd (xV 1) (xCall m__law_draw (aCons (xV 0) (aCons (x2 gAdd (xV 2) (xC (.int 1))) (aNil))))) (aNil))))
def m__law_around : List D → M D := fnOf 3 3 b__law_around
def e1__law_lot : XE := xV 2
def t1__law_lot : XB := bV (x2 gGt (xCall m__law_draw (aCons (xV 0) (aCons (xC (.int 3)) (aNil)))) (xC (.int 0)))
def c1__law_lot : XE := xLc (wRng1 (xV 1)) [2] (.n 2) (t1__law_lot) (e1__law_lot)
def b__law_lot : XS := sRet (xCall fTuple (aCons (c1__law_lot) (aNil)))
def m__law_lot : List D → M D := fnOf 3 2 b__law_lot
def e1__law_is_cell : XE := xC (.int 1)
def t1__law_is_cell : XB := bV (x2 gIsNotN (xCall m__law_by_row (aCons (xV 0) (aCons (xV 1) (aNil)))) (xC .non))
def c1__law_is_cell : XE := xLc (wS (xCall m__law_rows (aCons (xCall fLen (aCons (xV 0) (aNil))) (aNil)))) [1] (.n 1) (t1__law_is_cell) (e1__law_is_cell)
def b__law_is_cell : XS := sRet (x2 gNe (c1__law_is_cell) (xLst (aNil)))
def m__law_is_cell : List D → M D := fnOf 2 1 b__law_is_cell
def b_is_call : XS := sSeq (sIf (bOr (bNot (bV (x1 (gIsi isTup) (xV 0)))) (bOr (bV (x2 gNe (xCall fLen (aCons (xV 0) (aNil))) (xC (.int 2)))) (bOr (bNot (bV (xCall m_is_tick (aCons (x2 gIx (xV 0) (xC (.int 0))) (aNil))))) (bNot (bV (xCall m_is_tick (aCons (x2 gIx (xV 0) (xC (.int 1))) (aNil)))))))) (sRet (xC (.bl false))) (sNx)) (sRet (x2 gLe (x2 gIx (xV 0) (xC (.int 0))) (x2 gIx (xV 0) (xC (.int 1)))))
def m_is_call : List D → M D := fnOf 1 1 b_is_call
def b_need_lot : XS := sIf (bNot (bV (xCall m_is_lot (aCons (xV 0) (aCons (xV 1) (aNil)))))) (sStk) (sNx)
def m_need_lot : List D → M D := fnOf 2 2 b_need_lot
def b_are_odd_in : XS := sRet (xAnd (xCall m_is_forced_in (aCons (xV 0) (aCons (xV 1) (aCons (xV 2) (aNil))))) (xCall m_is_forced_in (aCons (xV 0) (aCons (xV 2) (aCons (xV 1) (aNil))))))
def m_are_odd_in : List D → M D := fnOf 3 3 b_are_odd_in
def b__law_odd : XS := sRet (xAnd (xCall m__law_forced (aCons (xV 0) (aCons (xV 1) (aNil)))) (xCall m__law_forced (aCons (xV 1) (aCons (xV 0) (aNil)))))
def m__law_odd : List D → M D := fnOf 2 2 b__law_odd
def e1__law_cells : XE := xLst (aNil)
def c1__law_cells : XE := xLc (wRng1 (xV 2)) [7] (.n 7) (bYes) (e1__law_cells)
def lb1__law_cells : XS := sSeq (sSeq (sSet 6 (x2 gAdd (xV 6) (xCall m__law_draw (aCons (xV 0) (aCons (xC (.int 3)) (aNil)))))) (sSeq (sSet 8 (xCall m__law_draw (aCons (xV 0) (aCons (xV 2) (aNil))))) (sIf (bAnd (bV (x2 gLt (xCall fLen (aCons (xO 5) (aNil))) (xV 1))) (bOr (bV (x2 gEq (x2 gIx (xO 4) (xV 8)) (xLst (aNil)))) (bV (x2 gEq (xCall m__law_draw (aCons (xV 0) (aCons (xC (.int 3)) (aNil)))) (xC (.int 0)))))) (sSeq (sPutL 4 (xV 8) (xLst (aCons (xCall fLen (aCons (xO 5) (aNil))) (aNil)))) (sApp 5 (xTup (aCons (xCall m__law_around (aCons (xV 0) (aCons (xV 6) (aCons (xV 3) (aNil))))) (aCons (xTup (aNil)) (aNil)))))) (sIf (bAnd (bV (x2 gNe (x2 gIx (xO 4) (xV 8)) (xLst (aNil)))) (bV (x2 gLt (xCall fLen (aCons (x2 gIx (x2 gIx (xO 5) (x2 gIx (x2 gIx (xO 4) (xV 8)) (xC (.int 0)))) (xC (.int 1))) (aNil))) (xC (.int 3))))) (sSeq (sSet 9 (x2 gIx (x2 gIx (xO 4) (xV 8)) (xC (.int 0)))) (sPutL 5 (xV 9) (xTup (aCons (x2 gIx (x2 gIx (xO 5) (xV 9)) (xC (.int 0))) (aCons (x2 gAdd (x2 gIx (x2 gIx (xO 5) (xV 9)) (xC (.int 1))) (xTup (aCons (xCall m__law_around (aCons (xV 0) (aCons (xV 6) (aCons (xV 3) (aNil))))) (aNil)))) (aNil)))))) (sNx))))) (sWipe [7, 9, 8])
def l1__law_cells : XS := sFor (wRng1 (x2 gMulA (xC (.int 3)) (xV 1))) (.n 7) (lb1__law_cells)
def b__law_cells : XS := sSeq (sPar [4, 5, 6] (mOwn (c1__law_cells) (mOwn (xLst (aNil)) (mVal (xC (.int 0)) (mNil))))) (sSeq (l1__law_cells) (sRet (xCall fTuple (aCons (xO 5) (aNil)))))
def m__law_cells : List D → M D := fnOf 10 4 b__law_cells
def e1_is_value : XE := xCall m_is_call (aCons (xV 1) (aNil))
def c1_is_value : XE := xLc (wS (x2 gIx (xV 0) (xC (.int 1)))) [1] (.n 1) (bYes) (e1_is_value)
def b_is_value : XS := sSeq (sIf (bOr (bNot (bV (x1 (gIsi isTup) (xV 0)))) (bOr (bV (x2 gNe (xCall fLen (aCons (xV 0) (aNil))) (xC (.int 2)))) (bNot (bV (xCall m_is_call (aCons (x2 gIx (xV 0) (xC (.int 0))) (aNil))))))) (sRet (xC (.bl false))) (sNx)) (sSeq (sIf (bOr (bNot (bV (x1 (gIsi isTup) (x2 gIx (xV 0) (xC (.int 1)))))) (bV (x2 gGt (xCall fLen (aCons (x2 gIx (xV 0) (xC (.int 1))) (aNil))) (xC (.int 4))))) (sRet (xC (.bl false))) (sNx)) (sRet (xCall fAll (aCons (c1_is_value) (aNil)))))
def m_is_value : List D → M D := fnOf 2 1 b_is_value
def e1_odds_in : XE := xTup (aCons (xV 4) (aCons (xV 5) (aNil)))
def t1_odds_in : XB := bV (xCall m_are_odd_in (aCons (xV 0) (aCons (xV 4) (aCons (xV 5) (aNil)))))
def c1_odds_in : XE := xLc (wS (xCut (xV 1) (oSome (x2 gAdd (xV 3) (xC (.int 1)))) oNone)) [5] (.n 5) (t1_odds_in) (e1_odds_in)
def lb1_odds_in : XS := sSeq (sExt 2 (c1_odds_in)) (sWipe [4, 3])
def l1_odds_in : XS := sFor (wEnum (xV 1)) (.t [.n 3, .n 4]) (lb1_odds_in)
def b_odds_in : XS := sSeq (sOwn 2 (xLst (aNil))) (sSeq (l1_odds_in) (sFrz 2 (sRet (xV 2))))
def m_odds_in : List D → M D := fnOf 6 2 b_odds_in
def e1__law_fits : XE := xC (.int 1)
def t1__law_fits : XB := bV (xCall m__law_odd (aCons (xV 2) (aCons (xV 3) (aNil))))
def c1__law_fits : XE := xLc (wS (xCut (xV 0) oNone (oSome (xV 1)))) [3] (.n 3) (t1__law_fits) (e1__law_fits)
def lb1__law_fits : XS := sSeq (sIf (bOr (bV (x2 gNe (xCall m__law_early (aCons (xV 2) (aNil))) (xLst (aNil)))) (bV (x2 gNe (c1__law_fits) (xLst (aNil))))) (sRet (xC (.bl false))) (sNx)) (sWipe [2, 1])
def l1__law_fits : XS := sFor (wEnum (xV 0)) (.t [.n 1, .n 2]) (lb1__law_fits)
def b__law_fits : XS := sSeq (l1__law_fits) (sRet (xC (.bl true)))
def m__law_fits : List D → M D := fnOf 4 1 b__law_fits
def e1__law_record : XE := xCall m__law_around (aCons (xV 0) (aCons (x2 gAdd (xC (.int 2)) (xCall m__law_draw (aCons (xV 0) (aCons (xC (.int 14)) (aNil))))) (aCons (xC (.int 3)) (aNil))))
def c1__law_record : XE := xLc (wRng1 (xCall m__law_draw (aCons (xV 0) (aCons (xC (.int 4)) (aNil))))) [8] (.n 8) (bYes) (e1__law_record)
def lb1__law_record : XS := sSeq (sSeq (sSet 6 (xCall m__law_around (aCons (xV 0) (aCons (xCall m__law_draw (aCons (xV 0) (aCons (xC (.int 12)) (aNil)))) (aCons (xC (.int 3)) (aNil)))))) (sSeq (sSet 7 (c1__law_record)) (sApp 4 (xTup (aCons (xV 6) (aCons (xCall fTuple (aCons (xV 7) (aNil))) (aNil))))))) (sWipe [5, 7, 6])
def l1__law_record : XS := sFor (wRng1 (xV 2)) (.n 5) (lb1__law_record)
def b__law_record : XS := sSeq (sPar [2, 3] (mVal (x2 gAdd (xC (.int 1)) (xCall m__law_draw (aCons (xV 0) (aCons (xV 1) (aNil))))) (mVal (xCall m__law_draw (aCons (xV 0) (aCons (xC (.int 3)) (aNil)))) (mNil)))) (sSeq (sIf (bV (x2 gLt (xV 3) (xC (.int 2)))) (sRet (xCall m__law_cells (aCons (xV 0) (aCons (xV 2) (aCons (x2 gAdd (xC (.int 1)) (x2 gMulA (xC (.int 2)) (xV 3))) (aCons (x2 gIx (xLst (aCons (xC (.int 0)) (aCons (xC (.int 2)) (aCons (xC (.int 5)) (aNil))))) (xCall m__law_draw (aCons (xV 0) (aCons (xC (.int 3)) (aNil))))) (aNil))))))) (sNx)) (sSeq (sOwn 4 (xLst (aNil))) (sSeq (l1__law_record) (sRet (xCall fTuple (aCons (xO 4) (aNil)))))))
def m__law_record : List D → M D := fnOf 9 2 b__law_record
def lb1_need_record : XS := sSeq (sIf (bNot (bV (xCall m_is_value (aCons (xV 2) (aNil))))) (sStk) (sNx)) (sWipe [1, 2])
def l1_need_record : XS := sFor (wEnum (xV 0)) (.t [.n 1, .n 2]) (lb1_need_record)
def b_need_record : XS := sSeq (sIf (bOr (bNot (bV (x1 (gIsi isTup) (xV 0)))) (bV (x2 gGt (xCall fLen (aCons (xV 0) (aNil))) (xC (.int 12))))) (sStk) (sNx)) (sSeq (l1_need_record) (sRet (xV 0)))
def m_need_record : List D → M D := fnOf 3 1 b_need_record
def b_is_right_in : XS := sRet (xAnd (x2 gEq (xCall m_early_of (aCons (xV 0) (aCons (xV 1) (aNil)))) (xLst (aNil))) (x2 gEq (xCall m_odds_in (aCons (xV 0) (aCons (xV 1) (aNil)))) (xLst (aNil))))
def m_is_right_in : List D → M D := fnOf 2 2 b_is_right_in
def e1_early_reads : XE := xTup (aCons (xV 2) (aCons (xV 4) (aNil)))
def c1_early_reads : XE := xLc (wS (xCall m_early_in (aCons (xV 3) (aNil)))) [4] (.n 4) (bYes) (e1_early_reads)
def lb1_early_reads : XS := sSeq (sExt 1 (c1_early_reads)) (sWipe [2, 3])
def l1_early_reads : XS := sFor (wEnum (xCall m_need_record (aCons (xV 0) (aNil)))) (.t [.n 2, .n 3]) (lb1_early_reads)
def b_early_reads : XS := sSeq (sOwn 1 (xLst (aNil))) (sSeq (l1_early_reads) (sRet (xCall fTuple (aCons (xO 1) (aNil)))))
def m_early_reads : List D → M D := fnOf 5 1 b_early_reads
def b_need_pair : XS := sSeq (sDrop (xCall m_need_record (aCons (xV 0) (aNil)))) (sSeq (sDrop (xCall m_need_number (aCons (xV 0) (aCons (xV 1) (aNil))))) (sDrop (xCall m_need_number (aCons (xV 0) (aCons (xV 2) (aNil))))))
def m_need_pair : List D → M D := fnOf 3 3 b_need_pair
def b_all_odds : XS := sSeq (sDrop (xCall m_need_record (aCons (xV 0) (aNil)))) (sRet (xCall fTuple (aCons (xCall m_odds_in (aCons (xV 0) (aCons (xTupRg1 (xCall fLen (aCons (xV 0) (aNil)))) (aNil)))) (aNil))))
def m_all_odds : List D → M D := fnOf 1 1 b_all_odds
def b_need_both : XS := sDrop (xCall m_need_lot (aCons (xCall m_need_record (aCons (xV 0) (aNil))) (aCons (xV 1) (aNil))))
def m_need_both : List D → M D := fnOf 2 2 b_need_both
def b_is_forced : XS := sSeq (sDrop (xCall m_need_pair (aCons (xV 0) (aCons (xV 1) (aCons (xV 2) (aNil)))))) (sRet (xCall m_is_forced_in (aCons (xV 0) (aCons (xV 1) (aCons (xV 2) (aNil))))))
def m_is_forced : List D → M D := fnOf 3 3 b_is_forced
def b_soonest_placing : XS := sSeq (sDrop (xCall m_need_both (aCons (xV 0) (aCons (xV 1) (aNil))))) (sSeq (sDrop (xCall m_need_row (aCons (xV 1) (aCons (xV 2) (aNil))))) (sRet (xIf (bV (xCall m_can_stand (aCons (xV 0) (aCons (xV 2) (aNil))))) (xCall m_soonest_in (aCons (xV 0) (aCons (xV 1) (aCons (xV 2) (aNil))))) (xC .non))))
def m_soonest_placing : List D → M D := fnOf 3 3 b_soonest_placing
def b_is_right : XS := sSeq (sDrop (xCall m_need_both (aCons (xV 0) (aCons (xV 1) (aNil))))) (sRet (xCall m_is_right_in (aCons (xV 0) (aCons (xV 1) (aNil)))))
def m_is_right : List D → M D := fnOf 2 2 b_is_right
def e1__law_record_right : XE := x2 gIx (xV 0) (xV 3)
def c1__law_record_right : XE := xLc (wS (xV 1)) [3] (.n 3) (bYes) (e1__law_record_right)
def e2__law_record_right : XE := xC (.int 1)
def t1__law_record_right : XB := bV (x2 gIn (xV 3) (xV 1))
def c2__law_record_right : XE := xLc (wS (xCall m_early_reads (aCons (xV 0) (aNil)))) [3, 6] (.t [.n 3, .n 6]) (t1__law_record_right) (e2__law_record_right)
def e3__law_record_right : XE := xC (.int 1)
def t2__law_record_right : XB := bAnd (bV (x2 gIn (xV 3) (xV 1))) (bV (x2 gIn (xV 7) (xV 1)))
def c3__law_record_right : XE := xLc (wS (xCall m_all_odds (aCons (xV 0) (aNil)))) [3, 7] (.t [.n 3, .n 7]) (t2__law_record_right) (e3__law_record_right)
def e4__law_record_right : XE := x2 gIx (xV 1) (xV 6)
def c4__law_record_right : XE := xLc (wS (xV 8)) [6] (.n 6) (bYes) (e4__law_record_right)
def e5__law_record_right : XE := xC (.int 1)
def t3__law_record_right : XB := bV (xCall m_is_forced (aCons (xV 0) (aCons (xV 3) (aCons (xV 7) (aNil)))))
def c5__law_record_right : XE := xLc (wS (xCut (xV 9) oNone (oSome (xV 6)))) [7] (.n 7) (t3__law_record_right) (e5__law_record_right)
def lb1__law_record_right : XS := sSeq (sIf (bV (x2 gNe (c5__law_record_right) (xLst (aNil)))) (sSet 10 (xC (.bl false))) (sNx)) (sWipe [3, 6])
def l1__law_record_right : XS := sFor (wEnum (xV 9)) (.t [.n 6, .n 3]) (lb1__law_record_right)
def lb2__law_record_right : XS := sSeq (sSeq (sPar [9, 10] (mVal (xCall fTuple (aCons (c4__law_record_right) (aNil))) (mVal (xC (.bl true)) (mNil)))) (sSeq (l1__law_record_right) (sIf (bV (x2 gNe (x2 gIsNotN (xCall m_soonest_placing (aCons (xV 0) (aCons (xV 1) (aCons (xV 9) (aNil))))) (xC .non)) (xV 10))) (sRet (xC (.bl false))) (sNx)))) (sWipe [10, 3, 8, 6, 9])
def l2__law_record_right : XS := sFor (wS (xIf (bV (xV 4)) (xCall m__law_rows (aCons (xCall fLen (aCons (xV 1) (aNil))) (aNil))) (xLst (aNil)))) (.n 8) (lb2__law_record_right)
def lb3__law_record_right : XS := sSeq (sSeq (sSet 2 (c1__law_record_right)) (sSeq (sSet 4 (xCall m__law_is_cell (aCons (xV 2) (aNil)))) (sSeq (sIf (bOr (bV (x2 gNe (xV 4) (xCall m__law_fits (aCons (xV 2) (aNil))))) (bOr (bV (x2 gNe (xCall m_is_right (aCons (xV 0) (aCons (xV 1) (aNil)))) (xV 4))) (bV (x2 gNe (xCall m_is_right (aCons (xV 0) (aCons (xV 1) (aNil)))) (xV 4))))) (sRet (xC (.bl false))) (sNx)) (sSeq (sSet 5 (c2__law_record_right)) (sSeq (sIf (bV (x2 gNe (x2 gEq (x2 gAdd (xV 5) (c3__law_record_right)) (xLst (aNil))) (xV 4))) (sRet (xC (.bl false))) (sNx)) (l2__law_record_right)))))) (sWipe [5, 4, 10, 1, 3, 8, 6, 9, 2])
def l3__law_record_right : XS := sFor (wS (xCall m__law_lots (aCons (xCall fLen (aCons (xV 0) (aNil))) (aNil)))) (.n 1) (lb3__law_record_right)
def b__law_record_right : XS := sSeq (l3__law_record_right) (sRet (xC (.bl true)))
def m__law_record_right : List D → M D := fnOf 11 1 b__law_record_right
end Hd
namespace Hd
open PySem PySem.Spec PyProof.Rows L2 Mn
theorem sc_is_integer : FnScope ["thing"] ["thing"] (defScope (top 10)) := ⟨rfl, rfl, rfl, by decide +kernel, rfl, by decide +kernel, by decide +kernel⟩
theorem fn_is_integer {P : Program} {w : World} {K : PySem.W.Frag} {mg : Str → Option Value} {base h : Heap} (X : K.In h) (G : h.Ns mainGlobals mg) (c : He.SaysD fa fn K) : Fn0 P w K mg base 1 "is_integer" 1 m_is_integer := by
  obtain ⟨fd, F⟩ := c.def_ 0 (d := d_is_integer) rfl
  have sc := sc_is_integer
  have g_bool := He.free_ok X G (c.fact 56 (f := .free "bool") rfl)
  have g_int := He.free_ok X G (c.fact 58 (f := .free "int") rfl)
  have g_isinstance := He.free_ok X G (c.fact 59 (f := .free "isinstance") rfl)
  refine ⟨⟨_, fd, ["thing"], He.glo_ok X G (c.fact 3 (f := .glo "is_integer") rfl), F.kp, FunD.bindsN F (fun _ _ _ _ _ _ us hl => match us, hl with | [_], _ => rfl), mn_ok (N := ["thing"]) F sc (by decide) fun cdv A outer s H E hr => ?_⟩⟩
  exact dss_one (ds_ret (de_and (de_isi (by rfl) g_isinstance (by rfl) g_int (by rfl) (DE.b (de_v 0)) kb_int) (de_one (de_not (de_isi (by rfl) g_isinstance (by rfl) g_bool (by rfl) (DE.b (de_v 0)) kb_bool)))))
theorem sc_are_rising : FnScope ["some", "one", "other"] ["some"] (defScope (top 12)) := ⟨rfl, rfl, rfl, by decide +kernel, rfl, by decide +kernel, by decide +kernel⟩
theorem fn_are_rising {P : Program} {w : World} {K : PySem.W.Frag} {mg : Str → Option Value} {base h : Heap} (X : K.In h) (G : h.Ns mainGlobals mg) (c : He.SaysD fa fn K) : Fn0 P w K mg base 1 "are_rising" 1 m_are_rising := by
  obtain ⟨fd, F⟩ := c.def_ 2 (d := d_are_rising) rfl
  have sc := sc_are_rising
  have g_all := He.free_ok X G (c.fact 55 (f := .free "all") rfl)
  have g_zip := He.free_ok X G (c.fact 68 (f := .free "zip") rfl)
  refine ⟨⟨_, fd, ["some"], He.glo_ok X G (c.fact 5 (f := .glo "are_rising") rfl), F.kp, FunD.bindsN F (fun _ _ _ _ _ _ us hl => match us, hl with | [_], _ => rfl), mn_ok (N := ["some", "one", "other"]) F sc (by decide) fun cdv A outer s H E hr => ?_⟩⟩
  exact dss_one (ds_ret (de_callB (cr_all rfl) rc_all g_all (by rfl) (bas_cons (FE.b (fe_lc [("one", 1), ("other", 2)] rfl sc.nd (di_Z rfl g_zip (de_v 0) (de_cut (DE.b (de_v 0)) (do_some (de_int)) do_none)) (blkOk_by (by kernel_rfl)) (fun _ _ _ _ _ => dg_t rfl (dgs_cons (dg_n 1 sc.nd) (dgs_cons (dg_n 2 sc.nd) (dgs_nil)))) (fun _ _ _ _ _ => dts_nil) (fun _ _ _ _ _ => de_cmp op_lt ro_lt (DE.b (de_v 1)) (DE.b (de_v 2))))) (bas_nil))))
theorem sc_calls_of : FnScope ["value"] ["value"] (defScope (top 20)) := ⟨rfl, rfl, rfl, by decide +kernel, rfl, by decide +kernel, by decide +kernel⟩
theorem fn_calls_of {P : Program} {w : World} {K : PySem.W.Frag} {mg : Str → Option Value} {base h : Heap} (X : K.In h) (G : h.Ns mainGlobals mg) (c : He.SaysD fa fn K) : Fn0 P w K mg base 1 "calls_of" 1 m_calls_of := by
  obtain ⟨fd, F⟩ := c.def_ 10 (d := d_calls_of) rfl
  have sc := sc_calls_of
  refine ⟨⟨_, fd, ["value"], He.glo_ok X G (c.fact 13 (f := .glo "calls_of") rfl), F.kp, FunD.bindsN F (fun _ _ _ _ _ _ us hl => match us, hl with | [_], _ => rfl), mn_ok (N := ["value"]) F sc (by decide) fun cdv A outer s H E hr => ?_⟩⟩
  exact dss_one (ds_ret (FE.d (fe_lstS (das_cons (de_ix (DE.b (de_v 0)) (DE.b (de_int))) (das_star (DE.b (de_ix (DE.b (de_v 0)) (DE.b (de_int)))) (das_nil))))))
theorem sc_early_in : FnScope ["value", "spot", "call"] ["value"] (defScope (top 23)) := ⟨rfl, rfl, rfl, by decide +kernel, rfl, by decide +kernel, by decide +kernel⟩
theorem fn_early_in {P : Program} {w : World} {K : PySem.W.Frag} {mg : Str → Option Value} {base h : Heap} (X : K.In h) (G : h.Ns mainGlobals mg) (c : He.SaysD fa fn K) : Fn0 P w K mg base 1 "early_in" 1 m_early_in := by
  obtain ⟨fd, F⟩ := c.def_ 13 (d := d_early_in) rfl
  have sc := sc_early_in
  have g_enumerate := He.free_ok X G (c.fact 57 (f := .free "enumerate") rfl)
  refine ⟨⟨_, fd, ["value"], He.glo_ok X G (c.fact 16 (f := .glo "early_in") rfl), F.kp, FunD.bindsN F (fun _ _ _ _ _ _ us hl => match us, hl with | [_], _ => rfl), mn_ok (N := ["value", "spot", "call"]) F sc (by decide) fun cdv A outer s H E hr => ?_⟩⟩
  exact dss_one (ds_ret (FE.d (fe_lc [("spot", 1), ("call", 2)] rfl sc.nd (di_E rfl g_enumerate (de_ix (DE.b (de_v 0)) (DE.b (de_int)))) (blkOk_by (by kernel_rfl)) (fun _ _ _ _ _ => dg_t rfl (dgs_cons (dg_n 1 sc.nd) (dgs_cons (dg_n 2 sc.nd) (dgs_nil)))) (fun _ _ _ _ _ => dts_one (dt_cmp op_lt ro_lt (DE.b (de_ix (DE.b (de_v 2)) (DE.b (de_int)))) (DE.b (de_ix (DE.b (de_ix (DE.b (de_v 0)) (DE.b (de_int)))) (DE.b (de_int)))))) (fun _ _ _ _ _ => de_op op_addA ro_add (DE.b (de_v 1)) (DE.b (de_int))))))
theorem sc_ticks_from : FnScope ["value", "least", "begin", "call"] ["value", "least"] (defScope (top 34)) := ⟨rfl, rfl, rfl, by decide +kernel, rfl, by decide +kernel, by decide +kernel⟩
theorem fn_ticks_from {P : Program} {w : World} {K : PySem.W.Frag} {mg : Str → Option Value} {base h : Heap} (X : K.In h) (G : h.Ns mainGlobals mg) (c : He.SaysD fa fn K) : Fn0 P w K mg base 1 "ticks_from" 2 m_ticks_from := by
  obtain ⟨fd, F⟩ := c.def_ 23 (d := d_ticks_from) rfl
  have sc := sc_ticks_from
  have g_max := He.free_ok X G (c.fact 62 (f := .free "max") rfl)
  have g_tuple := He.free_ok X G (c.fact 67 (f := .free "tuple") rfl)
  refine ⟨⟨_, fd, ["value", "least"], He.glo_ok X G (c.fact 26 (f := .glo "ticks_from") rfl), F.kp, FunD.bindsN F (fun _ _ _ _ _ _ us hl => match us, hl with | [_, _], _ => rfl), mn_ok (N := ["value", "least", "begin", "call"]) F sc (by decide) fun cdv A outer s H E hr => ?_⟩⟩
  exact dss_cons (ds_set (i := 2) sc.nd (de_callB (cr_maxM rfl (u64 hr)) rc_max g_max (by rfl) (bas_cons (DE.b (de_v 1)) (bas_cons (DE.b (de_ix (DE.b (de_ix (DE.b (de_v 0)) (DE.b (de_int)))) (DE.b (de_int)))) (bas_nil))))) (dss_one (ds_ret (de_callTy call_tuple_of rc_tuple g_tuple (by rfl) (bas_cons (FE.b (fe_lstS (das_cons (de_v 2) (das_star (FE.b (fe_lc [("call", 3)] rfl sc.nd (di_S (de_ix (DE.b (de_v 0)) (DE.b (de_int)))) (blkOk_by (by kernel_rfl)) (fun _ _ _ _ _ => dg_n 3 sc.nd) (fun _ _ _ _ _ => dts_nil) (fun _ _ _ _ _ => de_callB (cr_maxM rfl (u64 hr)) rc_max g_max (by rfl) (bas_cons (DE.b (de_v 2)) (bas_cons (DE.b (de_ix (DE.b (de_v 3)) (DE.b (de_int)))) (bas_nil)))))) (das_nil))))) (bas_nil)))))
theorem sc__law_calls : FnScope ["_law_value_so"] ["_law_value_so"] (defScope (top 47)) := ⟨rfl, rfl, rfl, by decide +kernel, rfl, by decide +kernel, by decide +kernel⟩
theorem fn__law_calls {P : Program} {w : World} {K : PySem.W.Frag} {mg : Str → Option Value} {base h : Heap} (X : K.In h) (G : h.Ns mainGlobals mg) (c : He.SaysD fa fn K) : Fn0 P w K mg base 1 "_law_calls" 1 m__law_calls := by
  obtain ⟨fd, F⟩ := c.def_ 34 (d := d__law_calls) rfl
  have sc := sc__law_calls
  have g_list := He.free_ok X G (c.fact 61 (f := .free "list") rfl)
  refine ⟨⟨_, fd, ["_law_value_so"], He.glo_ok X G (c.fact 37 (f := .glo "_law_calls") rfl), F.kp, FunD.bindsN F (fun _ _ _ _ _ _ us hl => match us, hl with | [_], _ => rfl), mn_ok (N := ["_law_value_so"]) F sc (by decide) fun cdv A outer s H E hr => ?_⟩⟩
  exact dss_one (ds_ret (de_op op_addA ro_add (FE.b (fe_lst (n := 1) (das_cons (de_ix (DE.b (de_v 0)) (DE.b (de_int))) (das_nil)) (len_cons len_nil))) (FE.b (fe_callTy call_list_of rc_list g_list boot_list (bas_cons (DE.b (de_ix (DE.b (de_v 0)) (DE.b (de_int)))) (bas_nil))))))
theorem sc__law_early : FnScope ["_law_value_so", "_law_spot", "_law_call"] ["_law_value_so"] (defScope (top 51)) := ⟨rfl, rfl, rfl, by decide +kernel, rfl, by decide +kernel, by decide +kernel⟩
theorem fn__law_early {P : Program} {w : World} {K : PySem.W.Frag} {mg : Str → Option Value} {base h : Heap} (X : K.In h) (G : h.Ns mainGlobals mg) (c : He.SaysD fa fn K) : Fn0 P w K mg base 1 "_law_early" 1 m__law_early := by
  obtain ⟨fd, F⟩ := c.def_ 38 (d := d__law_early) rfl
  have sc := sc__law_early
  have g_enumerate := He.free_ok X G (c.fact 57 (f := .free "enumerate") rfl)
  refine ⟨⟨_, fd, ["_law_value_so"], He.glo_ok X G (c.fact 41 (f := .glo "_law_early") rfl), F.kp, FunD.bindsN F (fun _ _ _ _ _ _ us hl => match us, hl with | [_], _ => rfl), mn_ok (N := ["_law_value_so", "_law_spot", "_law_call"]) F sc (by decide) fun cdv A outer s H E hr => ?_⟩⟩
  exact dss_one (ds_ret (FE.d (fe_lc [("_law_spot", 1), ("_law_call", 2)] rfl sc.nd (di_E rfl g_enumerate (de_ix (DE.b (de_v 0)) (DE.b (de_int)))) (blkOk_by (by kernel_rfl)) (fun _ _ _ _ _ => dg_t rfl (dgs_cons (dg_n 1 sc.nd) (dgs_cons (dg_n 2 sc.nd) (dgs_nil)))) (fun _ _ _ _ _ => dts_one (dt_cmp op_lt ro_lt (DE.b (de_ix (DE.b (de_v 2)) (DE.b (de_int)))) (DE.b (de_ix (DE.b (de_ix (DE.b (de_v 0)) (DE.b (de_int)))) (DE.b (de_int)))))) (fun _ _ _ _ _ => de_op op_addA ro_add (DE.b (de_v 1)) (DE.b (de_int))))))
theorem sc__law_rows : FnScope ["_law_many", "_law_rows_here", "_law_k", "_law_longer", "_law_row", "_law_one"] ["_law_many"] (defScope (top 59)) := ⟨rfl, rfl, rfl, by decide +kernel, rfl, by decide +kernel, by decide +kernel⟩
theorem fn__law_rows {P : Program} {w : World} {K : PySem.W.Frag} {mg : Str → Option Value} {base h : Heap} (X : K.In h) (G : h.Ns mainGlobals mg) (c : He.SaysD fa fn K) : Fn0 P w K mg base 1 "_law_rows" 1 m__law_rows := by
  obtain ⟨fd, F⟩ := c.def_ 46 (d := d__law_rows) rfl
  have sc := sc__law_rows
  have g_list := He.free_ok X G (c.fact 61 (f := .free "list") rfl)
  have g_range := He.free_ok X G (c.fact 64 (f := .free "range") rfl)
  refine ⟨⟨_, fd, ["_law_many"], He.glo_ok X G (c.fact 49 (f := .glo "_law_rows") rfl), F.kp, FunD.bindsN F (fun _ _ _ _ _ _ us hl => match us, hl with | [_], _ => rfl), mn_ok (N := ["_law_many", "_law_rows_here", "_law_k", "_law_longer", "_law_row", "_law_one"]) F sc (by decide) fun cdv A outer s H E hr => ?_⟩⟩
  exact dss_cons (ds_set (i := 1) sc.nd (FE.d (fe_lst (n := 1) (das_cons (de_tup (n := 0) (das_nil) len_nil) (das_nil)) (len_cons len_nil)))) (dss_cons (ds_for own_fn rfl (di_R1 rfl g_range (de_v 0)) (dg_n 2 sc.nd) (dss_wipe [2, 3, 4] (dss_cons (ds_own (i := 3) sc.nd (fe_lst (n := 0) (das_nil) len_nil)) (dss_cons (ds_for own_fn rfl (di_S (de_v 1)) (dg_n 4 sc.nd) (dss_wipe [4] (dss_one (ds_ext (i := 3) (FE.b (fe_lc [("_law_one", 5)] rfl sc.nd (di_R1 rfl g_range (de_v 0)) (blkOk_by (by kernel_rfl)) (fun _ _ _ _ _ => dg_n 5 sc.nd) (fun _ _ _ _ _ => dts_one (dt_cmp (op_notInA (u65 hr)) ro_notIn (DE.b (de_v 5)) (DE.b (de_v 4)))) (fun _ _ _ _ _ => de_op op_addA ro_add (DE.b (de_v 4)) (DE.b (de_tup (n := 1) (das_cons (de_v 5) (das_nil)) (len_cons len_nil)))))))))) (dss_one (ds_set (i := 1) sc.nd (FE.d (fe_callTy call_list_of rc_list g_list boot_list (bas_cons (be_o 3) (bas_nil)))))))))) (dss_one (ds_ret (de_v 1))))
theorem sc__law_at : FnScope ["_law_values", "_law_number", "_law_call", "_law_tick", "_law_write", "_law_reads"] ["_law_values", "_law_number", "_law_call", "_law_tick"] (defScope (top 61)) := ⟨rfl, rfl, rfl, by decide +kernel, rfl, by decide +kernel, by decide +kernel⟩
theorem fn__law_at {P : Program} {w : World} {K : PySem.W.Frag} {mg : Str → Option Value} {base h : Heap} (X : K.In h) (G : h.Ns mainGlobals mg) (c : He.SaysD fa fn K) : Fn0 P w K mg base 1 "_law_at" 4 m__law_at := by
  obtain ⟨fd, F⟩ := c.def_ 48 (d := d__law_at) rfl
  have sc := sc__law_at
  have g_tuple := He.free_ok X G (c.fact 67 (f := .free "tuple") rfl)
  refine ⟨⟨_, fd, ["_law_values", "_law_number", "_law_call", "_law_tick"], He.glo_ok X G (c.fact 51 (f := .glo "_law_at") rfl), F.kp, FunD.bindsN F (fun _ _ _ _ _ _ us hl => match us, hl with | [_, _, _, _], _ => rfl), mn_ok (N := ["_law_values", "_law_number", "_law_call", "_law_tick", "_law_write", "_law_reads"]) F sc (by decide) fun cdv A outer s H E hr => ?_⟩⟩
  exact dss_cons (ds_asg (de_ix (DE.b (de_v 0)) (DE.b (de_v 1))) (dg_t rfl (dgs_cons (dg_n 4 sc.nd) (dgs_cons (dg_n 5 sc.nd) (dgs_nil))))) (dss_cons (ds_if (dt_cmp (op_eqD (u64 hr)) ro_eq (DE.b (de_v 2)) (DE.b (de_int))) (dss_one (ds_set (i := 4) sc.nd (de_tup (n := 2) (das_cons (de_v 3) (das_cons (de_v 3) (das_nil))) (len_cons (len_cons len_nil))))) (dss_one (ds_set (i := 5) sc.nd (de_op op_addA ro_add (DE.b (de_op op_addA ro_add (DE.b (de_cut (DE.b (de_v 5)) do_none (do_some (de_op op_sub ro_sub (DE.b (de_v 2)) (DE.b (de_int)))))) (DE.b (de_tup (n := 1) (das_cons (de_tup (n := 2) (das_cons (de_v 3) (das_cons (de_v 3) (das_nil))) (len_cons (len_cons len_nil))) (das_nil)) (len_cons len_nil))))) (DE.b (de_cut (DE.b (de_v 5)) (do_some (de_v 2)) do_none)))))) (dss_one (ds_ret (de_op op_addA ro_add (DE.b (de_op op_addA ro_add (DE.b (de_callTy call_tuple_of rc_tuple g_tuple (by rfl) (bas_cons (DE.b (de_cut (DE.b (de_v 0)) do_none (do_some (de_v 1)))) (bas_nil)))) (DE.b (de_tup (n := 1) (das_cons (de_tup (n := 2) (das_cons (de_v 4) (das_cons (de_v 5) (das_nil))) (len_cons (len_cons len_nil))) (das_nil)) (len_cons len_nil))))) (DE.b (de_callTy call_tuple_of rc_tuple g_tuple (by rfl) (bas_cons (DE.b (de_cut (DE.b (de_v 0)) (do_some (de_op op_addA ro_add (DE.b (de_v 1)) (DE.b (de_int)))) do_none)) (bas_nil))))))))
theorem sc__law_lots : FnScope ["_law_many", "_law_rows_here", "_law_one", "_law_row"] ["_law_many"] (defScope (top 62)) := ⟨rfl, rfl, rfl, by decide +kernel, rfl, by decide +kernel, by decide +kernel⟩
theorem fn__law_lots {P : Program} {w : World} {K : PySem.W.Frag} {mg : Str → Option Value} {base h : Heap} (X : K.In h) (G : h.Ns mainGlobals mg) (c : He.SaysD fa fn K) : Fn0 P w K mg base 1 "_law_lots" 1 m__law_lots := by
  obtain ⟨fd, F⟩ := c.def_ 49 (d := d__law_lots) rfl
  have sc := sc__law_lots
  have g_range := He.free_ok X G (c.fact 64 (f := .free "range") rfl)
  refine ⟨⟨_, fd, ["_law_many"], He.glo_ok X G (c.fact 52 (f := .glo "_law_lots") rfl), F.kp, FunD.bindsN F (fun _ _ _ _ _ _ us hl => match us, hl with | [_], _ => rfl), mn_ok (N := ["_law_many", "_law_rows_here", "_law_one", "_law_row"]) F sc (by decide) fun cdv A outer s H E hr => ?_⟩⟩
  exact dss_cons (ds_set (i := 1) sc.nd (FE.d (fe_lst (n := 1) (das_cons (de_tup (n := 0) (das_nil) len_nil) (das_nil)) (len_cons len_nil)))) (dss_cons (ds_for own_fn rfl (di_R1 rfl g_range (de_v 0)) (dg_n 2 sc.nd) (dss_wipe [2] (dss_one (ds_set (i := 1) sc.nd (de_op op_addA ro_add (DE.b (de_v 1)) (FE.b (fe_lc [("_law_row", 3)] rfl sc.nd (di_S (de_v 1)) (blkOk_by (by kernel_rfl)) (fun _ _ _ _ _ => dg_n 3 sc.nd) (fun _ _ _ _ _ => dts_nil) (fun _ _ _ _ _ => de_op op_addA ro_add (DE.b (de_v 3)) (DE.b (de_tup (n := 1) (das_cons (de_v 2) (das_nil)) (len_cons len_nil))))))))))) (dss_one (ds_ret (de_v 1))))
theorem sc_is_between : FnScope ["thing", "least", "most"] ["thing", "least", "most"] (defScope (top 11)) := ⟨rfl, rfl, rfl, by decide +kernel, rfl, by decide +kernel, by decide +kernel⟩
theorem fn_is_between {P : Program} {w : World} {K : PySem.W.Frag} {mg : Str → Option Value} {base h : Heap} (X : K.In h) (G : h.Ns mainGlobals mg) (c : He.SaysD fa fn K) : Fn0 P w K mg base 2 "is_between" 3 m_is_between := by
  obtain ⟨fd, F⟩ := c.def_ 1 (d := d_is_between) rfl
  have sc := sc_is_between
  have c_is_integer := fn_is_integer (P := P) (w := w) (base := base) X G c
  refine ⟨⟨_, fd, ["thing", "least", "most"], He.glo_ok X G (c.fact 4 (f := .glo "is_between") rfl), F.kp, FunD.bindsN F (fun _ _ _ _ _ _ us hl => match us, hl with | [_, _, _], _ => rfl), mn_ok (N := ["thing", "least", "most"]) F sc (by decide) fun cdv A outer s H E hr => ?_⟩⟩
  exact dss_one (ds_ret (de_and (de_fn c_is_integer (hr.mono (by decide)) takes_fn (das_cons (de_v 0) (das_nil)) (len_cons len_nil)) (de_one (de_chain op_le ro_le op_le ro_le (de_v 1) (de_v 0) (de_v 2)))))
theorem sc_near_of : FnScope ["value", "call"] ["value"] (defScope (top 21)) := ⟨rfl, rfl, rfl, by decide +kernel, rfl, by decide +kernel, by decide +kernel⟩
theorem fn_near_of {P : Program} {w : World} {K : PySem.W.Frag} {mg : Str → Option Value} {base h : Heap} (X : K.In h) (G : h.Ns mainGlobals mg) (c : He.SaysD fa fn K) : Fn0 P w K mg base 2 "near_of" 1 m_near_of := by
  obtain ⟨fd, F⟩ := c.def_ 11 (d := d_near_of) rfl
  have sc := sc_near_of
  have c_calls_of := fn_calls_of (P := P) (w := w) (base := base) X G c
  have g_min := He.free_ok X G (c.fact 63 (f := .free "min") rfl)
  refine ⟨⟨_, fd, ["value"], He.glo_ok X G (c.fact 14 (f := .glo "near_of") rfl), F.kp, FunD.bindsN F (fun _ _ _ _ _ _ us hl => match us, hl with | [_], _ => rfl), mn_ok (N := ["value", "call"]) F sc (by decide) fun cdv A outer s H E hr => ?_⟩⟩
  exact dss_one (ds_ret (de_callB (cr_minM rfl (u64 hr)) rc_min g_min (by rfl) (bas_cons (FE.b (fe_lc [("call", 1)] rfl sc.nd (di_S (de_fn c_calls_of (hr.mono (by decide)) takes_fn (das_cons (de_v 0) (das_nil)) (len_cons len_nil))) (blkOk_by (by kernel_rfl)) (fun _ _ _ _ _ => dg_n 1 sc.nd) (fun _ _ _ _ _ => dts_nil) (fun _ _ _ _ _ => de_ix (DE.b (de_v 1)) (DE.b (de_int))))) (bas_nil))))
theorem sc_far_of : FnScope ["value", "call"] ["value"] (defScope (top 22)) := ⟨rfl, rfl, rfl, by decide +kernel, rfl, by decide +kernel, by decide +kernel⟩
theorem fn_far_of {P : Program} {w : World} {K : PySem.W.Frag} {mg : Str → Option Value} {base h : Heap} (X : K.In h) (G : h.Ns mainGlobals mg) (c : He.SaysD fa fn K) : Fn0 P w K mg base 2 "far_of" 1 m_far_of := by
  obtain ⟨fd, F⟩ := c.def_ 12 (d := d_far_of) rfl
  have sc := sc_far_of
  have c_calls_of := fn_calls_of (P := P) (w := w) (base := base) X G c
  have g_max := He.free_ok X G (c.fact 62 (f := .free "max") rfl)
  refine ⟨⟨_, fd, ["value"], He.glo_ok X G (c.fact 15 (f := .glo "far_of") rfl), F.kp, FunD.bindsN F (fun _ _ _ _ _ _ us hl => match us, hl with | [_], _ => rfl), mn_ok (N := ["value", "call"]) F sc (by decide) fun cdv A outer s H E hr => ?_⟩⟩
  exact dss_one (ds_ret (de_callB (cr_maxM rfl (u64 hr)) rc_max g_max (by rfl) (bas_cons (FE.b (fe_lc [("call", 1)] rfl sc.nd (di_S (de_fn c_calls_of (hr.mono (by decide)) takes_fn (das_cons (de_v 0) (das_nil)) (len_cons len_nil))) (blkOk_by (by kernel_rfl)) (fun _ _ _ _ _ => dg_n 1 sc.nd) (fun _ _ _ _ _ => dts_nil) (fun _ _ _ _ _ => de_ix (DE.b (de_v 1)) (DE.b (de_int))))) (bas_nil))))
theorem sc_need_row : FnScope ["lot", "row", "one"] ["lot", "row"] (defScope (top 36)) := ⟨rfl, rfl, rfl, by decide +kernel, rfl, by decide +kernel, by decide +kernel⟩
theorem fn_need_row {P : Program} {w : World} {K : PySem.W.Frag} {mg : Str → Option Value} {base h : Heap} (X : K.In h) (G : h.Ns mainGlobals mg) (c : He.SaysD fa fn K) : Fn0 P w K mg base 2 "need_row" 2 m_need_row := by
  obtain ⟨fd, F⟩ := c.def_ 25 (d := d_need_row) rfl
  have sc := sc_need_row
  have c_is_integer := fn_is_integer (P := P) (w := w) (base := base) X G c
  have g_all := He.free_ok X G (c.fact 55 (f := .free "all") rfl)
  have g_isinstance := He.free_ok X G (c.fact 59 (f := .free "isinstance") rfl)
  have g_sorted := He.free_ok X G (c.fact 65 (f := .free "sorted") rfl)
  have g_tuple := He.free_ok X G (c.fact 67 (f := .free "tuple") rfl)
  refine ⟨⟨_, fd, ["lot", "row"], He.glo_ok X G (c.fact 28 (f := .glo "need_row") rfl), F.kp, FunD.bindsN F (fun _ _ _ _ _ _ us hl => match us, hl with | [_, _], _ => rfl), mn_ok (N := ["lot", "row", "one"]) F sc (by decide) fun cdv A outer s H E hr => ?_⟩⟩
  exact dss_one (ds_if ((dw_or (dt_not (dt_v (de_isi (by rfl) g_isinstance (by rfl) g_tuple (by rfl) (DE.b (de_v 1)) kb_tuple))) (dw_or (dt_not (dt_v (de_callB (cr_all rfl) rc_all g_all (by rfl) (bas_cons (FE.b (fe_lc [("one", 2)] rfl sc.nd (di_S (de_v 1)) (blkOk_by (by kernel_rfl)) (fun _ _ _ _ _ => dg_n 2 sc.nd) (fun _ _ _ _ _ => dts_nil) (fun _ _ _ _ _ => de_fn c_is_integer (hr.mono (by decide)) takes_WF (das_cons (de_v 2) (das_nil)) (len_cons len_nil)))) (bas_nil))))) (dw_or1 (dt_cmp (op_neD (u64 hr)) ro_ne (DE.b (de_callTy call_tuple_of rc_tuple g_tuple (by rfl) (bas_cons (FE.b (fe_callB ((cr_sortD (u64 hr)).or (cr_sortTup (u64 hr))) rc_sortT g_sorted (by rfl) (bas_cons (DE.b (de_v 1)) (bas_nil)))) (bas_nil)))) (DE.b (de_v 0)))))).t) (dss_one (ds_stk)) (dss_nil))
theorem sc_early_of : FnScope ["record", "lot", "number", "spot"] ["record", "lot"] (defScope (top 39)) := ⟨rfl, rfl, rfl, by decide +kernel, rfl, by decide +kernel, by decide +kernel⟩
theorem fn_early_of {P : Program} {w : World} {K : PySem.W.Frag} {mg : Str → Option Value} {base h : Heap} (X : K.In h) (G : h.Ns mainGlobals mg) (c : He.SaysD fa fn K) : Fn0 P w K mg base 2 "early_of" 2 m_early_of := by
  obtain ⟨fd, F⟩ := c.def_ 27 (d := d_early_of) rfl
  have sc := sc_early_of
  have c_early_in := fn_early_in (P := P) (w := w) (base := base) X G c
  refine ⟨⟨_, fd, ["record", "lot"], He.glo_ok X G (c.fact 30 (f := .glo "early_of") rfl), F.kp, FunD.bindsN F (fun _ _ _ _ _ _ us hl => match us, hl with | [_, _], _ => rfl), mn_ok (N := ["record", "lot", "number", "spot"]) F sc (by decide) fun cdv A outer s H E hr => ?_⟩⟩
  exact dss_one (ds_ret (FE.d (fe_lc2 [("number", 2), ("spot", 3)] [3] rfl sc.nd (di_S (de_v 1)) (blkOk_by (by kernel_rfl)) (fun _ _ _ _ _ => dg_n 2 sc.nd) (fun _ _ _ _ _ => dts_nil) (fun _ _ _ _ _ => di_S (de_fn c_early_in (hr.mono (by decide)) takes_WF (das_cons (de_ix (DE.b (de_v 0)) (DE.b (de_v 2))) (das_nil)) (len_cons len_nil))) (fun _ _ _ _ _ => dg_n 3 sc.nd) (fun _ _ _ _ _ => dts_nil) (fun _ _ _ _ _ => de_tup (n := 2) (das_cons (de_v 2) (das_cons (de_v 3) (das_nil))) (len_cons (len_cons len_nil))))))
theorem sc__law_zone : FnScope ["_law_value_so", "_law_calls_here", "_law_begin_here", "_law_end"] ["_law_value_so"] (defScope (top 48)) := ⟨rfl, rfl, rfl, by decide +kernel, rfl, by decide +kernel, by decide +kernel⟩
theorem fn__law_zone {P : Program} {w : World} {K : PySem.W.Frag} {mg : Str → Option Value} {base h : Heap} (X : K.In h) (G : h.Ns mainGlobals mg) (c : He.SaysD fa fn K) : Fn0 P w K mg base 2 "_law_zone" 1 m__law_zone := by
  obtain ⟨fd, F⟩ := c.def_ 35 (d := d__law_zone) rfl
  have sc := sc__law_zone
  have c__law_calls := fn__law_calls (P := P) (w := w) (base := base) X G c
  have g_max := He.free_ok X G (c.fact 62 (f := .free "max") rfl)
  have g_min := He.free_ok X G (c.fact 63 (f := .free "min") rfl)
  refine ⟨⟨_, fd, ["_law_value_so"], He.glo_ok X G (c.fact 38 (f := .glo "_law_zone") rfl), F.kp, FunD.bindsN F (fun _ _ _ _ _ _ us hl => match us, hl with | [_], _ => rfl), mn_ok (N := ["_law_value_so", "_law_calls_here", "_law_begin_here", "_law_end"]) F sc (by decide) fun cdv A outer s H E hr => ?_⟩⟩
  exact dss_cons (ds_set (i := 1) sc.nd (de_fn c__law_calls (hr.mono (by decide)) takes_fn (das_cons (de_v 0) (das_nil)) (len_cons len_nil))) (dss_one (ds_ret (de_tup (n := 2) (das_cons (de_callB (cr_minM rfl (u64 hr)) rc_min g_min (by rfl) (bas_cons (FE.b (fe_lc [("_law_begin_here", 2), ("_law_end", 3)] rfl sc.nd (di_S (de_v 1)) (blkOk_by (by kernel_rfl)) (fun _ _ _ _ _ => dg_t rfl (dgs_cons (dg_n 2 sc.nd) (dgs_cons (dg_n 3 sc.nd) (dgs_nil)))) (fun _ _ _ _ _ => dts_nil) (fun _ _ _ _ _ => de_v 3))) (bas_nil))) (das_cons (de_callB (cr_maxM rfl (u64 hr)) rc_max g_max (by rfl) (bas_cons (FE.b (fe_lc [("_law_begin_here", 2), ("_law_end", 3)] rfl sc.nd (di_S (de_v 1)) (blkOk_by (by kernel_rfl)) (fun _ _ _ _ _ => dg_t rfl (dgs_cons (dg_n 2 sc.nd) (dgs_cons (dg_n 3 sc.nd) (dgs_nil)))) (fun _ _ _ _ _ => dts_nil) (fun _ _ _ _ _ => de_v 2))) (bas_nil))) (das_nil))) (len_cons (len_cons len_nil)))))
theorem sc__law_holds : FnScope ["_law_values", "_law_thing", "_law_spans", "_law_value_so", "_law_ticks", "_law_calls_here", "_law_begin_here", "_law_end", "_law_tick", "_law_one", "_law_far"] ["_law_values", "_law_thing"] (defScope (top 53)) := ⟨rfl, rfl, rfl, by decide +kernel, rfl, by decide +kernel, by decide +kernel⟩
theorem fn__law_holds {P : Program} {w : World} {K : PySem.W.Frag} {mg : Str → Option Value} {base h : Heap} (X : K.In h) (G : h.Ns mainGlobals mg) (c : He.SaysD fa fn K) : Fn0 P w K mg base 2 "_law_holds" 2 m__law_holds := by
  obtain ⟨fd, F⟩ := c.def_ 40 (d := d__law_holds) rfl
  have sc := sc__law_holds
  have c__law_calls := fn__law_calls (P := P) (w := w) (base := base) X G c
  have g_bool := He.free_ok X G (c.fact 56 (f := .free "bool") rfl)
  have g_int := He.free_ok X G (c.fact 58 (f := .free "int") rfl)
  have g_isinstance := He.free_ok X G (c.fact 59 (f := .free "isinstance") rfl)
  have g_len := He.free_ok X G (c.fact 60 (f := .free "len") rfl)
  have g_max := He.free_ok X G (c.fact 62 (f := .free "max") rfl)
  have g_sorted := He.free_ok X G (c.fact 65 (f := .free "sorted") rfl)
  have g_tuple := He.free_ok X G (c.fact 67 (f := .free "tuple") rfl)
  have g_zip := He.free_ok X G (c.fact 68 (f := .free "zip") rfl)
  refine ⟨⟨_, fd, ["_law_values", "_law_thing"], He.glo_ok X G (c.fact 43 (f := .glo "_law_holds") rfl), F.kp, FunD.bindsN F (fun _ _ _ _ _ _ us hl => match us, hl with | [_, _], _ => rfl), mn_ok (N := ["_law_values", "_law_thing", "_law_spans", "_law_value_so", "_law_ticks", "_law_calls_here", "_law_begin_here", "_law_end", "_law_tick", "_law_one", "_law_far"]) F sc (by decide) fun cdv A outer s H E hr => ?_⟩⟩
  exact dss_cons (ds_if ((dw_or (dt_not (dt_v (de_isi (by rfl) g_isinstance (by rfl) g_tuple (by rfl) (DE.b (de_v 1)) kb_tuple))) (dw_or1 (dt_cmp (op_neD (u64 hr)) ro_ne (DE.b (de_callB call_lenM rc_len g_len (by rfl) (bas_cons (DE.b (de_v 1)) (bas_nil)))) (DE.b (de_callB call_lenM rc_len g_len (by rfl) (bas_cons (DE.b (de_v 0)) (bas_nil))))))).t) (dss_one (ds_ret (de_bl))) (dss_nil)) (dss_cons (ds_own (i := 2) sc.nd (fe_lst (n := 0) (das_nil) len_nil)) (dss_cons (ds_for own_fn rfl (di_Z rfl g_zip (de_v 0) (de_v 1)) (dg_t rfl (dgs_cons (dg_n 3 sc.nd) (dgs_cons (dg_n 4 sc.nd) (dgs_nil)))) (dss_wipe [6, 5, 7, 8, 4, 3] (dss_cons (ds_set (i := 5) sc.nd (de_fn c__law_calls (hr.mono (by decide)) takes_fn (das_cons (de_v 3) (das_nil)) (len_cons len_nil))) (dss_cons (ds_if ((dw_or (dt_not (dt_v (de_isi (by rfl) g_isinstance (by rfl) g_tuple (by rfl) (DE.b (de_v 4)) kb_tuple))) (dw_or1 (dt_cmp (op_neD (u64 hr)) ro_ne (DE.b (de_callB call_lenM rc_len g_len (by rfl) (bas_cons (DE.b (de_v 4)) (bas_nil)))) (DE.b (de_callB call_lenM rc_len g_len (by rfl) (bas_cons (DE.b (de_v 5)) (bas_nil))))))).t) (dss_one (ds_ret (de_bl))) (dss_nil)) (dss_cons (ds_for own_fn rfl (di_Z rfl g_zip (de_v 5) (de_v 4)) (dg_t rfl (dgs_cons (dg_t rfl (dgs_cons (dg_n 6 sc.nd) (dgs_cons (dg_n 7 sc.nd) (dgs_nil)))) (dgs_cons (dg_n 8 sc.nd) (dgs_nil)))) (dss_wipe [6, 7, 8] (dss_one (ds_if ((dw_or (dt_not (dt_v (de_isi (by rfl) g_isinstance (by rfl) g_int (by rfl) (DE.b (de_v 8)) kb_int))) (dw_or (dt_v (de_isi (by rfl) g_isinstance (by rfl) g_bool (by rfl) (DE.b (de_v 8)) kb_bool)) (dw_or (dt_not (dt_chain op_le ro_le op_le ro_le (de_v 6) (de_v 8) (de_v 7))) (dw_or1 (dt_cmp op_lt ro_lt (DE.b (de_v 8)) (DE.b (de_ix (DE.b (de_v 4)) (DE.b (de_int))))))))).t) (dss_one (ds_ret (de_bl))) (dss_nil))))) (dss_one (ds_app (i := 2) (de_tup (n := 2) (das_cons (de_ix (DE.b (de_v 4)) (DE.b (de_int))) (das_cons (de_callB (cr_maxM rfl (u64 hr)) rc_max g_max (by rfl) (bas_cons (DE.b (de_v 4)) (bas_nil))) (das_nil))) (len_cons (len_cons len_nil)))))))))) (dss_cons (ds_own (i := 2) sc.nd (fe_callB ((cr_sortD (u64 hr)).or (cr_sortTup (u64 hr))) rc_sortT g_sorted (by rfl) (bas_cons (be_o 2) (bas_nil)))) (dss_one (ds_frz 2 (ds_ret (de_cmp (op_eqD (u64 hr)) ro_eq (FE.b (fe_lc [("_law_one", 9), ("_law_far", 10)] rfl sc.nd (di_Z rfl g_zip (de_v 2) (de_cut (be_o 2) (do_some (de_int)) do_none)) (blkOk_by (by kernel_rfl)) (fun _ _ _ _ _ => dg_t rfl (dgs_cons (dg_n 9 sc.nd) (dgs_cons (dg_n 10 sc.nd) (dgs_nil)))) (fun _ _ _ _ _ => dts_one (dt_cmp op_gt ro_gt (DE.b (de_ix (DE.b (de_v 9)) (DE.b (de_int)))) (DE.b (de_ix (DE.b (de_v 10)) (DE.b (de_int)))))) (fun _ _ _ _ _ => de_int))) (FE.b (fe_lst (n := 0) (das_nil) len_nil)))))))))
theorem sc__law_by_row : FnScope ["_law_values", "_law_row", "_law_got", "_law_last", "_law_number", "_law_write", "_law_reads", "_law_ticks", "_law_begin_here", "_law_end", "_law_tick", "_law_call"] ["_law_values", "_law_row"] (defScope (top 58)) := ⟨rfl, rfl, rfl, by decide +kernel, rfl, by decide +kernel, by decide +kernel⟩
theorem fn__law_by_row {P : Program} {w : World} {K : PySem.W.Frag} {mg : Str → Option Value} {base h : Heap} (X : K.In h) (G : h.Ns mainGlobals mg) (c : He.SaysD fa fn K) : Fn0 P w K mg base 2 "_law_by_row" 2 m__law_by_row := by
  obtain ⟨fd, F⟩ := c.def_ 45 (d := d__law_by_row) rfl
  have sc := sc__law_by_row
  have c__law_calls := fn__law_calls (P := P) (w := w) (base := base) X G c
  have g_max := He.free_ok X G (c.fact 62 (f := .free "max") rfl)
  have g_sorted := He.free_ok X G (c.fact 65 (f := .free "sorted") rfl)
  have g_tuple := He.free_ok X G (c.fact 67 (f := .free "tuple") rfl)
  have g_zip := He.free_ok X G (c.fact 68 (f := .free "zip") rfl)
  refine ⟨⟨_, fd, ["_law_values", "_law_row"], He.glo_ok X G (c.fact 48 (f := .glo "_law_by_row") rfl), F.kp, FunD.bindsN F (fun _ _ _ _ _ _ us hl => match us, hl with | [_, _], _ => rfl), mn_ok (N := ["_law_values", "_law_row", "_law_got", "_law_last", "_law_number", "_law_write", "_law_reads", "_law_ticks", "_law_begin_here", "_law_end", "_law_tick", "_law_call"]) F sc (by decide) fun cdv A outer s H E hr => ?_⟩⟩
  exact dss_cons (ds_parT (i := 2) (j := 3) rfl sc.nd (dms_own (fe_dct0) (dms_val (de_un un_neg ro_neg (DE.b (de_op op_pow ro_pow (DE.b (de_int)) (DE.b (de_int))))) (dms_nil)))) (dss_cons (ds_for own_fn rfl (di_S (de_v 1)) (dg_n 4 sc.nd) (dss_wipe [4, 6, 7, 5] (dss_cons (ds_asg (de_ix (DE.b (de_v 0)) (DE.b (de_v 4))) (dg_t rfl (dgs_cons (dg_n 5 sc.nd) (dgs_cons (dg_n 6 sc.nd) (dgs_nil))))) (dss_cons (ds_set (i := 7) sc.nd (FE.d (fe_lst (n := 1) (das_cons (de_callB (cr_maxM rfl (u64 hr)) rc_max g_max (by rfl) (bas_cons (DE.b (de_v 3)) (bas_cons (DE.b (de_ix (DE.b (de_v 5)) (DE.b (de_int)))) (bas_nil)))) (das_nil)) (len_cons len_nil)))) (dss_cons (ds_set (i := 7) sc.nd (de_op op_addA ro_add (DE.b (de_v 7)) (FE.b (fe_lc [("_law_begin_here", 8), ("_law_end", 9)] rfl sc.nd (di_S (de_v 6)) (blkOk_by (by kernel_rfl)) (fun _ _ _ _ _ => dg_t rfl (dgs_cons (dg_n 8 sc.nd) (dgs_cons (dg_n 9 sc.nd) (dgs_nil)))) (fun _ _ _ _ _ => dts_nil) (fun _ _ _ _ _ => de_callB (cr_maxM rfl (u64 hr)) rc_max g_max (by rfl) (bas_cons (DE.b (de_ix (DE.b (de_v 7)) (DE.b (de_int)))) (bas_cons (DE.b (de_v 8)) (bas_nil)))))))) (dss_cons (ds_if (dt_cmp (op_neD (u64 hr)) ro_ne (FE.b (fe_lc [("_law_tick", 10), ("_law_call", 11)] rfl sc.nd (di_Z rfl g_zip (de_v 7) (de_fn c__law_calls (hr.mono (by decide)) takes_fn (das_cons (de_ix (DE.b (de_v 0)) (DE.b (de_v 4))) (das_nil)) (len_cons len_nil))) (blkOk_by (by kernel_rfl)) (fun _ _ _ _ _ => dg_t rfl (dgs_cons (dg_n 10 sc.nd) (dgs_cons (dg_n 11 sc.nd) (dgs_nil)))) (fun _ _ _ _ _ => dts_one (dt_cmp op_gt ro_gt (DE.b (de_v 10)) (DE.b (de_ix (DE.b (de_v 11)) (DE.b (de_int)))))) (fun _ _ _ _ _ => de_int))) (FE.b (fe_lst (n := 0) (das_nil) len_nil))) (dss_one (ds_ret (de_non))) (dss_nil)) (dss_one (ds_putDN (j := 2) (i := 3) (u1 hr) rfl sc.nd (de_tup (n := 2) (das_cons (de_callTy call_tuple_of rc_tuple g_tuple (by rfl) (bas_cons (DE.b (de_v 7)) (bas_nil))) (das_cons (de_callB (cr_maxM rfl (u64 hr)) rc_max g_max (by rfl) (bas_cons (DE.b (de_v 7)) (bas_nil))) (das_nil))) (len_cons (len_cons len_nil))) (de_v 4))))))))) (dss_one (ds_ret (de_callTy call_tuple_of rc_tuple g_tuple (by rfl) (bas_cons (FE.b (fe_lc [("_law_number", 4)] rfl sc.nd (di_S (FE.d (fe_callB (cr_sortDD rfl (u64 hr)) rc_sortedD g_sorted (by rfl) (bas_cons (be_o 2) (bas_nil))))) (blkOk_by (by kernel_rfl)) (fun _ _ _ _ _ => dg_n 4 sc.nd) (fun _ _ _ _ _ => dts_nil) (fun _ _ _ _ _ => de_ixD (u1 hr) (be_o 2) (DE.b (de_v 4))))) (bas_nil))))))
theorem sc_is_tick : FnScope ["thing"] ["thing"] (defScope (top 13)) := ⟨rfl, rfl, rfl, by decide +kernel, rfl, by decide +kernel, by decide +kernel⟩
theorem fn_is_tick {P : Program} {w : World} {K : PySem.W.Frag} {mg : Str → Option Value} {base h : Heap} (X : K.In h) (G : h.Ns mainGlobals mg) (c : He.SaysD fa fn K) : Fn0 P w K mg base 3 "is_tick" 1 m_is_tick := by
  obtain ⟨fd, F⟩ := c.def_ 3 (d := d_is_tick) rfl
  have sc := sc_is_tick
  have c_is_between := fn_is_between (P := P) (w := w) (base := base) X G c
  have g_MOST_TICK := He.int_ok X G (c.fact 0 (f := .int "MOST_TICK" 1000000000) rfl)
  refine ⟨⟨_, fd, ["thing"], He.glo_ok X G (c.fact 6 (f := .glo "is_tick") rfl), F.kp, FunD.bindsN F (fun _ _ _ _ _ _ us hl => match us, hl with | [_], _ => rfl), mn_ok (N := ["thing"]) F sc (by decide) fun cdv A outer s H E hr => ?_⟩⟩
  exact dss_one (ds_ret (de_fn c_is_between (hr.mono (by decide)) takes_fn (das_cons (de_v 0) (das_cons (de_op op_sub ro_sub (DE.b (de_int)) (DE.b (de_gint (by rfl) g_MOST_TICK))) (das_cons (de_gint (by rfl) g_MOST_TICK) (das_nil)))) (len_cons (len_cons (len_cons len_nil)))))
theorem sc_is_lot : FnScope ["record", "thing", "one"] ["record", "thing"] (defScope (top 17)) := ⟨rfl, rfl, rfl, by decide +kernel, rfl, by decide +kernel, by decide +kernel⟩
theorem fn_is_lot {P : Program} {w : World} {K : PySem.W.Frag} {mg : Str → Option Value} {base h : Heap} (X : K.In h) (G : h.Ns mainGlobals mg) (c : He.SaysD fa fn K) : Fn0 P w K mg base 3 "is_lot" 2 m_is_lot := by
  obtain ⟨fd, F⟩ := c.def_ 7 (d := d_is_lot) rfl
  have sc := sc_is_lot
  have c_is_between := fn_is_between (P := P) (w := w) (base := base) X G c
  have c_are_rising := fn_are_rising (P := P) (w := w) (base := base) X G c
  have g_all := He.free_ok X G (c.fact 55 (f := .free "all") rfl)
  have g_isinstance := He.free_ok X G (c.fact 59 (f := .free "isinstance") rfl)
  have g_len := He.free_ok X G (c.fact 60 (f := .free "len") rfl)
  have g_tuple := He.free_ok X G (c.fact 67 (f := .free "tuple") rfl)
  refine ⟨⟨_, fd, ["record", "thing"], He.glo_ok X G (c.fact 10 (f := .glo "is_lot") rfl), F.kp, FunD.bindsN F (fun _ _ _ _ _ _ us hl => match us, hl with | [_, _], _ => rfl), mn_ok (N := ["record", "thing", "one"]) F sc (by decide) fun cdv A outer s H E hr => ?_⟩⟩
  exact dss_cons (ds_if ((dw_or (dt_not (dt_v (de_isi (by rfl) g_isinstance (by rfl) g_tuple (by rfl) (DE.b (de_v 1)) kb_tuple))) (dw_or1 (dt_not (dt_v (de_callB (cr_all rfl) rc_all g_all (by rfl) (bas_cons (FE.b (fe_lc [("one", 2)] rfl sc.nd (di_S (de_v 1)) (blkOk_by (by kernel_rfl)) (fun _ _ _ _ _ => dg_n 2 sc.nd) (fun _ _ _ _ _ => dts_nil) (fun _ _ _ _ _ => de_fn c_is_between (hr.mono (by decide)) takes_WF (das_cons (de_v 2) (das_cons (de_int) (das_cons (de_op op_sub ro_sub (DE.b (de_callB call_lenM rc_len g_len (by rfl) (bas_cons (DE.b (de_v 0)) (bas_nil)))) (DE.b (de_int))) (das_nil)))) (len_cons (len_cons (len_cons len_nil)))))) (bas_nil))))))).t) (dss_one (ds_ret (de_bl))) (dss_nil)) (dss_one (ds_ret (de_fn c_are_rising (hr.mono (by decide)) takes_fn (das_cons (de_v 1) (das_nil)) (len_cons len_nil))))
theorem sc_need_number : FnScope ["record", "number"] ["record", "number"] (defScope (top 19)) := ⟨rfl, rfl, rfl, by decide +kernel, rfl, by decide +kernel, by decide +kernel⟩
theorem fn_need_number {P : Program} {w : World} {K : PySem.W.Frag} {mg : Str → Option Value} {base h : Heap} (X : K.In h) (G : h.Ns mainGlobals mg) (c : He.SaysD fa fn K) : Fn0 P w K mg base 3 "need_number" 2 m_need_number := by
  obtain ⟨fd, F⟩ := c.def_ 9 (d := d_need_number) rfl
  have sc := sc_need_number
  have c_is_between := fn_is_between (P := P) (w := w) (base := base) X G c
  have g_len := He.free_ok X G (c.fact 60 (f := .free "len") rfl)
  refine ⟨⟨_, fd, ["record", "number"], He.glo_ok X G (c.fact 12 (f := .glo "need_number") rfl), F.kp, FunD.bindsN F (fun _ _ _ _ _ _ us hl => match us, hl with | [_, _], _ => rfl), mn_ok (N := ["record", "number"]) F sc (by decide) fun cdv A outer s H E hr => ?_⟩⟩
  exact dss_one (ds_if (dt_not (dt_v (de_fn c_is_between (hr.mono (by decide)) takes_fn (das_cons (de_v 1) (das_cons (de_int) (das_cons (de_op op_sub ro_sub (DE.b (de_callB call_lenM rc_len g_len (by rfl) (bas_cons (DE.b (de_v 0)) (bas_nil)))) (DE.b (de_int))) (das_nil)))) (len_cons (len_cons (len_cons len_nil)))))) (dss_one (ds_stk)) (dss_nil))
theorem sc_is_forced_in : FnScope ["record", "one", "other"] ["record", "one", "other"] (defScope (top 25)) := ⟨rfl, rfl, rfl, by decide +kernel, rfl, by decide +kernel, by decide +kernel⟩
theorem fn_is_forced_in {P : Program} {w : World} {K : PySem.W.Frag} {mg : Str → Option Value} {base h : Heap} (X : K.In h) (G : h.Ns mainGlobals mg) (c : He.SaysD fa fn K) : Fn0 P w K mg base 3 "is_forced_in" 3 m_is_forced_in := by
  obtain ⟨fd, F⟩ := c.def_ 15 (d := d_is_forced_in) rfl
  have sc := sc_is_forced_in
  have c_near_of := fn_near_of (P := P) (w := w) (base := base) X G c
  have c_far_of := fn_far_of (P := P) (w := w) (base := base) X G c
  refine ⟨⟨_, fd, ["record", "one", "other"], He.glo_ok X G (c.fact 18 (f := .glo "is_forced_in") rfl), F.kp, FunD.bindsN F (fun _ _ _ _ _ _ us hl => match us, hl with | [_, _, _], _ => rfl), mn_ok (N := ["record", "one", "other"]) F sc (by decide) fun cdv A outer s H E hr => ?_⟩⟩
  exact dss_one (ds_ret (de_and (de_cmp (op_neD (u64 hr)) ro_ne (DE.b (de_v 1)) (DE.b (de_v 2))) (de_one (de_cmp op_lt ro_lt (DE.b (de_fn c_near_of (hr.mono (by decide)) takes_fn (das_cons (de_ix (DE.b (de_v 0)) (DE.b (de_v 1))) (das_nil)) (len_cons len_nil))) (DE.b (de_fn c_far_of (hr.mono (by decide)) takes_fn (das_cons (de_ix (DE.b (de_v 0)) (DE.b (de_v 2))) (das_nil)) (len_cons len_nil)))))))
theorem sc_can_stand : FnScope ["record", "row", "spot", "one", "behind", "other"] ["record", "row"] (defScope (top 33)) := ⟨rfl, rfl, rfl, by decide +kernel, rfl, by decide +kernel, by decide +kernel⟩
theorem fn_can_stand {P : Program} {w : World} {K : PySem.W.Frag} {mg : Str → Option Value} {base h : Heap} (X : K.In h) (G : h.Ns mainGlobals mg) (c : He.SaysD fa fn K) : Fn0 P w K mg base 3 "can_stand" 2 m_can_stand := by
  obtain ⟨fd, F⟩ := c.def_ 22 (d := d_can_stand) rfl
  have sc := sc_can_stand
  have c_near_of := fn_near_of (P := P) (w := w) (base := base) X G c
  have c_early_in := fn_early_in (P := P) (w := w) (base := base) X G c
  have c_far_of := fn_far_of (P := P) (w := w) (base := base) X G c
  have g_enumerate := He.free_ok X G (c.fact 57 (f := .free "enumerate") rfl)
  have g_min := He.free_ok X G (c.fact 63 (f := .free "min") rfl)
  refine ⟨⟨_, fd, ["record", "row"], He.glo_ok X G (c.fact 25 (f := .glo "can_stand") rfl), F.kp, FunD.bindsN F (fun _ _ _ _ _ _ us hl => match us, hl with | [_, _], _ => rfl), mn_ok (N := ["record", "row", "spot", "one", "behind", "other"]) F sc (by decide) fun cdv A outer s H E hr => ?_⟩⟩
  exact dss_cons (ds_for own_fn rfl (di_E rfl g_enumerate (de_v 1)) (dg_t rfl (dgs_cons (dg_n 2 sc.nd) (dgs_cons (dg_n 3 sc.nd) (dgs_nil)))) (dss_wipe [4, 3, 2] (dss_cons (ds_setLc (i := 4) [("other", 5)] rfl sc.nd (di_S (de_cut (DE.b (de_v 1)) (do_some (de_op op_addA ro_add (DE.b (de_v 2)) (DE.b (de_int)))) do_none)) (blkOk_by (by kernel_rfl)) (fun _ _ _ _ _ => dg_n 5 sc.nd) (fun _ _ _ _ _ => dts_nil) (fun _ _ _ _ _ => de_fn c_near_of (hr.mono (by decide)) takes_WF (das_cons (de_ix (DE.b (de_v 0)) (DE.b (de_v 5))) (das_nil)) (len_cons len_nil)) (sw_true rfl rfl rfl (by decide +kernel))) (dss_one (ds_if ((dw_or (dt_cmp (op_neD (u64 hr)) ro_ne (DE.b (de_fn c_early_in (hr.mono (by decide)) takes_fn (das_cons (de_ix (DE.b (de_v 0)) (DE.b (de_v 3))) (das_nil)) (len_cons len_nil))) (FE.b (fe_lst (n := 0) (das_nil) len_nil))) (dw_or1 ((dw_and (dt_cmp (op_neD (u64 hr)) ro_ne (DE.b (de_v 4)) (FE.b (fe_lst (n := 0) (das_nil) len_nil))) (dw_and1 (dt_cmp op_gt ro_gt (DE.b (de_fn c_far_of (hr.mono (by decide)) takes_fn (das_cons (de_ix (DE.b (de_v 0)) (DE.b (de_v 3))) (das_nil)) (len_cons len_nil))) (DE.b (de_callB (cr_minM rfl (u64 hr)) rc_min g_min (by rfl) (bas_cons (DE.b (de_v 4)) (bas_nil))))))).t))).t) (dss_one (ds_ret (de_bl))) (dss_nil)))))) (dss_one (ds_ret (de_bl)))
theorem sc_soonest_in : FnScope ["record", "lot", "row", "found", "least", "number"] ["record", "lot", "row"] (defScope (top 35)) := ⟨rfl, rfl, rfl, by decide +kernel, rfl, by decide +kernel, by decide +kernel⟩
theorem fn_soonest_in {P : Program} {w : World} {K : PySem.W.Frag} {mg : Str → Option Value} {base h : Heap} (X : K.In h) (G : h.Ns mainGlobals mg) (c : He.SaysD fa fn K) : Fn0 P w K mg base 3 "soonest_in" 3 m_soonest_in := by
  obtain ⟨fd, F⟩ := c.def_ 24 (d := d_soonest_in) rfl
  have sc := sc_soonest_in
  have c_ticks_from := fn_ticks_from (P := P) (w := w) (base := base) X G c
  have c_far_of := fn_far_of (P := P) (w := w) (base := base) X G c
  have g_MOST_TICK := He.int_ok X G (c.fact 0 (f := .int "MOST_TICK" 1000000000) rfl)
  have g_max := He.free_ok X G (c.fact 62 (f := .free "max") rfl)
  have g_tuple := He.free_ok X G (c.fact 67 (f := .free "tuple") rfl)
  refine ⟨⟨_, fd, ["record", "lot", "row"], He.glo_ok X G (c.fact 27 (f := .glo "soonest_in") rfl), F.kp, FunD.bindsN F (fun _ _ _ _ _ _ us hl => match us, hl with | [_, _, _], _ => rfl), mn_ok (N := ["record", "lot", "row", "found", "least", "number"]) F sc (by decide) fun cdv A outer s H E hr => ?_⟩⟩
  exact dss_cons (ds_parT (i := 3) (j := 4) rfl sc.nd (dms_own (fe_dct0) (dms_val (de_op op_sub ro_sub (DE.b (de_int)) (DE.b (de_gint (by rfl) g_MOST_TICK))) (dms_nil)))) (dss_cons (ds_for own_fn rfl (di_S (de_v 2)) (dg_n 5 sc.nd) (dss_wipe [5] (dss_cons (ds_putD (i := 3) (u1 hr) (de_fn c_ticks_from (hr.mono (by decide)) takes_fn (das_cons (de_ix (DE.b (de_v 0)) (DE.b (de_v 5))) (das_cons (de_v 4) (das_nil))) (len_cons (len_cons len_nil))) (de_v 5)) (dss_one (ds_set (i := 4) sc.nd (de_callB (cr_maxM rfl (u64 hr)) rc_max g_max (by rfl) (bas_cons (DE.b (de_v 4)) (bas_cons (DE.b (de_fn c_far_of (hr.mono (by decide)) takes_fn (das_cons (de_ix (DE.b (de_v 0)) (DE.b (de_v 5))) (das_nil)) (len_cons len_nil))) (bas_nil))))))))) (dss_one (ds_ret (de_callTy call_tuple_of rc_tuple g_tuple (by rfl) (bas_cons (FE.b (fe_lc [("number", 5)] rfl sc.nd (di_S (de_v 1)) (blkOk_by (by kernel_rfl)) (fun _ _ _ _ _ => dg_n 5 sc.nd) (fun _ _ _ _ _ => dts_nil) (fun _ _ _ _ _ => de_ixD (u1 hr) (be_o 3) (DE.b (de_v 5))))) (bas_nil))))))
theorem sc__law_of : FnScope ["_law_state", "_law_some"] ["_law_state", "_law_some"] (defScope (top 46)) := ⟨rfl, rfl, rfl, by decide +kernel, rfl, by decide +kernel, by decide +kernel⟩
theorem fn__law_of {P : Program} {w : World} {K : PySem.W.Frag} {mg : Str → Option Value} {base h : Heap} (X : K.In h) (G : h.Ns mainGlobals mg) (c : He.SaysD fa fn K) : Fn0 P w K mg base 3 "_law_of" 2 m__law_of := by
  obtain ⟨fd, F⟩ := c.def_ 33 (d := d__law_of) rfl
  have sc := sc__law_of
  have c__law_draw := fn__law_draw (P := P) (w := w) (base := base) X G c
  have g_len := He.free_ok X G (c.fact 60 (f := .free "len") rfl)
  refine ⟨⟨_, fd, ["_law_state", "_law_some"], He.glo_ok X G (c.fact 36 (f := .glo "_law_of") rfl), F.kp, FunD.bindsN F (fun _ _ _ _ _ _ us hl => match us, hl with | [_, _], _ => rfl), mn_ok (N := ["_law_state", "_law_some"]) F sc (by decide) fun cdv A outer s H E hr => ?_⟩⟩
  exact dss_one (ds_ret (de_ix (DE.b (de_v 1)) (DE.b (de_fn c__law_draw (hr.mono (by decide)) takes_fn (das_cons (de_v 0) (das_cons (de_callB call_lenM rc_len g_len (by rfl) (bas_cons (DE.b (de_v 1)) (bas_nil))) (das_nil))) (len_cons (len_cons len_nil))))))
theorem sc__law_forced : FnScope ["_law_one", "_law_far"] ["_law_one", "_law_far"] (defScope (top 49)) := ⟨rfl, rfl, rfl, by decide +kernel, rfl, by decide +kernel, by decide +kernel⟩
theorem fn__law_forced {P : Program} {w : World} {K : PySem.W.Frag} {mg : Str → Option Value} {base h : Heap} (X : K.In h) (G : h.Ns mainGlobals mg) (c : He.SaysD fa fn K) : Fn0 P w K mg base 3 "_law_forced" 2 m__law_forced := by
  obtain ⟨fd, F⟩ := c.def_ 36 (d := d__law_forced) rfl
  have sc := sc__law_forced
  have c__law_zone := fn__law_zone (P := P) (w := w) (base := base) X G c
  refine ⟨⟨_, fd, ["_law_one", "_law_far"], He.glo_ok X G (c.fact 39 (f := .glo "_law_forced") rfl), F.kp, FunD.bindsN F (fun _ _ _ _ _ _ us hl => match us, hl with | [_, _], _ => rfl), mn_ok (N := ["_law_one", "_law_far"]) F sc (by decide) fun cdv A outer s H E hr => ?_⟩⟩
  exact dss_one (ds_ret (de_cmp op_lt ro_lt (DE.b (de_ix (DE.b (de_fn c__law_zone (hr.mono (by decide)) takes_fn (das_cons (de_v 0) (das_nil)) (len_cons len_nil))) (DE.b (de_int)))) (DE.b (de_ix (DE.b (de_fn c__law_zone (hr.mono (by decide)) takes_fn (das_cons (de_v 1) (das_nil)) (len_cons len_nil))) (DE.b (de_int))))))
theorem sc__law_around : FnScope ["_law_state", "_law_tick", "_law_most"] ["_law_state", "_law_tick", "_law_most"] (defScope (top 54)) := ⟨rfl, rfl, rfl, by decide +kernel, rfl, by decide +kernel, by decide +kernel⟩
theorem fn__law_around {P : Program} {w : World} {K : PySem.W.Frag} {mg : Str → Option Value} {base h : Heap} (X : K.In h) (G : h.Ns mainGlobals mg) (c : He.SaysD fa fn K) : Fn0 P w K mg base 3 "_law_around" 3 m__law_around := by
  obtain ⟨fd, F⟩ := c.def_ 41 (d := d__law_around) rfl
  have sc := sc__law_around
  have c__law_draw := fn__law_draw (P := P) (w := w) (base := base) X G c
  refine ⟨⟨_, fd, ["_law_state", "_law_tick", "_law_most"], He.glo_ok X G (c.fact 44 (f := .glo "_law_around") rfl), F.kp, FunD.bindsN F (fun _ _ _ _ _ _ us hl => match us, hl with | [_, _, _], _ => rfl), mn_ok (N := ["_law_state", "_law_tick", "_law_most"]) F sc (by decide) fun cdv A outer s H E hr => ?_⟩⟩
  exact dss_one (ds_ret (de_tup (n := 2) (das_cons (de_op op_sub ro_sub (DE.b (de_v 1)) (DE.b (de_fn c__law_draw (hr.mono (by decide)) takes_fn (das_cons (de_v 0) (das_cons (de_op op_addA ro_add (DE.b (de_v 2)) (DE.b (de_int))) (das_nil))) (len_cons (len_cons len_nil))))) (das_cons (de_op op_addA ro_add (DE.b (de_v 1)) (DE.b (de_fn c__law_draw (hr.mono (by decide)) takes_fn (das_cons (de_v 0) (das_cons (de_op op_addA ro_add (DE.b (de_v 2)) (DE.b (de_int))) (das_nil))) (len_cons (len_cons len_nil))))) (das_nil))) (len_cons (len_cons len_nil))))
theorem sc__law_lot : FnScope ["_law_state", "_law_many", "_law_one"] ["_law_state", "_law_many"] (defScope (top 57)) := ⟨rfl, rfl, rfl, by decide +kernel, rfl, by decide +kernel, by decide +kernel⟩
theorem fn__law_lot {P : Program} {w : World} {K : PySem.W.Frag} {mg : Str → Option Value} {base h : Heap} (X : K.In h) (G : h.Ns mainGlobals mg) (c : He.SaysD fa fn K) : Fn0 P w K mg base 3 "_law_lot" 2 m__law_lot := by
  obtain ⟨fd, F⟩ := c.def_ 44 (d := d__law_lot) rfl
  have sc := sc__law_lot
  have c__law_draw := fn__law_draw (P := P) (w := w) (base := base) X G c
  have g_range := He.free_ok X G (c.fact 64 (f := .free "range") rfl)
  have g_tuple := He.free_ok X G (c.fact 67 (f := .free "tuple") rfl)
  refine ⟨⟨_, fd, ["_law_state", "_law_many"], He.glo_ok X G (c.fact 47 (f := .glo "_law_lot") rfl), F.kp, FunD.bindsN F (fun _ _ _ _ _ _ us hl => match us, hl with | [_, _], _ => rfl), mn_ok (N := ["_law_state", "_law_many", "_law_one"]) F sc (by decide) fun cdv A outer s H E hr => ?_⟩⟩
  exact dss_one (ds_ret (de_callTy call_tuple_of rc_tuple g_tuple (by rfl) (bas_cons (FE.b (fe_lc [("_law_one", 2)] rfl sc.nd (di_R1 rfl g_range (de_v 1)) (blkOk_by (by kernel_rfl)) (fun _ _ _ _ _ => dg_n 2 sc.nd) (fun _ _ _ _ _ => dts_one (dt_cmp op_gt ro_gt (DE.b (de_fn c__law_draw (hr.mono (by decide)) takes_WF (das_cons (de_v 0) (das_cons (de_int) (das_nil))) (len_cons (len_cons len_nil)))) (DE.b (de_int)))) (fun _ _ _ _ _ => de_v 2))) (bas_nil))))
theorem sc__law_is_cell : FnScope ["_law_values", "_law_row"] ["_law_values"] (defScope (top 60)) := ⟨rfl, rfl, rfl, by decide +kernel, rfl, by decide +kernel, by decide +kernel⟩
theorem fn__law_is_cell {P : Program} {w : World} {K : PySem.W.Frag} {mg : Str → Option Value} {base h : Heap} (X : K.In h) (G : h.Ns mainGlobals mg) (c : He.SaysD fa fn K) : Fn0 P w K mg base 3 "_law_is_cell" 1 m__law_is_cell := by
  obtain ⟨fd, F⟩ := c.def_ 47 (d := d__law_is_cell) rfl
  have sc := sc__law_is_cell
  have c__law_rows := fn__law_rows (P := P) (w := w) (base := base) X G c
  have c__law_by_row := fn__law_by_row (P := P) (w := w) (base := base) X G c
  have g_len := He.free_ok X G (c.fact 60 (f := .free "len") rfl)
  refine ⟨⟨_, fd, ["_law_values"], He.glo_ok X G (c.fact 50 (f := .glo "_law_is_cell") rfl), F.kp, FunD.bindsN F (fun _ _ _ _ _ _ us hl => match us, hl with | [_], _ => rfl), mn_ok (N := ["_law_values", "_law_row"]) F sc (by decide) fun cdv A outer s H E hr => ?_⟩⟩
  exact dss_one (ds_ret (de_cmp (op_neD (u64 hr)) ro_ne (FE.b (fe_lc [("_law_row", 1)] rfl sc.nd (di_S (de_fn c__law_rows (hr.mono (by decide)) takes_fn (das_cons (de_callB call_lenM rc_len g_len (by rfl) (bas_cons (DE.b (de_v 0)) (bas_nil))) (das_nil)) (len_cons len_nil))) (blkOk_by (by kernel_rfl)) (fun _ _ _ _ _ => dg_n 1 sc.nd) (fun _ _ _ _ _ => dts_one (dt_cmp op_notN ro_isNotN (DE.b (de_fn c__law_by_row (hr.mono (by decide)) takes_WF (das_cons (de_v 0) (das_cons (de_v 1) (das_nil))) (len_cons (len_cons len_nil)))) (DE.b (de_non)))) (fun _ _ _ _ _ => de_int))) (FE.b (fe_lst (n := 0) (das_nil) len_nil))))
theorem sc_is_call : FnScope ["thing"] ["thing"] (defScope (top 14)) := ⟨rfl, rfl, rfl, by decide +kernel, rfl, by decide +kernel, by decide +kernel⟩
theorem fn_is_call {P : Program} {w : World} {K : PySem.W.Frag} {mg : Str → Option Value} {base h : Heap} (X : K.In h) (G : h.Ns mainGlobals mg) (c : He.SaysD fa fn K) : Fn0 P w K mg base 4 "is_call" 1 m_is_call := by
  obtain ⟨fd, F⟩ := c.def_ 4 (d := d_is_call) rfl
  have sc := sc_is_call
  have c_is_tick := fn_is_tick (P := P) (w := w) (base := base) X G c
  have g_isinstance := He.free_ok X G (c.fact 59 (f := .free "isinstance") rfl)
  have g_len := He.free_ok X G (c.fact 60 (f := .free "len") rfl)
  have g_tuple := He.free_ok X G (c.fact 67 (f := .free "tuple") rfl)
  refine ⟨⟨_, fd, ["thing"], He.glo_ok X G (c.fact 7 (f := .glo "is_call") rfl), F.kp, FunD.bindsN F (fun _ _ _ _ _ _ us hl => match us, hl with | [_], _ => rfl), mn_ok (N := ["thing"]) F sc (by decide) fun cdv A outer s H E hr => ?_⟩⟩
  exact dss_cons (ds_if ((dw_or (dt_not (dt_v (de_isi (by rfl) g_isinstance (by rfl) g_tuple (by rfl) (DE.b (de_v 0)) kb_tuple))) (dw_or (dt_cmp (op_neD (u64 hr)) ro_ne (DE.b (de_callB call_lenM rc_len g_len (by rfl) (bas_cons (DE.b (de_v 0)) (bas_nil)))) (DE.b (de_int))) (dw_or (dt_not (dt_v (de_fn c_is_tick (hr.mono (by decide)) takes_fn (das_cons (de_ix (DE.b (de_v 0)) (DE.b (de_int))) (das_nil)) (len_cons len_nil)))) (dw_or1 (dt_not (dt_v (de_fn c_is_tick (hr.mono (by decide)) takes_fn (das_cons (de_ix (DE.b (de_v 0)) (DE.b (de_int))) (das_nil)) (len_cons len_nil)))))))).t) (dss_one (ds_ret (de_bl))) (dss_nil)) (dss_one (ds_ret (de_cmp op_le ro_le (DE.b (de_ix (DE.b (de_v 0)) (DE.b (de_int)))) (DE.b (de_ix (DE.b (de_v 0)) (DE.b (de_int)))))))
theorem sc_need_lot : FnScope ["record", "lot"] ["record", "lot"] (defScope (top 18)) := ⟨rfl, rfl, rfl, by decide +kernel, rfl, by decide +kernel, by decide +kernel⟩
theorem fn_need_lot {P : Program} {w : World} {K : PySem.W.Frag} {mg : Str → Option Value} {base h : Heap} (X : K.In h) (G : h.Ns mainGlobals mg) (c : He.SaysD fa fn K) : Fn0 P w K mg base 4 "need_lot" 2 m_need_lot := by
  obtain ⟨fd, F⟩ := c.def_ 8 (d := d_need_lot) rfl
  have sc := sc_need_lot
  have c_is_lot := fn_is_lot (P := P) (w := w) (base := base) X G c
  refine ⟨⟨_, fd, ["record", "lot"], He.glo_ok X G (c.fact 11 (f := .glo "need_lot") rfl), F.kp, FunD.bindsN F (fun _ _ _ _ _ _ us hl => match us, hl with | [_, _], _ => rfl), mn_ok (N := ["record", "lot"]) F sc (by decide) fun cdv A outer s H E hr => ?_⟩⟩
  exact dss_one (ds_if (dt_not (dt_v (de_fn c_is_lot (hr.mono (by decide)) takes_fn (das_cons (de_v 0) (das_cons (de_v 1) (das_nil))) (len_cons (len_cons len_nil))))) (dss_one (ds_stk)) (dss_nil))
theorem sc_are_odd_in : FnScope ["record", "one", "other"] ["record", "one", "other"] (defScope (top 26)) := ⟨rfl, rfl, rfl, by decide +kernel, rfl, by decide +kernel, by decide +kernel⟩
theorem fn_are_odd_in {P : Program} {w : World} {K : PySem.W.Frag} {mg : Str → Option Value} {base h : Heap} (X : K.In h) (G : h.Ns mainGlobals mg) (c : He.SaysD fa fn K) : Fn0 P w K mg base 4 "are_odd_in" 3 m_are_odd_in := by
  obtain ⟨fd, F⟩ := c.def_ 16 (d := d_are_odd_in) rfl
  have sc := sc_are_odd_in
  have c_is_forced_in := fn_is_forced_in (P := P) (w := w) (base := base) X G c
  refine ⟨⟨_, fd, ["record", "one", "other"], He.glo_ok X G (c.fact 19 (f := .glo "are_odd_in") rfl), F.kp, FunD.bindsN F (fun _ _ _ _ _ _ us hl => match us, hl with | [_, _, _], _ => rfl), mn_ok (N := ["record", "one", "other"]) F sc (by decide) fun cdv A outer s H E hr => ?_⟩⟩
  exact dss_one (ds_ret (de_and (de_fn c_is_forced_in (hr.mono (by decide)) takes_fn (das_cons (de_v 0) (das_cons (de_v 1) (das_cons (de_v 2) (das_nil)))) (len_cons (len_cons (len_cons len_nil)))) (de_one (de_fn c_is_forced_in (hr.mono (by decide)) takes_fn (das_cons (de_v 0) (das_cons (de_v 2) (das_cons (de_v 1) (das_nil)))) (len_cons (len_cons (len_cons len_nil)))))))
theorem sc__law_odd : FnScope ["_law_one", "_law_far"] ["_law_one", "_law_far"] (defScope (top 50)) := ⟨rfl, rfl, rfl, by decide +kernel, rfl, by decide +kernel, by decide +kernel⟩
theorem fn__law_odd {P : Program} {w : World} {K : PySem.W.Frag} {mg : Str → Option Value} {base h : Heap} (X : K.In h) (G : h.Ns mainGlobals mg) (c : He.SaysD fa fn K) : Fn0 P w K mg base 4 "_law_odd" 2 m__law_odd := by
  obtain ⟨fd, F⟩ := c.def_ 37 (d := d__law_odd) rfl
  have sc := sc__law_odd
  have c__law_forced := fn__law_forced (P := P) (w := w) (base := base) X G c
  refine ⟨⟨_, fd, ["_law_one", "_law_far"], He.glo_ok X G (c.fact 40 (f := .glo "_law_odd") rfl), F.kp, FunD.bindsN F (fun _ _ _ _ _ _ us hl => match us, hl with | [_, _], _ => rfl), mn_ok (N := ["_law_one", "_law_far"]) F sc (by decide) fun cdv A outer s H E hr => ?_⟩⟩
  exact dss_one (ds_ret (de_and (de_fn c__law_forced (hr.mono (by decide)) takes_fn (das_cons (de_v 0) (das_cons (de_v 1) (das_nil))) (len_cons (len_cons len_nil))) (de_one (de_fn c__law_forced (hr.mono (by decide)) takes_fn (das_cons (de_v 1) (das_cons (de_v 0) (das_nil))) (len_cons (len_cons len_nil))))))
theorem sc__law_cells : FnScope ["_law_state", "_law_many", "_law_cells_here", "_law_most", "_law_lasts", "_law_got", "_law_tick", "_law_k", "_law_spot", "_law_number"] ["_law_state", "_law_many", "_law_cells_here", "_law_most"] (defScope (top 55)) := ⟨rfl, rfl, rfl, by decide +kernel, rfl, by decide +kernel, by decide +kernel⟩
theorem fn__law_cells {P : Program} {w : World} {K : PySem.W.Frag} {mg : Str → Option Value} {base h : Heap} (X : K.In h) (G : h.Ns mainGlobals mg) (c : He.SaysD fa fn K) : Fn0 P w K mg base 4 "_law_cells" 4 m__law_cells := by
  obtain ⟨fd, F⟩ := c.def_ 42 (d := d__law_cells) rfl
  have sc := sc__law_cells
  have c__law_draw := fn__law_draw (P := P) (w := w) (base := base) X G c
  have c__law_around := fn__law_around (P := P) (w := w) (base := base) X G c
  have g_len := He.free_ok X G (c.fact 60 (f := .free "len") rfl)
  have g_range := He.free_ok X G (c.fact 64 (f := .free "range") rfl)
  have g_tuple := He.free_ok X G (c.fact 67 (f := .free "tuple") rfl)
  refine ⟨⟨_, fd, ["_law_state", "_law_many", "_law_cells_here", "_law_most"], He.glo_ok X G (c.fact 45 (f := .glo "_law_cells") rfl), F.kp, FunD.bindsN F (fun _ _ _ _ _ _ us hl => match us, hl with | [_, _, _, _], _ => rfl), mn_ok (N := ["_law_state", "_law_many", "_law_cells_here", "_law_most", "_law_lasts", "_law_got", "_law_tick", "_law_k", "_law_spot", "_law_number"]) F sc (by decide) fun cdv A outer s H E hr => ?_⟩⟩
  exact dss_cons (ds_par3 (i := 4) (j := 5) (l := 6) rfl sc.nd (dms_own (fe_lc [("_law_k", 7)] rfl sc.nd (di_R1 rfl g_range (de_v 2)) (blkOk_by (by kernel_rfl)) (fun _ _ _ _ _ => dg_n 7 sc.nd) (fun _ _ _ _ _ => dts_nil) (fun _ _ _ _ _ => FE.d (fe_lst (n := 0) (das_nil) len_nil))) (dms_own (fe_lst (n := 0) (das_nil) len_nil) (dms_val (de_int) (dms_nil)))) (by rfl)) (dss_cons (ds_for own_fn rfl (di_R1 rfl g_range (de_op op_mulA ro_mulA (DE.b (de_int)) (DE.b (de_v 1)))) (dg_n 7 sc.nd) (dss_wipe [7, 9, 8] (dss_cons (ds_set (i := 6) sc.nd (de_op op_addA ro_add (DE.b (de_v 6)) (DE.b (de_fn c__law_draw (hr.mono (by decide)) takes_fn (das_cons (de_v 0) (das_cons (de_int) (das_nil))) (len_cons (len_cons len_nil)))))) (dss_cons (ds_set (i := 8) sc.nd (de_fn c__law_draw (hr.mono (by decide)) takes_fn (das_cons (de_v 0) (das_cons (de_v 2) (das_nil))) (len_cons (len_cons len_nil)))) (dss_one (ds_if ((dw_and (dt_cmp op_lt ro_lt (DE.b (de_callB call_lenM rc_len g_len (by rfl) (bas_cons (be_o 5) (bas_nil)))) (DE.b (de_v 1))) (dw_and1 ((dw_or (dt_cmp (op_eqD (u64 hr)) ro_eq (DE.b (de_ix (be_o 4) (DE.b (de_v 8)))) (FE.b (fe_lst (n := 0) (das_nil) len_nil))) (dw_or1 (dt_cmp (op_eqD (u64 hr)) ro_eq (DE.b (de_fn c__law_draw (hr.mono (by decide)) takes_fn (das_cons (de_v 0) (das_cons (de_int) (das_nil))) (len_cons (len_cons len_nil)))) (DE.b (de_int))))).t))).t) (dss_cons (ds_putL (i := 4) (FE.d (fe_lst (n := 1) (das_cons (de_callB call_lenM rc_len g_len (by rfl) (bas_cons (be_o 5) (bas_nil))) (das_nil)) (len_cons len_nil))) (de_v 8)) (dss_one (ds_app (i := 5) (de_tup (n := 2) (das_cons (de_fn c__law_around (hr.mono (by decide)) takes_fn (das_cons (de_v 0) (das_cons (de_v 6) (das_cons (de_v 3) (das_nil)))) (len_cons (len_cons (len_cons len_nil)))) (das_cons (de_tup (n := 0) (das_nil) len_nil) (das_nil))) (len_cons (len_cons len_nil)))))) (dss_one (ds_if ((dw_and (dt_cmp (op_neD (u64 hr)) ro_ne (DE.b (de_ix (be_o 4) (DE.b (de_v 8)))) (FE.b (fe_lst (n := 0) (das_nil) len_nil))) (dw_and1 (dt_cmp op_lt ro_lt (DE.b (de_callB call_lenM rc_len g_len (by rfl) (bas_cons (DE.b (de_ix (DE.b (de_ix (be_o 5) (DE.b (de_ix (DE.b (de_ix (be_o 4) (DE.b (de_v 8)))) (DE.b (de_int)))))) (DE.b (de_int)))) (bas_nil)))) (DE.b (de_int))))).t) (dss_cons (ds_set (i := 9) sc.nd (de_ix (DE.b (de_ix (be_o 4) (DE.b (de_v 8)))) (DE.b (de_int)))) (dss_one (ds_putL (i := 5) (de_tup (n := 2) (das_cons (de_ix (DE.b (de_ix (be_o 5) (DE.b (de_v 9)))) (DE.b (de_int))) (das_cons (de_op op_addA ro_add (DE.b (de_ix (DE.b (de_ix (be_o 5) (DE.b (de_v 9)))) (DE.b (de_int)))) (DE.b (de_tup (n := 1) (das_cons (de_fn c__law_around (hr.mono (by decide)) takes_fn (das_cons (de_v 0) (das_cons (de_v 6) (das_cons (de_v 3) (das_nil)))) (len_cons (len_cons (len_cons len_nil)))) (das_nil)) (len_cons len_nil)))) (das_nil))) (len_cons (len_cons len_nil))) (de_v 9)))) (dss_nil))))))))) (dss_one (ds_ret (de_callTy call_tuple_of rc_tuple g_tuple (by rfl) (bas_cons (be_o 5) (bas_nil))))))
theorem sc_is_value : FnScope ["thing", "one"] ["thing"] (defScope (top 15)) := ⟨rfl, rfl, rfl, by decide +kernel, rfl, by decide +kernel, by decide +kernel⟩
theorem fn_is_value {P : Program} {w : World} {K : PySem.W.Frag} {mg : Str → Option Value} {base h : Heap} (X : K.In h) (G : h.Ns mainGlobals mg) (c : He.SaysD fa fn K) : Fn0 P w K mg base 5 "is_value" 1 m_is_value := by
  obtain ⟨fd, F⟩ := c.def_ 5 (d := d_is_value) rfl
  have sc := sc_is_value
  have c_is_call := fn_is_call (P := P) (w := w) (base := base) X G c
  have g_MOST_READS := He.int_ok X G (c.fact 2 (f := .int "MOST_READS" 4) rfl)
  have g_all := He.free_ok X G (c.fact 55 (f := .free "all") rfl)
  have g_isinstance := He.free_ok X G (c.fact 59 (f := .free "isinstance") rfl)
  have g_len := He.free_ok X G (c.fact 60 (f := .free "len") rfl)
  have g_tuple := He.free_ok X G (c.fact 67 (f := .free "tuple") rfl)
  refine ⟨⟨_, fd, ["thing"], He.glo_ok X G (c.fact 8 (f := .glo "is_value") rfl), F.kp, FunD.bindsN F (fun _ _ _ _ _ _ us hl => match us, hl with | [_], _ => rfl), mn_ok (N := ["thing", "one"]) F sc (by decide) fun cdv A outer s H E hr => ?_⟩⟩
  exact dss_cons (ds_if ((dw_or (dt_not (dt_v (de_isi (by rfl) g_isinstance (by rfl) g_tuple (by rfl) (DE.b (de_v 0)) kb_tuple))) (dw_or (dt_cmp (op_neD (u64 hr)) ro_ne (DE.b (de_callB call_lenM rc_len g_len (by rfl) (bas_cons (DE.b (de_v 0)) (bas_nil)))) (DE.b (de_int))) (dw_or1 (dt_not (dt_v (de_fn c_is_call (hr.mono (by decide)) takes_fn (das_cons (de_ix (DE.b (de_v 0)) (DE.b (de_int))) (das_nil)) (len_cons len_nil))))))).t) (dss_one (ds_ret (de_bl))) (dss_nil)) (dss_cons (ds_if ((dw_or (dt_not (dt_v (de_isi (by rfl) g_isinstance (by rfl) g_tuple (by rfl) (DE.b (de_ix (DE.b (de_v 0)) (DE.b (de_int)))) kb_tuple))) (dw_or1 (dt_cmp op_gt ro_gt (DE.b (de_callB call_lenM rc_len g_len (by rfl) (bas_cons (DE.b (de_ix (DE.b (de_v 0)) (DE.b (de_int)))) (bas_nil)))) (DE.b (de_gint (by rfl) g_MOST_READS))))).t) (dss_one (ds_ret (de_bl))) (dss_nil)) (dss_one (ds_ret (de_callB (cr_all rfl) rc_all g_all (by rfl) (bas_cons (FE.b (fe_lc [("one", 1)] rfl sc.nd (di_S (de_ix (DE.b (de_v 0)) (DE.b (de_int)))) (blkOk_by (by kernel_rfl)) (fun _ _ _ _ _ => dg_n 1 sc.nd) (fun _ _ _ _ _ => dts_nil) (fun _ _ _ _ _ => de_fn c_is_call (hr.mono (by decide)) takes_WF (das_cons (de_v 1) (das_nil)) (len_cons len_nil)))) (bas_nil))))))
theorem sc_odds_in : FnScope ["record", "lot", "found", "spot", "one", "other"] ["record", "lot"] (defScope (top 29)) := ⟨rfl, rfl, rfl, by decide +kernel, rfl, by decide +kernel, by decide +kernel⟩
theorem fn_odds_in {P : Program} {w : World} {K : PySem.W.Frag} {mg : Str → Option Value} {base h : Heap} (X : K.In h) (G : h.Ns mainGlobals mg) (c : He.SaysD fa fn K) : Fn0 P w K mg base 5 "odds_in" 2 m_odds_in := by
  obtain ⟨fd, F⟩ := c.def_ 19 (d := d_odds_in) rfl
  have sc := sc_odds_in
  have c_are_odd_in := fn_are_odd_in (P := P) (w := w) (base := base) X G c
  have g_enumerate := He.free_ok X G (c.fact 57 (f := .free "enumerate") rfl)
  refine ⟨⟨_, fd, ["record", "lot"], He.glo_ok X G (c.fact 22 (f := .glo "odds_in") rfl), F.kp, FunD.bindsN F (fun _ _ _ _ _ _ us hl => match us, hl with | [_, _], _ => rfl), mn_ok (N := ["record", "lot", "found", "spot", "one", "other"]) F sc (by decide) fun cdv A outer s H E hr => ?_⟩⟩
  exact dss_cons (ds_own (i := 2) sc.nd (fe_lst (n := 0) (das_nil) len_nil)) (dss_cons (ds_for own_fn rfl (di_E rfl g_enumerate (de_v 1)) (dg_t rfl (dgs_cons (dg_n 3 sc.nd) (dgs_cons (dg_n 4 sc.nd) (dgs_nil)))) (dss_wipe [4, 3] (dss_one (ds_ext (i := 2) (FE.b (fe_lc [("other", 5)] rfl sc.nd (di_S (de_cut (DE.b (de_v 1)) (do_some (de_op op_addA ro_add (DE.b (de_v 3)) (DE.b (de_int)))) do_none)) (blkOk_by (by kernel_rfl)) (fun _ _ _ _ _ => dg_n 5 sc.nd) (fun _ _ _ _ _ => dts_one (dt_v (de_fn c_are_odd_in (hr.mono (by decide)) takes_WF (das_cons (de_v 0) (das_cons (de_v 4) (das_cons (de_v 5) (das_nil)))) (len_cons (len_cons (len_cons len_nil)))))) (fun _ _ _ _ _ => de_tup (n := 2) (das_cons (de_v 4) (das_cons (de_v 5) (das_nil))) (len_cons (len_cons len_nil))))))))) (dss_one (ds_frz 2 (ds_ret (de_v 2)))))
theorem sc__law_fits : FnScope ["_law_values", "_law_spot", "_law_one", "_law_far"] ["_law_values"] (defScope (top 52)) := ⟨rfl, rfl, rfl, by decide +kernel, rfl, by decide +kernel, by decide +kernel⟩
theorem fn__law_fits {P : Program} {w : World} {K : PySem.W.Frag} {mg : Str → Option Value} {base h : Heap} (X : K.In h) (G : h.Ns mainGlobals mg) (c : He.SaysD fa fn K) : Fn0 P w K mg base 5 "_law_fits" 1 m__law_fits := by
  obtain ⟨fd, F⟩ := c.def_ 39 (d := d__law_fits) rfl
  have sc := sc__law_fits
  have c__law_early := fn__law_early (P := P) (w := w) (base := base) X G c
  have c__law_odd := fn__law_odd (P := P) (w := w) (base := base) X G c
  have g_enumerate := He.free_ok X G (c.fact 57 (f := .free "enumerate") rfl)
  refine ⟨⟨_, fd, ["_law_values"], He.glo_ok X G (c.fact 42 (f := .glo "_law_fits") rfl), F.kp, FunD.bindsN F (fun _ _ _ _ _ _ us hl => match us, hl with | [_], _ => rfl), mn_ok (N := ["_law_values", "_law_spot", "_law_one", "_law_far"]) F sc (by decide) fun cdv A outer s H E hr => ?_⟩⟩
  exact dss_cons (ds_for own_fn rfl (di_E rfl g_enumerate (de_v 0)) (dg_t rfl (dgs_cons (dg_n 1 sc.nd) (dgs_cons (dg_n 2 sc.nd) (dgs_nil)))) (dss_wipe [2, 1] (dss_one (ds_if ((dw_or (dt_cmp (op_neD (u64 hr)) ro_ne (DE.b (de_fn c__law_early (hr.mono (by decide)) takes_fn (das_cons (de_v 2) (das_nil)) (len_cons len_nil))) (FE.b (fe_lst (n := 0) (das_nil) len_nil))) (dw_or1 (dt_cmp (op_neD (u64 hr)) ro_ne (FE.b (fe_lc [("_law_far", 3)] rfl sc.nd (di_S (de_cut (DE.b (de_v 0)) do_none (do_some (de_v 1)))) (blkOk_by (by kernel_rfl)) (fun _ _ _ _ _ => dg_n 3 sc.nd) (fun _ _ _ _ _ => dts_one (dt_v (de_fn c__law_odd (hr.mono (by decide)) takes_WF (das_cons (de_v 2) (das_cons (de_v 3) (das_nil))) (len_cons (len_cons len_nil))))) (fun _ _ _ _ _ => de_int))) (FE.b (fe_lst (n := 0) (das_nil) len_nil))))).t) (dss_one (ds_ret (de_bl))) (dss_nil))))) (dss_one (ds_ret (de_bl)))
theorem sc__law_record : FnScope ["_law_state", "_law_many", "_law_few", "_law_kind", "_law_got", "_law_k", "_law_write", "_law_reads", "_law_j"] ["_law_state", "_law_many"] (defScope (top 56)) := ⟨rfl, rfl, rfl, by decide +kernel, rfl, by decide +kernel, by decide +kernel⟩
theorem fn__law_record {P : Program} {w : World} {K : PySem.W.Frag} {mg : Str → Option Value} {base h : Heap} (X : K.In h) (G : h.Ns mainGlobals mg) (c : He.SaysD fa fn K) : Fn0 P w K mg base 5 "_law_record" 2 m__law_record := by
  obtain ⟨fd, F⟩ := c.def_ 43 (d := d__law_record) rfl
  have sc := sc__law_record
  have c__law_draw := fn__law_draw (P := P) (w := w) (base := base) X G c
  have c__law_cells := fn__law_cells (P := P) (w := w) (base := base) X G c
  have c__law_around := fn__law_around (P := P) (w := w) (base := base) X G c
  have g_range := He.free_ok X G (c.fact 64 (f := .free "range") rfl)
  have g_tuple := He.free_ok X G (c.fact 67 (f := .free "tuple") rfl)
  refine ⟨⟨_, fd, ["_law_state", "_law_many"], He.glo_ok X G (c.fact 46 (f := .glo "_law_record") rfl), F.kp, FunD.bindsN F (fun _ _ _ _ _ _ us hl => match us, hl with | [_, _], _ => rfl), mn_ok (N := ["_law_state", "_law_many", "_law_few", "_law_kind", "_law_got", "_law_k", "_law_write", "_law_reads", "_law_j"]) F sc (by decide) fun cdv A outer s H E hr => ?_⟩⟩
  exact dss_cons (ds_par (i := 2) (j := 3) rfl sc.nd (dms_val (de_op op_addA ro_add (DE.b (de_int)) (DE.b (de_fn c__law_draw (hr.mono (by decide)) takes_fn (das_cons (de_v 0) (das_cons (de_v 1) (das_nil))) (len_cons (len_cons len_nil))))) (dms_val (de_fn c__law_draw (hr.mono (by decide)) takes_fn (das_cons (de_v 0) (das_cons (de_int) (das_nil))) (len_cons (len_cons len_nil))) (dms_nil))) (by rfl)) (dss_cons (ds_if (dt_cmp op_lt ro_lt (DE.b (de_v 3)) (DE.b (de_int))) (dss_one (ds_ret (de_fn c__law_cells (hr.mono (by decide)) takes_fn (das_cons (de_v 0) (das_cons (de_v 2) (das_cons (de_op op_addA ro_add (DE.b (de_int)) (DE.b (de_op op_mulA ro_mulA (DE.b (de_int)) (DE.b (de_v 3))))) (das_cons (de_ix (FE.b (fe_lst (n := 3) (das_cons (de_int) (das_cons (de_int) (das_cons (de_int) (das_nil)))) (len_cons (len_cons (len_cons len_nil))))) (DE.b (de_fn c__law_draw (hr.mono (by decide)) takes_fn (das_cons (de_v 0) (das_cons (de_int) (das_nil))) (len_cons (len_cons len_nil))))) (das_nil))))) (len_cons (len_cons (len_cons (len_cons len_nil))))))) (dss_nil)) (dss_cons (ds_own (i := 4) sc.nd (fe_lst (n := 0) (das_nil) len_nil)) (dss_cons (ds_for own_fn rfl (di_R1 rfl g_range (de_v 2)) (dg_n 5 sc.nd) (dss_wipe [5, 7, 6] (dss_cons (ds_set (i := 6) sc.nd (de_fn c__law_around (hr.mono (by decide)) takes_fn (das_cons (de_v 0) (das_cons (de_fn c__law_draw (hr.mono (by decide)) takes_fn (das_cons (de_v 0) (das_cons (de_int) (das_nil))) (len_cons (len_cons len_nil))) (das_cons (de_int) (das_nil)))) (len_cons (len_cons (len_cons len_nil))))) (dss_cons (ds_setLc (i := 7) [("_law_j", 8)] rfl sc.nd (di_R1 rfl g_range (de_fn c__law_draw (hr.mono (by decide)) takes_fn (das_cons (de_v 0) (das_cons (de_int) (das_nil))) (len_cons (len_cons len_nil)))) (blkOk_by (by kernel_rfl)) (fun _ _ _ _ _ => dg_n 8 sc.nd) (fun _ _ _ _ _ => dts_nil) (fun _ _ _ _ _ => de_fn c__law_around (hr.mono (by decide)) takes_WF (das_cons (de_v 0) (das_cons (de_op op_addA ro_add (DE.b (de_int)) (DE.b (de_fn c__law_draw (hr.mono (by decide)) takes_WF (das_cons (de_v 0) (das_cons (de_int) (das_nil))) (len_cons (len_cons len_nil))))) (das_cons (de_int) (das_nil)))) (len_cons (len_cons (len_cons len_nil)))) (sw_true rfl rfl rfl (by decide +kernel))) (dss_one (ds_app (i := 4) (de_tup (n := 2) (das_cons (de_v 6) (das_cons (de_callTy call_tuple_of rc_tuple g_tuple (by rfl) (bas_cons (DE.b (de_v 7)) (bas_nil))) (das_nil))) (len_cons (len_cons len_nil))))))))) (dss_one (ds_ret (de_callTy call_tuple_of rc_tuple g_tuple (by rfl) (bas_cons (be_o 4) (bas_nil))))))))
theorem sc_need_record : FnScope ["thing", "number", "value"] ["thing"] (defScope (top 16)) := ⟨rfl, rfl, rfl, by decide +kernel, rfl, by decide +kernel, by decide +kernel⟩
theorem fn_need_record {P : Program} {w : World} {K : PySem.W.Frag} {mg : Str → Option Value} {base h : Heap} (X : K.In h) (G : h.Ns mainGlobals mg) (c : He.SaysD fa fn K) : Fn0 P w K mg base 6 "need_record" 1 m_need_record := by
  obtain ⟨fd, F⟩ := c.def_ 6 (d := d_need_record) rfl
  have sc := sc_need_record
  have c_is_value := fn_is_value (P := P) (w := w) (base := base) X G c
  have g_MOST_VALUES := He.int_ok X G (c.fact 1 (f := .int "MOST_VALUES" 12) rfl)
  have g_enumerate := He.free_ok X G (c.fact 57 (f := .free "enumerate") rfl)
  have g_isinstance := He.free_ok X G (c.fact 59 (f := .free "isinstance") rfl)
  have g_len := He.free_ok X G (c.fact 60 (f := .free "len") rfl)
  have g_tuple := He.free_ok X G (c.fact 67 (f := .free "tuple") rfl)
  refine ⟨⟨_, fd, ["thing"], He.glo_ok X G (c.fact 9 (f := .glo "need_record") rfl), F.kp, FunD.bindsN F (fun _ _ _ _ _ _ us hl => match us, hl with | [_], _ => rfl), mn_ok (N := ["thing", "number", "value"]) F sc (by decide) fun cdv A outer s H E hr => ?_⟩⟩
  exact dss_cons (ds_if ((dw_or (dt_not (dt_v (de_isi (by rfl) g_isinstance (by rfl) g_tuple (by rfl) (DE.b (de_v 0)) kb_tuple))) (dw_or1 (dt_cmp op_gt ro_gt (DE.b (de_callB call_lenM rc_len g_len (by rfl) (bas_cons (DE.b (de_v 0)) (bas_nil)))) (DE.b (de_gint (by rfl) g_MOST_VALUES))))).t) (dss_one (ds_stk)) (dss_nil)) (dss_cons (ds_for own_fn rfl (di_E rfl g_enumerate (de_v 0)) (dg_t rfl (dgs_cons (dg_n 1 sc.nd) (dgs_cons (dg_n 2 sc.nd) (dgs_nil)))) (dss_wipe [1, 2] (dss_one (ds_if (dt_not (dt_v (de_fn c_is_value (hr.mono (by decide)) takes_fn (das_cons (de_v 2) (das_nil)) (len_cons len_nil)))) (dss_one (ds_stk)) (dss_nil))))) (dss_one (ds_ret (de_v 0))))
theorem sc_is_right_in : FnScope ["record", "lot"] ["record", "lot"] (defScope (top 40)) := ⟨rfl, rfl, rfl, by decide +kernel, rfl, by decide +kernel, by decide +kernel⟩
theorem fn_is_right_in {P : Program} {w : World} {K : PySem.W.Frag} {mg : Str → Option Value} {base h : Heap} (X : K.In h) (G : h.Ns mainGlobals mg) (c : He.SaysD fa fn K) : Fn0 P w K mg base 6 "is_right_in" 2 m_is_right_in := by
  obtain ⟨fd, F⟩ := c.def_ 28 (d := d_is_right_in) rfl
  have sc := sc_is_right_in
  have c_early_of := fn_early_of (P := P) (w := w) (base := base) X G c
  have c_odds_in := fn_odds_in (P := P) (w := w) (base := base) X G c
  refine ⟨⟨_, fd, ["record", "lot"], He.glo_ok X G (c.fact 31 (f := .glo "is_right_in") rfl), F.kp, FunD.bindsN F (fun _ _ _ _ _ _ us hl => match us, hl with | [_, _], _ => rfl), mn_ok (N := ["record", "lot"]) F sc (by decide) fun cdv A outer s H E hr => ?_⟩⟩
  exact dss_one (ds_ret (de_and (de_cmp (op_eqD (u64 hr)) ro_eq (DE.b (de_fn c_early_of (hr.mono (by decide)) takes_fn (das_cons (de_v 0) (das_cons (de_v 1) (das_nil))) (len_cons (len_cons len_nil)))) (FE.b (fe_lst (n := 0) (das_nil) len_nil))) (de_one (de_cmp (op_eqD (u64 hr)) ro_eq (DE.b (de_fn c_odds_in (hr.mono (by decide)) takes_fn (das_cons (de_v 0) (das_cons (de_v 1) (das_nil))) (len_cons (len_cons len_nil)))) (FE.b (fe_lst (n := 0) (das_nil) len_nil))))))
theorem sc_early_reads : FnScope ["record", "found", "number", "value", "spot"] ["record"] (defScope (top 24)) := ⟨rfl, rfl, rfl, by decide +kernel, rfl, by decide +kernel, by decide +kernel⟩
theorem fn_early_reads {P : Program} {w : World} {K : PySem.W.Frag} {mg : Str → Option Value} {base h : Heap} (X : K.In h) (G : h.Ns mainGlobals mg) (c : He.SaysD fa fn K) : Fn0 P w K mg base 7 "early_reads" 1 m_early_reads := by
  obtain ⟨fd, F⟩ := c.def_ 14 (d := d_early_reads) rfl
  have sc := sc_early_reads
  have c_need_record := fn_need_record (P := P) (w := w) (base := base) X G c
  have c_early_in := fn_early_in (P := P) (w := w) (base := base) X G c
  have g_enumerate := He.free_ok X G (c.fact 57 (f := .free "enumerate") rfl)
  have g_tuple := He.free_ok X G (c.fact 67 (f := .free "tuple") rfl)
  refine ⟨⟨_, fd, ["record"], He.glo_ok X G (c.fact 17 (f := .glo "early_reads") rfl), F.kp, FunD.bindsN F (fun _ _ _ _ _ _ us hl => match us, hl with | [_], _ => rfl), mn_ok (N := ["record", "found", "number", "value", "spot"]) F sc (by decide) fun cdv A outer s H E hr => ?_⟩⟩
  exact dss_cons (ds_own (i := 1) sc.nd (fe_lst (n := 0) (das_nil) len_nil)) (dss_cons (ds_for own_fn rfl (di_E rfl g_enumerate (de_fn c_need_record (hr.mono (by decide)) takes_fn (das_cons (de_v 0) (das_nil)) (len_cons len_nil))) (dg_t rfl (dgs_cons (dg_n 2 sc.nd) (dgs_cons (dg_n 3 sc.nd) (dgs_nil)))) (dss_wipe [2, 3] (dss_one (ds_ext (i := 1) (FE.b (fe_lc [("spot", 4)] rfl sc.nd (di_S (de_fn c_early_in (hr.mono (by decide)) takes_fn (das_cons (de_v 3) (das_nil)) (len_cons len_nil))) (blkOk_by (by kernel_rfl)) (fun _ _ _ _ _ => dg_n 4 sc.nd) (fun _ _ _ _ _ => dts_nil) (fun _ _ _ _ _ => de_tup (n := 2) (das_cons (de_v 2) (das_cons (de_v 4) (das_nil))) (len_cons (len_cons len_nil))))))))) (dss_one (ds_ret (de_callTy call_tuple_of rc_tuple g_tuple (by rfl) (bas_cons (be_o 1) (bas_nil))))))
theorem sc_need_pair : FnScope ["record", "one", "other"] ["record", "one", "other"] (defScope (top 27)) := ⟨rfl, rfl, rfl, by decide +kernel, rfl, by decide +kernel, by decide +kernel⟩
theorem fn_need_pair {P : Program} {w : World} {K : PySem.W.Frag} {mg : Str → Option Value} {base h : Heap} (X : K.In h) (G : h.Ns mainGlobals mg) (c : He.SaysD fa fn K) : Fn0 P w K mg base 7 "need_pair" 3 m_need_pair := by
  obtain ⟨fd, F⟩ := c.def_ 17 (d := d_need_pair) rfl
  have sc := sc_need_pair
  have c_need_record := fn_need_record (P := P) (w := w) (base := base) X G c
  have c_need_number := fn_need_number (P := P) (w := w) (base := base) X G c
  refine ⟨⟨_, fd, ["record", "one", "other"], He.glo_ok X G (c.fact 20 (f := .glo "need_pair") rfl), F.kp, FunD.bindsN F (fun _ _ _ _ _ _ us hl => match us, hl with | [_, _, _], _ => rfl), mn_ok (N := ["record", "one", "other"]) F sc (by decide) fun cdv A outer s H E hr => ?_⟩⟩
  exact dss_cons (ds_drop (de_fn c_need_record (hr.mono (by decide)) takes_fn (das_cons (de_v 0) (das_nil)) (len_cons len_nil))) (dss_cons (ds_drop (de_fn c_need_number (hr.mono (by decide)) takes_fn (das_cons (de_v 0) (das_cons (de_v 1) (das_nil))) (len_cons (len_cons len_nil)))) (dss_one (ds_drop (de_fn c_need_number (hr.mono (by decide)) takes_fn (das_cons (de_v 0) (das_cons (de_v 2) (das_nil))) (len_cons (len_cons len_nil))))))
theorem sc_all_odds : FnScope ["record"] ["record"] (defScope (top 30)) := ⟨rfl, rfl, rfl, by decide +kernel, rfl, by decide +kernel, by decide +kernel⟩
theorem fn_all_odds {P : Program} {w : World} {K : PySem.W.Frag} {mg : Str → Option Value} {base h : Heap} (X : K.In h) (G : h.Ns mainGlobals mg) (c : He.SaysD fa fn K) : Fn0 P w K mg base 7 "all_odds" 1 m_all_odds := by
  obtain ⟨fd, F⟩ := c.def_ 20 (d := d_all_odds) rfl
  have sc := sc_all_odds
  have c_need_record := fn_need_record (P := P) (w := w) (base := base) X G c
  have c_odds_in := fn_odds_in (P := P) (w := w) (base := base) X G c
  have g_len := He.free_ok X G (c.fact 60 (f := .free "len") rfl)
  have g_range := He.free_ok X G (c.fact 64 (f := .free "range") rfl)
  have g_tuple := He.free_ok X G (c.fact 67 (f := .free "tuple") rfl)
  refine ⟨⟨_, fd, ["record"], He.glo_ok X G (c.fact 23 (f := .glo "all_odds") rfl), F.kp, FunD.bindsN F (fun _ _ _ _ _ _ us hl => match us, hl with | [_], _ => rfl), mn_ok (N := ["record"]) F sc (by decide) fun cdv A outer s H E hr => ?_⟩⟩
  exact dss_cons (ds_drop (de_fn c_need_record (hr.mono (by decide)) takes_fn (das_cons (de_v 0) (das_nil)) (len_cons len_nil))) (dss_one (ds_ret (de_callTy call_tuple_of rc_tuple g_tuple (by rfl) (bas_cons (DE.b (de_fn c_odds_in (hr.mono (by decide)) takes_fn (das_cons (de_v 0) (das_cons (de_tupRg1 rfl (by rfl) g_tuple (by rfl) g_range (de_callB call_lenM rc_len g_len (by rfl) (bas_cons (DE.b (de_v 0)) (bas_nil)))) (das_nil))) (len_cons (len_cons len_nil)))) (bas_nil)))))
theorem sc_need_both : FnScope ["record", "lot"] ["record", "lot"] (defScope (top 32)) := ⟨rfl, rfl, rfl, by decide +kernel, rfl, by decide +kernel, by decide +kernel⟩
theorem fn_need_both {P : Program} {w : World} {K : PySem.W.Frag} {mg : Str → Option Value} {base h : Heap} (X : K.In h) (G : h.Ns mainGlobals mg) (c : He.SaysD fa fn K) : Fn0 P w K mg base 7 "need_both" 2 m_need_both := by
  obtain ⟨fd, F⟩ := c.def_ 21 (d := d_need_both) rfl
  have sc := sc_need_both
  have c_need_record := fn_need_record (P := P) (w := w) (base := base) X G c
  have c_need_lot := fn_need_lot (P := P) (w := w) (base := base) X G c
  refine ⟨⟨_, fd, ["record", "lot"], He.glo_ok X G (c.fact 24 (f := .glo "need_both") rfl), F.kp, FunD.bindsN F (fun _ _ _ _ _ _ us hl => match us, hl with | [_, _], _ => rfl), mn_ok (N := ["record", "lot"]) F sc (by decide) fun cdv A outer s H E hr => ?_⟩⟩
  exact dss_one (ds_drop (de_fn c_need_lot (hr.mono (by decide)) takes_fn (das_cons (de_fn c_need_record (hr.mono (by decide)) takes_fn (das_cons (de_v 0) (das_nil)) (len_cons len_nil)) (das_cons (de_v 1) (das_nil))) (len_cons (len_cons len_nil))))
theorem sc_is_forced : FnScope ["record", "one", "other"] ["record", "one", "other"] (defScope (top 28)) := ⟨rfl, rfl, rfl, by decide +kernel, rfl, by decide +kernel, by decide +kernel⟩
theorem fn_is_forced {P : Program} {w : World} {K : PySem.W.Frag} {mg : Str → Option Value} {base h : Heap} (X : K.In h) (G : h.Ns mainGlobals mg) (c : He.SaysD fa fn K) : Fn0 P w K mg base 8 "is_forced" 3 m_is_forced := by
  obtain ⟨fd, F⟩ := c.def_ 18 (d := d_is_forced) rfl
  have sc := sc_is_forced
  have c_need_pair := fn_need_pair (P := P) (w := w) (base := base) X G c
  have c_is_forced_in := fn_is_forced_in (P := P) (w := w) (base := base) X G c
  refine ⟨⟨_, fd, ["record", "one", "other"], He.glo_ok X G (c.fact 21 (f := .glo "is_forced") rfl), F.kp, FunD.bindsN F (fun _ _ _ _ _ _ us hl => match us, hl with | [_, _, _], _ => rfl), mn_ok (N := ["record", "one", "other"]) F sc (by decide) fun cdv A outer s H E hr => ?_⟩⟩
  exact dss_cons (ds_drop (de_fn c_need_pair (hr.mono (by decide)) takes_fn (das_cons (de_v 0) (das_cons (de_v 1) (das_cons (de_v 2) (das_nil)))) (len_cons (len_cons (len_cons len_nil))))) (dss_one (ds_ret (de_fn c_is_forced_in (hr.mono (by decide)) takes_fn (das_cons (de_v 0) (das_cons (de_v 1) (das_cons (de_v 2) (das_nil)))) (len_cons (len_cons (len_cons len_nil))))))
theorem sc_soonest_placing : FnScope ["record", "lot", "row"] ["record", "lot", "row"] (defScope (top 37)) := ⟨rfl, rfl, rfl, by decide +kernel, rfl, by decide +kernel, by decide +kernel⟩
theorem fn_soonest_placing {P : Program} {w : World} {K : PySem.W.Frag} {mg : Str → Option Value} {base h : Heap} (X : K.In h) (G : h.Ns mainGlobals mg) (c : He.SaysD fa fn K) : Fn0 P w K mg base 8 "soonest_placing" 3 m_soonest_placing := by
  obtain ⟨fd, F⟩ := c.def_ 26 (d := d_soonest_placing) rfl
  have sc := sc_soonest_placing
  have c_need_both := fn_need_both (P := P) (w := w) (base := base) X G c
  have c_need_row := fn_need_row (P := P) (w := w) (base := base) X G c
  have c_can_stand := fn_can_stand (P := P) (w := w) (base := base) X G c
  have c_soonest_in := fn_soonest_in (P := P) (w := w) (base := base) X G c
  refine ⟨⟨_, fd, ["record", "lot", "row"], He.glo_ok X G (c.fact 29 (f := .glo "soonest_placing") rfl), F.kp, FunD.bindsN F (fun _ _ _ _ _ _ us hl => match us, hl with | [_, _, _], _ => rfl), mn_ok (N := ["record", "lot", "row"]) F sc (by decide) fun cdv A outer s H E hr => ?_⟩⟩
  exact dss_cons (ds_drop (de_fn c_need_both (hr.mono (by decide)) takes_fn (das_cons (de_v 0) (das_cons (de_v 1) (das_nil))) (len_cons (len_cons len_nil)))) (dss_cons (ds_drop (de_fn c_need_row (hr.mono (by decide)) takes_fn (das_cons (de_v 1) (das_cons (de_v 2) (das_nil))) (len_cons (len_cons len_nil)))) (dss_one (ds_ret (de_if (dt_v (de_fn c_can_stand (hr.mono (by decide)) takes_fn (das_cons (de_v 0) (das_cons (de_v 2) (das_nil))) (len_cons (len_cons len_nil)))) (de_fn c_soonest_in (hr.mono (by decide)) takes_fn (das_cons (de_v 0) (das_cons (de_v 1) (das_cons (de_v 2) (das_nil)))) (len_cons (len_cons (len_cons len_nil)))) (de_non)))))
theorem sc_is_right : FnScope ["record", "lot"] ["record", "lot"] (defScope (top 41)) := ⟨rfl, rfl, rfl, by decide +kernel, rfl, by decide +kernel, by decide +kernel⟩
theorem fn_is_right {P : Program} {w : World} {K : PySem.W.Frag} {mg : Str → Option Value} {base h : Heap} (X : K.In h) (G : h.Ns mainGlobals mg) (c : He.SaysD fa fn K) : Fn0 P w K mg base 8 "is_right" 2 m_is_right := by
  obtain ⟨fd, F⟩ := c.def_ 29 (d := d_is_right) rfl
  have sc := sc_is_right
  have c_need_both := fn_need_both (P := P) (w := w) (base := base) X G c
  have c_is_right_in := fn_is_right_in (P := P) (w := w) (base := base) X G c
  refine ⟨⟨_, fd, ["record", "lot"], He.glo_ok X G (c.fact 32 (f := .glo "is_right") rfl), F.kp, FunD.bindsN F (fun _ _ _ _ _ _ us hl => match us, hl with | [_, _], _ => rfl), mn_ok (N := ["record", "lot"]) F sc (by decide) fun cdv A outer s H E hr => ?_⟩⟩
  exact dss_cons (ds_drop (de_fn c_need_both (hr.mono (by decide)) takes_fn (das_cons (de_v 0) (das_cons (de_v 1) (das_nil))) (len_cons (len_cons len_nil)))) (dss_one (ds_ret (de_fn c_is_right_in (hr.mono (by decide)) takes_fn (das_cons (de_v 0) (das_cons (de_v 1) (das_nil))) (len_cons (len_cons len_nil)))))
theorem sc__law_record_right : FnScope ["_law_record_so", "_law_lot_here", "_law_values", "_law_one", "_law_due", "_law_bad", "_law_spot", "_law_far", "_law_row", "_law_told_so", "_law_is_so"] ["_law_record_so"] (defScope (top 63)) := ⟨rfl, rfl, rfl, by decide +kernel, rfl, by decide +kernel, by decide +kernel⟩
theorem fn__law_record_right {P : Program} {w : World} {K : PySem.W.Frag} {mg : Str → Option Value} {base h : Heap} (X : K.In h) (G : h.Ns mainGlobals mg) (c : He.SaysD fa fn K) : Fn0 P w K mg base 9 "_law_record_right" 1 m__law_record_right := by
  obtain ⟨fd, F⟩ := c.def_ 50 (d := d__law_record_right) rfl
  have sc := sc__law_record_right
  have c__law_lots := fn__law_lots (P := P) (w := w) (base := base) X G c
  have c__law_is_cell := fn__law_is_cell (P := P) (w := w) (base := base) X G c
  have c__law_fits := fn__law_fits (P := P) (w := w) (base := base) X G c
  have c_is_right := fn_is_right (P := P) (w := w) (base := base) X G c
  have c_early_reads := fn_early_reads (P := P) (w := w) (base := base) X G c
  have c_all_odds := fn_all_odds (P := P) (w := w) (base := base) X G c
  have c__law_rows := fn__law_rows (P := P) (w := w) (base := base) X G c
  have c_is_forced := fn_is_forced (P := P) (w := w) (base := base) X G c
  have c_soonest_placing := fn_soonest_placing (P := P) (w := w) (base := base) X G c
  have g_enumerate := He.free_ok X G (c.fact 57 (f := .free "enumerate") rfl)
  have g_len := He.free_ok X G (c.fact 60 (f := .free "len") rfl)
  have g_tuple := He.free_ok X G (c.fact 67 (f := .free "tuple") rfl)
  refine ⟨⟨_, fd, ["_law_record_so"], He.glo_ok X G (c.fact 53 (f := .glo "_law_record_right") rfl), F.kp, FunD.bindsN F (fun _ _ _ _ _ _ us hl => match us, hl with | [_], _ => rfl), mn_ok (N := ["_law_record_so", "_law_lot_here", "_law_values", "_law_one", "_law_due", "_law_bad", "_law_spot", "_law_far", "_law_row", "_law_told_so", "_law_is_so"]) F sc (by decide) fun cdv A outer s H E hr => ?_⟩⟩
  exact dss_cons (ds_for own_fn rfl (di_S (de_fn c__law_lots (hr.mono (by decide)) takes_fn (das_cons (de_callB call_lenM rc_len g_len (by rfl) (bas_cons (DE.b (de_v 0)) (bas_nil))) (das_nil)) (len_cons len_nil))) (dg_n 1 sc.nd) (dss_wipe [5, 4, 10, 1, 3, 8, 6, 9, 2] (dss_cons (ds_setLc (i := 2) [("_law_one", 3)] rfl sc.nd (di_S (de_v 1)) (blkOk_by (by kernel_rfl)) (fun _ _ _ _ _ => dg_n 3 sc.nd) (fun _ _ _ _ _ => dts_nil) (fun _ _ _ _ _ => de_ix (DE.b (de_v 0)) (DE.b (de_v 3))) (sw_true rfl rfl rfl (by decide +kernel))) (dss_cons (ds_set (i := 4) sc.nd (de_fn c__law_is_cell (hr.mono (by decide)) takes_fn (das_cons (de_v 2) (das_nil)) (len_cons len_nil))) (dss_cons (ds_if ((dw_or (dt_cmp (op_neD (u64 hr)) ro_ne (DE.b (de_v 4)) (DE.b (de_fn c__law_fits (hr.mono (by decide)) takes_fn (das_cons (de_v 2) (das_nil)) (len_cons len_nil)))) (dw_or (dt_cmp (op_neD (u64 hr)) ro_ne (DE.b (de_fn c_is_right (hr.mono (by decide)) takes_fn (das_cons (de_v 0) (das_cons (de_v 1) (das_nil))) (len_cons (len_cons len_nil)))) (DE.b (de_v 4))) (dw_or1 (dt_cmp (op_neD (u64 hr)) ro_ne (DE.b (de_fn c_is_right (hr.mono (by decide)) takes_fn (das_cons (de_v 0) (das_cons (de_v 1) (das_nil))) (len_cons (len_cons len_nil)))) (DE.b (de_v 4)))))).t) (dss_one (ds_ret (de_bl))) (dss_nil)) (dss_cons (ds_setLc (i := 5) [("_law_one", 3), ("_law_spot", 6)] rfl sc.nd (di_S (de_fn c_early_reads (hr.mono (by decide)) takes_fn (das_cons (de_v 0) (das_nil)) (len_cons len_nil))) (blkOk_by (by kernel_rfl)) (fun _ _ _ _ _ => dg_t rfl (dgs_cons (dg_n 3 sc.nd) (dgs_cons (dg_n 6 sc.nd) (dgs_nil)))) (fun _ _ _ _ _ => dts_one (dt_cmp (op_inA (u65 hr)) ro_in (DE.b (de_v 3)) (DE.b (de_v 1)))) (fun _ _ _ _ _ => de_int) (sw_true rfl rfl rfl (by decide +kernel))) (dss_cons (ds_if (dt_cmp (op_neD (u64 hr)) ro_ne (DE.b (de_cmp (op_eqD (u64 hr)) ro_eq (DE.b (de_op op_addA ro_add (DE.b (de_v 5)) (FE.b (fe_lc [("_law_one", 3), ("_law_far", 7)] rfl sc.nd (di_S (de_fn c_all_odds (hr.mono (by decide)) takes_fn (das_cons (de_v 0) (das_nil)) (len_cons len_nil))) (blkOk_by (by kernel_rfl)) (fun _ _ _ _ _ => dg_t rfl (dgs_cons (dg_n 3 sc.nd) (dgs_cons (dg_n 7 sc.nd) (dgs_nil)))) (fun _ _ _ _ _ => dts_one ((dw_and (dt_cmp (op_inA (u65 hr)) ro_in (DE.b (de_v 3)) (DE.b (de_v 1))) (dw_and1 (dt_cmp (op_inA (u65 hr)) ro_in (DE.b (de_v 7)) (DE.b (de_v 1))))).t)) (fun _ _ _ _ _ => de_int))))) (FE.b (fe_lst (n := 0) (das_nil) len_nil)))) (DE.b (de_v 4))) (dss_one (ds_ret (de_bl))) (dss_nil)) (dss_one (ds_for own_fn rfl (di_S (de_if (dt_v (de_v 4)) (de_fn c__law_rows (hr.mono (by decide)) takes_fn (das_cons (de_callB call_lenM rc_len g_len (by rfl) (bas_cons (DE.b (de_v 1)) (bas_nil))) (das_nil)) (len_cons len_nil)) (FE.d (fe_lst (n := 0) (das_nil) len_nil)))) (dg_n 8 sc.nd) (dss_wipe [10, 3, 8, 6, 9] (dss_cons (ds_par (i := 9) (j := 10) rfl sc.nd (dms_val (de_callTy call_tuple_of rc_tuple g_tuple (by rfl) (bas_cons (FE.b (fe_lc [("_law_spot", 6)] rfl sc.nd (di_S (de_v 8)) (blkOk_by (by kernel_rfl)) (fun _ _ _ _ _ => dg_n 6 sc.nd) (fun _ _ _ _ _ => dts_nil) (fun _ _ _ _ _ => de_ix (DE.b (de_v 1)) (DE.b (de_v 6))))) (bas_nil))) (dms_val (de_bl) (dms_nil))) (by rfl)) (dss_cons (ds_for own_fn rfl (di_E rfl g_enumerate (de_v 9)) (dg_t rfl (dgs_cons (dg_n 6 sc.nd) (dgs_cons (dg_n 3 sc.nd) (dgs_nil)))) (dss_wipe [3, 6] (dss_one (ds_if (dt_cmp (op_neD (u64 hr)) ro_ne (FE.b (fe_lc [("_law_far", 7)] rfl sc.nd (di_S (de_cut (DE.b (de_v 9)) do_none (do_some (de_v 6)))) (blkOk_by (by kernel_rfl)) (fun _ _ _ _ _ => dg_n 7 sc.nd) (fun _ _ _ _ _ => dts_one (dt_v (de_fn c_is_forced (hr.mono (by decide)) takes_WF (das_cons (de_v 0) (das_cons (de_v 3) (das_cons (de_v 7) (das_nil)))) (len_cons (len_cons (len_cons len_nil)))))) (fun _ _ _ _ _ => de_int))) (FE.b (fe_lst (n := 0) (das_nil) len_nil))) (dss_one (ds_set (i := 10) sc.nd (de_bl))) (dss_nil))))) (dss_one (ds_if (dt_cmp (op_neD (u64 hr)) ro_ne (DE.b (de_cmp op_notN ro_isNotN (DE.b (de_fn c_soonest_placing (hr.mono (by decide)) takes_fn (das_cons (de_v 0) (das_cons (de_v 1) (das_cons (de_v 9) (das_nil)))) (len_cons (len_cons (len_cons len_nil))))) (DE.b (de_non)))) (DE.b (de_v 10))) (dss_one (ds_ret (de_bl))) (dss_nil))))))))))))))) (dss_one (ds_ret (de_bl)))
end Hd
namespace Hd
open PySem PySem.Spec PyProof.Rows L2 Mn
def lb1_law : XS := sSeq (sIf (bNot (bV (xCall m__law_record_right (aCons (xCall m__law_record (aCons (xV 1) (aCons (xC (.int 4)) (aNil)))) (aNil))))) (sRet (xC (.bl false))) (sNx)) (sWipe [2])
def l1_law : XS := sFor (wRng1 (xC (.int 6))) (.n 2) (lb1_law)
def lb2_law : XS := sSeq (sSeq (sSet 3 (xCall m__law_cells (aCons (xV 1) (aCons (xC (.int 12)) (aCons (xC (.int 1)) (aCons (xCall m__law_draw (aCons (xV 1) (aCons (xC (.int 6)) (aNil)))) (aNil))))))) (sSeq (sSet 4 (xCall m__law_lot (aCons (xV 1) (aCons (xCall fLen (aCons (xV 3) (aNil))) (aNil))))) (sIf (bOr (bV (x2 gIsNotB (xCall m_is_right (aCons (xV 3) (aCons (xTupRg1 (xCall fLen (aCons (xV 3) (aNil)))) (aNil)))) (xC (.bl true)))) (bV (x2 gIsNotB (xCall m_is_right (aCons (xV 3) (aCons (xV 4) (aNil)))) (xC (.bl true))))) (sRet (xC (.bl false))) (sNx)))) (sWipe [4, 3, 2])
def l2_law : XS := sFor (wRng1 (xC (.int 4))) (.n 2) (lb2_law)
def e1_law : XE := x2 gIx (xV 3) (xV 5)
def c1_law : XE := xLc (wS (xV 4)) [5] (.n 5) (bYes) (e1_law)
def lb3_law : XS := sSeq (sIf (bV (x2 gNe (xCall m_is_right (aCons (xV 3) (aCons (xV 4) (aNil)))) (xCall m__law_fits (aCons (c1_law) (aNil))))) (sRet (xC (.bl false))) (sNx)) (sWipe [4])
def l3_law : XS := sFor (wS (xLst (aCons (xTupRg1 (xCall fLen (aCons (xV 3) (aNil)))) (aCons (xCall m__law_lot (aCons (xV 1) (aCons (xCall fLen (aCons (xV 3) (aNil))) (aNil)))) (aCons (xCall m__law_lot (aCons (xV 1) (aCons (xCall fLen (aCons (xV 3) (aNil))) (aNil)))) (aNil)))))) (.n 4) (lb3_law)
def lb4_law : XS := sSeq (sSeq (sSet 3 (xCall m__law_cells (aCons (xV 1) (aCons (xC (.int 12)) (aCons (x2 gAdd (xC (.int 2)) (xCall m__law_draw (aCons (xV 1) (aCons (xC (.int 2)) (aNil))))) (aCons (xCall m__law_draw (aCons (xV 1) (aCons (xC (.int 4)) (aNil)))) (aNil))))))) (l3_law)) (sWipe [4, 3, 2])
def l4_law : XS := sFor (wRng1 (xC (.int 4))) (.n 2) (lb4_law)
def e2_law : XE := xTup (aCons (xTup (aCons (x2 gAdd (xC (.int 200)) (xV 7)) (aCons (x2 gAdd (xC (.int 200)) (xV 7)) (aNil)))) (aCons (xTup (aNil)) (aNil)))
def c2_law : XE := xLc (wRng1 (xC (.int 4))) [7] (.n 7) (bYes) (e2_law)
def b_law : XS := sSeq (l1_law) (sSeq (l2_law) (sSeq (l4_law) (sSeq (sSet 6 (xCall fTuple (aCons (c2_law) (aNil)))) (sSeq (sIf (bV (x2 gIsNotB (xCall m_is_right (aCons (x2 gAdd (x2 gAdd (xTup (aCons (xTup (aCons (xTup (aCons (xC (.int 0)) (aCons (xC (.int 1)) (aNil)))) (aCons (xTup (aCons (xTup (aCons (xC (.int 99)) (aCons (xC (.int 99)) (aNil)))) (aNil))) (aNil)))) (aNil))) (xV 6)) (xTup (aCons (xTup (aCons (xTup (aCons (xC (.int 50)) (aCons (xC (.int 51)) (aNil)))) (aCons (xTup (aNil)) (aNil)))) (aNil)))) (aCons (xTupRg1 (xC (.int 6))) (aNil)))) (xC (.bl false)))) (sRet (xC (.bl false))) (sNx)) (sSeq (sSet 3 (xTup (aCons (xTup (aCons (xTup (aCons (xC (.int 0)) (aCons (xC (.int 1)) (aNil)))) (aCons (xTup (aCons (xTup (aCons (xC (.int 9)) (aCons (xC (.int 9)) (aNil)))) (aNil))) (aNil)))) (aCons (xTup (aCons (xTup (aCons (xC (.int 2)) (aCons (xC (.int 3)) (aNil)))) (aCons (xTup (aNil)) (aNil)))) (aCons (xTup (aCons (xTup (aCons (xC (.int 4)) (aCons (xC (.int 5)) (aNil)))) (aCons (xTup (aCons (xTup (aCons (xC (.int 6)) (aCons (xC (.int 7)) (aNil)))) (aNil))) (aNil)))) (aNil)))))) (sSeq (sIf (bOr (bV (x2 gIsNotB (xCall m_is_right (aCons (xV 3) (aCons (xTup (aCons (xC (.int 0)) (aNil))) (aNil)))) (xC (.bl true)))) (bV (x2 gIsNotB (xCall m_is_right (aCons (xV 3) (aCons (xTup (aCons (xC (.int 0)) (aCons (xC (.int 1)) (aNil)))) (aNil)))) (xC (.bl false))))) (sRet (xC (.bl false))) (sNx)) (sRet (xAnd (x2 gIsB (xCall m_is_right (aCons (xV 3) (aCons (xTup (aCons (xC (.int 1)) (aCons (xC (.int 2)) (aNil)))) (aNil)))) (xC (.bl true))) (xAnd (x2 gIsB (xCall m_is_right (aCons (xV 3) (aCons (xTup (aNil)) (aNil)))) (xC (.bl true))) (x2 gIsB (xCall m_is_right (aCons (xTup (aNil)) (aCons (xTup (aNil)) (aNil)))) (xC (.bl true))))))))))))
theorem sc_law : FnScope ["_law_script", "_law_state", "_law_turn", "_law_record_so", "_law_lot_here", "_law_one", "_law_some", "_law_k"] ["_law_script"] (defScope (top 64)) := ⟨rfl, rfl, rfl, by decide +kernel, rfl, by decide +kernel, by decide +kernel⟩
def LawOk : Prop := ∀ ns : List Int, ns.length ≤ 63 → wp (b_law (([Mn.D.scr ns].map SV.val ++ List.replicate 7 SV.un).set 1 (.val .st))) cap (fun r _ => r.1 = Fl.rt (.bl true)) (fun _ _ _ => False)
theorem ok_law (lawOk : LawOk) {P : Program} {w : World} {K : PySem.W.Frag} {mg : Str → Option Value} {h : Heap} {f : Addr} (X : K.In h) (G : h.Ns mainGlobals mg) (c : He.SaysD fa fn K) (hfa : mg "law" = some (.ref f)) :
    ∃ fd : FuncData, (∀ (s : Shared) (v : Value), BindsTo s fd ⟨[v], []⟩ [("_law_script", v)]) ∧ ∀ base : Heap, FnOk P w K mg base (L2.CX P w) 10 f fd ["_law_script"] (spLaw K) := by
  obtain ⟨fd, F⟩ := c.def_ 51 (d := d_law) rfl
  have sc := sc_law
  have e := hfa.symm.trans (He.glo_ok X G (c.fact 54 (f := .glo "law") rfl))
  cases e
  have g_len := He.free_ok X G (c.fact 60 (f := .free "len") rfl)
  have g_range := He.free_ok X G (c.fact 64 (f := .free "range") rfl)
  have g_tuple := He.free_ok X G (c.fact 67 (f := .free "tuple") rfl)
  have b := FunD.bindsA (ps := ["_law_script"]) F fun _ _ _ _ _ _ us hl => match us, hl with | [_], _ => rfl
  refine ⟨fd, fun s v => b s [v] rfl, fun base => ?_⟩
  have c__law_record := fn__law_record (P := P) (w := w) (base := base) X G c
  have c__law_record_right := fn__law_record_right (P := P) (w := w) (base := base) X G c
  have c__law_draw := fn__law_draw (P := P) (w := w) (base := base) X G c
  have c__law_cells := fn__law_cells (P := P) (w := w) (base := base) X G c
  have c__law_lot := fn__law_lot (P := P) (w := w) (base := base) X G c
  have c_is_right := fn_is_right (P := P) (w := w) (base := base) X G c
  have c__law_fits := fn__law_fits (P := P) (w := w) (base := base) X G c
  obtain ⟨aB, fdB, psB, gB, kB, bB, GB⟩ := (fn__law_begin (P := P) (w := w) (base := base) X G c).ex
  refine F.ok (N := ["_law_script", "_law_state", "_law_turn", "_law_record_so", "_law_lot_here", "_law_one", "_law_some", "_law_k"]) sc (fun vs H Q E ⟨a, ns, e, _⟩ => by rw [e]; rfl) fun cdv A outer s H vs Q E hr hsp => ⟨tSeq (tAsg (tCallS (spBegin K) (WE fun cls d _ H' => E cls d H') (tCons (tVar 0) tNil)) (gName 1)) (fun D' σ1 H1 => ∃ w1 H1', tS (cxOf (L2.CX P w) P w K mg base ["_law_script", "_law_state", "_law_turn", "_law_record_so", "_law_lot_here", "_law_one", "_law_some", "_law_k"] d_law.qual d_law.scope (He.ga K "law") cdv A outer s H E) (fun cls d _ H' => E cls d H') w1 H1' b_law D' σ1 H1), ?_, law_pure (X := (cxOf (L2.CX P w) P w K mg base ["_law_script", "_law_state", "_law_turn", "_law_record_so", "_law_lot_here", "_law_one", "_law_some", "_law_k"] d_law.qual d_law.scope (He.ga K "law") cdv A outer s H E)) (N := ["_law_script", "_law_state", "_law_turn", "_law_record_so", "_law_lot_here", "_law_one", "_law_some", "_law_k"]) (by decide) lawOk hsp⟩
  exact pss_cons (ps_set (i := 1) sc.nd rfl (Or.inl rfl) (pe_callS GB (hr.mono (by decide)) (by rfl) gB kB bB (fun σ => passAt takes_fn σ) (pa_cons (pv 0) pa_nil))) (DSs.ex (dss_cons (ds_for own_fn rfl (di_R1 rfl g_range (de_int)) (dg_n 2 sc.nd) (dss_wipe [2] (dss_one (ds_if (dt_not (dt_v (de_fn c__law_record_right (hr.mono (by decide)) takes_fn (das_cons (de_fn c__law_record (hr.mono (by decide)) takes_fn (das_cons (de_v 1) (das_cons (de_int) (das_nil))) (len_cons (len_cons len_nil))) (das_nil)) (len_cons len_nil)))) (dss_one (ds_ret (de_bl))) (dss_nil))))) (dss_cons (ds_for own_fn rfl (di_R1 rfl g_range (de_int)) (dg_n 2 sc.nd) (dss_wipe [4, 3, 2] (dss_cons (ds_set (i := 3) sc.nd (de_fn c__law_cells (hr.mono (by decide)) takes_fn (das_cons (de_v 1) (das_cons (de_int) (das_cons (de_int) (das_cons (de_fn c__law_draw (hr.mono (by decide)) takes_fn (das_cons (de_v 1) (das_cons (de_int) (das_nil))) (len_cons (len_cons len_nil))) (das_nil))))) (len_cons (len_cons (len_cons (len_cons len_nil)))))) (dss_cons (ds_set (i := 4) sc.nd (de_fn c__law_lot (hr.mono (by decide)) takes_fn (das_cons (de_v 1) (das_cons (de_callB call_lenM rc_len g_len (by rfl) (bas_cons (DE.b (de_v 3)) (bas_nil))) (das_nil))) (len_cons (len_cons len_nil)))) (dss_one (ds_if ((dw_or (dt_cmp op_isnot_bl ro_isNotB (DE.b (de_fn c_is_right (hr.mono (by decide)) takes_fn (das_cons (de_v 3) (das_cons (de_tupRg1 rfl (by rfl) g_tuple (by rfl) g_range (de_callB call_lenM rc_len g_len (by rfl) (bas_cons (DE.b (de_v 3)) (bas_nil)))) (das_nil))) (len_cons (len_cons len_nil)))) (DE.b (de_bl))) (dw_or1 (dt_cmp op_isnot_bl ro_isNotB (DE.b (de_fn c_is_right (hr.mono (by decide)) takes_fn (das_cons (de_v 3) (das_cons (de_v 4) (das_nil))) (len_cons (len_cons len_nil)))) (DE.b (de_bl))))).t) (dss_one (ds_ret (de_bl))) (dss_nil))))))) (dss_cons (ds_for own_fn rfl (di_R1 rfl g_range (de_int)) (dg_n 2 sc.nd) (dss_wipe [4, 3, 2] (dss_cons (ds_set (i := 3) sc.nd (de_fn c__law_cells (hr.mono (by decide)) takes_fn (das_cons (de_v 1) (das_cons (de_int) (das_cons (de_op op_addA ro_add (DE.b (de_int)) (DE.b (de_fn c__law_draw (hr.mono (by decide)) takes_fn (das_cons (de_v 1) (das_cons (de_int) (das_nil))) (len_cons (len_cons len_nil))))) (das_cons (de_fn c__law_draw (hr.mono (by decide)) takes_fn (das_cons (de_v 1) (das_cons (de_int) (das_nil))) (len_cons (len_cons len_nil))) (das_nil))))) (len_cons (len_cons (len_cons (len_cons len_nil)))))) (dss_one (ds_for own_fn rfl (di_S (FE.d (fe_lst (n := 3) (das_cons (de_tupRg1 rfl (by rfl) g_tuple (by rfl) g_range (de_callB call_lenM rc_len g_len (by rfl) (bas_cons (DE.b (de_v 3)) (bas_nil)))) (das_cons (de_fn c__law_lot (hr.mono (by decide)) takes_fn (das_cons (de_v 1) (das_cons (de_callB call_lenM rc_len g_len (by rfl) (bas_cons (DE.b (de_v 3)) (bas_nil))) (das_nil))) (len_cons (len_cons len_nil))) (das_cons (de_fn c__law_lot (hr.mono (by decide)) takes_fn (das_cons (de_v 1) (das_cons (de_callB call_lenM rc_len g_len (by rfl) (bas_cons (DE.b (de_v 3)) (bas_nil))) (das_nil))) (len_cons (len_cons len_nil))) (das_nil)))) (len_cons (len_cons (len_cons len_nil)))))) (dg_n 4 sc.nd) (dss_wipe [4] (dss_one (ds_if (dt_cmp (op_neD (u64 hr)) ro_ne (DE.b (de_fn c_is_right (hr.mono (by decide)) takes_fn (das_cons (de_v 3) (das_cons (de_v 4) (das_nil))) (len_cons (len_cons len_nil)))) (DE.b (de_fn c__law_fits (hr.mono (by decide)) takes_fn (das_cons (FE.d (fe_lc [("_law_one", 5)] rfl sc.nd (di_S (de_v 4)) (blkOk_by (by kernel_rfl)) (fun _ _ _ _ _ => dg_n 5 sc.nd) (fun _ _ _ _ _ => dts_nil) (fun _ _ _ _ _ => de_ix (DE.b (de_v 3)) (DE.b (de_v 5))))) (das_nil)) (len_cons len_nil)))) (dss_one (ds_ret (de_bl))) (dss_nil))))))))) (dss_cons (ds_set (i := 6) sc.nd (de_callTy call_tuple_of rc_tuple g_tuple (by rfl) (bas_cons (FE.b (fe_lc [("_law_k", 7)] rfl sc.nd (di_R1 rfl g_range (de_int)) (blkOk_by (by kernel_rfl)) (fun _ _ _ _ _ => dg_n 7 sc.nd) (fun _ _ _ _ _ => dts_nil) (fun _ _ _ _ _ => de_tup (n := 2) (das_cons (de_tup (n := 2) (das_cons (de_op op_addA ro_add (DE.b (de_int)) (DE.b (de_v 7))) (das_cons (de_op op_addA ro_add (DE.b (de_int)) (DE.b (de_v 7))) (das_nil))) (len_cons (len_cons len_nil))) (das_cons (de_tup (n := 0) (das_nil) len_nil) (das_nil))) (len_cons (len_cons len_nil))))) (bas_nil)))) (dss_cons (ds_if (dt_cmp op_isnot_bl ro_isNotB (DE.b (de_fn c_is_right (hr.mono (by decide)) takes_fn (das_cons (de_op op_addA ro_add (DE.b (de_op op_addA ro_add (DE.b (de_tup (n := 1) (das_cons (de_tup (n := 2) (das_cons (de_tup (n := 2) (das_cons (de_int) (das_cons (de_int) (das_nil))) (len_cons (len_cons len_nil))) (das_cons (de_tup (n := 1) (das_cons (de_tup (n := 2) (das_cons (de_int) (das_cons (de_int) (das_nil))) (len_cons (len_cons len_nil))) (das_nil)) (len_cons len_nil)) (das_nil))) (len_cons (len_cons len_nil))) (das_nil)) (len_cons len_nil))) (DE.b (de_v 6)))) (DE.b (de_tup (n := 1) (das_cons (de_tup (n := 2) (das_cons (de_tup (n := 2) (das_cons (de_int) (das_cons (de_int) (das_nil))) (len_cons (len_cons len_nil))) (das_cons (de_tup (n := 0) (das_nil) len_nil) (das_nil))) (len_cons (len_cons len_nil))) (das_nil)) (len_cons len_nil)))) (das_cons (de_tupRg1 rfl (by rfl) g_tuple (by rfl) g_range (de_int)) (das_nil))) (len_cons (len_cons len_nil)))) (DE.b (de_bl))) (dss_one (ds_ret (de_bl))) (dss_nil)) (dss_cons (ds_set (i := 3) sc.nd (de_tup (n := 3) (das_cons (de_tup (n := 2) (das_cons (de_tup (n := 2) (das_cons (de_int) (das_cons (de_int) (das_nil))) (len_cons (len_cons len_nil))) (das_cons (de_tup (n := 1) (das_cons (de_tup (n := 2) (das_cons (de_int) (das_cons (de_int) (das_nil))) (len_cons (len_cons len_nil))) (das_nil)) (len_cons len_nil)) (das_nil))) (len_cons (len_cons len_nil))) (das_cons (de_tup (n := 2) (das_cons (de_tup (n := 2) (das_cons (de_int) (das_cons (de_int) (das_nil))) (len_cons (len_cons len_nil))) (das_cons (de_tup (n := 0) (das_nil) len_nil) (das_nil))) (len_cons (len_cons len_nil))) (das_cons (de_tup (n := 2) (das_cons (de_tup (n := 2) (das_cons (de_int) (das_cons (de_int) (das_nil))) (len_cons (len_cons len_nil))) (das_cons (de_tup (n := 1) (das_cons (de_tup (n := 2) (das_cons (de_int) (das_cons (de_int) (das_nil))) (len_cons (len_cons len_nil))) (das_nil)) (len_cons len_nil)) (das_nil))) (len_cons (len_cons len_nil))) (das_nil)))) (len_cons (len_cons (len_cons len_nil))))) (dss_cons (ds_if ((dw_or (dt_cmp op_isnot_bl ro_isNotB (DE.b (de_fn c_is_right (hr.mono (by decide)) takes_fn (das_cons (de_v 3) (das_cons (de_tup (n := 1) (das_cons (de_int) (das_nil)) (len_cons len_nil)) (das_nil))) (len_cons (len_cons len_nil)))) (DE.b (de_bl))) (dw_or1 (dt_cmp op_isnot_bl ro_isNotB (DE.b (de_fn c_is_right (hr.mono (by decide)) takes_fn (das_cons (de_v 3) (das_cons (de_tup (n := 2) (das_cons (de_int) (das_cons (de_int) (das_nil))) (len_cons (len_cons len_nil))) (das_nil))) (len_cons (len_cons len_nil)))) (DE.b (de_bl))))).t) (dss_one (ds_ret (de_bl))) (dss_nil)) (dss_one (ds_ret (de_and (de_cmp op_is_bl ro_isB (DE.b (de_fn c_is_right (hr.mono (by decide)) takes_fn (das_cons (de_v 3) (das_cons (de_tup (n := 2) (das_cons (de_int) (das_cons (de_int) (das_nil))) (len_cons (len_cons len_nil))) (das_nil))) (len_cons (len_cons len_nil)))) (DE.b (de_bl))) (de_and (de_cmp op_is_bl ro_isB (DE.b (de_fn c_is_right (hr.mono (by decide)) takes_fn (das_cons (de_v 3) (das_cons (de_tup (n := 0) (das_nil) len_nil) (das_nil))) (len_cons (len_cons len_nil)))) (DE.b (de_bl))) (de_one (de_cmp op_is_bl ro_isB (DE.b (de_fn c_is_right (hr.mono (by decide)) takes_fn (das_cons (de_tup (n := 0) (das_nil) len_nil) (das_cons (de_tup (n := 0) (das_nil) len_nil) (das_nil))) (len_cons (len_cons len_nil)))) (DE.b (de_bl))))))))))))))))
end Hd

set_option maxHeartbeats 1000000
set_option maxRecDepth 100000
namespace Hd
open Mn
theorem v_is_integer (i : Int) : m_is_integer [.int i] = .ret (.bl true) := by simp [m_is_integer, b_is_integer, ap_V, ap_O, ap_own, getV_val, getO_val, getO_own, getO_ownd, getL_own, ap_C, ap_1, ap_2, ap_And, ap_Or, ap_Not, ap_If, ap_aNil, ap_aCons, ap_aStar, ap_Tup, ap_Lst, ap_TupS, ap_LstS, ap_Call, ap_Chain, ap_Cut, ap_oNone, ap_oSome, ap_bV, ap_bAnd, ap_bOr, ap_bNot, ap_bYes, ap_wS, ap_Rng1, ap_Rng2, ap_TupRg1, ap_TupRg2, ap_LstRg1, ap_LstRg2, ap_Enum, ap_Enum2, ap_Zip, ap_mNil, ap_mVal, ap_mOwn, ap_sNx, ap_Seq, seqK_nx, seqK_rt, ap_Asg, ap_Set, ap_Own, ownK_lst, ownK_dct, ap_Ret, ap_sIf, ap_Stk, ap_Drop, ap_App, ap_Ext, ap_PutL, ap_Par, ap_Frz, frzS_own, frzS_val, ap_fn, fnK_rt, fnK_nx, ite_bind, gIx_tup, gIx_lst, itemI0, itemI1, itemI2, itemI3, gCut_tup, gCut_lst, asB_bl, asI_int, asS_tup, asS_lst, asL_lst, gAdd_int, gAdd_tup, gAdd_lst, gSub_int, gMulA_int, gLt_int, gLe_int, gGt_int, gGe_int, fTuple_lst, fTuple_tup, fList_tup, fList_lst, fInt_int, fInt_bl, gIsi_int, gIsi_bl, gIsi_tup, gIsi_lst, gIsi_str, gIsi_non, gIsB_bl, gIsNotB_bl, M.ret_bind, M.stk_bind, M.draw_bind, M.bind_ret, ofO_some, ofO_none, List.getD_cons_zero, List.getD_cons_succ, List.set_cons_zero, List.set_cons_succ, List.length_cons, List.length_nil, List.map_cons, List.map_nil, List.cons_append, List.nil_append, List.append_nil, List.replicate, Nat.reduceSub, Nat.reduceAdd, Nat.reduceEqDiff, if_true, if_false, ite_true, ite_false, reduceIte, Bool.not_true, Bool.not_false, Bool.false_eq_true, Bool.true_and, Bool.false_and, Bool.and_true, Bool.and_false, len_tup, len_lst, ne_int, eq_int, setAll, Mn.wipe, Tg.go, Tg.goes, Option.bind_some, isTup, isIntT, isBlT, isStrT, isLstT, known, List.isEmpty_nil, ownOf]
theorem v_is_between (i a b : Int) : m_is_between [.int i, .int a, .int b] = .ret (.bl (decide (a ≤ i) && decide (i ≤ b))) := by
  by_cases h : a ≤ i <;> simp [m_is_between, b_is_between, v_is_integer, ap_V, ap_O, ap_own, getV_val, getO_val, getO_own, getO_ownd, getL_own, ap_C, ap_1, ap_2, ap_And, ap_Or, ap_Not, ap_If, ap_aNil, ap_aCons, ap_aStar, ap_Tup, ap_Lst, ap_TupS, ap_LstS, ap_Call, ap_Chain, ap_Cut, ap_oNone, ap_oSome, ap_bV, ap_bAnd, ap_bOr, ap_bNot, ap_bYes, ap_wS, ap_Rng1, ap_Rng2, ap_TupRg1, ap_TupRg2, ap_LstRg1, ap_LstRg2, ap_Enum, ap_Enum2, ap_Zip, ap_mNil, ap_mVal, ap_mOwn, ap_sNx, ap_Seq, seqK_nx, seqK_rt, ap_Asg, ap_Set, ap_Own, ownK_lst, ownK_dct, ap_Ret, ap_sIf, ap_Stk, ap_Drop, ap_App, ap_Ext, ap_PutL, ap_Par, ap_Frz, frzS_own, frzS_val, ap_fn, fnK_rt, fnK_nx, ite_bind, gIx_tup, gIx_lst, itemI0, itemI1, itemI2, itemI3, gCut_tup, gCut_lst, asB_bl, asI_int, asS_tup, asS_lst, asL_lst, gAdd_int, gAdd_tup, gAdd_lst, gSub_int, gMulA_int, gLt_int, gLe_int, gGt_int, gGe_int, fTuple_lst, fTuple_tup, fList_tup, fList_lst, fInt_int, fInt_bl, gIsi_int, gIsi_bl, gIsi_tup, gIsi_lst, gIsi_str, gIsi_non, gIsB_bl, gIsNotB_bl, M.ret_bind, M.stk_bind, M.draw_bind, M.bind_ret, ofO_some, ofO_none, List.getD_cons_zero, List.getD_cons_succ, List.set_cons_zero, List.set_cons_succ, List.length_cons, List.length_nil, List.map_cons, List.map_nil, List.cons_append, List.nil_append, List.append_nil, List.replicate, Nat.reduceSub, Nat.reduceAdd, Nat.reduceEqDiff, if_true, if_false, ite_true, ite_false, reduceIte, Bool.not_true, Bool.not_false, Bool.false_eq_true, Bool.true_and, Bool.false_and, Bool.and_true, Bool.and_false, len_tup, len_lst, ne_int, eq_int, setAll, Mn.wipe, Tg.go, Tg.goes, Option.bind_some, isTup, isIntT, isBlT, isStrT, isLstT, known, List.isEmpty_nil, ownOf, h]
theorem v_is_tick (i : Int) (h : -1000000000 ≤ i) (h2 : i ≤ 1000000000) : m_is_tick [.int i] = .ret (.bl true) := by
  simp [m_is_tick, b_is_tick, v_is_between, ap_V, ap_O, ap_own, getV_val, getO_val, getO_own, getO_ownd, getL_own, ap_C, ap_1, ap_2, ap_And, ap_Or, ap_Not, ap_If, ap_aNil, ap_aCons, ap_aStar, ap_Tup, ap_Lst, ap_TupS, ap_LstS, ap_Call, ap_Chain, ap_Cut, ap_oNone, ap_oSome, ap_bV, ap_bAnd, ap_bOr, ap_bNot, ap_bYes, ap_wS, ap_Rng1, ap_Rng2, ap_TupRg1, ap_TupRg2, ap_LstRg1, ap_LstRg2, ap_Enum, ap_Enum2, ap_Zip, ap_mNil, ap_mVal, ap_mOwn, ap_sNx, ap_Seq, seqK_nx, seqK_rt, ap_Asg, ap_Set, ap_Own, ownK_lst, ownK_dct, ap_Ret, ap_sIf, ap_Stk, ap_Drop, ap_App, ap_Ext, ap_PutL, ap_Par, ap_Frz, frzS_own, frzS_val, ap_fn, fnK_rt, fnK_nx, ite_bind, gIx_tup, gIx_lst, itemI0, itemI1, itemI2, itemI3, gCut_tup, gCut_lst, asB_bl, asI_int, asS_tup, asS_lst, asL_lst, gAdd_int, gAdd_tup, gAdd_lst, gSub_int, gMulA_int, gLt_int, gLe_int, gGt_int, gGe_int, fTuple_lst, fTuple_tup, fList_tup, fList_lst, fInt_int, fInt_bl, gIsi_int, gIsi_bl, gIsi_tup, gIsi_lst, gIsi_str, gIsi_non, gIsB_bl, gIsNotB_bl, M.ret_bind, M.stk_bind, M.draw_bind, M.bind_ret, ofO_some, ofO_none, List.getD_cons_zero, List.getD_cons_succ, List.set_cons_zero, List.set_cons_succ, List.length_cons, List.length_nil, List.map_cons, List.map_nil, List.cons_append, List.nil_append, List.append_nil, List.replicate, Nat.reduceSub, Nat.reduceAdd, Nat.reduceEqDiff, if_true, if_false, ite_true, ite_false, reduceIte, Bool.not_true, Bool.not_false, Bool.false_eq_true, Bool.true_and, Bool.false_and, Bool.and_true, Bool.and_false, len_tup, len_lst, ne_int, eq_int, setAll, Mn.wipe, Tg.go, Tg.goes, Option.bind_some, isTup, isIntT, isBlT, isStrT, isLstT, known, List.isEmpty_nil, ownOf, h, h2]
/-! data -/
abbrev Cl := Int × Int
abbrev Vl := Cl × List Cl
def eC (c : Cl) : D := .tup [.int c.1, .int c.2]
def eV (v : Vl) : D := .tup [eC v.1, .tup (v.2.map eC)]
def eR (r : List Vl) : D := .tup (r.map eV)
def eI (i : Nat) : D := .int (i : Int)
def eL (l : List Nat) : D := .tup (l.map eI)
def eP (p : Int × Int) : D := .tup [.int p.1, .int p.2]
def okC (c : Cl) : Prop := -1000000000 ≤ c.1 ∧ c.1 ≤ c.2 ∧ c.2 ≤ 1000000000
def okV (v : Vl) : Prop := okC v.1 ∧ v.2.length ≤ 4 ∧ ∀ c ∈ v.2, okC c
def okR (r : List Vl) : Prop := r.length ≤ 12 ∧ ∀ v ∈ r, okV v
theorem fl_C (c : Cl) : flat 1 (eC c) = true := rfl
theorem fl_Cs (l : List Cl) : flats 1 (l.map eC) = true := flats_map fun c _ => fl_C c
theorem fl_V (v : Vl) : flat 3 (eV v) = true := by
  have h := fl_Cs v.2
  simp [eV, eC, flat, flats, h]
theorem fl_R (r : List Vl) : flat 4 (eR r) = true := by
  simp only [eR, flat]
  exact flats_map fun v _ => fl_V v
theorem v_is_call {c : Cl} (h : okC c) : m_is_call [eC c] = .ret (.bl true) := by
  obtain ⟨a, b⟩ := c
  obtain ⟨h1, h2, h3⟩ := h
  simp only at h1 h2 h3
  have t1 := v_is_tick a h1 (by omega)
  have t2 := v_is_tick b (by omega) h3
  simp [m_is_call, b_is_call, eC, ap_V, ap_O, ap_own, getV_val, getO_val, getO_own, getO_ownd, getL_own, ap_C, ap_1, ap_2, ap_And, ap_Or, ap_Not, ap_If, ap_aNil, ap_aCons, ap_aStar, ap_Tup, ap_Lst, ap_TupS, ap_LstS, ap_Call, ap_Chain, ap_Cut, ap_oNone, ap_oSome, ap_bV, ap_bAnd, ap_bOr, ap_bNot, ap_bYes, ap_wS, ap_Rng1, ap_Rng2, ap_TupRg1, ap_TupRg2, ap_LstRg1, ap_LstRg2, ap_Enum, ap_Enum2, ap_Zip, ap_mNil, ap_mVal, ap_mOwn, ap_sNx, ap_Seq, seqK_nx, seqK_rt, ap_Asg, ap_Set, ap_Own, ownK_lst, ownK_dct, ap_Ret, ap_sIf, ap_Stk, ap_Drop, ap_App, ap_Ext, ap_PutL, ap_Par, ap_Frz, frzS_own, frzS_val, ap_fn, fnK_rt, fnK_nx, ite_bind, gIx_tup, gIx_lst, itemI0, itemI1, itemI2, itemI3, gCut_tup, gCut_lst, asB_bl, asI_int, asS_tup, asS_lst, asL_lst, gAdd_int, gAdd_tup, gAdd_lst, gSub_int, gMulA_int, gLt_int, gLe_int, gGt_int, gGe_int, fTuple_lst, fTuple_tup, fList_tup, fList_lst, fInt_int, fInt_bl, gIsi_int, gIsi_bl, gIsi_tup, gIsi_lst, gIsi_str, gIsi_non, gIsB_bl, gIsNotB_bl, M.ret_bind, M.stk_bind, M.draw_bind, M.bind_ret, ofO_some, ofO_none, List.getD_cons_zero, List.getD_cons_succ, List.set_cons_zero, List.set_cons_succ, List.length_cons, List.length_nil, List.map_cons, List.map_nil, List.cons_append, List.nil_append, List.append_nil, List.replicate, Nat.reduceSub, Nat.reduceAdd, Nat.reduceEqDiff, if_true, if_false, ite_true, ite_false, reduceIte, Bool.not_true, Bool.not_false, Bool.false_eq_true, Bool.true_and, Bool.false_and, Bool.and_true, Bool.and_false, len_tup, len_lst, ne_int, eq_int, setAll, Mn.wipe, Tg.go, Tg.goes, Option.bind_some, isTup, isIntT, isBlT, isStrT, isLstT, known, List.isEmpty_nil, ownOf, t1, t2, h2]
theorem ix0 (v : Vl) : gIx (eV v) (.int 0) = .ret (eC v.1) := by simp [eV, gIx_tup, itemI0]
theorem ix1 (v : Vl) : gIx (eV v) (.int 1) = .ret (.tup (v.2.map eC)) := by simp [eV, gIx_tup, itemI1]
theorem cx0 (c : Cl) : gIx (eC c) (.int 0) = .ret (.int c.1) := by simp [eC, gIx_tup, itemI0]
theorem cx1 (c : Cl) : gIx (eC c) (.int 1) = .ret (.int c.2) := by simp [eC, gIx_tup, itemI1]
theorem all_true {α : Type} (l : List α) : (l.all fun _ => true) = true := by simp
theorem FM_true {α : Type} {l : List α} {f : α → M (Option D)} (h : ∀ x ∈ l, f x = .ret (some (.bl true))) : FM f l = .ret (l.map fun _ => .bl true) := by rw [FM_congr h, FM_ret]
theorem v_is_value {v : Vl} (h : okV v) : m_is_value [eV v] = .ret (.bl true) := by
  obtain ⟨h1, h2, h3⟩ := h
  have h4 : decide ((4 : Int) < v.2.length) = false := by simp; omega
  simp only [m_is_value, b_is_value, c1_is_value, e1_is_value, eV, ap_V, ap_O, ap_own, getV_val, getO_val, getO_own, getO_ownd, getL_own, ap_C, ap_1, ap_2, ap_And, ap_Or, ap_Not, ap_If, ap_aNil, ap_aCons, ap_aStar, ap_Tup, ap_Lst, ap_TupS, ap_LstS, ap_Call, ap_Chain, ap_Cut, ap_oNone, ap_oSome, ap_bV, ap_bAnd, ap_bOr, ap_bNot, ap_bYes, ap_wS, ap_Rng1, ap_Rng2, ap_TupRg1, ap_TupRg2, ap_LstRg1, ap_LstRg2, ap_Enum, ap_Enum2, ap_Zip, ap_mNil, ap_mVal, ap_mOwn, ap_sNx, ap_Seq, seqK_nx, seqK_rt, ap_Asg, ap_Set, ap_Own, ownK_lst, ownK_dct, ap_Ret, ap_sIf, ap_Stk, ap_Drop, ap_App, ap_Ext, ap_PutL, ap_Par, ap_Frz, frzS_own, frzS_val, ap_fn, fnK_rt, fnK_nx, ite_bind, gIx_tup, gIx_lst, itemI0, itemI1, itemI2, itemI3, gCut_tup, gCut_lst, asB_bl, asI_int, asS_tup, asS_lst, asL_lst, gAdd_int, gAdd_tup, gAdd_lst, gSub_int, gMulA_int, gLt_int, gLe_int, gGt_int, gGe_int, fTuple_lst, fTuple_tup, fList_tup, fList_lst, fInt_int, fInt_bl, gIsi_int, gIsi_bl, gIsi_tup, gIsi_lst, gIsi_str, gIsi_non, gIsB_bl, gIsNotB_bl, M.ret_bind, M.stk_bind, M.draw_bind, M.bind_ret, ofO_some, ofO_none, List.getD_cons_zero, List.getD_cons_succ, List.set_cons_zero, List.set_cons_succ, List.length_cons, List.length_nil, List.cons_append, List.nil_append, List.append_nil, List.replicate, Nat.reduceSub, Nat.reduceAdd, Nat.reduceEqDiff, if_true, if_false, ite_true, ite_false, reduceIte, Bool.not_true, Bool.not_false, Bool.false_eq_true, Bool.true_and, Bool.false_and, Bool.and_true, Bool.and_false, len_tup, len_lst, ne_int, eq_int, setAll, Mn.wipe, Tg.go, Tg.goes, Option.bind_some, isTup, isIntT, isBlT, isStrT, isLstT, known, List.isEmpty_nil, ownOf, ap_LcF, ap_turn, FM_map, FM_ret, FM_if, FM_opt, FM_nil, oCons_some, oCons_none, noX_ret, ap_Lc2F, ap_turn2, FL_map, FL_ret, FL_nil, ap_go, ap_Wipe, numbered0, paired_map, fAll_map, fAny_map, List.length_map, cutL_from, cutL_upto, mapV_nil, mapV_cons, Int.cast_ofNat_Int, BEq.rfl, Int.reduceLT, Int.reduceLE, Int.reduceBEq, Int.zero_le_ofNat, decide_true, decide_false, ap_For, v_is_call h1, h4]
  rw [FM_true fun c hc => by simp only [v_is_call (h3 c hc), ap_V, ap_O, ap_own, getV_val, getO_val, getO_own, getO_ownd, getL_own, ap_C, ap_1, ap_2, ap_And, ap_Or, ap_Not, ap_If, ap_aNil, ap_aCons, ap_aStar, ap_Tup, ap_Lst, ap_TupS, ap_LstS, ap_Call, ap_Chain, ap_Cut, ap_oNone, ap_oSome, ap_bV, ap_bAnd, ap_bOr, ap_bNot, ap_bYes, ap_wS, ap_Rng1, ap_Rng2, ap_TupRg1, ap_TupRg2, ap_LstRg1, ap_LstRg2, ap_Enum, ap_Enum2, ap_Zip, ap_mNil, ap_mVal, ap_mOwn, ap_sNx, ap_Seq, seqK_nx, seqK_rt, ap_Asg, ap_Set, ap_Own, ownK_lst, ownK_dct, ap_Ret, ap_sIf, ap_Stk, ap_Drop, ap_App, ap_Ext, ap_PutL, ap_Par, ap_Frz, frzS_own, frzS_val, ap_fn, fnK_rt, fnK_nx, ite_bind, gIx_tup, gIx_lst, itemI0, itemI1, itemI2, itemI3, gCut_tup, gCut_lst, asB_bl, asI_int, asS_tup, asS_lst, asL_lst, gAdd_int, gAdd_tup, gAdd_lst, gSub_int, gMulA_int, gLt_int, gLe_int, gGt_int, gGe_int, fTuple_lst, fTuple_tup, fList_tup, fList_lst, fInt_int, fInt_bl, gIsi_int, gIsi_bl, gIsi_tup, gIsi_lst, gIsi_str, gIsi_non, gIsB_bl, gIsNotB_bl, M.ret_bind, M.stk_bind, M.draw_bind, M.bind_ret, ofO_some, ofO_none, List.getD_cons_zero, List.getD_cons_succ, List.set_cons_zero, List.set_cons_succ, List.length_cons, List.length_nil, List.map_cons, List.map_nil, List.cons_append, List.nil_append, List.append_nil, List.replicate, Nat.reduceSub, Nat.reduceAdd, Nat.reduceEqDiff, if_true, if_false, ite_true, ite_false, reduceIte, Bool.not_true, Bool.not_false, Bool.false_eq_true, Bool.true_and, Bool.false_and, Bool.and_true, Bool.and_false, len_tup, len_lst, ne_int, eq_int, setAll, Mn.wipe, Tg.go, Tg.goes, Option.bind_some, isTup, isIntT, isBlT, isStrT, isLstT, known, List.isEmpty_nil, ownOf]]
  simp only [ap_V, ap_O, ap_own, getV_val, getO_val, getO_own, getO_ownd, getL_own, ap_C, ap_1, ap_2, ap_And, ap_Or, ap_Not, ap_If, ap_aNil, ap_aCons, ap_aStar, ap_Tup, ap_Lst, ap_TupS, ap_LstS, ap_Call, ap_Chain, ap_Cut, ap_oNone, ap_oSome, ap_bV, ap_bAnd, ap_bOr, ap_bNot, ap_bYes, ap_wS, ap_Rng1, ap_Rng2, ap_TupRg1, ap_TupRg2, ap_LstRg1, ap_LstRg2, ap_Enum, ap_Enum2, ap_Zip, ap_mNil, ap_mVal, ap_mOwn, ap_sNx, ap_Seq, seqK_nx, seqK_rt, ap_Asg, ap_Set, ap_Own, ownK_lst, ownK_dct, ap_Ret, ap_sIf, ap_Stk, ap_Drop, ap_App, ap_Ext, ap_PutL, ap_Par, ap_Frz, frzS_own, frzS_val, ap_fn, fnK_rt, fnK_nx, ite_bind, gIx_tup, gIx_lst, itemI0, itemI1, itemI2, itemI3, gCut_tup, gCut_lst, asB_bl, asI_int, asS_tup, asS_lst, asL_lst, gAdd_int, gAdd_tup, gAdd_lst, gSub_int, gMulA_int, gLt_int, gLe_int, gGt_int, gGe_int, fTuple_lst, fTuple_tup, fList_tup, fList_lst, fInt_int, fInt_bl, gIsi_int, gIsi_bl, gIsi_tup, gIsi_lst, gIsi_str, gIsi_non, gIsB_bl, gIsNotB_bl, M.ret_bind, M.stk_bind, M.draw_bind, M.bind_ret, ofO_some, ofO_none, List.getD_cons_zero, List.getD_cons_succ, List.set_cons_zero, List.set_cons_succ, List.length_cons, List.length_nil, List.cons_append, List.nil_append, List.append_nil, List.replicate, Nat.reduceSub, Nat.reduceAdd, Nat.reduceEqDiff, if_true, if_false, ite_true, ite_false, reduceIte, Bool.not_true, Bool.not_false, Bool.false_eq_true, Bool.true_and, Bool.false_and, Bool.and_true, Bool.and_false, len_tup, len_lst, ne_int, eq_int, setAll, Mn.wipe, Tg.go, Tg.goes, Option.bind_some, isTup, isIntT, isBlT, isStrT, isLstT, known, List.isEmpty_nil, ownOf, ap_LcF, ap_turn, FM_map, FM_ret, FM_if, FM_opt, FM_nil, oCons_some, oCons_none, noX_ret, ap_Lc2F, ap_turn2, FL_map, FL_ret, FL_nil, ap_go, ap_Wipe, numbered0, paired_map, fAll_map, fAny_map, List.length_map, cutL_from, cutL_upto, mapV_nil, mapV_cons, Int.cast_ofNat_Int, BEq.rfl, Int.reduceLT, Int.reduceLE, Int.reduceBEq, Int.zero_le_ofNat, decide_true, decide_false, ap_For, all_true]
theorem mem_zipIdx0 {α : Type} {l : List α} {p : α × Nat} (h : p ∈ l.zipIdx) : p.1 ∈ l ∧ p.2 < l.length ∧ l[p.2]? = some p.1 := by
  obtain ⟨i, hi⟩ := List.getElem?_of_mem h
  rw [List.getElem?_zipIdx] at hi
  cases e : l[i]? with
  | none => rw [e] at hi; cases hi
  | some v =>
    rw [e] at hi
    have hi : (v, 0 + i) = p := Option.some.inj hi
    subst hi
    exact ⟨List.mem_of_getElem? e, by simpa using getElem_lt e, by simpa using e⟩
theorem v_need_record {r : List Vl} (h : okR r) : m_need_record [eR r] = .ret (eR r) := by
  obtain ⟨h1, h2⟩ := h
  have h3 : decide ((12 : Int) < r.length) = false := by simp; omega
  simp only [m_need_record, b_need_record, l1_need_record, eR, ap_For, ap_V, ap_O, ap_own, getV_val, getO_val, getO_own, getO_ownd, getL_own, ap_C, ap_1, ap_2, ap_And, ap_Or, ap_Not, ap_If, ap_aNil, ap_aCons, ap_aStar, ap_Tup, ap_Lst, ap_TupS, ap_LstS, ap_Call, ap_Chain, ap_Cut, ap_oNone, ap_oSome, ap_bV, ap_bAnd, ap_bOr, ap_bNot, ap_bYes, ap_wS, ap_Rng1, ap_Rng2, ap_TupRg1, ap_TupRg2, ap_LstRg1, ap_LstRg2, ap_Enum, ap_Enum2, ap_Zip, ap_mNil, ap_mVal, ap_mOwn, ap_sNx, ap_Seq, seqK_nx, seqK_rt, ap_Asg, ap_Set, ap_Own, ownK_lst, ownK_dct, ap_Ret, ap_sIf, ap_Stk, ap_Drop, ap_App, ap_Ext, ap_PutL, ap_Par, ap_Frz, frzS_own, frzS_val, ap_fn, fnK_rt, fnK_nx, ite_bind, gIx_tup, gIx_lst, itemI0, itemI1, itemI2, itemI3, gCut_tup, gCut_lst, asB_bl, asI_int, asS_tup, asS_lst, asL_lst, gAdd_int, gAdd_tup, gAdd_lst, gSub_int, gMulA_int, gLt_int, gLe_int, gGt_int, gGe_int, fTuple_lst, fTuple_tup, fList_tup, fList_lst, fInt_int, fInt_bl, gIsi_int, gIsi_bl, gIsi_tup, gIsi_lst, gIsi_str, gIsi_non, gIsB_bl, gIsNotB_bl, M.ret_bind, M.stk_bind, M.draw_bind, M.bind_ret, ofO_some, ofO_none, List.getD_cons_zero, List.getD_cons_succ, List.set_cons_zero, List.set_cons_succ, List.length_cons, List.length_nil, List.cons_append, List.nil_append, List.append_nil, List.replicate, Nat.reduceSub, Nat.reduceAdd, Nat.reduceEqDiff, if_true, if_false, ite_true, ite_false, reduceIte, Bool.not_true, Bool.not_false, Bool.false_eq_true, Bool.true_and, Bool.false_and, Bool.and_true, Bool.and_false, len_tup, len_lst, ne_int, eq_int, setAll, Mn.wipe, Tg.go, Tg.goes, Option.bind_some, isTup, isIntT, isBlT, isStrT, isLstT, known, List.isEmpty_nil, ownOf, ap_LcF, ap_turn, FM_map, FM_ret, FM_if, FM_opt, FM_nil, oCons_some, oCons_none, noX_ret, ap_Lc2F, ap_turn2, FL_map, FL_ret, FL_nil, ap_go, ap_Wipe, numbered0, paired_map, fAll_map, fAny_map, List.length_map, cutL_from, cutL_upto, mapV_nil, mapV_cons, Int.cast_ofNat_Int, BEq.rfl, Int.reduceLT, Int.reduceLE, Int.reduceBEq, Int.zero_le_ofNat, decide_true, decide_false, ap_For, h3]
  rw [for_same (b := lb1_need_record) (r.zipIdx) fun p hp => by
    simp only [lb1_need_record, ap_V, ap_O, ap_own, getV_val, getO_val, getO_own, getO_ownd, getL_own, ap_C, ap_1, ap_2, ap_And, ap_Or, ap_Not, ap_If, ap_aNil, ap_aCons, ap_aStar, ap_Tup, ap_Lst, ap_TupS, ap_LstS, ap_Call, ap_Chain, ap_Cut, ap_oNone, ap_oSome, ap_bV, ap_bAnd, ap_bOr, ap_bNot, ap_bYes, ap_wS, ap_Rng1, ap_Rng2, ap_TupRg1, ap_TupRg2, ap_LstRg1, ap_LstRg2, ap_Enum, ap_Enum2, ap_Zip, ap_mNil, ap_mVal, ap_mOwn, ap_sNx, ap_Seq, seqK_nx, seqK_rt, ap_Asg, ap_Set, ap_Own, ownK_lst, ownK_dct, ap_Ret, ap_sIf, ap_Stk, ap_Drop, ap_App, ap_Ext, ap_PutL, ap_Par, ap_Frz, frzS_own, frzS_val, ap_fn, fnK_rt, fnK_nx, ite_bind, gIx_tup, gIx_lst, itemI0, itemI1, itemI2, itemI3, gCut_tup, gCut_lst, asB_bl, asI_int, asS_tup, asS_lst, asL_lst, gAdd_int, gAdd_tup, gAdd_lst, gSub_int, gMulA_int, gLt_int, gLe_int, gGt_int, gGe_int, fTuple_lst, fTuple_tup, fList_tup, fList_lst, fInt_int, fInt_bl, gIsi_int, gIsi_bl, gIsi_tup, gIsi_lst, gIsi_str, gIsi_non, gIsB_bl, gIsNotB_bl, M.ret_bind, M.stk_bind, M.draw_bind, M.bind_ret, ofO_some, ofO_none, List.getD_cons_zero, List.getD_cons_succ, List.set_cons_zero, List.set_cons_succ, List.length_cons, List.length_nil, List.cons_append, List.nil_append, List.append_nil, List.replicate, Nat.reduceSub, Nat.reduceAdd, Nat.reduceEqDiff, if_true, if_false, ite_true, ite_false, reduceIte, Bool.not_true, Bool.not_false, Bool.false_eq_true, Bool.true_and, Bool.false_and, Bool.and_true, Bool.and_false, len_tup, len_lst, ne_int, eq_int, setAll, Mn.wipe, Tg.go, Tg.goes, Option.bind_some, isTup, isIntT, isBlT, isStrT, isLstT, known, List.isEmpty_nil, ownOf, ap_LcF, ap_turn, FM_map, FM_ret, FM_if, FM_opt, FM_nil, oCons_some, oCons_none, noX_ret, ap_Lc2F, ap_turn2, FL_map, FL_ret, FL_nil, ap_go, ap_Wipe, numbered0, paired_map, fAll_map, fAny_map, List.length_map, cutL_from, cutL_upto, mapV_nil, mapV_cons, Int.cast_ofNat_Int, BEq.rfl, Int.reduceLT, Int.reduceLE, Int.reduceBEq, Int.zero_le_ofNat, decide_true, decide_false, ap_For, v_is_value (h2 _ (mem_zipIdx0 hp).1)]]
  simp only [ap_V, ap_O, ap_own, getV_val, getO_val, getO_own, getO_ownd, getL_own, ap_C, ap_1, ap_2, ap_And, ap_Or, ap_Not, ap_If, ap_aNil, ap_aCons, ap_aStar, ap_Tup, ap_Lst, ap_TupS, ap_LstS, ap_Call, ap_Chain, ap_Cut, ap_oNone, ap_oSome, ap_bV, ap_bAnd, ap_bOr, ap_bNot, ap_bYes, ap_wS, ap_Rng1, ap_Rng2, ap_TupRg1, ap_TupRg2, ap_LstRg1, ap_LstRg2, ap_Enum, ap_Enum2, ap_Zip, ap_mNil, ap_mVal, ap_mOwn, ap_sNx, ap_Seq, seqK_nx, seqK_rt, ap_Asg, ap_Set, ap_Own, ownK_lst, ownK_dct, ap_Ret, ap_sIf, ap_Stk, ap_Drop, ap_App, ap_Ext, ap_PutL, ap_Par, ap_Frz, frzS_own, frzS_val, ap_fn, fnK_rt, fnK_nx, ite_bind, gIx_tup, gIx_lst, itemI0, itemI1, itemI2, itemI3, gCut_tup, gCut_lst, asB_bl, asI_int, asS_tup, asS_lst, asL_lst, gAdd_int, gAdd_tup, gAdd_lst, gSub_int, gMulA_int, gLt_int, gLe_int, gGt_int, gGe_int, fTuple_lst, fTuple_tup, fList_tup, fList_lst, fInt_int, fInt_bl, gIsi_int, gIsi_bl, gIsi_tup, gIsi_lst, gIsi_str, gIsi_non, gIsB_bl, gIsNotB_bl, M.ret_bind, M.stk_bind, M.draw_bind, M.bind_ret, ofO_some, ofO_none, List.getD_cons_zero, List.getD_cons_succ, List.set_cons_zero, List.set_cons_succ, List.length_cons, List.length_nil, List.cons_append, List.nil_append, List.append_nil, List.replicate, Nat.reduceSub, Nat.reduceAdd, Nat.reduceEqDiff, if_true, if_false, ite_true, ite_false, reduceIte, Bool.not_true, Bool.not_false, Bool.false_eq_true, Bool.true_and, Bool.false_and, Bool.and_true, Bool.and_false, len_tup, len_lst, ne_int, eq_int, setAll, Mn.wipe, Tg.go, Tg.goes, Option.bind_some, isTup, isIntT, isBlT, isStrT, isLstT, known, List.isEmpty_nil, ownOf, ap_LcF, ap_turn, FM_map, FM_ret, FM_if, FM_opt, FM_nil, oCons_some, oCons_none, noX_ret, ap_Lc2F, ap_turn2, FL_map, FL_ret, FL_nil, ap_go, ap_Wipe, numbered0, paired_map, fAll_map, fAny_map, List.length_map, cutL_from, cutL_upto, mapV_nil, mapV_cons, Int.cast_ofNat_Int, BEq.rfl, Int.reduceLT, Int.reduceLE, Int.reduceBEq, Int.zero_le_ofNat, decide_true, decide_false, ap_For]
/-! what the plain law tells of a value -/
def near (v : Vl) : Int := leastOf v.1.2 (v.2.map (·.2))
def far (v : Vl) : Int := mostOf v.1.1 (v.2.map (·.1))
theorem v_calls_of {v : Vl} (h : v.2.length ≤ 1000) : m_calls_of [eV v] = .ret (.lst ((v.1 :: v.2).map eC)) := by
  have h1 : v.2.length + 1 ≤ 16777216 := by omega
  simp [m_calls_of, b_calls_of, eV, ap_V, ap_O, ap_own, getV_val, getO_val, getO_own, getO_ownd, getL_own, ap_C, ap_1, ap_2, ap_And, ap_Or, ap_Not, ap_If, ap_aNil, ap_aCons, ap_aStar, ap_Tup, ap_Lst, ap_TupS, ap_LstS, ap_Call, ap_Chain, ap_Cut, ap_oNone, ap_oSome, ap_bV, ap_bAnd, ap_bOr, ap_bNot, ap_bYes, ap_wS, ap_Rng1, ap_Rng2, ap_TupRg1, ap_TupRg2, ap_LstRg1, ap_LstRg2, ap_Enum, ap_Enum2, ap_Zip, ap_mNil, ap_mVal, ap_mOwn, ap_sNx, ap_Seq, seqK_nx, seqK_rt, ap_Asg, ap_Set, ap_Own, ownK_lst, ownK_dct, ap_Ret, ap_sIf, ap_Stk, ap_Drop, ap_App, ap_Ext, ap_PutL, ap_Par, ap_Frz, frzS_own, frzS_val, ap_fn, fnK_rt, fnK_nx, ite_bind, gIx_tup, gIx_lst, itemI0, itemI1, itemI2, itemI3, gCut_tup, gCut_lst, asB_bl, asI_int, asS_tup, asS_lst, asL_lst, gAdd_int, gAdd_tup, gAdd_lst, gSub_int, gMulA_int, gLt_int, gLe_int, gGt_int, gGe_int, fTuple_lst, fTuple_tup, fList_tup, fList_lst, fInt_int, fInt_bl, gIsi_int, gIsi_bl, gIsi_tup, gIsi_lst, gIsi_str, gIsi_non, gIsB_bl, gIsNotB_bl, M.ret_bind, M.stk_bind, M.draw_bind, M.bind_ret, ofO_some, ofO_none, List.getD_cons_zero, List.getD_cons_succ, List.set_cons_zero, List.set_cons_succ, List.length_cons, List.length_nil, List.map_cons, List.map_nil, List.cons_append, List.nil_append, List.append_nil, List.replicate, Nat.reduceSub, Nat.reduceAdd, Nat.reduceEqDiff, if_true, if_false, ite_true, ite_false, reduceIte, Bool.not_true, Bool.not_false, Bool.false_eq_true, Bool.true_and, Bool.false_and, Bool.and_true, Bool.and_false, len_tup, len_lst, ne_int, eq_int, setAll, Mn.wipe, Tg.go, Tg.goes, Option.bind_some, isTup, isIntT, isBlT, isStrT, isLstT, known, List.isEmpty_nil, ownOf, h1]
theorem v_near_of {v : Vl} (h : v.2.length ≤ 1000) : m_near_of [eV v] = .ret (.int (near v)) := by
  simp only [m_near_of, b_near_of, c1_near_of, e1_near_of, ap_V, ap_O, ap_own, getV_val, getO_val, getO_own, getO_ownd, getL_own, ap_C, ap_1, ap_2, ap_And, ap_Or, ap_Not, ap_If, ap_aNil, ap_aCons, ap_aStar, ap_Tup, ap_Lst, ap_TupS, ap_LstS, ap_Call, ap_Chain, ap_Cut, ap_oNone, ap_oSome, ap_bV, ap_bAnd, ap_bOr, ap_bNot, ap_bYes, ap_wS, ap_Rng1, ap_Rng2, ap_TupRg1, ap_TupRg2, ap_LstRg1, ap_LstRg2, ap_Enum, ap_Enum2, ap_Zip, ap_mNil, ap_mVal, ap_mOwn, ap_sNx, ap_Seq, seqK_nx, seqK_rt, ap_Asg, ap_Set, ap_Own, ownK_lst, ownK_dct, ap_Ret, ap_sIf, ap_Stk, ap_Drop, ap_App, ap_Ext, ap_PutL, ap_Par, ap_Frz, frzS_own, frzS_val, ap_fn, fnK_rt, fnK_nx, ite_bind, gIx_tup, gIx_lst, itemI0, itemI1, itemI2, itemI3, gCut_tup, gCut_lst, asB_bl, asI_int, asS_tup, asS_lst, asL_lst, gAdd_int, gAdd_tup, gAdd_lst, gSub_int, gMulA_int, gLt_int, gLe_int, gGt_int, gGe_int, fTuple_lst, fTuple_tup, fList_tup, fList_lst, fInt_int, fInt_bl, gIsi_int, gIsi_bl, gIsi_tup, gIsi_lst, gIsi_str, gIsi_non, gIsB_bl, gIsNotB_bl, M.ret_bind, M.stk_bind, M.draw_bind, M.bind_ret, ofO_some, ofO_none, List.getD_cons_zero, List.getD_cons_succ, List.set_cons_zero, List.set_cons_succ, List.length_cons, List.length_nil, List.cons_append, List.nil_append, List.append_nil, List.replicate, Nat.reduceSub, Nat.reduceAdd, Nat.reduceEqDiff, if_true, if_false, ite_true, ite_false, reduceIte, Bool.not_true, Bool.not_false, Bool.false_eq_true, Bool.true_and, Bool.false_and, Bool.and_true, Bool.and_false, len_tup, len_lst, ne_int, eq_int, setAll, Mn.wipe, Tg.go, Tg.goes, Option.bind_some, isTup, isIntT, isBlT, isStrT, isLstT, known, List.isEmpty_nil, ownOf, ap_LcF, ap_turn, FM_map, FM_ret, FM_if, FM_opt, FM_nil, oCons_some, oCons_none, noX_ret, ap_Lc2F, ap_turn2, FL_map, FL_ret, FL_nil, ap_go, ap_Wipe, numbered0, paired_map, fAll_map, fAny_map, List.length_map, cutL_from, cutL_upto, mapV_nil, mapV_cons, Int.cast_ofNat_Int, BEq.rfl, Int.reduceLT, Int.reduceLE, Int.reduceBEq, Int.zero_le_ofNat, decide_true, decide_false, ap_For, v_calls_of h, cx1, fMin_map (fun c : Cl => c.2) v.1 v.2]; rfl
theorem v_far_of {v : Vl} (h : v.2.length ≤ 1000) : m_far_of [eV v] = .ret (.int (far v)) := by
  simp only [m_far_of, b_far_of, c1_far_of, e1_far_of, ap_V, ap_O, ap_own, getV_val, getO_val, getO_own, getO_ownd, getL_own, ap_C, ap_1, ap_2, ap_And, ap_Or, ap_Not, ap_If, ap_aNil, ap_aCons, ap_aStar, ap_Tup, ap_Lst, ap_TupS, ap_LstS, ap_Call, ap_Chain, ap_Cut, ap_oNone, ap_oSome, ap_bV, ap_bAnd, ap_bOr, ap_bNot, ap_bYes, ap_wS, ap_Rng1, ap_Rng2, ap_TupRg1, ap_TupRg2, ap_LstRg1, ap_LstRg2, ap_Enum, ap_Enum2, ap_Zip, ap_mNil, ap_mVal, ap_mOwn, ap_sNx, ap_Seq, seqK_nx, seqK_rt, ap_Asg, ap_Set, ap_Own, ownK_lst, ownK_dct, ap_Ret, ap_sIf, ap_Stk, ap_Drop, ap_App, ap_Ext, ap_PutL, ap_Par, ap_Frz, frzS_own, frzS_val, ap_fn, fnK_rt, fnK_nx, ite_bind, gIx_tup, gIx_lst, itemI0, itemI1, itemI2, itemI3, gCut_tup, gCut_lst, asB_bl, asI_int, asS_tup, asS_lst, asL_lst, gAdd_int, gAdd_tup, gAdd_lst, gSub_int, gMulA_int, gLt_int, gLe_int, gGt_int, gGe_int, fTuple_lst, fTuple_tup, fList_tup, fList_lst, fInt_int, fInt_bl, gIsi_int, gIsi_bl, gIsi_tup, gIsi_lst, gIsi_str, gIsi_non, gIsB_bl, gIsNotB_bl, M.ret_bind, M.stk_bind, M.draw_bind, M.bind_ret, ofO_some, ofO_none, List.getD_cons_zero, List.getD_cons_succ, List.set_cons_zero, List.set_cons_succ, List.length_cons, List.length_nil, List.cons_append, List.nil_append, List.append_nil, List.replicate, Nat.reduceSub, Nat.reduceAdd, Nat.reduceEqDiff, if_true, if_false, ite_true, ite_false, reduceIte, Bool.not_true, Bool.not_false, Bool.false_eq_true, Bool.true_and, Bool.false_and, Bool.and_true, Bool.and_false, len_tup, len_lst, ne_int, eq_int, setAll, Mn.wipe, Tg.go, Tg.goes, Option.bind_some, isTup, isIntT, isBlT, isStrT, isLstT, known, List.isEmpty_nil, ownOf, ap_LcF, ap_turn, FM_map, FM_ret, FM_if, FM_opt, FM_nil, oCons_some, oCons_none, noX_ret, ap_Lc2F, ap_turn2, FL_map, FL_ret, FL_nil, ap_go, ap_Wipe, numbered0, paired_map, fAll_map, fAny_map, List.length_map, cutL_from, cutL_upto, mapV_nil, mapV_cons, Int.cast_ofNat_Int, BEq.rfl, Int.reduceLT, Int.reduceLE, Int.reduceBEq, Int.zero_le_ofNat, decide_true, decide_false, ap_For, v_calls_of h, cx0, fMax_map (fun c : Cl => c.1) v.1 v.2]; rfl
def eZ (v : Vl) : D := .tup [.int (near v), .int (far v)]
theorem v__law_calls (v : Vl) (h : v.2.length ≤ 1000) : m__law_calls [eV v] = .ret (.lst ((v.1 :: v.2).map eC)) := by
  have h1 : 1 + v.2.length ≤ line := by unfold line; omega
  simp [m__law_calls, b__law_calls, eV, ap_V, ap_O, ap_own, getV_val, getO_val, getO_own, getO_ownd, getL_own, ap_C, ap_1, ap_2, ap_And, ap_Or, ap_Not, ap_If, ap_aNil, ap_aCons, ap_aStar, ap_Tup, ap_Lst, ap_TupS, ap_LstS, ap_Call, ap_Chain, ap_Cut, ap_oNone, ap_oSome, ap_bV, ap_bAnd, ap_bOr, ap_bNot, ap_bYes, ap_wS, ap_Rng1, ap_Rng2, ap_TupRg1, ap_TupRg2, ap_LstRg1, ap_LstRg2, ap_Enum, ap_Enum2, ap_Zip, ap_mNil, ap_mVal, ap_mOwn, ap_sNx, ap_Seq, seqK_nx, seqK_rt, ap_Asg, ap_Set, ap_Own, ownK_lst, ownK_dct, ap_Ret, ap_sIf, ap_Stk, ap_Drop, ap_App, ap_Ext, ap_PutL, ap_Par, ap_Frz, frzS_own, frzS_val, ap_fn, fnK_rt, fnK_nx, ite_bind, gIx_tup, gIx_lst, itemI0, itemI1, itemI2, itemI3, gCut_tup, gCut_lst, asB_bl, asI_int, asS_tup, asS_lst, asL_lst, gAdd_int, gAdd_tup, gAdd_lst, gSub_int, gMulA_int, gLt_int, gLe_int, gGt_int, gGe_int, fTuple_lst, fTuple_tup, fList_tup, fList_lst, fInt_int, fInt_bl, gIsi_int, gIsi_bl, gIsi_tup, gIsi_lst, gIsi_str, gIsi_non, gIsB_bl, gIsNotB_bl, M.ret_bind, M.stk_bind, M.draw_bind, M.bind_ret, ofO_some, ofO_none, List.getD_cons_zero, List.getD_cons_succ, List.set_cons_zero, List.set_cons_succ, List.length_cons, List.length_nil, List.map_cons, List.map_nil, List.cons_append, List.nil_append, List.append_nil, List.replicate, Nat.reduceSub, Nat.reduceAdd, Nat.reduceEqDiff, if_true, if_false, ite_true, ite_false, reduceIte, Bool.not_true, Bool.not_false, Bool.false_eq_true, Bool.true_and, Bool.false_and, Bool.and_true, Bool.and_false, len_tup, len_lst, ne_int, eq_int, setAll, Mn.wipe, Tg.go, Tg.goes, Option.bind_some, isTup, isIntT, isBlT, isStrT, isLstT, known, List.isEmpty_nil, ownOf, h1]
theorem v__law_zone {v : Vl} (h : v.2.length ≤ 1000) : m__law_zone [eV v] = .ret (eZ v) := by
  have hL : ∀ c : Cl, eC c = .tup [.int c.1, .int c.2] := fun _ => rfl
  simp only [m__law_zone, b__law_zone, c1__law_zone, c2__law_zone, e1__law_zone, e2__law_zone, ap_V, ap_O, ap_own, getV_val, getO_val, getO_own, getO_ownd, getL_own, ap_C, ap_1, ap_2, ap_And, ap_Or, ap_Not, ap_If, ap_aNil, ap_aCons, ap_aStar, ap_Tup, ap_Lst, ap_TupS, ap_LstS, ap_Call, ap_Chain, ap_Cut, ap_oNone, ap_oSome, ap_bV, ap_bAnd, ap_bOr, ap_bNot, ap_bYes, ap_wS, ap_Rng1, ap_Rng2, ap_TupRg1, ap_TupRg2, ap_LstRg1, ap_LstRg2, ap_Enum, ap_Enum2, ap_Zip, ap_mNil, ap_mVal, ap_mOwn, ap_sNx, ap_Seq, seqK_nx, seqK_rt, ap_Asg, ap_Set, ap_Own, ownK_lst, ownK_dct, ap_Ret, ap_sIf, ap_Stk, ap_Drop, ap_App, ap_Ext, ap_PutL, ap_Par, ap_Frz, frzS_own, frzS_val, ap_fn, fnK_rt, fnK_nx, ite_bind, gIx_tup, gIx_lst, itemI0, itemI1, itemI2, itemI3, gCut_tup, gCut_lst, asB_bl, asI_int, asS_tup, asS_lst, asL_lst, gAdd_int, gAdd_tup, gAdd_lst, gSub_int, gMulA_int, gLt_int, gLe_int, gGt_int, gGe_int, fTuple_lst, fTuple_tup, fList_tup, fList_lst, fInt_int, fInt_bl, gIsi_int, gIsi_bl, gIsi_tup, gIsi_lst, gIsi_str, gIsi_non, gIsB_bl, gIsNotB_bl, M.ret_bind, M.stk_bind, M.draw_bind, M.bind_ret, ofO_some, ofO_none, List.getD_cons_zero, List.getD_cons_succ, List.set_cons_zero, List.set_cons_succ, List.length_cons, List.length_nil, List.cons_append, List.nil_append, List.append_nil, List.replicate, Nat.reduceSub, Nat.reduceAdd, Nat.reduceEqDiff, if_true, if_false, ite_true, ite_false, reduceIte, Bool.not_true, Bool.not_false, Bool.false_eq_true, Bool.true_and, Bool.false_and, Bool.and_true, Bool.and_false, len_tup, len_lst, ne_int, eq_int, setAll, Mn.wipe, Tg.go, Tg.goes, Option.bind_some, isTup, isIntT, isBlT, isStrT, isLstT, known, List.isEmpty_nil, ownOf, ap_LcF, ap_turn, FM_map, FM_ret, FM_if, FM_opt, FM_nil, oCons_some, oCons_none, noX_ret, ap_Lc2F, ap_turn2, FL_map, FL_ret, FL_nil, ap_go, ap_Wipe, numbered0, paired_map, fAll_map, fAny_map, List.length_map, cutL_from, cutL_upto, mapV_nil, mapV_cons, Int.cast_ofNat_Int, BEq.rfl, Int.reduceLT, Int.reduceLE, Int.reduceBEq, Int.zero_le_ofNat, decide_true, decide_false, ap_For, v__law_calls v h]
  simp only [hL, ap_V, ap_O, ap_own, getV_val, getO_val, getO_own, getO_ownd, getL_own, ap_C, ap_1, ap_2, ap_And, ap_Or, ap_Not, ap_If, ap_aNil, ap_aCons, ap_aStar, ap_Tup, ap_Lst, ap_TupS, ap_LstS, ap_Call, ap_Chain, ap_Cut, ap_oNone, ap_oSome, ap_bV, ap_bAnd, ap_bOr, ap_bNot, ap_bYes, ap_wS, ap_Rng1, ap_Rng2, ap_TupRg1, ap_TupRg2, ap_LstRg1, ap_LstRg2, ap_Enum, ap_Enum2, ap_Zip, ap_mNil, ap_mVal, ap_mOwn, ap_sNx, ap_Seq, seqK_nx, seqK_rt, ap_Asg, ap_Set, ap_Own, ownK_lst, ownK_dct, ap_Ret, ap_sIf, ap_Stk, ap_Drop, ap_App, ap_Ext, ap_PutL, ap_Par, ap_Frz, frzS_own, frzS_val, ap_fn, fnK_rt, fnK_nx, ite_bind, gIx_tup, gIx_lst, itemI0, itemI1, itemI2, itemI3, gCut_tup, gCut_lst, asB_bl, asI_int, asS_tup, asS_lst, asL_lst, gAdd_int, gAdd_tup, gAdd_lst, gSub_int, gMulA_int, gLt_int, gLe_int, gGt_int, gGe_int, fTuple_lst, fTuple_tup, fList_tup, fList_lst, fInt_int, fInt_bl, gIsi_int, gIsi_bl, gIsi_tup, gIsi_lst, gIsi_str, gIsi_non, gIsB_bl, gIsNotB_bl, M.ret_bind, M.stk_bind, M.draw_bind, M.bind_ret, ofO_some, ofO_none, List.getD_cons_zero, List.getD_cons_succ, List.set_cons_zero, List.set_cons_succ, List.length_cons, List.length_nil, List.cons_append, List.nil_append, List.append_nil, List.replicate, Nat.reduceSub, Nat.reduceAdd, Nat.reduceEqDiff, if_true, if_false, ite_true, ite_false, reduceIte, Bool.not_true, Bool.not_false, Bool.false_eq_true, Bool.true_and, Bool.false_and, Bool.and_true, Bool.and_false, len_tup, len_lst, ne_int, eq_int, setAll, Mn.wipe, Tg.go, Tg.goes, Option.bind_some, isTup, isIntT, isBlT, isStrT, isLstT, known, List.isEmpty_nil, ownOf, ap_LcF, ap_turn, FM_map, FM_ret, FM_if, FM_opt, FM_nil, oCons_some, oCons_none, noX_ret, ap_Lc2F, ap_turn2, FL_map, FL_ret, FL_nil, ap_go, ap_Wipe, numbered0, paired_map, fAll_map, fAny_map, List.length_map, cutL_from, cutL_upto, mapV_nil, mapV_cons, Int.cast_ofNat_Int, BEq.rfl, Int.reduceLT, Int.reduceLE, Int.reduceBEq, Int.zero_le_ofNat, decide_true, decide_false, ap_For, fMin_map (fun c : Cl => c.2) v.1 v.2, fMax_map (fun c : Cl => c.1) v.1 v.2]; rfl
def frc (a b : Vl) : Bool := decide (near a < far b)
def odd (a b : Vl) : Bool := frc a b && frc b a
theorem small_v {v : Vl} (h : okV v) : v.2.length ≤ 1000 := by have := h.2.1; omega
theorem zx0 (v : Vl) : gIx (eZ v) (.int 0) = .ret (.int (near v)) := by simp [eZ, gIx_tup, itemI0]
theorem zx1 (v : Vl) : gIx (eZ v) (.int 1) = .ret (.int (far v)) := by simp [eZ, gIx_tup, itemI1]
theorem v__law_forced {a b : Vl} (ha : okV a) (hb : okV b) : m__law_forced [eV a, eV b] = .ret (.bl (frc a b)) := by
  simp only [m__law_forced, b__law_forced, ap_V, ap_O, ap_own, getV_val, getO_val, getO_own, getO_ownd, getL_own, ap_C, ap_1, ap_2, ap_And, ap_Or, ap_Not, ap_If, ap_aNil, ap_aCons, ap_aStar, ap_Tup, ap_Lst, ap_TupS, ap_LstS, ap_Call, ap_Chain, ap_Cut, ap_oNone, ap_oSome, ap_bV, ap_bAnd, ap_bOr, ap_bNot, ap_bYes, ap_wS, ap_Rng1, ap_Rng2, ap_TupRg1, ap_TupRg2, ap_LstRg1, ap_LstRg2, ap_Enum, ap_Enum2, ap_Zip, ap_mNil, ap_mVal, ap_mOwn, ap_sNx, ap_Seq, seqK_nx, seqK_rt, ap_Asg, ap_Set, ap_Own, ownK_lst, ownK_dct, ap_Ret, ap_sIf, ap_Stk, ap_Drop, ap_App, ap_Ext, ap_PutL, ap_Par, ap_Frz, frzS_own, frzS_val, ap_fn, fnK_rt, fnK_nx, ite_bind, gIx_tup, gIx_lst, itemI0, itemI1, itemI2, itemI3, gCut_tup, gCut_lst, asB_bl, asI_int, asS_tup, asS_lst, asL_lst, gAdd_int, gAdd_tup, gAdd_lst, gSub_int, gMulA_int, gLt_int, gLe_int, gGt_int, gGe_int, fTuple_lst, fTuple_tup, fList_tup, fList_lst, fInt_int, fInt_bl, gIsi_int, gIsi_bl, gIsi_tup, gIsi_lst, gIsi_str, gIsi_non, gIsB_bl, gIsNotB_bl, M.ret_bind, M.stk_bind, M.draw_bind, M.bind_ret, ofO_some, ofO_none, List.getD_cons_zero, List.getD_cons_succ, List.set_cons_zero, List.set_cons_succ, List.length_cons, List.length_nil, List.cons_append, List.nil_append, List.append_nil, List.replicate, Nat.reduceSub, Nat.reduceAdd, Nat.reduceEqDiff, if_true, if_false, ite_true, ite_false, reduceIte, Bool.not_true, Bool.not_false, Bool.false_eq_true, Bool.true_and, Bool.false_and, Bool.and_true, Bool.and_false, len_tup, len_lst, ne_int, eq_int, setAll, Mn.wipe, Tg.go, Tg.goes, Option.bind_some, isTup, isIntT, isBlT, isStrT, isLstT, known, List.isEmpty_nil, ownOf, ap_LcF, ap_turn, FM_map, FM_ret, FM_if, FM_opt, FM_nil, oCons_some, oCons_none, noX_ret, ap_Lc2F, ap_turn2, FL_map, FL_ret, FL_nil, ap_go, ap_Wipe, numbered0, paired_map, fAll_map, fAny_map, List.length_map, cutL_from, cutL_upto, mapV_nil, mapV_cons, Int.cast_ofNat_Int, BEq.rfl, Int.reduceLT, Int.reduceLE, Int.reduceBEq, Int.zero_le_ofNat, decide_true, decide_false, ap_For, v__law_zone (small_v ha), v__law_zone (small_v hb), zx0, zx1, frc]
theorem v__law_odd {a b : Vl} (ha : okV a) (hb : okV b) : m__law_odd [eV a, eV b] = .ret (.bl (odd a b)) := by
  cases h : frc a b <;> simp only [m__law_odd, b__law_odd, ap_V, ap_O, ap_own, getV_val, getO_val, getO_own, getO_ownd, getL_own, ap_C, ap_1, ap_2, ap_And, ap_Or, ap_Not, ap_If, ap_aNil, ap_aCons, ap_aStar, ap_Tup, ap_Lst, ap_TupS, ap_LstS, ap_Call, ap_Chain, ap_Cut, ap_oNone, ap_oSome, ap_bV, ap_bAnd, ap_bOr, ap_bNot, ap_bYes, ap_wS, ap_Rng1, ap_Rng2, ap_TupRg1, ap_TupRg2, ap_LstRg1, ap_LstRg2, ap_Enum, ap_Enum2, ap_Zip, ap_mNil, ap_mVal, ap_mOwn, ap_sNx, ap_Seq, seqK_nx, seqK_rt, ap_Asg, ap_Set, ap_Own, ownK_lst, ownK_dct, ap_Ret, ap_sIf, ap_Stk, ap_Drop, ap_App, ap_Ext, ap_PutL, ap_Par, ap_Frz, frzS_own, frzS_val, ap_fn, fnK_rt, fnK_nx, ite_bind, gIx_tup, gIx_lst, itemI0, itemI1, itemI2, itemI3, gCut_tup, gCut_lst, asB_bl, asI_int, asS_tup, asS_lst, asL_lst, gAdd_int, gAdd_tup, gAdd_lst, gSub_int, gMulA_int, gLt_int, gLe_int, gGt_int, gGe_int, fTuple_lst, fTuple_tup, fList_tup, fList_lst, fInt_int, fInt_bl, gIsi_int, gIsi_bl, gIsi_tup, gIsi_lst, gIsi_str, gIsi_non, gIsB_bl, gIsNotB_bl, M.ret_bind, M.stk_bind, M.draw_bind, M.bind_ret, ofO_some, ofO_none, List.getD_cons_zero, List.getD_cons_succ, List.set_cons_zero, List.set_cons_succ, List.length_cons, List.length_nil, List.cons_append, List.nil_append, List.append_nil, List.replicate, Nat.reduceSub, Nat.reduceAdd, Nat.reduceEqDiff, if_true, if_false, ite_true, ite_false, reduceIte, Bool.not_true, Bool.not_false, Bool.false_eq_true, Bool.true_and, Bool.false_and, Bool.and_true, Bool.and_false, len_tup, len_lst, ne_int, eq_int, setAll, Mn.wipe, Tg.go, Tg.goes, Option.bind_some, isTup, isIntT, isBlT, isStrT, isLstT, known, List.isEmpty_nil, ownOf, ap_LcF, ap_turn, FM_map, FM_ret, FM_if, FM_opt, FM_nil, oCons_some, oCons_none, noX_ret, ap_Lc2F, ap_turn2, FL_map, FL_ret, FL_nil, ap_go, ap_Wipe, numbered0, paired_map, fAll_map, fAny_map, List.length_map, cutL_from, cutL_upto, mapV_nil, mapV_cons, Int.cast_ofNat_Int, BEq.rfl, Int.reduceLT, Int.reduceLE, Int.reduceBEq, Int.zero_le_ofNat, decide_true, decide_false, ap_For, v__law_forced ha hb, v__law_forced hb ha, odd, h]
def rv (r : List Vl) (i : Nat) : Vl := r.getD i ((0, 0), [])
theorem rv_eq {r : List Vl} {i : Nat} (h : i < r.length) : rv r i = r[i] := by unfold rv; rw [List.getD_eq_getElem?_getD, List.getElem?_eq_getElem h]; rfl
theorem ixR {r : List Vl} {i : Nat} (h : i < r.length) : gIx (eR r) (.int (i : Int)) = .ret (eV (rv r i)) := by
  have e : eR r = .tup (r.map eV) := rfl
  rw [e, gIx_tup, itemI_nat (by simpa using h), rv_eq h]
  simp
theorem okAt {r : List Vl} (h : okR r) {i : Nat} (hi : i < r.length) : okV (rv r i) := by rw [rv_eq hi]; exact h.2 _ (List.getElem_mem hi)
theorem smAt {r : List Vl} (h : okR r) {i : Nat} (hi : i < r.length) : (rv r i).2.length ≤ 1000 := small_v (okAt h hi)
def frcI (r : List Vl) (i j : Nat) : Bool := !((i : Int) == (j : Int)) && frc (rv r i) (rv r j)
def oddI (r : List Vl) (i j : Nat) : Bool := !((i : Int) == (j : Int)) && odd (rv r i) (rv r j)
theorem v_is_forced_in {r : List Vl} (h : okR r) {i j : Nat} (hi : i < r.length) (hj : j < r.length) : m_is_forced_in [eR r, .int (i : Int), .int (j : Int)] = .ret (.bl (frcI r i j)) := by
  cases hij : ((i : Int) == (j : Int)) <;> simp only [m_is_forced_in, b_is_forced_in, ap_V, ap_O, ap_own, getV_val, getO_val, getO_own, getO_ownd, getL_own, ap_C, ap_1, ap_2, ap_And, ap_Or, ap_Not, ap_If, ap_aNil, ap_aCons, ap_aStar, ap_Tup, ap_Lst, ap_TupS, ap_LstS, ap_Call, ap_Chain, ap_Cut, ap_oNone, ap_oSome, ap_bV, ap_bAnd, ap_bOr, ap_bNot, ap_bYes, ap_wS, ap_Rng1, ap_Rng2, ap_TupRg1, ap_TupRg2, ap_LstRg1, ap_LstRg2, ap_Enum, ap_Enum2, ap_Zip, ap_mNil, ap_mVal, ap_mOwn, ap_sNx, ap_Seq, seqK_nx, seqK_rt, ap_Asg, ap_Set, ap_Own, ownK_lst, ownK_dct, ap_Ret, ap_sIf, ap_Stk, ap_Drop, ap_App, ap_Ext, ap_PutL, ap_Par, ap_Frz, frzS_own, frzS_val, ap_fn, fnK_rt, fnK_nx, ite_bind, gIx_tup, gIx_lst, itemI0, itemI1, itemI2, itemI3, gCut_tup, gCut_lst, asB_bl, asI_int, asS_tup, asS_lst, asL_lst, gAdd_int, gAdd_tup, gAdd_lst, gSub_int, gMulA_int, gLt_int, gLe_int, gGt_int, gGe_int, fTuple_lst, fTuple_tup, fList_tup, fList_lst, fInt_int, fInt_bl, gIsi_int, gIsi_bl, gIsi_tup, gIsi_lst, gIsi_str, gIsi_non, gIsB_bl, gIsNotB_bl, M.ret_bind, M.stk_bind, M.draw_bind, M.bind_ret, ofO_some, ofO_none, List.getD_cons_zero, List.getD_cons_succ, List.set_cons_zero, List.set_cons_succ, List.length_cons, List.length_nil, List.cons_append, List.nil_append, List.append_nil, List.replicate, Nat.reduceSub, Nat.reduceAdd, Nat.reduceEqDiff, if_true, if_false, ite_true, ite_false, reduceIte, Bool.not_true, Bool.not_false, Bool.false_eq_true, Bool.true_and, Bool.false_and, Bool.and_true, Bool.and_false, len_tup, len_lst, ne_int, eq_int, setAll, Mn.wipe, Tg.go, Tg.goes, Option.bind_some, isTup, isIntT, isBlT, isStrT, isLstT, known, List.isEmpty_nil, ownOf, ap_LcF, ap_turn, FM_map, FM_ret, FM_if, FM_opt, FM_nil, oCons_some, oCons_none, noX_ret, ap_Lc2F, ap_turn2, FL_map, FL_ret, FL_nil, ap_go, ap_Wipe, numbered0, paired_map, fAll_map, fAny_map, List.length_map, cutL_from, cutL_upto, mapV_nil, mapV_cons, Int.cast_ofNat_Int, BEq.rfl, Int.reduceLT, Int.reduceLE, Int.reduceBEq, Int.zero_le_ofNat, decide_true, decide_false, ap_For, ixR hi, ixR hj, v_near_of (smAt h hi), v_far_of (smAt h hj), hij, frcI, frc]
theorem v_are_odd_in {r : List Vl} (h : okR r) {i j : Nat} (hi : i < r.length) (hj : j < r.length) : m_are_odd_in [eR r, .int (i : Int), .int (j : Int)] = .ret (.bl (oddI r i j)) := by
  have e : ((j : Int) == (i : Int)) = ((i : Int) == (j : Int)) := by rw [Bool.eq_iff_iff, beq_iff_eq, beq_iff_eq]; omega
  have e2 : oddI r i j = (frcI r i j && frcI r j i) := by
    unfold oddI frcI odd
    rw [e]
    cases ((i : Int) == (j : Int)) <;> simp
  rw [e2]
  cases hf : frcI r i j <;> simp only [m_are_odd_in, b_are_odd_in, ap_V, ap_O, ap_own, getV_val, getO_val, getO_own, getO_ownd, getL_own, ap_C, ap_1, ap_2, ap_And, ap_Or, ap_Not, ap_If, ap_aNil, ap_aCons, ap_aStar, ap_Tup, ap_Lst, ap_TupS, ap_LstS, ap_Call, ap_Chain, ap_Cut, ap_oNone, ap_oSome, ap_bV, ap_bAnd, ap_bOr, ap_bNot, ap_bYes, ap_wS, ap_Rng1, ap_Rng2, ap_TupRg1, ap_TupRg2, ap_LstRg1, ap_LstRg2, ap_Enum, ap_Enum2, ap_Zip, ap_mNil, ap_mVal, ap_mOwn, ap_sNx, ap_Seq, seqK_nx, seqK_rt, ap_Asg, ap_Set, ap_Own, ownK_lst, ownK_dct, ap_Ret, ap_sIf, ap_Stk, ap_Drop, ap_App, ap_Ext, ap_PutL, ap_Par, ap_Frz, frzS_own, frzS_val, ap_fn, fnK_rt, fnK_nx, ite_bind, gIx_tup, gIx_lst, itemI0, itemI1, itemI2, itemI3, gCut_tup, gCut_lst, asB_bl, asI_int, asS_tup, asS_lst, asL_lst, gAdd_int, gAdd_tup, gAdd_lst, gSub_int, gMulA_int, gLt_int, gLe_int, gGt_int, gGe_int, fTuple_lst, fTuple_tup, fList_tup, fList_lst, fInt_int, fInt_bl, gIsi_int, gIsi_bl, gIsi_tup, gIsi_lst, gIsi_str, gIsi_non, gIsB_bl, gIsNotB_bl, M.ret_bind, M.stk_bind, M.draw_bind, M.bind_ret, ofO_some, ofO_none, List.getD_cons_zero, List.getD_cons_succ, List.set_cons_zero, List.set_cons_succ, List.length_cons, List.length_nil, List.cons_append, List.nil_append, List.append_nil, List.replicate, Nat.reduceSub, Nat.reduceAdd, Nat.reduceEqDiff, if_true, if_false, ite_true, ite_false, reduceIte, Bool.not_true, Bool.not_false, Bool.false_eq_true, Bool.true_and, Bool.false_and, Bool.and_true, Bool.and_false, len_tup, len_lst, ne_int, eq_int, setAll, Mn.wipe, Tg.go, Tg.goes, Option.bind_some, isTup, isIntT, isBlT, isStrT, isLstT, known, List.isEmpty_nil, ownOf, ap_LcF, ap_turn, FM_map, FM_ret, FM_if, FM_opt, FM_nil, oCons_some, oCons_none, noX_ret, ap_Lc2F, ap_turn2, FL_map, FL_ret, FL_nil, ap_go, ap_Wipe, numbered0, paired_map, fAll_map, fAny_map, List.length_map, cutL_from, cutL_upto, mapV_nil, mapV_cons, Int.cast_ofNat_Int, BEq.rfl, Int.reduceLT, Int.reduceLE, Int.reduceBEq, Int.zero_le_ofNat, decide_true, decide_false, ap_For, v_is_forced_in h hi hj, v_is_forced_in h hj hi, hf]
theorem lenR (r : List Vl) : fLen [eR r] = .ret (.int r.length) := by simp [eR, len_tup]
theorem dN {i n : Nat} (h : i < n) : decide ((i : Int) ≤ (n : Int) - 1) = true := by simp; omega
theorem d0 (i : Nat) : decide ((0 : Int) ≤ (i : Int)) = true := by simp
theorem v_need_number {r : List Vl} {i : Nat} (hi : i < r.length) : m_need_number [eR r, .int (i : Int)] = .ret .non := by
  simp only [m_need_number, b_need_number, ap_V, ap_O, ap_own, getV_val, getO_val, getO_own, getO_ownd, getL_own, ap_C, ap_1, ap_2, ap_And, ap_Or, ap_Not, ap_If, ap_aNil, ap_aCons, ap_aStar, ap_Tup, ap_Lst, ap_TupS, ap_LstS, ap_Call, ap_Chain, ap_Cut, ap_oNone, ap_oSome, ap_bV, ap_bAnd, ap_bOr, ap_bNot, ap_bYes, ap_wS, ap_Rng1, ap_Rng2, ap_TupRg1, ap_TupRg2, ap_LstRg1, ap_LstRg2, ap_Enum, ap_Enum2, ap_Zip, ap_mNil, ap_mVal, ap_mOwn, ap_sNx, ap_Seq, seqK_nx, seqK_rt, ap_Asg, ap_Set, ap_Own, ownK_lst, ownK_dct, ap_Ret, ap_sIf, ap_Stk, ap_Drop, ap_App, ap_Ext, ap_PutL, ap_Par, ap_Frz, frzS_own, frzS_val, ap_fn, fnK_rt, fnK_nx, ite_bind, gIx_tup, gIx_lst, itemI0, itemI1, itemI2, itemI3, gCut_tup, gCut_lst, asB_bl, asI_int, asS_tup, asS_lst, asL_lst, gAdd_int, gAdd_tup, gAdd_lst, gSub_int, gMulA_int, gLt_int, gLe_int, gGt_int, gGe_int, fTuple_lst, fTuple_tup, fList_tup, fList_lst, fInt_int, fInt_bl, gIsi_int, gIsi_bl, gIsi_tup, gIsi_lst, gIsi_str, gIsi_non, gIsB_bl, gIsNotB_bl, M.ret_bind, M.stk_bind, M.draw_bind, M.bind_ret, ofO_some, ofO_none, List.getD_cons_zero, List.getD_cons_succ, List.set_cons_zero, List.set_cons_succ, List.length_cons, List.length_nil, List.cons_append, List.nil_append, List.append_nil, List.replicate, Nat.reduceSub, Nat.reduceAdd, Nat.reduceEqDiff, if_true, if_false, ite_true, ite_false, reduceIte, Bool.not_true, Bool.not_false, Bool.false_eq_true, Bool.true_and, Bool.false_and, Bool.and_true, Bool.and_false, len_tup, len_lst, ne_int, eq_int, setAll, Mn.wipe, Tg.go, Tg.goes, Option.bind_some, isTup, isIntT, isBlT, isStrT, isLstT, known, List.isEmpty_nil, ownOf, ap_LcF, ap_turn, FM_map, FM_ret, FM_if, FM_opt, FM_nil, oCons_some, oCons_none, noX_ret, ap_Lc2F, ap_turn2, FL_map, FL_ret, FL_nil, ap_go, ap_Wipe, numbered0, paired_map, fAll_map, fAny_map, List.length_map, cutL_from, cutL_upto, mapV_nil, mapV_cons, Int.cast_ofNat_Int, BEq.rfl, Int.reduceLT, Int.reduceLE, Int.reduceBEq, Int.zero_le_ofNat, decide_true, decide_false, ap_For, lenR, v_is_between, d0, dN hi]
theorem v_need_pair {r : List Vl} (h : okR r) {i j : Nat} (hi : i < r.length) (hj : j < r.length) : m_need_pair [eR r, .int (i : Int), .int (j : Int)] = .ret .non := by
  simp only [m_need_pair, b_need_pair, ap_V, ap_O, ap_own, getV_val, getO_val, getO_own, getO_ownd, getL_own, ap_C, ap_1, ap_2, ap_And, ap_Or, ap_Not, ap_If, ap_aNil, ap_aCons, ap_aStar, ap_Tup, ap_Lst, ap_TupS, ap_LstS, ap_Call, ap_Chain, ap_Cut, ap_oNone, ap_oSome, ap_bV, ap_bAnd, ap_bOr, ap_bNot, ap_bYes, ap_wS, ap_Rng1, ap_Rng2, ap_TupRg1, ap_TupRg2, ap_LstRg1, ap_LstRg2, ap_Enum, ap_Enum2, ap_Zip, ap_mNil, ap_mVal, ap_mOwn, ap_sNx, ap_Seq, seqK_nx, seqK_rt, ap_Asg, ap_Set, ap_Own, ownK_lst, ownK_dct, ap_Ret, ap_sIf, ap_Stk, ap_Drop, ap_App, ap_Ext, ap_PutL, ap_Par, ap_Frz, frzS_own, frzS_val, ap_fn, fnK_rt, fnK_nx, ite_bind, gIx_tup, gIx_lst, itemI0, itemI1, itemI2, itemI3, gCut_tup, gCut_lst, asB_bl, asI_int, asS_tup, asS_lst, asL_lst, gAdd_int, gAdd_tup, gAdd_lst, gSub_int, gMulA_int, gLt_int, gLe_int, gGt_int, gGe_int, fTuple_lst, fTuple_tup, fList_tup, fList_lst, fInt_int, fInt_bl, gIsi_int, gIsi_bl, gIsi_tup, gIsi_lst, gIsi_str, gIsi_non, gIsB_bl, gIsNotB_bl, M.ret_bind, M.stk_bind, M.draw_bind, M.bind_ret, ofO_some, ofO_none, List.getD_cons_zero, List.getD_cons_succ, List.set_cons_zero, List.set_cons_succ, List.length_cons, List.length_nil, List.cons_append, List.nil_append, List.append_nil, List.replicate, Nat.reduceSub, Nat.reduceAdd, Nat.reduceEqDiff, if_true, if_false, ite_true, ite_false, reduceIte, Bool.not_true, Bool.not_false, Bool.false_eq_true, Bool.true_and, Bool.false_and, Bool.and_true, Bool.and_false, len_tup, len_lst, ne_int, eq_int, setAll, Mn.wipe, Tg.go, Tg.goes, Option.bind_some, isTup, isIntT, isBlT, isStrT, isLstT, known, List.isEmpty_nil, ownOf, ap_LcF, ap_turn, FM_map, FM_ret, FM_if, FM_opt, FM_nil, oCons_some, oCons_none, noX_ret, ap_Lc2F, ap_turn2, FL_map, FL_ret, FL_nil, ap_go, ap_Wipe, numbered0, paired_map, fAll_map, fAny_map, List.length_map, cutL_from, cutL_upto, mapV_nil, mapV_cons, Int.cast_ofNat_Int, BEq.rfl, Int.reduceLT, Int.reduceLE, Int.reduceBEq, Int.zero_le_ofNat, decide_true, decide_false, ap_For, v_need_record h, v_need_number hi, v_need_number hj]
theorem v_is_forced {r : List Vl} (h : okR r) {i j : Nat} (hi : i < r.length) (hj : j < r.length) : m_is_forced [eR r, .int (i : Int), .int (j : Int)] = .ret (.bl (frcI r i j)) := by
  simp only [m_is_forced, b_is_forced, ap_V, ap_O, ap_own, getV_val, getO_val, getO_own, getO_ownd, getL_own, ap_C, ap_1, ap_2, ap_And, ap_Or, ap_Not, ap_If, ap_aNil, ap_aCons, ap_aStar, ap_Tup, ap_Lst, ap_TupS, ap_LstS, ap_Call, ap_Chain, ap_Cut, ap_oNone, ap_oSome, ap_bV, ap_bAnd, ap_bOr, ap_bNot, ap_bYes, ap_wS, ap_Rng1, ap_Rng2, ap_TupRg1, ap_TupRg2, ap_LstRg1, ap_LstRg2, ap_Enum, ap_Enum2, ap_Zip, ap_mNil, ap_mVal, ap_mOwn, ap_sNx, ap_Seq, seqK_nx, seqK_rt, ap_Asg, ap_Set, ap_Own, ownK_lst, ownK_dct, ap_Ret, ap_sIf, ap_Stk, ap_Drop, ap_App, ap_Ext, ap_PutL, ap_Par, ap_Frz, frzS_own, frzS_val, ap_fn, fnK_rt, fnK_nx, ite_bind, gIx_tup, gIx_lst, itemI0, itemI1, itemI2, itemI3, gCut_tup, gCut_lst, asB_bl, asI_int, asS_tup, asS_lst, asL_lst, gAdd_int, gAdd_tup, gAdd_lst, gSub_int, gMulA_int, gLt_int, gLe_int, gGt_int, gGe_int, fTuple_lst, fTuple_tup, fList_tup, fList_lst, fInt_int, fInt_bl, gIsi_int, gIsi_bl, gIsi_tup, gIsi_lst, gIsi_str, gIsi_non, gIsB_bl, gIsNotB_bl, M.ret_bind, M.stk_bind, M.draw_bind, M.bind_ret, ofO_some, ofO_none, List.getD_cons_zero, List.getD_cons_succ, List.set_cons_zero, List.set_cons_succ, List.length_cons, List.length_nil, List.cons_append, List.nil_append, List.append_nil, List.replicate, Nat.reduceSub, Nat.reduceAdd, Nat.reduceEqDiff, if_true, if_false, ite_true, ite_false, reduceIte, Bool.not_true, Bool.not_false, Bool.false_eq_true, Bool.true_and, Bool.false_and, Bool.and_true, Bool.and_false, len_tup, len_lst, ne_int, eq_int, setAll, Mn.wipe, Tg.go, Tg.goes, Option.bind_some, isTup, isIntT, isBlT, isStrT, isLstT, known, List.isEmpty_nil, ownOf, ap_LcF, ap_turn, FM_map, FM_ret, FM_if, FM_opt, FM_nil, oCons_some, oCons_none, noX_ret, ap_Lc2F, ap_turn2, FL_map, FL_ret, FL_nil, ap_go, ap_Wipe, numbered0, paired_map, fAll_map, fAny_map, List.length_map, cutL_from, cutL_upto, mapV_nil, mapV_cons, Int.cast_ofNat_Int, BEq.rfl, Int.reduceLT, Int.reduceLE, Int.reduceBEq, Int.zero_le_ofNat, decide_true, decide_false, ap_For, v_need_pair h hi hj, v_is_forced_in h hi hj]
/-! early reads -/
def ear (v : Vl) : List Int := ((v.2.zipIdx).filter fun p => decide (p.1.2 < v.1.1)).map fun p => (p.2 : Int) + 1
theorem v_early_in (v : Vl) : m_early_in [eV v] = .ret (.lst ((ear v).map D.int)) := by
  simp only [m_early_in, b_early_in, c1_early_in, e1_early_in, t1_early_in, ap_V, ap_O, ap_own, getV_val, getO_val, getO_own, getO_ownd, getL_own, ap_C, ap_1, ap_2, ap_And, ap_Or, ap_Not, ap_If, ap_aNil, ap_aCons, ap_aStar, ap_Tup, ap_Lst, ap_TupS, ap_LstS, ap_Call, ap_Chain, ap_Cut, ap_oNone, ap_oSome, ap_bV, ap_bAnd, ap_bOr, ap_bNot, ap_bYes, ap_wS, ap_Rng1, ap_Rng2, ap_TupRg1, ap_TupRg2, ap_LstRg1, ap_LstRg2, ap_Enum, ap_Enum2, ap_Zip, ap_mNil, ap_mVal, ap_mOwn, ap_sNx, ap_Seq, seqK_nx, seqK_rt, ap_Asg, ap_Set, ap_Own, ownK_lst, ownK_dct, ap_Ret, ap_sIf, ap_Stk, ap_Drop, ap_App, ap_Ext, ap_PutL, ap_Par, ap_Frz, frzS_own, frzS_val, ap_fn, fnK_rt, fnK_nx, ite_bind, gIx_tup, gIx_lst, itemI0, itemI1, itemI2, itemI3, gCut_tup, gCut_lst, asB_bl, asI_int, asS_tup, asS_lst, asL_lst, gAdd_int, gAdd_tup, gAdd_lst, gSub_int, gMulA_int, gLt_int, gLe_int, gGt_int, gGe_int, fTuple_lst, fTuple_tup, fList_tup, fList_lst, fInt_int, fInt_bl, gIsi_int, gIsi_bl, gIsi_tup, gIsi_lst, gIsi_str, gIsi_non, gIsB_bl, gIsNotB_bl, M.ret_bind, M.stk_bind, M.draw_bind, M.bind_ret, ofO_some, ofO_none, List.getD_cons_zero, List.getD_cons_succ, List.set_cons_zero, List.set_cons_succ, List.length_cons, List.length_nil, List.cons_append, List.nil_append, List.append_nil, List.replicate, Nat.reduceSub, Nat.reduceAdd, Nat.reduceEqDiff, if_true, if_false, ite_true, ite_false, reduceIte, Bool.not_true, Bool.not_false, Bool.false_eq_true, Bool.true_and, Bool.false_and, Bool.and_true, Bool.and_false, len_tup, len_lst, ne_int, eq_int, setAll, Mn.wipe, Tg.go, Tg.goes, Option.bind_some, isTup, isIntT, isBlT, isStrT, isLstT, known, List.isEmpty_nil, ownOf, ap_LcF, ap_turn, FM_map, FM_ret, FM_if, FM_opt, FM_nil, oCons_some, oCons_none, noX_ret, ap_Lc2F, ap_turn2, FL_map, FL_ret, FL_nil, ap_go, ap_Wipe, numbered0, paired_map, fAll_map, fAny_map, List.length_map, cutL_from, cutL_upto, mapV_nil, mapV_cons, Int.cast_ofNat_Int, BEq.rfl, Int.reduceLT, Int.reduceLE, Int.reduceBEq, Int.zero_le_ofNat, decide_true, decide_false, ap_For, ix1, ix0, cx1, cx0, ear, List.map_map]; rfl
theorem v__law_early (v : Vl) : m__law_early [eV v] = .ret (.lst ((ear v).map D.int)) := by
  simp only [m__law_early, b__law_early, c1__law_early, e1__law_early, t1__law_early, ap_V, ap_O, ap_own, getV_val, getO_val, getO_own, getO_ownd, getL_own, ap_C, ap_1, ap_2, ap_And, ap_Or, ap_Not, ap_If, ap_aNil, ap_aCons, ap_aStar, ap_Tup, ap_Lst, ap_TupS, ap_LstS, ap_Call, ap_Chain, ap_Cut, ap_oNone, ap_oSome, ap_bV, ap_bAnd, ap_bOr, ap_bNot, ap_bYes, ap_wS, ap_Rng1, ap_Rng2, ap_TupRg1, ap_TupRg2, ap_LstRg1, ap_LstRg2, ap_Enum, ap_Enum2, ap_Zip, ap_mNil, ap_mVal, ap_mOwn, ap_sNx, ap_Seq, seqK_nx, seqK_rt, ap_Asg, ap_Set, ap_Own, ownK_lst, ownK_dct, ap_Ret, ap_sIf, ap_Stk, ap_Drop, ap_App, ap_Ext, ap_PutL, ap_Par, ap_Frz, frzS_own, frzS_val, ap_fn, fnK_rt, fnK_nx, ite_bind, gIx_tup, gIx_lst, itemI0, itemI1, itemI2, itemI3, gCut_tup, gCut_lst, asB_bl, asI_int, asS_tup, asS_lst, asL_lst, gAdd_int, gAdd_tup, gAdd_lst, gSub_int, gMulA_int, gLt_int, gLe_int, gGt_int, gGe_int, fTuple_lst, fTuple_tup, fList_tup, fList_lst, fInt_int, fInt_bl, gIsi_int, gIsi_bl, gIsi_tup, gIsi_lst, gIsi_str, gIsi_non, gIsB_bl, gIsNotB_bl, M.ret_bind, M.stk_bind, M.draw_bind, M.bind_ret, ofO_some, ofO_none, List.getD_cons_zero, List.getD_cons_succ, List.set_cons_zero, List.set_cons_succ, List.length_cons, List.length_nil, List.cons_append, List.nil_append, List.append_nil, List.replicate, Nat.reduceSub, Nat.reduceAdd, Nat.reduceEqDiff, if_true, if_false, ite_true, ite_false, reduceIte, Bool.not_true, Bool.not_false, Bool.false_eq_true, Bool.true_and, Bool.false_and, Bool.and_true, Bool.and_false, len_tup, len_lst, ne_int, eq_int, setAll, Mn.wipe, Tg.go, Tg.goes, Option.bind_some, isTup, isIntT, isBlT, isStrT, isLstT, known, List.isEmpty_nil, ownOf, ap_LcF, ap_turn, FM_map, FM_ret, FM_if, FM_opt, FM_nil, oCons_some, oCons_none, noX_ret, ap_Lc2F, ap_turn2, FL_map, FL_ret, FL_nil, ap_go, ap_Wipe, numbered0, paired_map, fAll_map, fAny_map, List.length_map, cutL_from, cutL_upto, mapV_nil, mapV_cons, Int.cast_ofNat_Int, BEq.rfl, Int.reduceLT, Int.reduceLE, Int.reduceBEq, Int.zero_le_ofNat, decide_true, decide_false, ap_For, ix1, ix0, cx1, cx0, ear, List.map_map]; rfl
theorem ear_len (v : Vl) : (ear v).length ≤ v.2.length := by
  unfold ear
  rw [List.length_map]
  exact Nat.le_trans (List.length_filter_le _ _) (by simp)
theorem bound_flat {α β : Type} (f : α → List β) (k : Nat) : ∀ l : List α, (∀ x ∈ l, (f x).length ≤ k) → (l.flatMap f).length ≤ l.length * k
  | [], _ => by simp
  | x :: l, h => by
    have h1 := h x List.mem_cons_self
    have h2 := bound_flat f k l fun y hy => h y (List.mem_cons_of_mem _ hy)
    rw [List.flatMap_cons, List.length_append, List.length_cons, Nat.add_mul]; omega
def bds (r : List Vl) (i : Nat) : List (Int × Int) := (ear (rv r i)).map fun s => ((i : Int), s)
theorem zip_rv (r : List Vl) : r.zipIdx = (List.range r.length).map fun i => (rv r i, i) := by
  refine List.ext_getElem? fun i => ?_
  rw [List.getElem?_zipIdx, List.getElem?_map]
  by_cases h : i < r.length
  · rw [List.getElem?_eq_getElem h, List.getElem?_range h]
    show some (r[i], 0 + i) = some (rv r i, i)
    rw [rv_eq h, Nat.zero_add]
  · rw [List.getElem?_eq_none (by omega), List.getElem?_eq_none (by rw [List.length_range]; omega)]; rfl
theorem bds_len {r : List Vl} (h : okR r) {i : Nat} (hi : i < r.length) : (bds r i).length ≤ 4 := by
  unfold bds
  rw [List.length_map]
  exact Nat.le_trans (ear_len _) (okAt h hi).2.1
/-- an accumulated list: so many items, each brings at most k -/
theorem acc_len {α β : Type} {f : α → List β} {k n : Nat} {l : List α} (h : ∀ x ∈ l, (f x).length ≤ k) (hl : l.length ≤ n) (i : Nat) {x : α} (hx : x ∈ l) (hb : n * k + k ≤ 16777216) : ((l.take i).flatMap f).length + (f x).length ≤ 16777216 := by
  have a1 := bound_flat f k (l.take i) fun y hy => h y (List.mem_of_mem_take hy)
  have a2 : (l.take i).length ≤ n := by rw [List.length_take]; omega
  have a3 := Nat.mul_le_mul_right k a2
  have a4 := h x hx
  omega
/-- a loop that puts more behind an own list at each turn -/
theorem for_ext {α β : Type} {enc : α → D} {e2 : β → D} {g : Tg} {b : XS} {st : List D → Sl} (f : α → List β) (k n : Nat) (l : List α) (hk : ∀ x ∈ l, (f x).length ≤ k) (hn : l.length ≤ n) (hb : n * k + k ≤ 16777216)
    (h : ∀ x ∈ l, ∀ xs : List D, xs.length + (f x).length ≤ 16777216 → turn g b (enc x) (st xs) = .ret (.nx, st (xs ++ (f x).map e2))) : forGo g b (l.map enc) (st []) = .ret (.nx, st ((l.flatMap f).map e2)) := by
  have := for_at (g := g) (b := b) (enc := enc) (st := st) (s := fun i => ((l.take i).flatMap f).map e2) l fun i x hx => by
    rw [h x (List.mem_of_getElem? hx) _ (by rw [List.length_map]; exact acc_len hk hn i (List.mem_of_getElem? hx) hb), flatMap_take f l i x hx, List.map_append]
  simpa using this
theorem v_early_reads {r : List Vl} (h : okR r) : m_early_reads [eR r] = .ret (.tup (((List.range r.length).flatMap (bds r)).map eP)) := by
  simp only [m_early_reads, b_early_reads, l1_early_reads, ap_V, ap_O, ap_own, getV_val, getO_val, getO_own, getO_ownd, getL_own, ap_C, ap_1, ap_2, ap_And, ap_Or, ap_Not, ap_If, ap_aNil, ap_aCons, ap_aStar, ap_Tup, ap_Lst, ap_TupS, ap_LstS, ap_Call, ap_Chain, ap_Cut, ap_oNone, ap_oSome, ap_bV, ap_bAnd, ap_bOr, ap_bNot, ap_bYes, ap_wS, ap_Rng1, ap_Rng2, ap_TupRg1, ap_TupRg2, ap_LstRg1, ap_LstRg2, ap_Enum, ap_Enum2, ap_Zip, ap_mNil, ap_mVal, ap_mOwn, ap_sNx, ap_Seq, seqK_nx, seqK_rt, ap_Asg, ap_Set, ap_Own, ownK_lst, ownK_dct, ap_Ret, ap_sIf, ap_Stk, ap_Drop, ap_App, ap_Ext, ap_PutL, ap_Par, ap_Frz, frzS_own, frzS_val, ap_fn, fnK_rt, fnK_nx, ite_bind, gIx_tup, gIx_lst, itemI0, itemI1, itemI2, itemI3, gCut_tup, gCut_lst, asB_bl, asI_int, asS_tup, asS_lst, asL_lst, gAdd_int, gAdd_tup, gAdd_lst, gSub_int, gMulA_int, gLt_int, gLe_int, gGt_int, gGe_int, fTuple_lst, fTuple_tup, fList_tup, fList_lst, fInt_int, fInt_bl, gIsi_int, gIsi_bl, gIsi_tup, gIsi_lst, gIsi_str, gIsi_non, gIsB_bl, gIsNotB_bl, M.ret_bind, M.stk_bind, M.draw_bind, M.bind_ret, ofO_some, ofO_none, List.getD_cons_zero, List.getD_cons_succ, List.set_cons_zero, List.set_cons_succ, List.length_cons, List.length_nil, List.cons_append, List.nil_append, List.append_nil, List.replicate, Nat.reduceSub, Nat.reduceAdd, Nat.reduceEqDiff, if_true, if_false, ite_true, ite_false, reduceIte, Bool.not_true, Bool.not_false, Bool.false_eq_true, Bool.true_and, Bool.false_and, Bool.and_true, Bool.and_false, len_tup, len_lst, ne_int, eq_int, setAll, Mn.wipe, Tg.go, Tg.goes, Option.bind_some, isTup, isIntT, isBlT, isStrT, isLstT, known, List.isEmpty_nil, ownOf, ap_LcF, ap_turn, FM_map, FM_ret, FM_if, FM_opt, FM_nil, oCons_some, oCons_none, noX_ret, ap_Lc2F, ap_turn2, FL_map, FL_ret, FL_nil, ap_go, ap_Wipe, numbered0, paired_map, fAll_map, fAny_map, List.length_map, cutL_from, cutL_upto, mapV_nil, mapV_cons, Int.cast_ofNat_Int, BEq.rfl, Int.reduceLT, Int.reduceLE, Int.reduceBEq, Int.zero_le_ofNat, decide_true, decide_false, ap_For, v_need_record h]
  have e : numbered 0 (r.map eV) = (List.range r.length).map fun i : Nat => D.tup [.int (i : Int), eV (rv r i)] := by rw [numbered0, zip_rv, List.map_map]; rfl
  simp only [eR, ap_V, ap_O, ap_own, getV_val, getO_val, getO_own, getO_ownd, getL_own, ap_C, ap_1, ap_2, ap_And, ap_Or, ap_Not, ap_If, ap_aNil, ap_aCons, ap_aStar, ap_Tup, ap_Lst, ap_TupS, ap_LstS, ap_Call, ap_Chain, ap_Cut, ap_oNone, ap_oSome, ap_bV, ap_bAnd, ap_bOr, ap_bNot, ap_bYes, ap_wS, ap_Rng1, ap_Rng2, ap_TupRg1, ap_TupRg2, ap_LstRg1, ap_LstRg2, ap_Enum, ap_Enum2, ap_Zip, ap_mNil, ap_mVal, ap_mOwn, ap_sNx, ap_Seq, seqK_nx, seqK_rt, ap_Asg, ap_Set, ap_Own, ownK_lst, ownK_dct, ap_Ret, ap_sIf, ap_Stk, ap_Drop, ap_App, ap_Ext, ap_PutL, ap_Par, ap_Frz, frzS_own, frzS_val, ap_fn, fnK_rt, fnK_nx, ite_bind, gIx_tup, gIx_lst, itemI0, itemI1, itemI2, itemI3, gCut_tup, gCut_lst, asB_bl, asI_int, asS_tup, asS_lst, asL_lst, gAdd_int, gAdd_tup, gAdd_lst, gSub_int, gMulA_int, gLt_int, gLe_int, gGt_int, gGe_int, fTuple_lst, fTuple_tup, fList_tup, fList_lst, fInt_int, fInt_bl, gIsi_int, gIsi_bl, gIsi_tup, gIsi_lst, gIsi_str, gIsi_non, gIsB_bl, gIsNotB_bl, M.ret_bind, M.stk_bind, M.draw_bind, M.bind_ret, ofO_some, ofO_none, List.getD_cons_zero, List.getD_cons_succ, List.set_cons_zero, List.set_cons_succ, List.length_cons, List.length_nil, List.cons_append, List.nil_append, List.append_nil, List.replicate, Nat.reduceSub, Nat.reduceAdd, Nat.reduceEqDiff, if_true, if_false, ite_true, ite_false, reduceIte, Bool.not_true, Bool.not_false, Bool.false_eq_true, Bool.true_and, Bool.false_and, Bool.and_true, Bool.and_false, len_tup, len_lst, ne_int, eq_int, setAll, Mn.wipe, Tg.go, Tg.goes, Option.bind_some, isTup, isIntT, isBlT, isStrT, isLstT, known, List.isEmpty_nil, ownOf, ap_LcF, ap_turn, FM_map, FM_ret, FM_if, FM_opt, FM_nil, oCons_some, oCons_none, noX_ret, ap_Lc2F, ap_turn2, FL_map, FL_ret, FL_nil, ap_go, ap_Wipe, numbered0, paired_map, fAll_map, fAny_map, List.length_map, cutL_from, cutL_upto, mapV_nil, mapV_cons, Int.cast_ofNat_Int, BEq.rfl, Int.reduceLT, Int.reduceLE, Int.reduceBEq, Int.zero_le_ofNat, decide_true, decide_false, ap_For, -numbered0, e]
  rw [for_ext (g := .t [.n 2, .n 3]) (b := lb1_early_reads) (st := fun xs => [.val (.tup (r.map eV)), .own xs, .un, .un, .un]) (e2 := eP) (bds r) 4 12 (List.range r.length) (enc := fun i : Nat => D.tup [.int (i : Int), eV (rv r i)]) (fun i hi => bds_len h (List.mem_range.mp hi)) (by rw [List.length_range]; exact h.1) (by decide) fun (i : Nat) hi xs hx => by
    have hx' : xs.length + (ear (rv r i)).length ≤ 16777216 := by simpa [bds] using hx
    simp only [lb1_early_reads, c1_early_reads, e1_early_reads, ap_V, ap_O, ap_own, getV_val, getO_val, getO_own, getO_ownd, getL_own, ap_C, ap_1, ap_2, ap_And, ap_Or, ap_Not, ap_If, ap_aNil, ap_aCons, ap_aStar, ap_Tup, ap_Lst, ap_TupS, ap_LstS, ap_Call, ap_Chain, ap_Cut, ap_oNone, ap_oSome, ap_bV, ap_bAnd, ap_bOr, ap_bNot, ap_bYes, ap_wS, ap_Rng1, ap_Rng2, ap_TupRg1, ap_TupRg2, ap_LstRg1, ap_LstRg2, ap_Enum, ap_Enum2, ap_Zip, ap_mNil, ap_mVal, ap_mOwn, ap_sNx, ap_Seq, seqK_nx, seqK_rt, ap_Asg, ap_Set, ap_Own, ownK_lst, ownK_dct, ap_Ret, ap_sIf, ap_Stk, ap_Drop, ap_App, ap_Ext, ap_PutL, ap_Par, ap_Frz, frzS_own, frzS_val, ap_fn, fnK_rt, fnK_nx, ite_bind, gIx_tup, gIx_lst, itemI0, itemI1, itemI2, itemI3, gCut_tup, gCut_lst, asB_bl, asI_int, asS_tup, asS_lst, asL_lst, gAdd_int, gAdd_tup, gAdd_lst, gSub_int, gMulA_int, gLt_int, gLe_int, gGt_int, gGe_int, fTuple_lst, fTuple_tup, fList_tup, fList_lst, fInt_int, fInt_bl, gIsi_int, gIsi_bl, gIsi_tup, gIsi_lst, gIsi_str, gIsi_non, gIsB_bl, gIsNotB_bl, M.ret_bind, M.stk_bind, M.draw_bind, M.bind_ret, ofO_some, ofO_none, List.getD_cons_zero, List.getD_cons_succ, List.set_cons_zero, List.set_cons_succ, List.length_cons, List.length_nil, List.cons_append, List.nil_append, List.append_nil, List.replicate, Nat.reduceSub, Nat.reduceAdd, Nat.reduceEqDiff, if_true, if_false, ite_true, ite_false, reduceIte, Bool.not_true, Bool.not_false, Bool.false_eq_true, Bool.true_and, Bool.false_and, Bool.and_true, Bool.and_false, len_tup, len_lst, ne_int, eq_int, setAll, Mn.wipe, Tg.go, Tg.goes, Option.bind_some, isTup, isIntT, isBlT, isStrT, isLstT, known, List.isEmpty_nil, ownOf, ap_LcF, ap_turn, FM_map, FM_ret, FM_if, FM_opt, FM_nil, oCons_some, oCons_none, noX_ret, ap_Lc2F, ap_turn2, FL_map, FL_ret, FL_nil, ap_go, ap_Wipe, numbered0, paired_map, fAll_map, fAny_map, List.length_map, cutL_from, cutL_upto, mapV_nil, mapV_cons, Int.cast_ofNat_Int, BEq.rfl, Int.reduceLT, Int.reduceLE, Int.reduceBEq, Int.zero_le_ofNat, decide_true, decide_false, ap_For, v_early_in, hx', bds, List.map_map]; rfl]
  simp only [ap_V, ap_O, ap_own, getV_val, getO_val, getO_own, getO_ownd, getL_own, ap_C, ap_1, ap_2, ap_And, ap_Or, ap_Not, ap_If, ap_aNil, ap_aCons, ap_aStar, ap_Tup, ap_Lst, ap_TupS, ap_LstS, ap_Call, ap_Chain, ap_Cut, ap_oNone, ap_oSome, ap_bV, ap_bAnd, ap_bOr, ap_bNot, ap_bYes, ap_wS, ap_Rng1, ap_Rng2, ap_TupRg1, ap_TupRg2, ap_LstRg1, ap_LstRg2, ap_Enum, ap_Enum2, ap_Zip, ap_mNil, ap_mVal, ap_mOwn, ap_sNx, ap_Seq, seqK_nx, seqK_rt, ap_Asg, ap_Set, ap_Own, ownK_lst, ownK_dct, ap_Ret, ap_sIf, ap_Stk, ap_Drop, ap_App, ap_Ext, ap_PutL, ap_Par, ap_Frz, frzS_own, frzS_val, ap_fn, fnK_rt, fnK_nx, ite_bind, gIx_tup, gIx_lst, itemI0, itemI1, itemI2, itemI3, gCut_tup, gCut_lst, asB_bl, asI_int, asS_tup, asS_lst, asL_lst, gAdd_int, gAdd_tup, gAdd_lst, gSub_int, gMulA_int, gLt_int, gLe_int, gGt_int, gGe_int, fTuple_lst, fTuple_tup, fList_tup, fList_lst, fInt_int, fInt_bl, gIsi_int, gIsi_bl, gIsi_tup, gIsi_lst, gIsi_str, gIsi_non, gIsB_bl, gIsNotB_bl, M.ret_bind, M.stk_bind, M.draw_bind, M.bind_ret, ofO_some, ofO_none, List.getD_cons_zero, List.getD_cons_succ, List.set_cons_zero, List.set_cons_succ, List.length_cons, List.length_nil, List.cons_append, List.nil_append, List.append_nil, List.replicate, Nat.reduceSub, Nat.reduceAdd, Nat.reduceEqDiff, if_true, if_false, ite_true, ite_false, reduceIte, Bool.not_true, Bool.not_false, Bool.false_eq_true, Bool.true_and, Bool.false_and, Bool.and_true, Bool.and_false, len_tup, len_lst, ne_int, eq_int, setAll, Mn.wipe, Tg.go, Tg.goes, Option.bind_some, isTup, isIntT, isBlT, isStrT, isLstT, known, List.isEmpty_nil, ownOf, ap_LcF, ap_turn, FM_map, FM_ret, FM_if, FM_opt, FM_nil, oCons_some, oCons_none, noX_ret, ap_Lc2F, ap_turn2, FL_map, FL_ret, FL_nil, ap_go, ap_Wipe, numbered0, paired_map, fAll_map, fAny_map, List.length_map, cutL_from, cutL_upto, mapV_nil, mapV_cons, Int.cast_ofNat_Int, BEq.rfl, Int.reduceLT, Int.reduceLE, Int.reduceBEq, Int.zero_le_ofNat, decide_true, decide_false, ap_For]
/-! odds of a lot -/
def opL (r : List Vl) : List Nat → List (Nat × Nat)
  | [] => []
  | i :: l => (l.filter (oddI r i)).map (fun j => (i, j)) ++ opL r l
def eQ (p : Nat × Nat) : D := .tup [eI p.1, eI p.2]
theorem opL_zip (r : List Vl) : ∀ (l m : List Nat), (l.zipIdx m.length).flatMap (fun p => (((m ++ l).drop (p.2 + 1)).filter (oddI r p.1)).map fun j => (p.1, j)) = opL r l
  | [], _ => rfl
  | i :: l, m => by
    have ih := opL_zip r l (m ++ [i])
    rw [List.length_append, List.length_singleton, List.append_assoc, List.singleton_append] at ih
    rw [List.zipIdx_cons, List.flatMap_cons, ih, opL]
    congr 3
    rw [← List.singleton_append, ← List.append_assoc, List.drop_append_of_le_length (by simp)]
    simp
theorem v_odds_in {r : List Vl} (h : okR r) {l : List Nat} (hl : ∀ i ∈ l, i < r.length) (hn : l.length ≤ 1000) : m_odds_in [eR r, eL l] = .ret (.lst ((opL r l).map eQ)) := by
  have e0 := opL_zip r l []
  rw [List.nil_append, List.length_nil] at e0
  have e1 : ∀ i : Nat, (i : Int) + 1 = ((i + 1 : Nat) : Int) := fun i => by omega
  simp only [m_odds_in, b_odds_in, l1_odds_in, eL, ap_V, ap_O, ap_own, getV_val, getO_val, getO_own, getO_ownd, getL_own, ap_C, ap_1, ap_2, ap_And, ap_Or, ap_Not, ap_If, ap_aNil, ap_aCons, ap_aStar, ap_Tup, ap_Lst, ap_TupS, ap_LstS, ap_Call, ap_Chain, ap_Cut, ap_oNone, ap_oSome, ap_bV, ap_bAnd, ap_bOr, ap_bNot, ap_bYes, ap_wS, ap_Rng1, ap_Rng2, ap_TupRg1, ap_TupRg2, ap_LstRg1, ap_LstRg2, ap_Enum, ap_Enum2, ap_Zip, ap_mNil, ap_mVal, ap_mOwn, ap_sNx, ap_Seq, seqK_nx, seqK_rt, ap_Asg, ap_Set, ap_Own, ownK_lst, ownK_dct, ap_Ret, ap_sIf, ap_Stk, ap_Drop, ap_App, ap_Ext, ap_PutL, ap_Par, ap_Frz, frzS_own, frzS_val, ap_fn, fnK_rt, fnK_nx, ite_bind, gIx_tup, gIx_lst, itemI0, itemI1, itemI2, itemI3, gCut_tup, gCut_lst, asB_bl, asI_int, asS_tup, asS_lst, asL_lst, gAdd_int, gAdd_tup, gAdd_lst, gSub_int, gMulA_int, gLt_int, gLe_int, gGt_int, gGe_int, fTuple_lst, fTuple_tup, fList_tup, fList_lst, fInt_int, fInt_bl, gIsi_int, gIsi_bl, gIsi_tup, gIsi_lst, gIsi_str, gIsi_non, gIsB_bl, gIsNotB_bl, M.ret_bind, M.stk_bind, M.draw_bind, M.bind_ret, ofO_some, ofO_none, List.getD_cons_zero, List.getD_cons_succ, List.set_cons_zero, List.set_cons_succ, List.length_cons, List.length_nil, List.cons_append, List.nil_append, List.append_nil, List.replicate, Nat.reduceSub, Nat.reduceAdd, Nat.reduceEqDiff, if_true, if_false, ite_true, ite_false, reduceIte, Bool.not_true, Bool.not_false, Bool.false_eq_true, Bool.true_and, Bool.false_and, Bool.and_true, Bool.and_false, len_tup, len_lst, ne_int, eq_int, setAll, Mn.wipe, Tg.go, Tg.goes, Option.bind_some, isTup, isIntT, isBlT, isStrT, isLstT, known, List.isEmpty_nil, ownOf, ap_LcF, ap_turn, FM_map, FM_ret, FM_if, FM_opt, FM_nil, oCons_some, oCons_none, noX_ret, ap_Lc2F, ap_turn2, FL_map, FL_ret, FL_nil, ap_go, ap_Wipe, numbered0, paired_map, fAll_map, fAny_map, List.length_map, cutL_from, cutL_upto, mapV_nil, mapV_cons, Int.cast_ofNat_Int, BEq.rfl, Int.reduceLT, Int.reduceLE, Int.reduceBEq, Int.zero_le_ofNat, decide_true, decide_false, ap_For]
  rw [← e0, for_ext (g := .t [.n 3, .n 4]) (b := lb1_odds_in) (st := fun xs => [.val (eR r), .val (.tup (l.map eI)), .own xs, .un, .un, .un]) (e2 := eQ) (fun p : Nat × Nat => ((l.drop (p.2 + 1)).filter (oddI r p.1)).map fun j => (p.1, j)) 1000 1000 l.zipIdx (fun p hp => by rw [List.length_map]; exact Nat.le_trans (List.length_filter_le _ _) (by rw [List.length_drop]; omega)) (by simpa using hn) (by decide) fun p hp xs hx => by
    have hp1 : p.1 < r.length := hl _ (mem_zipIdx0 hp).1
    rw [List.length_map] at hx
    simp only [lb1_odds_in, c1_odds_in, ap_V, ap_O, ap_own, getV_val, getO_val, getO_own, getO_ownd, getL_own, ap_C, ap_1, ap_2, ap_And, ap_Or, ap_Not, ap_If, ap_aNil, ap_aCons, ap_aStar, ap_Tup, ap_Lst, ap_TupS, ap_LstS, ap_Call, ap_Chain, ap_Cut, ap_oNone, ap_oSome, ap_bV, ap_bAnd, ap_bOr, ap_bNot, ap_bYes, ap_wS, ap_Rng1, ap_Rng2, ap_TupRg1, ap_TupRg2, ap_LstRg1, ap_LstRg2, ap_Enum, ap_Enum2, ap_Zip, ap_mNil, ap_mVal, ap_mOwn, ap_sNx, ap_Seq, seqK_nx, seqK_rt, ap_Asg, ap_Set, ap_Own, ownK_lst, ownK_dct, ap_Ret, ap_sIf, ap_Stk, ap_Drop, ap_App, ap_Ext, ap_PutL, ap_Par, ap_Frz, frzS_own, frzS_val, ap_fn, fnK_rt, fnK_nx, ite_bind, gIx_tup, gIx_lst, itemI0, itemI1, itemI2, itemI3, gCut_tup, gCut_lst, asB_bl, asI_int, asS_tup, asS_lst, asL_lst, gAdd_int, gAdd_tup, gAdd_lst, gSub_int, gMulA_int, gLt_int, gLe_int, gGt_int, gGe_int, fTuple_lst, fTuple_tup, fList_tup, fList_lst, fInt_int, fInt_bl, gIsi_int, gIsi_bl, gIsi_tup, gIsi_lst, gIsi_str, gIsi_non, gIsB_bl, gIsNotB_bl, M.ret_bind, M.stk_bind, M.draw_bind, M.bind_ret, ofO_some, ofO_none, List.getD_cons_zero, List.getD_cons_succ, List.set_cons_zero, List.set_cons_succ, List.length_cons, List.length_nil, List.cons_append, List.nil_append, List.append_nil, List.replicate, Nat.reduceSub, Nat.reduceAdd, Nat.reduceEqDiff, if_true, if_false, ite_true, ite_false, reduceIte, Bool.not_true, Bool.not_false, Bool.false_eq_true, Bool.true_and, Bool.false_and, Bool.and_true, Bool.and_false, len_tup, len_lst, ne_int, eq_int, setAll, Mn.wipe, Tg.go, Tg.goes, Option.bind_some, isTup, isIntT, isBlT, isStrT, isLstT, known, List.isEmpty_nil, ownOf, ap_LcF, ap_turn, FM_map, FM_ret, FM_if, FM_opt, FM_nil, oCons_some, oCons_none, noX_ret, ap_Lc2F, ap_turn2, FL_map, FL_ret, FL_nil, ap_go, ap_Wipe, numbered0, paired_map, fAll_map, fAny_map, List.length_map, cutL_from, cutL_upto, mapV_nil, mapV_cons, Int.cast_ofNat_Int, BEq.rfl, Int.reduceLT, Int.reduceLE, Int.reduceBEq, Int.zero_le_ofNat, decide_true, decide_false, ap_For, e1, cutL_from, ← List.map_drop]
    rw [FM_congr (g := fun x => if oddI r p.1 x = true then .ret (some (eQ (p.1, x))) else .ret none) fun j hj => by
      have hj := hl j (List.mem_of_mem_drop hj)
      simp only [t1_odds_in, e1_odds_in, eI, eQ, ap_V, ap_O, ap_own, getV_val, getO_val, getO_own, getO_ownd, getL_own, ap_C, ap_1, ap_2, ap_And, ap_Or, ap_Not, ap_If, ap_aNil, ap_aCons, ap_aStar, ap_Tup, ap_Lst, ap_TupS, ap_LstS, ap_Call, ap_Chain, ap_Cut, ap_oNone, ap_oSome, ap_bV, ap_bAnd, ap_bOr, ap_bNot, ap_bYes, ap_wS, ap_Rng1, ap_Rng2, ap_TupRg1, ap_TupRg2, ap_LstRg1, ap_LstRg2, ap_Enum, ap_Enum2, ap_Zip, ap_mNil, ap_mVal, ap_mOwn, ap_sNx, ap_Seq, seqK_nx, seqK_rt, ap_Asg, ap_Set, ap_Own, ownK_lst, ownK_dct, ap_Ret, ap_sIf, ap_Stk, ap_Drop, ap_App, ap_Ext, ap_PutL, ap_Par, ap_Frz, frzS_own, frzS_val, ap_fn, fnK_rt, fnK_nx, ite_bind, gIx_tup, gIx_lst, itemI0, itemI1, itemI2, itemI3, gCut_tup, gCut_lst, asB_bl, asI_int, asS_tup, asS_lst, asL_lst, gAdd_int, gAdd_tup, gAdd_lst, gSub_int, gMulA_int, gLt_int, gLe_int, gGt_int, gGe_int, fTuple_lst, fTuple_tup, fList_tup, fList_lst, fInt_int, fInt_bl, gIsi_int, gIsi_bl, gIsi_tup, gIsi_lst, gIsi_str, gIsi_non, gIsB_bl, gIsNotB_bl, M.ret_bind, M.stk_bind, M.draw_bind, M.bind_ret, ofO_some, ofO_none, List.getD_cons_zero, List.getD_cons_succ, List.set_cons_zero, List.set_cons_succ, List.length_cons, List.length_nil, List.cons_append, List.nil_append, List.append_nil, List.replicate, Nat.reduceSub, Nat.reduceAdd, Nat.reduceEqDiff, if_true, if_false, ite_true, ite_false, reduceIte, Bool.not_true, Bool.not_false, Bool.false_eq_true, Bool.true_and, Bool.false_and, Bool.and_true, Bool.and_false, len_tup, len_lst, ne_int, eq_int, setAll, Mn.wipe, Tg.go, Tg.goes, Option.bind_some, isTup, isIntT, isBlT, isStrT, isLstT, known, List.isEmpty_nil, ownOf, ap_LcF, ap_turn, FM_map, FM_ret, FM_if, FM_opt, FM_nil, oCons_some, oCons_none, noX_ret, ap_Lc2F, ap_turn2, FL_map, FL_ret, FL_nil, ap_go, ap_Wipe, numbered0, paired_map, fAll_map, fAny_map, List.length_map, cutL_from, cutL_upto, mapV_nil, mapV_cons, Int.cast_ofNat_Int, BEq.rfl, Int.reduceLT, Int.reduceLE, Int.reduceBEq, Int.zero_le_ofNat, decide_true, decide_false, ap_For, v_are_odd_in h hp1 hj]]
    simp only [ap_V, ap_O, ap_own, getV_val, getO_val, getO_own, getO_ownd, getL_own, ap_C, ap_1, ap_2, ap_And, ap_Or, ap_Not, ap_If, ap_aNil, ap_aCons, ap_aStar, ap_Tup, ap_Lst, ap_TupS, ap_LstS, ap_Call, ap_Chain, ap_Cut, ap_oNone, ap_oSome, ap_bV, ap_bAnd, ap_bOr, ap_bNot, ap_bYes, ap_wS, ap_Rng1, ap_Rng2, ap_TupRg1, ap_TupRg2, ap_LstRg1, ap_LstRg2, ap_Enum, ap_Enum2, ap_Zip, ap_mNil, ap_mVal, ap_mOwn, ap_sNx, ap_Seq, seqK_nx, seqK_rt, ap_Asg, ap_Set, ap_Own, ownK_lst, ownK_dct, ap_Ret, ap_sIf, ap_Stk, ap_Drop, ap_App, ap_Ext, ap_PutL, ap_Par, ap_Frz, frzS_own, frzS_val, ap_fn, fnK_rt, fnK_nx, ite_bind, gIx_tup, gIx_lst, itemI0, itemI1, itemI2, itemI3, gCut_tup, gCut_lst, asB_bl, asI_int, asS_tup, asS_lst, asL_lst, gAdd_int, gAdd_tup, gAdd_lst, gSub_int, gMulA_int, gLt_int, gLe_int, gGt_int, gGe_int, fTuple_lst, fTuple_tup, fList_tup, fList_lst, fInt_int, fInt_bl, gIsi_int, gIsi_bl, gIsi_tup, gIsi_lst, gIsi_str, gIsi_non, gIsB_bl, gIsNotB_bl, M.ret_bind, M.stk_bind, M.draw_bind, M.bind_ret, ofO_some, ofO_none, List.getD_cons_zero, List.getD_cons_succ, List.set_cons_zero, List.set_cons_succ, List.length_cons, List.length_nil, List.cons_append, List.nil_append, List.append_nil, List.replicate, Nat.reduceSub, Nat.reduceAdd, Nat.reduceEqDiff, if_true, if_false, ite_true, ite_false, reduceIte, Bool.not_true, Bool.not_false, Bool.false_eq_true, Bool.true_and, Bool.false_and, Bool.and_true, Bool.and_false, len_tup, len_lst, ne_int, eq_int, setAll, Mn.wipe, Tg.go, Tg.goes, Option.bind_some, isTup, isIntT, isBlT, isStrT, isLstT, known, List.isEmpty_nil, ownOf, ap_LcF, ap_turn, FM_map, FM_ret, FM_if, FM_opt, FM_nil, oCons_some, oCons_none, noX_ret, ap_Lc2F, ap_turn2, FL_map, FL_ret, FL_nil, ap_go, ap_Wipe, numbered0, paired_map, fAll_map, fAny_map, List.length_map, cutL_from, cutL_upto, mapV_nil, mapV_cons, Int.cast_ofNat_Int, BEq.rfl, Int.reduceLT, Int.reduceLE, Int.reduceBEq, Int.zero_le_ofNat, decide_true, decide_false, ap_For, hx, List.map_map]; rfl]
  simp only [ap_V, ap_O, ap_own, getV_val, getO_val, getO_own, getO_ownd, getL_own, ap_C, ap_1, ap_2, ap_And, ap_Or, ap_Not, ap_If, ap_aNil, ap_aCons, ap_aStar, ap_Tup, ap_Lst, ap_TupS, ap_LstS, ap_Call, ap_Chain, ap_Cut, ap_oNone, ap_oSome, ap_bV, ap_bAnd, ap_bOr, ap_bNot, ap_bYes, ap_wS, ap_Rng1, ap_Rng2, ap_TupRg1, ap_TupRg2, ap_LstRg1, ap_LstRg2, ap_Enum, ap_Enum2, ap_Zip, ap_mNil, ap_mVal, ap_mOwn, ap_sNx, ap_Seq, seqK_nx, seqK_rt, ap_Asg, ap_Set, ap_Own, ownK_lst, ownK_dct, ap_Ret, ap_sIf, ap_Stk, ap_Drop, ap_App, ap_Ext, ap_PutL, ap_Par, ap_Frz, frzS_own, frzS_val, ap_fn, fnK_rt, fnK_nx, ite_bind, gIx_tup, gIx_lst, itemI0, itemI1, itemI2, itemI3, gCut_tup, gCut_lst, asB_bl, asI_int, asS_tup, asS_lst, asL_lst, gAdd_int, gAdd_tup, gAdd_lst, gSub_int, gMulA_int, gLt_int, gLe_int, gGt_int, gGe_int, fTuple_lst, fTuple_tup, fList_tup, fList_lst, fInt_int, fInt_bl, gIsi_int, gIsi_bl, gIsi_tup, gIsi_lst, gIsi_str, gIsi_non, gIsB_bl, gIsNotB_bl, M.ret_bind, M.stk_bind, M.draw_bind, M.bind_ret, ofO_some, ofO_none, List.getD_cons_zero, List.getD_cons_succ, List.set_cons_zero, List.set_cons_succ, List.length_cons, List.length_nil, List.cons_append, List.nil_append, List.append_nil, List.replicate, Nat.reduceSub, Nat.reduceAdd, Nat.reduceEqDiff, if_true, if_false, ite_true, ite_false, reduceIte, Bool.not_true, Bool.not_false, Bool.false_eq_true, Bool.true_and, Bool.false_and, Bool.and_true, Bool.and_false, len_tup, len_lst, ne_int, eq_int, setAll, Mn.wipe, Tg.go, Tg.goes, Option.bind_some, isTup, isIntT, isBlT, isStrT, isLstT, known, List.isEmpty_nil, ownOf, ap_LcF, ap_turn, FM_map, FM_ret, FM_if, FM_opt, FM_nil, oCons_some, oCons_none, noX_ret, ap_Lc2F, ap_turn2, FL_map, FL_ret, FL_nil, ap_go, ap_Wipe, numbered0, paired_map, fAll_map, fAny_map, List.length_map, cutL_from, cutL_upto, mapV_nil, mapV_cons, Int.cast_ofNat_Int, BEq.rfl, Int.reduceLT, Int.reduceLE, Int.reduceBEq, Int.zero_le_ofNat, decide_true, decide_false, ap_For]
end Hd

set_option maxHeartbeats 1000000
set_option maxRecDepth 100000
namespace Hd
open Mn
/-! lots -/
theorem cutL_1 (l : List D) : cutL l (some 1) none = l.tail := by
  rw [show (1 : Int) = ((1 : Nat) : Int) from rfl, cutL_from, List.drop_one]
theorem tail_lt : ∀ l : List Nat, l.Pairwise (· < ·) → ∀ p ∈ l.zip l.tail, p.1 < p.2 := by
  intro l
  induction l with
  | nil => intro _ p hp; cases hp
  | cons x l ih =>
    intro h p hp
    cases l with
    | nil => cases hp
    | cons y l =>
      rcases List.mem_cons.mp (show p ∈ (x, y) :: (y :: l).zip l from hp) with rfl | hp
      · exact List.rel_of_pairwise_cons h List.mem_cons_self
      · exact ih h.of_cons p hp
theorem v_are_rising {l : List Nat} (h : l.Pairwise (· < ·)) : m_are_rising [.tup (l.map eI)] = .ret (.bl true) := by
  have ha : (l.zip l.tail).all (fun p => decide ((p.1 : Int) < (p.2 : Int))) = true := List.all_eq_true.mpr fun p hp => by
    have := tail_lt l h p hp
    exact decide_eq_true (by omega)
  simp only [m_are_rising, b_are_rising, c1_are_rising, e1_are_rising, ap_V, ap_O, ap_own, getV_val, getO_val, getO_own, getO_ownd, getL_own, ap_C, ap_1, ap_2, ap_And, ap_Or, ap_Not, ap_If, ap_aNil, ap_aCons, ap_aStar, ap_Tup, ap_Lst, ap_TupS, ap_LstS, ap_Call, ap_Chain, ap_Cut, ap_oNone, ap_oSome, ap_bV, ap_bAnd, ap_bOr, ap_bNot, ap_bYes, ap_wS, ap_Rng1, ap_Rng2, ap_TupRg1, ap_TupRg2, ap_LstRg1, ap_LstRg2, ap_Enum, ap_Enum2, ap_Zip, ap_mNil, ap_mVal, ap_mOwn, ap_sNx, ap_Seq, seqK_nx, seqK_rt, ap_Asg, ap_Set, ap_Own, ownK_lst, ownK_dct, ap_Ret, ap_sIf, ap_Stk, ap_Drop, ap_App, ap_Ext, ap_PutL, ap_Par, ap_Frz, frzS_own, frzS_val, ap_fn, fnK_rt, fnK_nx, ite_bind, gIx_tup, gIx_lst, itemI0, itemI1, itemI2, itemI3, gCut_tup, gCut_lst, asB_bl, asI_int, asS_tup, asS_lst, asL_lst, gAdd_int, gAdd_tup, gAdd_lst, gSub_int, gMulA_int, gLt_int, gLe_int, gGt_int, gGe_int, fTuple_lst, fTuple_tup, fList_tup, fList_lst, fInt_int, fInt_bl, gIsi_int, gIsi_bl, gIsi_tup, gIsi_lst, gIsi_str, gIsi_non, gIsB_bl, gIsNotB_bl, M.ret_bind, M.stk_bind, M.draw_bind, M.bind_ret, ofO_some, ofO_none, List.getD_cons_zero, List.getD_cons_succ, List.set_cons_zero, List.set_cons_succ, List.length_cons, List.length_nil, List.cons_append, List.nil_append, List.append_nil, List.replicate, Nat.reduceSub, Nat.reduceAdd, Nat.reduceEqDiff, if_true, if_false, ite_true, ite_false, reduceIte, Bool.not_true, Bool.not_false, Bool.false_eq_true, Bool.true_and, Bool.false_and, Bool.and_true, Bool.and_false, len_tup, len_lst, ne_int, eq_int, setAll, Mn.wipe, Tg.go, Tg.goes, Option.bind_some, isTup, isIntT, isBlT, isStrT, isLstT, known, List.isEmpty_nil, ownOf, ap_LcF, ap_turn, FM_map, FM_ret, FM_if, FM_opt, FM_nil, oCons_some, oCons_none, noX_ret, ap_Lc2F, ap_turn2, FL_map, FL_ret, FL_nil, ap_go, ap_Wipe, numbered0, paired_map, fAll_map, fAny_map, List.length_map, cutL_from, cutL_upto, mapV_nil, mapV_cons, Int.cast_ofNat_Int, BEq.rfl, Int.reduceLT, Int.reduceLE, Int.reduceBEq, Int.zero_le_ofNat, decide_true, decide_false, ap_For, cutL_1, ← List.map_tail, eI, ha]
theorem v_is_lot {r : List Vl} {l : List Nat} (h : l.Pairwise (· < ·)) (hl : ∀ i ∈ l, i < r.length) : m_is_lot [eR r, eL l] = .ret (.bl true) := by
  simp only [m_is_lot, b_is_lot, c1_is_lot, e1_is_lot, eL, ap_V, ap_O, ap_own, getV_val, getO_val, getO_own, getO_ownd, getL_own, ap_C, ap_1, ap_2, ap_And, ap_Or, ap_Not, ap_If, ap_aNil, ap_aCons, ap_aStar, ap_Tup, ap_Lst, ap_TupS, ap_LstS, ap_Call, ap_Chain, ap_Cut, ap_oNone, ap_oSome, ap_bV, ap_bAnd, ap_bOr, ap_bNot, ap_bYes, ap_wS, ap_Rng1, ap_Rng2, ap_TupRg1, ap_TupRg2, ap_LstRg1, ap_LstRg2, ap_Enum, ap_Enum2, ap_Zip, ap_mNil, ap_mVal, ap_mOwn, ap_sNx, ap_Seq, seqK_nx, seqK_rt, ap_Asg, ap_Set, ap_Own, ownK_lst, ownK_dct, ap_Ret, ap_sIf, ap_Stk, ap_Drop, ap_App, ap_Ext, ap_PutL, ap_Par, ap_Frz, frzS_own, frzS_val, ap_fn, fnK_rt, fnK_nx, ite_bind, gIx_tup, gIx_lst, itemI0, itemI1, itemI2, itemI3, gCut_tup, gCut_lst, asB_bl, asI_int, asS_tup, asS_lst, asL_lst, gAdd_int, gAdd_tup, gAdd_lst, gSub_int, gMulA_int, gLt_int, gLe_int, gGt_int, gGe_int, fTuple_lst, fTuple_tup, fList_tup, fList_lst, fInt_int, fInt_bl, gIsi_int, gIsi_bl, gIsi_tup, gIsi_lst, gIsi_str, gIsi_non, gIsB_bl, gIsNotB_bl, M.ret_bind, M.stk_bind, M.draw_bind, M.bind_ret, ofO_some, ofO_none, List.getD_cons_zero, List.getD_cons_succ, List.set_cons_zero, List.set_cons_succ, List.length_cons, List.length_nil, List.cons_append, List.nil_append, List.append_nil, List.replicate, Nat.reduceSub, Nat.reduceAdd, Nat.reduceEqDiff, if_true, if_false, ite_true, ite_false, reduceIte, Bool.not_true, Bool.not_false, Bool.false_eq_true, Bool.true_and, Bool.false_and, Bool.and_true, Bool.and_false, len_tup, len_lst, ne_int, eq_int, setAll, Mn.wipe, Tg.go, Tg.goes, Option.bind_some, isTup, isIntT, isBlT, isStrT, isLstT, known, List.isEmpty_nil, ownOf, ap_LcF, ap_turn, FM_map, FM_ret, FM_if, FM_opt, FM_nil, oCons_some, oCons_none, noX_ret, ap_Lc2F, ap_turn2, FL_map, FL_ret, FL_nil, ap_go, ap_Wipe, numbered0, paired_map, fAll_map, fAny_map, List.length_map, cutL_from, cutL_upto, mapV_nil, mapV_cons, Int.cast_ofNat_Int, BEq.rfl, Int.reduceLT, Int.reduceLE, Int.reduceBEq, Int.zero_le_ofNat, decide_true, decide_false, ap_For, lenR]
  rw [FM_true fun i hi => by simp only [eI, ap_V, ap_O, ap_own, getV_val, getO_val, getO_own, getO_ownd, getL_own, ap_C, ap_1, ap_2, ap_And, ap_Or, ap_Not, ap_If, ap_aNil, ap_aCons, ap_aStar, ap_Tup, ap_Lst, ap_TupS, ap_LstS, ap_Call, ap_Chain, ap_Cut, ap_oNone, ap_oSome, ap_bV, ap_bAnd, ap_bOr, ap_bNot, ap_bYes, ap_wS, ap_Rng1, ap_Rng2, ap_TupRg1, ap_TupRg2, ap_LstRg1, ap_LstRg2, ap_Enum, ap_Enum2, ap_Zip, ap_mNil, ap_mVal, ap_mOwn, ap_sNx, ap_Seq, seqK_nx, seqK_rt, ap_Asg, ap_Set, ap_Own, ownK_lst, ownK_dct, ap_Ret, ap_sIf, ap_Stk, ap_Drop, ap_App, ap_Ext, ap_PutL, ap_Par, ap_Frz, frzS_own, frzS_val, ap_fn, fnK_rt, fnK_nx, ite_bind, gIx_tup, gIx_lst, itemI0, itemI1, itemI2, itemI3, gCut_tup, gCut_lst, asB_bl, asI_int, asS_tup, asS_lst, asL_lst, gAdd_int, gAdd_tup, gAdd_lst, gSub_int, gMulA_int, gLt_int, gLe_int, gGt_int, gGe_int, fTuple_lst, fTuple_tup, fList_tup, fList_lst, fInt_int, fInt_bl, gIsi_int, gIsi_bl, gIsi_tup, gIsi_lst, gIsi_str, gIsi_non, gIsB_bl, gIsNotB_bl, M.ret_bind, M.stk_bind, M.draw_bind, M.bind_ret, ofO_some, ofO_none, List.getD_cons_zero, List.getD_cons_succ, List.set_cons_zero, List.set_cons_succ, List.length_cons, List.length_nil, List.cons_append, List.nil_append, List.append_nil, List.replicate, Nat.reduceSub, Nat.reduceAdd, Nat.reduceEqDiff, if_true, if_false, ite_true, ite_false, reduceIte, Bool.not_true, Bool.not_false, Bool.false_eq_true, Bool.true_and, Bool.false_and, Bool.and_true, Bool.and_false, len_tup, len_lst, ne_int, eq_int, setAll, Mn.wipe, Tg.go, Tg.goes, Option.bind_some, isTup, isIntT, isBlT, isStrT, isLstT, known, List.isEmpty_nil, ownOf, ap_LcF, ap_turn, FM_map, FM_ret, FM_if, FM_opt, FM_nil, oCons_some, oCons_none, noX_ret, ap_Lc2F, ap_turn2, FL_map, FL_ret, FL_nil, ap_go, ap_Wipe, numbered0, paired_map, fAll_map, fAny_map, List.length_map, cutL_from, cutL_upto, mapV_nil, mapV_cons, Int.cast_ofNat_Int, BEq.rfl, Int.reduceLT, Int.reduceLE, Int.reduceBEq, Int.zero_le_ofNat, decide_true, decide_false, ap_For, v_is_between, d0, dN (hl i hi)]]
  simp only [ap_V, ap_O, ap_own, getV_val, getO_val, getO_own, getO_ownd, getL_own, ap_C, ap_1, ap_2, ap_And, ap_Or, ap_Not, ap_If, ap_aNil, ap_aCons, ap_aStar, ap_Tup, ap_Lst, ap_TupS, ap_LstS, ap_Call, ap_Chain, ap_Cut, ap_oNone, ap_oSome, ap_bV, ap_bAnd, ap_bOr, ap_bNot, ap_bYes, ap_wS, ap_Rng1, ap_Rng2, ap_TupRg1, ap_TupRg2, ap_LstRg1, ap_LstRg2, ap_Enum, ap_Enum2, ap_Zip, ap_mNil, ap_mVal, ap_mOwn, ap_sNx, ap_Seq, seqK_nx, seqK_rt, ap_Asg, ap_Set, ap_Own, ownK_lst, ownK_dct, ap_Ret, ap_sIf, ap_Stk, ap_Drop, ap_App, ap_Ext, ap_PutL, ap_Par, ap_Frz, frzS_own, frzS_val, ap_fn, fnK_rt, fnK_nx, ite_bind, gIx_tup, gIx_lst, itemI0, itemI1, itemI2, itemI3, gCut_tup, gCut_lst, asB_bl, asI_int, asS_tup, asS_lst, asL_lst, gAdd_int, gAdd_tup, gAdd_lst, gSub_int, gMulA_int, gLt_int, gLe_int, gGt_int, gGe_int, fTuple_lst, fTuple_tup, fList_tup, fList_lst, fInt_int, fInt_bl, gIsi_int, gIsi_bl, gIsi_tup, gIsi_lst, gIsi_str, gIsi_non, gIsB_bl, gIsNotB_bl, M.ret_bind, M.stk_bind, M.draw_bind, M.bind_ret, ofO_some, ofO_none, List.getD_cons_zero, List.getD_cons_succ, List.set_cons_zero, List.set_cons_succ, List.length_cons, List.length_nil, List.cons_append, List.nil_append, List.append_nil, List.replicate, Nat.reduceSub, Nat.reduceAdd, Nat.reduceEqDiff, if_true, if_false, ite_true, ite_false, reduceIte, Bool.not_true, Bool.not_false, Bool.false_eq_true, Bool.true_and, Bool.false_and, Bool.and_true, Bool.and_false, len_tup, len_lst, ne_int, eq_int, setAll, Mn.wipe, Tg.go, Tg.goes, Option.bind_some, isTup, isIntT, isBlT, isStrT, isLstT, known, List.isEmpty_nil, ownOf, ap_LcF, ap_turn, FM_map, FM_ret, FM_if, FM_opt, FM_nil, oCons_some, oCons_none, noX_ret, ap_Lc2F, ap_turn2, FL_map, FL_ret, FL_nil, ap_go, ap_Wipe, numbered0, paired_map, fAll_map, fAny_map, List.length_map, cutL_from, cutL_upto, mapV_nil, mapV_cons, Int.cast_ofNat_Int, BEq.rfl, Int.reduceLT, Int.reduceLE, Int.reduceBEq, Int.zero_le_ofNat, decide_true, decide_false, ap_For, all_true, v_are_rising h]
theorem v_need_lot {r : List Vl} {l : List Nat} (h : l.Pairwise (· < ·)) (hl : ∀ i ∈ l, i < r.length) : m_need_lot [eR r, eL l] = .ret .non := by
  simp only [m_need_lot, b_need_lot, ap_V, ap_O, ap_own, getV_val, getO_val, getO_own, getO_ownd, getL_own, ap_C, ap_1, ap_2, ap_And, ap_Or, ap_Not, ap_If, ap_aNil, ap_aCons, ap_aStar, ap_Tup, ap_Lst, ap_TupS, ap_LstS, ap_Call, ap_Chain, ap_Cut, ap_oNone, ap_oSome, ap_bV, ap_bAnd, ap_bOr, ap_bNot, ap_bYes, ap_wS, ap_Rng1, ap_Rng2, ap_TupRg1, ap_TupRg2, ap_LstRg1, ap_LstRg2, ap_Enum, ap_Enum2, ap_Zip, ap_mNil, ap_mVal, ap_mOwn, ap_sNx, ap_Seq, seqK_nx, seqK_rt, ap_Asg, ap_Set, ap_Own, ownK_lst, ownK_dct, ap_Ret, ap_sIf, ap_Stk, ap_Drop, ap_App, ap_Ext, ap_PutL, ap_Par, ap_Frz, frzS_own, frzS_val, ap_fn, fnK_rt, fnK_nx, ite_bind, gIx_tup, gIx_lst, itemI0, itemI1, itemI2, itemI3, gCut_tup, gCut_lst, asB_bl, asI_int, asS_tup, asS_lst, asL_lst, gAdd_int, gAdd_tup, gAdd_lst, gSub_int, gMulA_int, gLt_int, gLe_int, gGt_int, gGe_int, fTuple_lst, fTuple_tup, fList_tup, fList_lst, fInt_int, fInt_bl, gIsi_int, gIsi_bl, gIsi_tup, gIsi_lst, gIsi_str, gIsi_non, gIsB_bl, gIsNotB_bl, M.ret_bind, M.stk_bind, M.draw_bind, M.bind_ret, ofO_some, ofO_none, List.getD_cons_zero, List.getD_cons_succ, List.set_cons_zero, List.set_cons_succ, List.length_cons, List.length_nil, List.cons_append, List.nil_append, List.append_nil, List.replicate, Nat.reduceSub, Nat.reduceAdd, Nat.reduceEqDiff, if_true, if_false, ite_true, ite_false, reduceIte, Bool.not_true, Bool.not_false, Bool.false_eq_true, Bool.true_and, Bool.false_and, Bool.and_true, Bool.and_false, len_tup, len_lst, ne_int, eq_int, setAll, Mn.wipe, Tg.go, Tg.goes, Option.bind_some, isTup, isIntT, isBlT, isStrT, isLstT, known, List.isEmpty_nil, ownOf, ap_LcF, ap_turn, FM_map, FM_ret, FM_if, FM_opt, FM_nil, oCons_some, oCons_none, noX_ret, ap_Lc2F, ap_turn2, FL_map, FL_ret, FL_nil, ap_go, ap_Wipe, numbered0, paired_map, fAll_map, fAny_map, List.length_map, cutL_from, cutL_upto, mapV_nil, mapV_cons, Int.cast_ofNat_Int, BEq.rfl, Int.reduceLT, Int.reduceLE, Int.reduceBEq, Int.zero_le_ofNat, decide_true, decide_false, ap_For, v_is_lot h hl]
theorem v_need_both {r : List Vl} (hr : okR r) {l : List Nat} (h : l.Pairwise (· < ·)) (hl : ∀ i ∈ l, i < r.length) : m_need_both [eR r, eL l] = .ret .non := by
  simp only [m_need_both, b_need_both, ap_V, ap_O, ap_own, getV_val, getO_val, getO_own, getO_ownd, getL_own, ap_C, ap_1, ap_2, ap_And, ap_Or, ap_Not, ap_If, ap_aNil, ap_aCons, ap_aStar, ap_Tup, ap_Lst, ap_TupS, ap_LstS, ap_Call, ap_Chain, ap_Cut, ap_oNone, ap_oSome, ap_bV, ap_bAnd, ap_bOr, ap_bNot, ap_bYes, ap_wS, ap_Rng1, ap_Rng2, ap_TupRg1, ap_TupRg2, ap_LstRg1, ap_LstRg2, ap_Enum, ap_Enum2, ap_Zip, ap_mNil, ap_mVal, ap_mOwn, ap_sNx, ap_Seq, seqK_nx, seqK_rt, ap_Asg, ap_Set, ap_Own, ownK_lst, ownK_dct, ap_Ret, ap_sIf, ap_Stk, ap_Drop, ap_App, ap_Ext, ap_PutL, ap_Par, ap_Frz, frzS_own, frzS_val, ap_fn, fnK_rt, fnK_nx, ite_bind, gIx_tup, gIx_lst, itemI0, itemI1, itemI2, itemI3, gCut_tup, gCut_lst, asB_bl, asI_int, asS_tup, asS_lst, asL_lst, gAdd_int, gAdd_tup, gAdd_lst, gSub_int, gMulA_int, gLt_int, gLe_int, gGt_int, gGe_int, fTuple_lst, fTuple_tup, fList_tup, fList_lst, fInt_int, fInt_bl, gIsi_int, gIsi_bl, gIsi_tup, gIsi_lst, gIsi_str, gIsi_non, gIsB_bl, gIsNotB_bl, M.ret_bind, M.stk_bind, M.draw_bind, M.bind_ret, ofO_some, ofO_none, List.getD_cons_zero, List.getD_cons_succ, List.set_cons_zero, List.set_cons_succ, List.length_cons, List.length_nil, List.cons_append, List.nil_append, List.append_nil, List.replicate, Nat.reduceSub, Nat.reduceAdd, Nat.reduceEqDiff, if_true, if_false, ite_true, ite_false, reduceIte, Bool.not_true, Bool.not_false, Bool.false_eq_true, Bool.true_and, Bool.false_and, Bool.and_true, Bool.and_false, len_tup, len_lst, ne_int, eq_int, setAll, Mn.wipe, Tg.go, Tg.goes, Option.bind_some, isTup, isIntT, isBlT, isStrT, isLstT, known, List.isEmpty_nil, ownOf, ap_LcF, ap_turn, FM_map, FM_ret, FM_if, FM_opt, FM_nil, oCons_some, oCons_none, noX_ret, ap_Lc2F, ap_turn2, FL_map, FL_ret, FL_nil, ap_go, ap_Wipe, numbered0, paired_map, fAll_map, fAny_map, List.length_map, cutL_from, cutL_upto, mapV_nil, mapV_cons, Int.cast_ofNat_Int, BEq.rfl, Int.reduceLT, Int.reduceLE, Int.reduceBEq, Int.zero_le_ofNat, decide_true, decide_false, ap_For, v_need_record hr, v_need_lot h hl]
theorem eqNil {α : Type} {enc : α → D} (l : List α) (h : ∀ x ∈ l, flat 49 (enc x) = true) : gEq (.lst (l.map enc)) (.lst []) = .ret (.bl l.isEmpty) := by
  have e : isData (.lst (l.map enc)) = true := by
    unfold isData
    simp only [flat]
    exact flats_map h
  unfold gEq
  rw [e]
  cases l <;> rfl
theorem neNil {α : Type} {enc : α → D} (l : List α) (h : ∀ x ∈ l, flat 49 (enc x) = true) : gNe (.lst (l.map enc)) (.lst []) = .ret (.bl (!l.isEmpty)) := by
  have e : isData (.lst (l.map enc)) = true := by
    unfold isData
    simp only [flat]
    exact flats_map h
  unfold gNe
  rw [e]
  cases l <;> rfl
theorem v_early_of {r : List Vl} (hr : okR r) {l : List Nat} (hl : ∀ i ∈ l, i < r.length) (hn : l.length ≤ 4000) : m_early_of [eR r, eL l] = .ret (.lst ((l.flatMap (bds r)).map eP)) := by
  simp only [m_early_of, b_early_of, c1_early_of, eL, ap_V, ap_O, ap_own, getV_val, getO_val, getO_own, getO_ownd, getL_own, ap_C, ap_1, ap_2, ap_And, ap_Or, ap_Not, ap_If, ap_aNil, ap_aCons, ap_aStar, ap_Tup, ap_Lst, ap_TupS, ap_LstS, ap_Call, ap_Chain, ap_Cut, ap_oNone, ap_oSome, ap_bV, ap_bAnd, ap_bOr, ap_bNot, ap_bYes, ap_wS, ap_Rng1, ap_Rng2, ap_TupRg1, ap_TupRg2, ap_LstRg1, ap_LstRg2, ap_Enum, ap_Enum2, ap_Zip, ap_mNil, ap_mVal, ap_mOwn, ap_sNx, ap_Seq, seqK_nx, seqK_rt, ap_Asg, ap_Set, ap_Own, ownK_lst, ownK_dct, ap_Ret, ap_sIf, ap_Stk, ap_Drop, ap_App, ap_Ext, ap_PutL, ap_Par, ap_Frz, frzS_own, frzS_val, ap_fn, fnK_rt, fnK_nx, ite_bind, gIx_tup, gIx_lst, itemI0, itemI1, itemI2, itemI3, gCut_tup, gCut_lst, asB_bl, asI_int, asS_tup, asS_lst, asL_lst, gAdd_int, gAdd_tup, gAdd_lst, gSub_int, gMulA_int, gLt_int, gLe_int, gGt_int, gGe_int, fTuple_lst, fTuple_tup, fList_tup, fList_lst, fInt_int, fInt_bl, gIsi_int, gIsi_bl, gIsi_tup, gIsi_lst, gIsi_str, gIsi_non, gIsB_bl, gIsNotB_bl, M.ret_bind, M.stk_bind, M.draw_bind, M.bind_ret, ofO_some, ofO_none, List.getD_cons_zero, List.getD_cons_succ, List.set_cons_zero, List.set_cons_succ, List.length_cons, List.length_nil, List.cons_append, List.nil_append, List.append_nil, List.replicate, Nat.reduceSub, Nat.reduceAdd, Nat.reduceEqDiff, if_true, if_false, ite_true, ite_false, reduceIte, Bool.not_true, Bool.not_false, Bool.false_eq_true, Bool.true_and, Bool.false_and, Bool.and_true, Bool.and_false, len_tup, len_lst, ne_int, eq_int, setAll, Mn.wipe, Tg.go, Tg.goes, Option.bind_some, isTup, isIntT, isBlT, isStrT, isLstT, known, List.isEmpty_nil, ownOf, ap_LcF, ap_turn, FM_map, FM_ret, FM_if, FM_opt, FM_nil, oCons_some, oCons_none, noX_ret, ap_Lc2F, ap_turn2, FL_map, FL_ret, FL_nil, ap_go, ap_Wipe, numbered0, paired_map, fAll_map, fAny_map, List.length_map, cutL_from, cutL_upto, mapV_nil, mapV_cons, Int.cast_ofNat_Int, BEq.rfl, Int.reduceLT, Int.reduceLE, Int.reduceBEq, Int.zero_le_ofNat, decide_true, decide_false, ap_For, hn]
  rw [FL_congr (g := fun i => .ret ((bds r i).map eP)) fun i hi => by
    have h4 : (ear (rv r i)).length ≤ 4000 := Nat.le_trans (ear_len _) (by have := (okAt hr (hl i hi)).2.1; omega)
    simp only [s1_early_of, e1_early_of, eI, ap_V, ap_O, ap_own, getV_val, getO_val, getO_own, getO_ownd, getL_own, ap_C, ap_1, ap_2, ap_And, ap_Or, ap_Not, ap_If, ap_aNil, ap_aCons, ap_aStar, ap_Tup, ap_Lst, ap_TupS, ap_LstS, ap_Call, ap_Chain, ap_Cut, ap_oNone, ap_oSome, ap_bV, ap_bAnd, ap_bOr, ap_bNot, ap_bYes, ap_wS, ap_Rng1, ap_Rng2, ap_TupRg1, ap_TupRg2, ap_LstRg1, ap_LstRg2, ap_Enum, ap_Enum2, ap_Zip, ap_mNil, ap_mVal, ap_mOwn, ap_sNx, ap_Seq, seqK_nx, seqK_rt, ap_Asg, ap_Set, ap_Own, ownK_lst, ownK_dct, ap_Ret, ap_sIf, ap_Stk, ap_Drop, ap_App, ap_Ext, ap_PutL, ap_Par, ap_Frz, frzS_own, frzS_val, ap_fn, fnK_rt, fnK_nx, ite_bind, gIx_tup, gIx_lst, itemI0, itemI1, itemI2, itemI3, gCut_tup, gCut_lst, asB_bl, asI_int, asS_tup, asS_lst, asL_lst, gAdd_int, gAdd_tup, gAdd_lst, gSub_int, gMulA_int, gLt_int, gLe_int, gGt_int, gGe_int, fTuple_lst, fTuple_tup, fList_tup, fList_lst, fInt_int, fInt_bl, gIsi_int, gIsi_bl, gIsi_tup, gIsi_lst, gIsi_str, gIsi_non, gIsB_bl, gIsNotB_bl, M.ret_bind, M.stk_bind, M.draw_bind, M.bind_ret, ofO_some, ofO_none, List.getD_cons_zero, List.getD_cons_succ, List.set_cons_zero, List.set_cons_succ, List.length_cons, List.length_nil, List.cons_append, List.nil_append, List.append_nil, List.replicate, Nat.reduceSub, Nat.reduceAdd, Nat.reduceEqDiff, if_true, if_false, ite_true, ite_false, reduceIte, Bool.not_true, Bool.not_false, Bool.false_eq_true, Bool.true_and, Bool.false_and, Bool.and_true, Bool.and_false, len_tup, len_lst, ne_int, eq_int, setAll, Mn.wipe, Tg.go, Tg.goes, Option.bind_some, isTup, isIntT, isBlT, isStrT, isLstT, known, List.isEmpty_nil, ownOf, ap_LcF, ap_turn, FM_map, FM_ret, FM_if, FM_opt, FM_nil, oCons_some, oCons_none, noX_ret, ap_Lc2F, ap_turn2, FL_map, FL_ret, FL_nil, ap_go, ap_Wipe, numbered0, paired_map, fAll_map, fAny_map, List.length_map, cutL_from, cutL_upto, mapV_nil, mapV_cons, Int.cast_ofNat_Int, BEq.rfl, Int.reduceLT, Int.reduceLE, Int.reduceBEq, Int.zero_le_ofNat, decide_true, decide_false, ap_For, ixR (hl i hi), v_early_in, h4, bds, List.map_map]; rfl]
  simp only [ap_V, ap_O, ap_own, getV_val, getO_val, getO_own, getO_ownd, getL_own, ap_C, ap_1, ap_2, ap_And, ap_Or, ap_Not, ap_If, ap_aNil, ap_aCons, ap_aStar, ap_Tup, ap_Lst, ap_TupS, ap_LstS, ap_Call, ap_Chain, ap_Cut, ap_oNone, ap_oSome, ap_bV, ap_bAnd, ap_bOr, ap_bNot, ap_bYes, ap_wS, ap_Rng1, ap_Rng2, ap_TupRg1, ap_TupRg2, ap_LstRg1, ap_LstRg2, ap_Enum, ap_Enum2, ap_Zip, ap_mNil, ap_mVal, ap_mOwn, ap_sNx, ap_Seq, seqK_nx, seqK_rt, ap_Asg, ap_Set, ap_Own, ownK_lst, ownK_dct, ap_Ret, ap_sIf, ap_Stk, ap_Drop, ap_App, ap_Ext, ap_PutL, ap_Par, ap_Frz, frzS_own, frzS_val, ap_fn, fnK_rt, fnK_nx, ite_bind, gIx_tup, gIx_lst, itemI0, itemI1, itemI2, itemI3, gCut_tup, gCut_lst, asB_bl, asI_int, asS_tup, asS_lst, asL_lst, gAdd_int, gAdd_tup, gAdd_lst, gSub_int, gMulA_int, gLt_int, gLe_int, gGt_int, gGe_int, fTuple_lst, fTuple_tup, fList_tup, fList_lst, fInt_int, fInt_bl, gIsi_int, gIsi_bl, gIsi_tup, gIsi_lst, gIsi_str, gIsi_non, gIsB_bl, gIsNotB_bl, M.ret_bind, M.stk_bind, M.draw_bind, M.bind_ret, ofO_some, ofO_none, List.getD_cons_zero, List.getD_cons_succ, List.set_cons_zero, List.set_cons_succ, List.length_cons, List.length_nil, List.cons_append, List.nil_append, List.append_nil, List.replicate, Nat.reduceSub, Nat.reduceAdd, Nat.reduceEqDiff, if_true, if_false, ite_true, ite_false, reduceIte, Bool.not_true, Bool.not_false, Bool.false_eq_true, Bool.true_and, Bool.false_and, Bool.and_true, Bool.and_false, len_tup, len_lst, ne_int, eq_int, setAll, Mn.wipe, Tg.go, Tg.goes, Option.bind_some, isTup, isIntT, isBlT, isStrT, isLstT, known, List.isEmpty_nil, ownOf, ap_LcF, ap_turn, FM_map, FM_ret, FM_if, FM_opt, FM_nil, oCons_some, oCons_none, noX_ret, ap_Lc2F, ap_turn2, FL_map, FL_ret, FL_nil, ap_go, ap_Wipe, numbered0, paired_map, fAll_map, fAny_map, List.length_map, cutL_from, cutL_upto, mapV_nil, mapV_cons, Int.cast_ofNat_Int, BEq.rfl, Int.reduceLT, Int.reduceLE, Int.reduceBEq, Int.zero_le_ofNat, decide_true, decide_false, ap_For, List.map_flatMap]
def rgt (r : List Vl) (l : List Nat) : Bool := (l.flatMap (bds r)).isEmpty && (opL r l).isEmpty
theorem v_is_right_in {r : List Vl} (hr : okR r) {l : List Nat} (hl : ∀ i ∈ l, i < r.length) (hn : l.length ≤ 1000) : m_is_right_in [eR r, eL l] = .ret (.bl (rgt r l)) := by
  simp only [m_is_right_in, b_is_right_in, ap_V, ap_O, ap_own, getV_val, getO_val, getO_own, getO_ownd, getL_own, ap_C, ap_1, ap_2, ap_And, ap_Or, ap_Not, ap_If, ap_aNil, ap_aCons, ap_aStar, ap_Tup, ap_Lst, ap_TupS, ap_LstS, ap_Call, ap_Chain, ap_Cut, ap_oNone, ap_oSome, ap_bV, ap_bAnd, ap_bOr, ap_bNot, ap_bYes, ap_wS, ap_Rng1, ap_Rng2, ap_TupRg1, ap_TupRg2, ap_LstRg1, ap_LstRg2, ap_Enum, ap_Enum2, ap_Zip, ap_mNil, ap_mVal, ap_mOwn, ap_sNx, ap_Seq, seqK_nx, seqK_rt, ap_Asg, ap_Set, ap_Own, ownK_lst, ownK_dct, ap_Ret, ap_sIf, ap_Stk, ap_Drop, ap_App, ap_Ext, ap_PutL, ap_Par, ap_Frz, frzS_own, frzS_val, ap_fn, fnK_rt, fnK_nx, ite_bind, gIx_tup, gIx_lst, itemI0, itemI1, itemI2, itemI3, gCut_tup, gCut_lst, asB_bl, asI_int, asS_tup, asS_lst, asL_lst, gAdd_int, gAdd_tup, gAdd_lst, gSub_int, gMulA_int, gLt_int, gLe_int, gGt_int, gGe_int, fTuple_lst, fTuple_tup, fList_tup, fList_lst, fInt_int, fInt_bl, gIsi_int, gIsi_bl, gIsi_tup, gIsi_lst, gIsi_str, gIsi_non, gIsB_bl, gIsNotB_bl, M.ret_bind, M.stk_bind, M.draw_bind, M.bind_ret, ofO_some, ofO_none, List.getD_cons_zero, List.getD_cons_succ, List.set_cons_zero, List.set_cons_succ, List.length_cons, List.length_nil, List.cons_append, List.nil_append, List.append_nil, List.replicate, Nat.reduceSub, Nat.reduceAdd, Nat.reduceEqDiff, if_true, if_false, ite_true, ite_false, reduceIte, Bool.not_true, Bool.not_false, Bool.false_eq_true, Bool.true_and, Bool.false_and, Bool.and_true, Bool.and_false, len_tup, len_lst, ne_int, eq_int, setAll, Mn.wipe, Tg.go, Tg.goes, Option.bind_some, isTup, isIntT, isBlT, isStrT, isLstT, known, List.isEmpty_nil, ownOf, ap_LcF, ap_turn, FM_map, FM_ret, FM_if, FM_opt, FM_nil, oCons_some, oCons_none, noX_ret, ap_Lc2F, ap_turn2, FL_map, FL_ret, FL_nil, ap_go, ap_Wipe, numbered0, paired_map, fAll_map, fAny_map, List.length_map, cutL_from, cutL_upto, mapV_nil, mapV_cons, Int.cast_ofNat_Int, BEq.rfl, Int.reduceLT, Int.reduceLE, Int.reduceBEq, Int.zero_le_ofNat, decide_true, decide_false, ap_For, v_early_of hr hl (Nat.le_trans hn (by decide)), v_odds_in hr hl hn, eqNil (enc := eP) (l.flatMap (bds r)) (fun _ _ => rfl), eqNil (enc := eQ) (opL r l) (fun _ _ => rfl), rgt]
  cases (l.flatMap (bds r)).isEmpty <;> rfl
theorem lot_len {r : List Vl} {l : List Nat} (hr : okR r) (h : l.Pairwise (· < ·)) (hl : ∀ i ∈ l, i < r.length) : l.length ≤ 12 := by
  have h1 : l.length ≤ r.length := by
    rw [← List.length_range (n := r.length)]
    exact List.Nodup.length_le_of_subset (h.imp fun h => Nat.ne_of_lt h) fun i hi => List.mem_range.mpr (hl i hi)
  have := hr.1
  omega
theorem v_is_right {r : List Vl} (hr : okR r) {l : List Nat} (h : l.Pairwise (· < ·)) (hl : ∀ i ∈ l, i < r.length) : m_is_right [eR r, eL l] = .ret (.bl (rgt r l)) := by
  simp only [m_is_right, b_is_right, ap_V, ap_O, ap_own, getV_val, getO_val, getO_own, getO_ownd, getL_own, ap_C, ap_1, ap_2, ap_And, ap_Or, ap_Not, ap_If, ap_aNil, ap_aCons, ap_aStar, ap_Tup, ap_Lst, ap_TupS, ap_LstS, ap_Call, ap_Chain, ap_Cut, ap_oNone, ap_oSome, ap_bV, ap_bAnd, ap_bOr, ap_bNot, ap_bYes, ap_wS, ap_Rng1, ap_Rng2, ap_TupRg1, ap_TupRg2, ap_LstRg1, ap_LstRg2, ap_Enum, ap_Enum2, ap_Zip, ap_mNil, ap_mVal, ap_mOwn, ap_sNx, ap_Seq, seqK_nx, seqK_rt, ap_Asg, ap_Set, ap_Own, ownK_lst, ownK_dct, ap_Ret, ap_sIf, ap_Stk, ap_Drop, ap_App, ap_Ext, ap_PutL, ap_Par, ap_Frz, frzS_own, frzS_val, ap_fn, fnK_rt, fnK_nx, ite_bind, gIx_tup, gIx_lst, itemI0, itemI1, itemI2, itemI3, gCut_tup, gCut_lst, asB_bl, asI_int, asS_tup, asS_lst, asL_lst, gAdd_int, gAdd_tup, gAdd_lst, gSub_int, gMulA_int, gLt_int, gLe_int, gGt_int, gGe_int, fTuple_lst, fTuple_tup, fList_tup, fList_lst, fInt_int, fInt_bl, gIsi_int, gIsi_bl, gIsi_tup, gIsi_lst, gIsi_str, gIsi_non, gIsB_bl, gIsNotB_bl, M.ret_bind, M.stk_bind, M.draw_bind, M.bind_ret, ofO_some, ofO_none, List.getD_cons_zero, List.getD_cons_succ, List.set_cons_zero, List.set_cons_succ, List.length_cons, List.length_nil, List.cons_append, List.nil_append, List.append_nil, List.replicate, Nat.reduceSub, Nat.reduceAdd, Nat.reduceEqDiff, if_true, if_false, ite_true, ite_false, reduceIte, Bool.not_true, Bool.not_false, Bool.false_eq_true, Bool.true_and, Bool.false_and, Bool.and_true, Bool.and_false, len_tup, len_lst, ne_int, eq_int, setAll, Mn.wipe, Tg.go, Tg.goes, Option.bind_some, isTup, isIntT, isBlT, isStrT, isLstT, known, List.isEmpty_nil, ownOf, ap_LcF, ap_turn, FM_map, FM_ret, FM_if, FM_opt, FM_nil, oCons_some, oCons_none, noX_ret, ap_Lc2F, ap_turn2, FL_map, FL_ret, FL_nil, ap_go, ap_Wipe, numbered0, paired_map, fAll_map, fAny_map, List.length_map, cutL_from, cutL_upto, mapV_nil, mapV_cons, Int.cast_ofNat_Int, BEq.rfl, Int.reduceLT, Int.reduceLE, Int.reduceBEq, Int.zero_le_ofNat, decide_true, decide_false, ap_For, v_need_both hr h hl, v_is_right_in hr hl (Nat.le_trans (lot_len hr h hl) (by decide))]
/-! rows -/
def stB (f : Nat → Vl) : List Nat → Bool
  | [] => true
  | i :: l => (ear (f i)).isEmpty && l.all (fun j => decide (far (f i) ≤ near (f j))) && stB f l
theorem stB_iff (f : Nat → Vl) : ∀ l : List Nat, stB f l = true ↔ (∀ i ∈ l, ear (f i) = []) ∧ l.Pairwise fun i j => far (f i) ≤ near (f j)
  | [] => by simp [stB]
  | i :: l => by
    rw [stB, Bool.and_eq_true_iff, Bool.and_eq_true_iff, stB_iff f l, List.isEmpty_iff, List.all_eq_true, List.pairwise_cons]
    simp only [decide_eq_true_eq, List.mem_cons, forall_eq_or_imp]
    exact ⟨fun ⟨⟨a, b⟩, c, d⟩ => ⟨⟨a, c⟩, b, d⟩, fun ⟨⟨a, c⟩, b, d⟩ => ⟨⟨a, b⟩, c, d⟩⟩
def badAt (r : List Vl) (row : List Nat) (p : Nat × Nat) : Bool := !(ear (rv r p.1)).isEmpty || (row.drop (p.2 + 1)).any fun j => decide (near (rv r j) < far (rv r p.1))
theorem any_bad (r : List Vl) : ∀ (l m : List Nat), (l.zipIdx m.length).any (badAt r (m ++ l)) = !stB (rv r) l
  | [], _ => rfl
  | i :: l, m => by
    have ih := any_bad r l (m ++ [i])
    rw [List.length_append, List.length_singleton, List.append_assoc, List.singleton_append] at ih
    rw [List.zipIdx_cons, List.any_cons, ih, stB, badAt]
    have e : (m ++ i :: l).drop (m.length + 1) = l := by
      rw [← List.singleton_append, ← List.append_assoc, List.drop_append_of_le_length (by simp)]
      simp
    rw [e, Bool.not_and, Bool.not_and, List.not_all_eq_any_not]
    congr 2
    congr 1
    funext j
    rw [Bool.eq_iff_iff]; simp
theorem leastOf_lt (x : Int) : ∀ (l : List Int) (m : Int), leastOf m l < x ↔ m < x ∨ ∃ y ∈ l, y < x
  | [], m => by simp [leastOf]
  | y :: l, m => by
    show leastOf (min m y) l < x ↔ _
    rw [leastOf_lt x l]
    simp only [List.mem_cons, exists_eq_or_imp]
    rw [← or_assoc]
    apply or_congr_left
    omega
theorem v_can_stand {r : List Vl} (hr : okR r) {l : List Nat} (hl : ∀ i ∈ l, i < r.length) : m_can_stand [eR r, eL l] = .ret (.bl (stB (rv r) l)) := by
  have e0 := any_bad r l []
  rw [List.nil_append, List.length_nil] at e0
  have e1 : ∀ i : Nat, (i : Int) + 1 = ((i + 1 : Nat) : Int) := fun i => by omega
  simp only [m_can_stand, b_can_stand, l1_can_stand, eL, ap_V, ap_O, ap_own, getV_val, getO_val, getO_own, getO_ownd, getL_own, ap_C, ap_1, ap_2, ap_And, ap_Or, ap_Not, ap_If, ap_aNil, ap_aCons, ap_aStar, ap_Tup, ap_Lst, ap_TupS, ap_LstS, ap_Call, ap_Chain, ap_Cut, ap_oNone, ap_oSome, ap_bV, ap_bAnd, ap_bOr, ap_bNot, ap_bYes, ap_wS, ap_Rng1, ap_Rng2, ap_TupRg1, ap_TupRg2, ap_LstRg1, ap_LstRg2, ap_Enum, ap_Enum2, ap_Zip, ap_mNil, ap_mVal, ap_mOwn, ap_sNx, ap_Seq, seqK_nx, seqK_rt, ap_Asg, ap_Set, ap_Own, ownK_lst, ownK_dct, ap_Ret, ap_sIf, ap_Stk, ap_Drop, ap_App, ap_Ext, ap_PutL, ap_Par, ap_Frz, frzS_own, frzS_val, ap_fn, fnK_rt, fnK_nx, ite_bind, gIx_tup, gIx_lst, itemI0, itemI1, itemI2, itemI3, gCut_tup, gCut_lst, asB_bl, asI_int, asS_tup, asS_lst, asL_lst, gAdd_int, gAdd_tup, gAdd_lst, gSub_int, gMulA_int, gLt_int, gLe_int, gGt_int, gGe_int, fTuple_lst, fTuple_tup, fList_tup, fList_lst, fInt_int, fInt_bl, gIsi_int, gIsi_bl, gIsi_tup, gIsi_lst, gIsi_str, gIsi_non, gIsB_bl, gIsNotB_bl, M.ret_bind, M.stk_bind, M.draw_bind, M.bind_ret, ofO_some, ofO_none, List.getD_cons_zero, List.getD_cons_succ, List.set_cons_zero, List.set_cons_succ, List.length_cons, List.length_nil, List.cons_append, List.nil_append, List.append_nil, List.replicate, Nat.reduceSub, Nat.reduceAdd, Nat.reduceEqDiff, if_true, if_false, ite_true, ite_false, reduceIte, Bool.not_true, Bool.not_false, Bool.false_eq_true, Bool.true_and, Bool.false_and, Bool.and_true, Bool.and_false, len_tup, len_lst, ne_int, eq_int, setAll, Mn.wipe, Tg.go, Tg.goes, Option.bind_some, isTup, isIntT, isBlT, isStrT, isLstT, known, List.isEmpty_nil, ownOf, ap_LcF, ap_turn, FM_map, FM_ret, FM_if, FM_opt, FM_nil, oCons_some, oCons_none, noX_ret, ap_Lc2F, ap_turn2, FL_map, FL_ret, FL_nil, ap_go, ap_Wipe, numbered0, paired_map, fAll_map, fAny_map, List.length_map, cutL_from, cutL_upto, mapV_nil, mapV_cons, Int.cast_ofNat_Int, BEq.rfl, Int.reduceLT, Int.reduceLE, Int.reduceBEq, Int.zero_le_ofNat, decide_true, decide_false, ap_For]
  obtain ⟨σ', e⟩ := for_find (g := .t [.n 2, .n 3]) (b := lb1_can_stand) (enc := fun p : Nat × Nat => D.tup [.int (p.2 : Nat), eI p.1]) (p := badAt r l) (σ := [.val (eR r), .val (.tup (l.map eI)), .un, .un, .un, .un]) (r := .bl false) (σr := fun p => [.val (eR r), .val (.tup (l.map eI)), .val (.int (p.2 : Nat)), .val (eI p.1), .val (.lst ((l.drop (p.2 + 1)).map fun j => .int (near (rv r j)))), .un]) l.zipIdx fun p hp => by
    have hp1 : p.1 < r.length := hl _ (mem_zipIdx0 hp).1
    have hx : ∀ j ∈ l.drop (p.2 + 1), j < r.length := fun j hj => hl j (List.mem_of_mem_drop hj)
    rw [show badAt r l p = (!(ear (rv r p.1)).isEmpty || (l.drop (p.2 + 1)).any fun j => decide (near (rv r j) < far (rv r p.1))) from rfl]
    simp only [lb1_can_stand, c1_can_stand, ap_V, ap_O, ap_own, getV_val, getO_val, getO_own, getO_ownd, getL_own, ap_C, ap_1, ap_2, ap_And, ap_Or, ap_Not, ap_If, ap_aNil, ap_aCons, ap_aStar, ap_Tup, ap_Lst, ap_TupS, ap_LstS, ap_Call, ap_Chain, ap_Cut, ap_oNone, ap_oSome, ap_bV, ap_bAnd, ap_bOr, ap_bNot, ap_bYes, ap_wS, ap_Rng1, ap_Rng2, ap_TupRg1, ap_TupRg2, ap_LstRg1, ap_LstRg2, ap_Enum, ap_Enum2, ap_Zip, ap_mNil, ap_mVal, ap_mOwn, ap_sNx, ap_Seq, seqK_nx, seqK_rt, ap_Asg, ap_Set, ap_Own, ownK_lst, ownK_dct, ap_Ret, ap_sIf, ap_Stk, ap_Drop, ap_App, ap_Ext, ap_PutL, ap_Par, ap_Frz, frzS_own, frzS_val, ap_fn, fnK_rt, fnK_nx, ite_bind, gIx_tup, gIx_lst, itemI0, itemI1, itemI2, itemI3, gCut_tup, gCut_lst, asB_bl, asI_int, asS_tup, asS_lst, asL_lst, gAdd_int, gAdd_tup, gAdd_lst, gSub_int, gMulA_int, gLt_int, gLe_int, gGt_int, gGe_int, fTuple_lst, fTuple_tup, fList_tup, fList_lst, fInt_int, fInt_bl, gIsi_int, gIsi_bl, gIsi_tup, gIsi_lst, gIsi_str, gIsi_non, gIsB_bl, gIsNotB_bl, M.ret_bind, M.stk_bind, M.draw_bind, M.bind_ret, ofO_some, ofO_none, List.getD_cons_zero, List.getD_cons_succ, List.set_cons_zero, List.set_cons_succ, List.length_cons, List.length_nil, List.cons_append, List.nil_append, List.append_nil, List.replicate, Nat.reduceSub, Nat.reduceAdd, Nat.reduceEqDiff, if_true, if_false, ite_true, ite_false, reduceIte, Bool.not_true, Bool.not_false, Bool.false_eq_true, Bool.true_and, Bool.false_and, Bool.and_true, Bool.and_false, len_tup, len_lst, ne_int, eq_int, setAll, Mn.wipe, Tg.go, Tg.goes, Option.bind_some, isTup, isIntT, isBlT, isStrT, isLstT, known, List.isEmpty_nil, ownOf, ap_LcF, ap_turn, FM_map, FM_ret, FM_if, FM_opt, FM_nil, oCons_some, oCons_none, noX_ret, ap_Lc2F, ap_turn2, FL_map, FL_ret, FL_nil, ap_go, ap_Wipe, numbered0, paired_map, fAll_map, fAny_map, List.length_map, cutL_from, cutL_upto, mapV_nil, mapV_cons, Int.cast_ofNat_Int, BEq.rfl, Int.reduceLT, Int.reduceLE, Int.reduceBEq, Int.zero_le_ofNat, decide_true, decide_false, ap_For, e1, cutL_from, ← List.map_drop]
    rw [FM_congr (g := fun j => .ret (some (.int (near (rv r j))))) fun j hj => by
      simp only [e1_can_stand, eI, ap_V, ap_O, ap_own, getV_val, getO_val, getO_own, getO_ownd, getL_own, ap_C, ap_1, ap_2, ap_And, ap_Or, ap_Not, ap_If, ap_aNil, ap_aCons, ap_aStar, ap_Tup, ap_Lst, ap_TupS, ap_LstS, ap_Call, ap_Chain, ap_Cut, ap_oNone, ap_oSome, ap_bV, ap_bAnd, ap_bOr, ap_bNot, ap_bYes, ap_wS, ap_Rng1, ap_Rng2, ap_TupRg1, ap_TupRg2, ap_LstRg1, ap_LstRg2, ap_Enum, ap_Enum2, ap_Zip, ap_mNil, ap_mVal, ap_mOwn, ap_sNx, ap_Seq, seqK_nx, seqK_rt, ap_Asg, ap_Set, ap_Own, ownK_lst, ownK_dct, ap_Ret, ap_sIf, ap_Stk, ap_Drop, ap_App, ap_Ext, ap_PutL, ap_Par, ap_Frz, frzS_own, frzS_val, ap_fn, fnK_rt, fnK_nx, ite_bind, gIx_tup, gIx_lst, itemI0, itemI1, itemI2, itemI3, gCut_tup, gCut_lst, asB_bl, asI_int, asS_tup, asS_lst, asL_lst, gAdd_int, gAdd_tup, gAdd_lst, gSub_int, gMulA_int, gLt_int, gLe_int, gGt_int, gGe_int, fTuple_lst, fTuple_tup, fList_tup, fList_lst, fInt_int, fInt_bl, gIsi_int, gIsi_bl, gIsi_tup, gIsi_lst, gIsi_str, gIsi_non, gIsB_bl, gIsNotB_bl, M.ret_bind, M.stk_bind, M.draw_bind, M.bind_ret, ofO_some, ofO_none, List.getD_cons_zero, List.getD_cons_succ, List.set_cons_zero, List.set_cons_succ, List.length_cons, List.length_nil, List.cons_append, List.nil_append, List.append_nil, List.replicate, Nat.reduceSub, Nat.reduceAdd, Nat.reduceEqDiff, if_true, if_false, ite_true, ite_false, reduceIte, Bool.not_true, Bool.not_false, Bool.false_eq_true, Bool.true_and, Bool.false_and, Bool.and_true, Bool.and_false, len_tup, len_lst, ne_int, eq_int, setAll, Mn.wipe, Tg.go, Tg.goes, Option.bind_some, isTup, isIntT, isBlT, isStrT, isLstT, known, List.isEmpty_nil, ownOf, ap_LcF, ap_turn, FM_map, FM_ret, FM_if, FM_opt, FM_nil, oCons_some, oCons_none, noX_ret, ap_Lc2F, ap_turn2, FL_map, FL_ret, FL_nil, ap_go, ap_Wipe, numbered0, paired_map, fAll_map, fAny_map, List.length_map, cutL_from, cutL_upto, mapV_nil, mapV_cons, Int.cast_ofNat_Int, BEq.rfl, Int.reduceLT, Int.reduceLE, Int.reduceBEq, Int.zero_le_ofNat, decide_true, decide_false, ap_For, ixR (hx j hj), v_near_of (smAt hr (hx j hj))]]
    have h1 := neNil (enc := D.int) (ear (rv r p.1)) fun _ _ => rfl
    have h2 := neNil (enc := fun j => D.int (near (rv r j))) (l.drop (p.2 + 1)) fun _ _ => rfl
    cases he : (ear (rv r p.1)).isEmpty with
    | false => simp only [ap_V, ap_O, ap_own, getV_val, getO_val, getO_own, getO_ownd, getL_own, ap_C, ap_1, ap_2, ap_And, ap_Or, ap_Not, ap_If, ap_aNil, ap_aCons, ap_aStar, ap_Tup, ap_Lst, ap_TupS, ap_LstS, ap_Call, ap_Chain, ap_Cut, ap_oNone, ap_oSome, ap_bV, ap_bAnd, ap_bOr, ap_bNot, ap_bYes, ap_wS, ap_Rng1, ap_Rng2, ap_TupRg1, ap_TupRg2, ap_LstRg1, ap_LstRg2, ap_Enum, ap_Enum2, ap_Zip, ap_mNil, ap_mVal, ap_mOwn, ap_sNx, ap_Seq, seqK_nx, seqK_rt, ap_Asg, ap_Set, ap_Own, ownK_lst, ownK_dct, ap_Ret, ap_sIf, ap_Stk, ap_Drop, ap_App, ap_Ext, ap_PutL, ap_Par, ap_Frz, frzS_own, frzS_val, ap_fn, fnK_rt, fnK_nx, ite_bind, gIx_tup, gIx_lst, itemI0, itemI1, itemI2, itemI3, gCut_tup, gCut_lst, asB_bl, asI_int, asS_tup, asS_lst, asL_lst, gAdd_int, gAdd_tup, gAdd_lst, gSub_int, gMulA_int, gLt_int, gLe_int, gGt_int, gGe_int, fTuple_lst, fTuple_tup, fList_tup, fList_lst, fInt_int, fInt_bl, gIsi_int, gIsi_bl, gIsi_tup, gIsi_lst, gIsi_str, gIsi_non, gIsB_bl, gIsNotB_bl, M.ret_bind, M.stk_bind, M.draw_bind, M.bind_ret, ofO_some, ofO_none, List.getD_cons_zero, List.getD_cons_succ, List.set_cons_zero, List.set_cons_succ, List.length_cons, List.length_nil, List.cons_append, List.nil_append, List.append_nil, List.replicate, Nat.reduceSub, Nat.reduceAdd, Nat.reduceEqDiff, if_true, if_false, ite_true, ite_false, reduceIte, Bool.not_true, Bool.not_false, Bool.false_eq_true, Bool.true_and, Bool.false_and, Bool.and_true, Bool.and_false, len_tup, len_lst, ne_int, eq_int, setAll, Mn.wipe, Tg.go, Tg.goes, Option.bind_some, isTup, isIntT, isBlT, isStrT, isLstT, known, List.isEmpty_nil, ownOf, ap_LcF, ap_turn, FM_map, FM_ret, FM_if, FM_opt, FM_nil, oCons_some, oCons_none, noX_ret, ap_Lc2F, ap_turn2, FL_map, FL_ret, FL_nil, ap_go, ap_Wipe, numbered0, paired_map, fAll_map, fAny_map, List.length_map, cutL_from, cutL_upto, mapV_nil, mapV_cons, Int.cast_ofNat_Int, BEq.rfl, Int.reduceLT, Int.reduceLE, Int.reduceBEq, Int.zero_le_ofNat, decide_true, decide_false, ap_For, eI, ixR hp1, v_early_in, h1, he, Bool.true_or]
    | true =>
      cases hd : l.drop (p.2 + 1) with
      | nil =>
        rw [hd] at h2
        simp only [List.map_nil, List.isEmpty_nil] at h2
        simp only [ap_V, ap_O, ap_own, getV_val, getO_val, getO_own, getO_ownd, getL_own, ap_C, ap_1, ap_2, ap_And, ap_Or, ap_Not, ap_If, ap_aNil, ap_aCons, ap_aStar, ap_Tup, ap_Lst, ap_TupS, ap_LstS, ap_Call, ap_Chain, ap_Cut, ap_oNone, ap_oSome, ap_bV, ap_bAnd, ap_bOr, ap_bNot, ap_bYes, ap_wS, ap_Rng1, ap_Rng2, ap_TupRg1, ap_TupRg2, ap_LstRg1, ap_LstRg2, ap_Enum, ap_Enum2, ap_Zip, ap_mNil, ap_mVal, ap_mOwn, ap_sNx, ap_Seq, seqK_nx, seqK_rt, ap_Asg, ap_Set, ap_Own, ownK_lst, ownK_dct, ap_Ret, ap_sIf, ap_Stk, ap_Drop, ap_App, ap_Ext, ap_PutL, ap_Par, ap_Frz, frzS_own, frzS_val, ap_fn, fnK_rt, fnK_nx, ite_bind, gIx_tup, gIx_lst, itemI0, itemI1, itemI2, itemI3, gCut_tup, gCut_lst, asB_bl, asI_int, asS_tup, asS_lst, asL_lst, gAdd_int, gAdd_tup, gAdd_lst, gSub_int, gMulA_int, gLt_int, gLe_int, gGt_int, gGe_int, fTuple_lst, fTuple_tup, fList_tup, fList_lst, fInt_int, fInt_bl, gIsi_int, gIsi_bl, gIsi_tup, gIsi_lst, gIsi_str, gIsi_non, gIsB_bl, gIsNotB_bl, M.ret_bind, M.stk_bind, M.draw_bind, M.bind_ret, ofO_some, ofO_none, List.getD_cons_zero, List.getD_cons_succ, List.set_cons_zero, List.set_cons_succ, List.length_cons, List.length_nil, List.cons_append, List.nil_append, List.append_nil, List.replicate, Nat.reduceSub, Nat.reduceAdd, Nat.reduceEqDiff, if_true, if_false, ite_true, ite_false, reduceIte, Bool.not_true, Bool.not_false, Bool.false_eq_true, Bool.true_and, Bool.false_and, Bool.and_true, Bool.and_false, len_tup, len_lst, ne_int, eq_int, setAll, Mn.wipe, Tg.go, Tg.goes, Option.bind_some, isTup, isIntT, isBlT, isStrT, isLstT, known, List.isEmpty_nil, ownOf, ap_LcF, ap_turn, FM_map, FM_ret, FM_if, FM_opt, FM_nil, oCons_some, oCons_none, noX_ret, ap_Lc2F, ap_turn2, FL_map, FL_ret, FL_nil, ap_go, ap_Wipe, numbered0, paired_map, fAll_map, fAny_map, List.length_map, cutL_from, cutL_upto, mapV_nil, mapV_cons, Int.cast_ofNat_Int, BEq.rfl, Int.reduceLT, Int.reduceLE, Int.reduceBEq, Int.zero_le_ofNat, decide_true, decide_false, ap_For, eI, ixR hp1, v_early_in, h1, he, h2, List.map_nil, Bool.false_or, List.any_nil]
      | cons j js =>
        rw [hd] at h2
        have hm := fMin_map (fun j => near (rv r j)) j js
        have e3 : decide (leastOf (near (rv r j)) (js.map fun j => near (rv r j)) < far (rv r p.1)) = ((j :: js).any fun j => decide (near (rv r j) < far (rv r p.1))) := by
          rw [Bool.eq_iff_iff, decide_eq_true_eq, leastOf_lt]
          simp only [List.any_cons, Bool.or_eq_true, decide_eq_true_eq, List.any_eq_true, List.mem_map]
          exact or_congr_right ⟨fun ⟨y, ⟨a, h, e⟩, k⟩ => ⟨a, h, e ▸ k⟩, fun ⟨a, h, k⟩ => ⟨_, ⟨a, h, rfl⟩, k⟩⟩
        simp only [List.isEmpty_cons] at h2
        simp only [ap_V, ap_O, ap_own, getV_val, getO_val, getO_own, getO_ownd, getL_own, ap_C, ap_1, ap_2, ap_And, ap_Or, ap_Not, ap_If, ap_aNil, ap_aCons, ap_aStar, ap_Tup, ap_Lst, ap_TupS, ap_LstS, ap_Call, ap_Chain, ap_Cut, ap_oNone, ap_oSome, ap_bV, ap_bAnd, ap_bOr, ap_bNot, ap_bYes, ap_wS, ap_Rng1, ap_Rng2, ap_TupRg1, ap_TupRg2, ap_LstRg1, ap_LstRg2, ap_Enum, ap_Enum2, ap_Zip, ap_mNil, ap_mVal, ap_mOwn, ap_sNx, ap_Seq, seqK_nx, seqK_rt, ap_Asg, ap_Set, ap_Own, ownK_lst, ownK_dct, ap_Ret, ap_sIf, ap_Stk, ap_Drop, ap_App, ap_Ext, ap_PutL, ap_Par, ap_Frz, frzS_own, frzS_val, ap_fn, fnK_rt, fnK_nx, ite_bind, gIx_tup, gIx_lst, itemI0, itemI1, itemI2, itemI3, gCut_tup, gCut_lst, asB_bl, asI_int, asS_tup, asS_lst, asL_lst, gAdd_int, gAdd_tup, gAdd_lst, gSub_int, gMulA_int, gLt_int, gLe_int, gGt_int, gGe_int, fTuple_lst, fTuple_tup, fList_tup, fList_lst, fInt_int, fInt_bl, gIsi_int, gIsi_bl, gIsi_tup, gIsi_lst, gIsi_str, gIsi_non, gIsB_bl, gIsNotB_bl, M.ret_bind, M.stk_bind, M.draw_bind, M.bind_ret, ofO_some, ofO_none, List.getD_cons_zero, List.getD_cons_succ, List.set_cons_zero, List.set_cons_succ, List.length_cons, List.length_nil, List.cons_append, List.nil_append, List.append_nil, List.replicate, Nat.reduceSub, Nat.reduceAdd, Nat.reduceEqDiff, if_true, if_false, ite_true, ite_false, reduceIte, Bool.not_true, Bool.not_false, Bool.false_eq_true, Bool.true_and, Bool.false_and, Bool.and_true, Bool.and_false, len_tup, len_lst, ne_int, eq_int, setAll, Mn.wipe, Tg.go, Tg.goes, Option.bind_some, isTup, isIntT, isBlT, isStrT, isLstT, known, List.isEmpty_nil, ownOf, ap_LcF, ap_turn, FM_map, FM_ret, FM_if, FM_opt, FM_nil, oCons_some, oCons_none, noX_ret, ap_Lc2F, ap_turn2, FL_map, FL_ret, FL_nil, ap_go, ap_Wipe, numbered0, paired_map, fAll_map, fAny_map, List.length_map, cutL_from, cutL_upto, mapV_nil, mapV_cons, Int.cast_ofNat_Int, BEq.rfl, Int.reduceLT, Int.reduceLE, Int.reduceBEq, Int.zero_le_ofNat, decide_true, decide_false, ap_For, eI, ixR hp1, v_early_in, h1, he, h2, v_far_of (smAt hr hp1), hm, e3, Bool.false_or]
  rw [e, e0]
  cases stB (rv r) l <;> rfl
/-! the soonest ticks -/
def tk (t : Int) (v : Vl) : List Int := max t v.1.1 :: v.2.map fun c => max (max t v.1.1) c.1
theorem mx (i j : Int) : (if j > i then j else i) = max i j := by omega
theorem v_ticks_from {v : Vl} (t : Int) (h : v.2.length ≤ 1000) : m_ticks_from [eV v, .int t] = .ret (.tup ((tk t v).map D.int)) := by
  have h1 : (v.2.map fun c => D.int (max (max t v.1.1) c.1)).length + 1 ≤ 16777216 := by rw [List.length_map]; omega
  rw [List.length_map] at h1
  simp only [m_ticks_from, b_ticks_from, c1_ticks_from, e1_ticks_from, ap_V, ap_O, ap_own, getV_val, getO_val, getO_own, getO_ownd, getL_own, ap_C, ap_1, ap_2, ap_And, ap_Or, ap_Not, ap_If, ap_aNil, ap_aCons, ap_aStar, ap_Tup, ap_Lst, ap_TupS, ap_LstS, ap_Call, ap_Chain, ap_Cut, ap_oNone, ap_oSome, ap_bV, ap_bAnd, ap_bOr, ap_bNot, ap_bYes, ap_wS, ap_Rng1, ap_Rng2, ap_TupRg1, ap_TupRg2, ap_LstRg1, ap_LstRg2, ap_Enum, ap_Enum2, ap_Zip, ap_mNil, ap_mVal, ap_mOwn, ap_sNx, ap_Seq, seqK_nx, seqK_rt, ap_Asg, ap_Set, ap_Own, ownK_lst, ownK_dct, ap_Ret, ap_sIf, ap_Stk, ap_Drop, ap_App, ap_Ext, ap_PutL, ap_Par, ap_Frz, frzS_own, frzS_val, ap_fn, fnK_rt, fnK_nx, ite_bind, gIx_tup, gIx_lst, itemI0, itemI1, itemI2, itemI3, gCut_tup, gCut_lst, asB_bl, asI_int, asS_tup, asS_lst, asL_lst, gAdd_int, gAdd_tup, gAdd_lst, gSub_int, gMulA_int, gLt_int, gLe_int, gGt_int, gGe_int, fTuple_lst, fTuple_tup, fList_tup, fList_lst, fInt_int, fInt_bl, gIsi_int, gIsi_bl, gIsi_tup, gIsi_lst, gIsi_str, gIsi_non, gIsB_bl, gIsNotB_bl, M.ret_bind, M.stk_bind, M.draw_bind, M.bind_ret, ofO_some, ofO_none, List.getD_cons_zero, List.getD_cons_succ, List.set_cons_zero, List.set_cons_succ, List.length_cons, List.length_nil, List.cons_append, List.nil_append, List.append_nil, List.replicate, Nat.reduceSub, Nat.reduceAdd, Nat.reduceEqDiff, if_true, if_false, ite_true, ite_false, reduceIte, Bool.not_true, Bool.not_false, Bool.false_eq_true, Bool.true_and, Bool.false_and, Bool.and_true, Bool.and_false, len_tup, len_lst, ne_int, eq_int, setAll, Mn.wipe, Tg.go, Tg.goes, Option.bind_some, isTup, isIntT, isBlT, isStrT, isLstT, known, List.isEmpty_nil, ownOf, ap_LcF, ap_turn, FM_map, FM_ret, FM_if, FM_opt, FM_nil, oCons_some, oCons_none, noX_ret, ap_Lc2F, ap_turn2, FL_map, FL_ret, FL_nil, ap_go, ap_Wipe, numbered0, paired_map, fAll_map, fAny_map, List.length_map, cutL_from, cutL_upto, mapV_nil, mapV_cons, Int.cast_ofNat_Int, BEq.rfl, Int.reduceLT, Int.reduceLE, Int.reduceBEq, Int.zero_le_ofNat, decide_true, decide_false, ap_For, ix0, ix1, cx0, fMax_2, mx, h1, tk, List.map_map]
  simp only [List.map_cons, List.map_map]; rfl
def pl (f : Nat → Vl) : Int → List Nat → List (Nat × List Int)
  | _, [] => []
  | t, i :: row => (i, tk t (f i)) :: pl f (max t (far (f i))) row
def lastT (f : Nat → Vl) (t : Int) (row : List Nat) : Int := row.foldl (fun t i => max t (far (f i))) t
def eTk (l : List Int) : D := .tup (l.map D.int)
def ent (p : Nat × List Int) : D × D := (eI p.1, eTk p.2)
theorem key_eI (i j : Nat) : keyEq (eI i) (eI j) = decide (i = j) := by
  show ((i : Int) == (j : Int)) = _
  rw [Bool.eq_iff_iff, beq_iff_eq, decide_eq_true_eq]; omega
theorem getK_ent (i : Nat) : ∀ L : List (Nat × List Int), getK (L.map ent) (eI i) = (L.lookup i).map eTk
  | [] => rfl
  | (j, t) :: L => by
    have ih := getK_ent i L
    unfold getK at ih ⊢
    rw [List.map_cons, List.find?_cons]
    show (match keyEq (eI j) (eI i) with | true => _ | false => _ : Option (D × D)).map _ = _
    rw [key_eI, List.lookup_cons]
    by_cases h : i = j
    · subst h; simp [ent]
    · have h1 : decide (j = i) = false := by simp; omega
      have h2 : (i == j) = false := by simp [h]
      rw [h1, h2]; exact ih
theorem putK_ent {i : Nat} {t : List Int} {L : List (Nat × List Int)} (h : i ∉ L.map (·.1)) : putKD (L.map ent) (eI i) (eTk t) = (L ++ [(i, t)]).map ent := by
  have e : ((L.map ent).any fun p => keyEq p.1 (eI i)) = false := by
    rw [List.any_map, List.any_eq_false]
    intro p hp
    show ¬ keyEq (eI p.1) (eI i) = true
    rw [key_eI]
    have : p.1 ≠ i := fun e => h (List.mem_map.mpr ⟨p, hp, e⟩)
    simpa using this
  unfold putKD
  rw [if_neg (by rw [e]; decide), List.map_append]; rfl
theorem keys_ent (L : List (Nat × List Int)) : ((L.map ent).all fun p => isKeyD p.1) = true := by
  rw [List.all_map, List.all_eq_true]; intro p _; rfl
theorem pl_keys (f : Nat → Vl) : ∀ (row : List Nat) (t : Int), (pl f t row).map (·.1) = row
  | [], _ => rfl
  | i :: row, t => by rw [pl, List.map_cons, pl_keys f row]
theorem soon_go {r : List Vl} (hr : okR r) (a b : SV) : ∀ (row : List Nat) (L : List (Nat × List Int)) (t : Int), (∀ i ∈ row, i < r.length) → (L.map (·.1) ++ row).Nodup → L.length + row.length ≤ 1000 →
    forGo (.n 5) lb1_soonest_in (row.map eI) [.val (eR r), a, b, .ownd (L.map ent), .val (.int t), .un] = .ret (.nx, [.val (eR r), a, b, .ownd ((L ++ pl (rv r) t row).map ent), .val (.int (lastT (rv r) t row)), .un])
  | [], L, t, _, _, _ => by simp [forGo_nil, pl, lastT]
  | i :: row, L, t, hl, hn, hb => by
    have hi := hl i List.mem_cons_self
    have h1 : i ∉ L.map (·.1) := fun h => by
      have := (List.nodup_append.mp hn).2.2 i h i List.mem_cons_self
      exact this rfl
    have h2 : L.length < 16777216 := by simp only [List.length_cons] at hb; omega
    have hk : isKeyD (eI i) = true := rfl
    have ht : (D.tup ((tk t (rv r i)).map D.int)) = eTk (tk t (rv r i)) := rfl
    have ih := soon_go hr a b row (L ++ [(i, tk t (rv r i))]) (max t (far (rv r i))) (fun j hj => hl j (List.mem_cons_of_mem _ hj)) (by rw [List.map_append, List.append_assoc]; exact hn) (by rw [List.length_append]; simp at hb ⊢; omega)
    have hx : gIx (eR r) (eI i) = .ret (eV (rv r i)) := ixR hi
    rw [List.map_cons, forGo_turn]
    have e : turn (.n 5) lb1_soonest_in (eI i) [.val (eR r), a, b, .ownd (L.map ent), .val (.int t), .un] = .ret (.nx, [.val (eR r), a, b, .ownd ((L ++ [(i, tk t (rv r i))]).map ent), .val (.int (max t (far (rv r i)))), .un]) := by
      simp only [lb1_soonest_in, sPutD, getDc, ap_V, ap_O, ap_own, getV_val, getO_val, getO_own, getO_ownd, getL_own, ap_C, ap_1, ap_2, ap_And, ap_Or, ap_Not, ap_If, ap_aNil, ap_aCons, ap_aStar, ap_Tup, ap_Lst, ap_TupS, ap_LstS, ap_Call, ap_Chain, ap_Cut, ap_oNone, ap_oSome, ap_bV, ap_bAnd, ap_bOr, ap_bNot, ap_bYes, ap_wS, ap_Rng1, ap_Rng2, ap_TupRg1, ap_TupRg2, ap_LstRg1, ap_LstRg2, ap_Enum, ap_Enum2, ap_Zip, ap_mNil, ap_mVal, ap_mOwn, ap_sNx, ap_Seq, seqK_nx, seqK_rt, ap_Asg, ap_Set, ap_Own, ownK_lst, ownK_dct, ap_Ret, ap_sIf, ap_Stk, ap_Drop, ap_App, ap_Ext, ap_PutL, ap_Par, ap_Frz, frzS_own, frzS_val, ap_fn, fnK_rt, fnK_nx, ite_bind, gIx_tup, gIx_lst, itemI0, itemI1, itemI2, itemI3, gCut_tup, gCut_lst, asB_bl, asI_int, asS_tup, asS_lst, asL_lst, gAdd_int, gAdd_tup, gAdd_lst, gSub_int, gMulA_int, gLt_int, gLe_int, gGt_int, gGe_int, fTuple_lst, fTuple_tup, fList_tup, fList_lst, fInt_int, fInt_bl, gIsi_int, gIsi_bl, gIsi_tup, gIsi_lst, gIsi_str, gIsi_non, gIsB_bl, gIsNotB_bl, M.ret_bind, M.stk_bind, M.draw_bind, M.bind_ret, ofO_some, ofO_none, List.getD_cons_zero, List.getD_cons_succ, List.set_cons_zero, List.set_cons_succ, List.length_cons, List.length_nil, List.cons_append, List.nil_append, List.append_nil, List.replicate, Nat.reduceSub, Nat.reduceAdd, Nat.reduceEqDiff, if_true, if_false, ite_true, ite_false, reduceIte, Bool.not_true, Bool.not_false, Bool.false_eq_true, Bool.true_and, Bool.false_and, Bool.and_true, Bool.and_false, len_tup, len_lst, ne_int, eq_int, setAll, Mn.wipe, Tg.go, Tg.goes, Option.bind_some, isTup, isIntT, isBlT, isStrT, isLstT, known, List.isEmpty_nil, ownOf, ap_LcF, ap_turn, FM_map, FM_ret, FM_if, FM_opt, FM_nil, oCons_some, oCons_none, noX_ret, ap_Lc2F, ap_turn2, FL_map, FL_ret, FL_nil, ap_go, ap_Wipe, numbered0, paired_map, fAll_map, fAny_map, List.length_map, cutL_from, cutL_upto, mapV_nil, mapV_cons, Int.cast_ofNat_Int, BEq.rfl, Int.reduceLT, Int.reduceLE, Int.reduceBEq, Int.zero_le_ofNat, decide_true, decide_false, ap_For, hx, v_ticks_from t (smAt hr hi), v_far_of (smAt hr hi), keys_ent, hk, h2, and_self, ht, putK_ent h1, fMax_2, mx]
    rw [e, M.ret_bind, forK_nx, ih, List.append_assoc]; rfl
def eT (T : List (List Int)) : D := .tup (T.map eTk)
def look (L : List (Nat × List Int)) (i : Nat) : List Int := (L.lookup i).getD []
theorem look_some {L : List (Nat × List Int)} {i : Nat} (h : i ∈ L.map (·.1)) : L.lookup i = some (look L i) := by
  unfold look
  cases e : L.lookup i with
  | some x => rfl
  | none =>
    obtain ⟨p, hp, rfl⟩ := List.mem_map.mp h
    rw [List.lookup_eq_none_iff] at e
    have := e p hp
    simp at this
def soon (f : Nat → Vl) (l row : List Nat) : List (List Int) := l.map (look (pl f (-1000000000) row))
theorem v_soonest_in {r : List Vl} (hr : okR r) {l row : List Nat} (hl : ∀ i ∈ row, i < r.length) (hn : row.Nodup) (hs : ∀ i ∈ l, i ∈ row) (hb : row.length ≤ 1000) : m_soonest_in [eR r, eL l, eL row] = .ret (eT (soon (rv r) l row)) := by
  have h := soon_go hr (.val (.tup (l.map eI))) (.val (.tup (row.map eI))) row [] (-1000000000) hl (by simpa using hn) (by simpa using hb)
  simp only [List.map_nil, List.nil_append] at h
  simp only [m_soonest_in, b_soonest_in, l1_soonest_in, c1_soonest_in, eL, xD0, ap_V, ap_O, ap_own, getV_val, getO_val, getO_own, getO_ownd, getL_own, ap_C, ap_1, ap_2, ap_And, ap_Or, ap_Not, ap_If, ap_aNil, ap_aCons, ap_aStar, ap_Tup, ap_Lst, ap_TupS, ap_LstS, ap_Call, ap_Chain, ap_Cut, ap_oNone, ap_oSome, ap_bV, ap_bAnd, ap_bOr, ap_bNot, ap_bYes, ap_wS, ap_Rng1, ap_Rng2, ap_TupRg1, ap_TupRg2, ap_LstRg1, ap_LstRg2, ap_Enum, ap_Enum2, ap_Zip, ap_mNil, ap_mVal, ap_mOwn, ap_sNx, ap_Seq, seqK_nx, seqK_rt, ap_Asg, ap_Set, ap_Own, ownK_lst, ownK_dct, ap_Ret, ap_sIf, ap_Stk, ap_Drop, ap_App, ap_Ext, ap_PutL, ap_Par, ap_Frz, frzS_own, frzS_val, ap_fn, fnK_rt, fnK_nx, ite_bind, gIx_tup, gIx_lst, itemI0, itemI1, itemI2, itemI3, gCut_tup, gCut_lst, asB_bl, asI_int, asS_tup, asS_lst, asL_lst, gAdd_int, gAdd_tup, gAdd_lst, gSub_int, gMulA_int, gLt_int, gLe_int, gGt_int, gGe_int, fTuple_lst, fTuple_tup, fList_tup, fList_lst, fInt_int, fInt_bl, gIsi_int, gIsi_bl, gIsi_tup, gIsi_lst, gIsi_str, gIsi_non, gIsB_bl, gIsNotB_bl, M.ret_bind, M.stk_bind, M.draw_bind, M.bind_ret, ofO_some, ofO_none, List.getD_cons_zero, List.getD_cons_succ, List.set_cons_zero, List.set_cons_succ, List.length_cons, List.length_nil, List.cons_append, List.nil_append, List.append_nil, List.replicate, Nat.reduceSub, Nat.reduceAdd, Nat.reduceEqDiff, if_true, if_false, ite_true, ite_false, reduceIte, Bool.not_true, Bool.not_false, Bool.false_eq_true, Bool.true_and, Bool.false_and, Bool.and_true, Bool.and_false, len_tup, len_lst, ne_int, eq_int, setAll, Mn.wipe, Tg.go, Tg.goes, Option.bind_some, isTup, isIntT, isBlT, isStrT, isLstT, known, List.isEmpty_nil, ownOf, ap_LcF, ap_turn, FM_map, FM_ret, FM_if, FM_opt, FM_nil, oCons_some, oCons_none, noX_ret, ap_Lc2F, ap_turn2, FL_map, FL_ret, FL_nil, ap_go, ap_Wipe, numbered0, paired_map, fAll_map, fAny_map, List.length_map, cutL_from, cutL_upto, mapV_nil, mapV_cons, Int.cast_ofNat_Int, BEq.rfl, Int.reduceLT, Int.reduceLE, Int.reduceBEq, Int.zero_le_ofNat, decide_true, decide_false, ap_For, ownOf, Int.reduceSub, Int.reduceNeg, h]
  rw [FM_congr (g := fun i => .ret (some (eTk (look (pl (rv r) (-1000000000) row) i)))) fun i hi => by
    have hi' : i ∈ (pl (rv r) (-1000000000) row).map (·.1) := by rw [pl_keys]; exact hs i hi
    have hk : isKeyD (eI i) = true := rfl
    simp only [e1_soonest_in, gIxD, ap_V, ap_O, ap_own, getV_val, getO_val, getO_own, getO_ownd, getL_own, ap_C, ap_1, ap_2, ap_And, ap_Or, ap_Not, ap_If, ap_aNil, ap_aCons, ap_aStar, ap_Tup, ap_Lst, ap_TupS, ap_LstS, ap_Call, ap_Chain, ap_Cut, ap_oNone, ap_oSome, ap_bV, ap_bAnd, ap_bOr, ap_bNot, ap_bYes, ap_wS, ap_Rng1, ap_Rng2, ap_TupRg1, ap_TupRg2, ap_LstRg1, ap_LstRg2, ap_Enum, ap_Enum2, ap_Zip, ap_mNil, ap_mVal, ap_mOwn, ap_sNx, ap_Seq, seqK_nx, seqK_rt, ap_Asg, ap_Set, ap_Own, ownK_lst, ownK_dct, ap_Ret, ap_sIf, ap_Stk, ap_Drop, ap_App, ap_Ext, ap_PutL, ap_Par, ap_Frz, frzS_own, frzS_val, ap_fn, fnK_rt, fnK_nx, ite_bind, gIx_tup, gIx_lst, itemI0, itemI1, itemI2, itemI3, gCut_tup, gCut_lst, asB_bl, asI_int, asS_tup, asS_lst, asL_lst, gAdd_int, gAdd_tup, gAdd_lst, gSub_int, gMulA_int, gLt_int, gLe_int, gGt_int, gGe_int, fTuple_lst, fTuple_tup, fList_tup, fList_lst, fInt_int, fInt_bl, gIsi_int, gIsi_bl, gIsi_tup, gIsi_lst, gIsi_str, gIsi_non, gIsB_bl, gIsNotB_bl, M.ret_bind, M.stk_bind, M.draw_bind, M.bind_ret, ofO_some, ofO_none, List.getD_cons_zero, List.getD_cons_succ, List.set_cons_zero, List.set_cons_succ, List.length_cons, List.length_nil, List.cons_append, List.nil_append, List.append_nil, List.replicate, Nat.reduceSub, Nat.reduceAdd, Nat.reduceEqDiff, if_true, if_false, ite_true, ite_false, reduceIte, Bool.not_true, Bool.not_false, Bool.false_eq_true, Bool.true_and, Bool.false_and, Bool.and_true, Bool.and_false, len_tup, len_lst, ne_int, eq_int, setAll, Mn.wipe, Tg.go, Tg.goes, Option.bind_some, isTup, isIntT, isBlT, isStrT, isLstT, known, List.isEmpty_nil, ownOf, ap_LcF, ap_turn, FM_map, FM_ret, FM_if, FM_opt, FM_nil, oCons_some, oCons_none, noX_ret, ap_Lc2F, ap_turn2, FL_map, FL_ret, FL_nil, ap_go, ap_Wipe, numbered0, paired_map, fAll_map, fAny_map, List.length_map, cutL_from, cutL_upto, mapV_nil, mapV_cons, Int.cast_ofNat_Int, BEq.rfl, Int.reduceLT, Int.reduceLE, Int.reduceBEq, Int.zero_le_ofNat, decide_true, decide_false, ap_For, getK_ent, look_some hi', hk, Option.map_some]]
  simp only [ap_V, ap_O, ap_own, getV_val, getO_val, getO_own, getO_ownd, getL_own, ap_C, ap_1, ap_2, ap_And, ap_Or, ap_Not, ap_If, ap_aNil, ap_aCons, ap_aStar, ap_Tup, ap_Lst, ap_TupS, ap_LstS, ap_Call, ap_Chain, ap_Cut, ap_oNone, ap_oSome, ap_bV, ap_bAnd, ap_bOr, ap_bNot, ap_bYes, ap_wS, ap_Rng1, ap_Rng2, ap_TupRg1, ap_TupRg2, ap_LstRg1, ap_LstRg2, ap_Enum, ap_Enum2, ap_Zip, ap_mNil, ap_mVal, ap_mOwn, ap_sNx, ap_Seq, seqK_nx, seqK_rt, ap_Asg, ap_Set, ap_Own, ownK_lst, ownK_dct, ap_Ret, ap_sIf, ap_Stk, ap_Drop, ap_App, ap_Ext, ap_PutL, ap_Par, ap_Frz, frzS_own, frzS_val, ap_fn, fnK_rt, fnK_nx, ite_bind, gIx_tup, gIx_lst, itemI0, itemI1, itemI2, itemI3, gCut_tup, gCut_lst, asB_bl, asI_int, asS_tup, asS_lst, asL_lst, gAdd_int, gAdd_tup, gAdd_lst, gSub_int, gMulA_int, gLt_int, gLe_int, gGt_int, gGe_int, fTuple_lst, fTuple_tup, fList_tup, fList_lst, fInt_int, fInt_bl, gIsi_int, gIsi_bl, gIsi_tup, gIsi_lst, gIsi_str, gIsi_non, gIsB_bl, gIsNotB_bl, M.ret_bind, M.stk_bind, M.draw_bind, M.bind_ret, ofO_some, ofO_none, List.getD_cons_zero, List.getD_cons_succ, List.set_cons_zero, List.set_cons_succ, List.length_cons, List.length_nil, List.cons_append, List.nil_append, List.append_nil, List.replicate, Nat.reduceSub, Nat.reduceAdd, Nat.reduceEqDiff, if_true, if_false, ite_true, ite_false, reduceIte, Bool.not_true, Bool.not_false, Bool.false_eq_true, Bool.true_and, Bool.false_and, Bool.and_true, Bool.and_false, len_tup, len_lst, ne_int, eq_int, setAll, Mn.wipe, Tg.go, Tg.goes, Option.bind_some, isTup, isIntT, isBlT, isStrT, isLstT, known, List.isEmpty_nil, ownOf, ap_LcF, ap_turn, FM_map, FM_ret, FM_if, FM_opt, FM_nil, oCons_some, oCons_none, noX_ret, ap_Lc2F, ap_turn2, FL_map, FL_ret, FL_nil, ap_go, ap_Wipe, numbered0, paired_map, fAll_map, fAny_map, List.length_map, cutL_from, cutL_upto, mapV_nil, mapV_cons, Int.cast_ofNat_Int, BEq.rfl, Int.reduceLT, Int.reduceLE, Int.reduceBEq, Int.zero_le_ofNat, decide_true, decide_false, ap_For, eT, soon, List.map_map]; rfl
/-! need_row -/
theorem toP_eI (i : Nat) : toP (eI i) = .int (i : Int) := rfl
theorem dLe_eI (i j : Nat) : dLe (eI i) (eI j) = decide (i ≤ j) := by
  have e := congrFun (congrFun (PySem.W.dataLe_int (fun i : Nat => (i : Int))) i) j
  show (!PySem.W.dataLt (.int (j : Int)) (.int (i : Int))) = _
  have e2 : (!PySem.W.dataLt (.int (j : Int)) (.int (i : Int))) = decide ((i : Int) ≤ (j : Int)) := e
  rw [e2, decide_eq_decide]; omega
theorem sortable_eI (l : List Nat) : sortable (l.map eI) = true := by
  have h1 : flats 49 (l.map eI) = true := flats_map fun _ _ => rfl
  have h2 : alikeB (l.map eI) = true := by
    unfold alikeB
    rw [List.all_map, List.all_eq_true]
    intro i _
    show (l.map eI).all _ = true
    rw [List.all_map, List.all_eq_true]
    intro j _; rfl
  have h3 : othersB (l.map eI) = true := by
    unfold othersB
    rw [List.all_map, List.all_eq_true]
    intro i _; rfl
  unfold sortable
  rw [h1, h2, h3, Bool.or_true]; rfl
theorem sort_eI {l row : List Nat} (h : row.Perm l) (hl : l.Pairwise (· ≤ ·)) : (row.map eI).mergeSort dLe = l.map eI := by
  rw [← List.map_mergeSort (f := eI) (r := fun i j => decide (i ≤ j)) (s := dLe) (l := row) (fun a _ b _ => (dLe_eI a b).symm)]
  congr 1
  refine List.Perm.eq_of_pairwise (le := (· ≤ ·)) (fun a b _ _ h1 h2 => Nat.le_antisymm h1 h2) ?_ hl ((List.mergeSort_perm _ _).trans h)
  exact (List.pairwise_mergeSort (le := fun i j : Nat => decide (i ≤ j)) (fun a b c h1 h2 => by simp at *; omega) (fun a b => by simp; omega) row).imp fun h => of_decide_eq_true h
theorem v_is_int_eI (i : Nat) : m_is_integer [eI i] = .ret (.bl true) := v_is_integer _
theorem v_need_row {l row : List Nat} (h : row.Perm l) (hl : l.Pairwise (· < ·)) : m_need_row [eL l, eL row] = .ret .non := by
  have hs := sort_eI h (hl.imp Nat.le_of_lt)
  have hse := sortable_eI row
  have hd : gNe (.tup (l.map eI)) (.tup (l.map eI)) = .ret (.bl false) := ne_self (n := 1) (by simp only [flat]; exact flats_map fun _ _ => rfl) (by decide)
  simp only [m_need_row, b_need_row, c1_need_row, e1_need_row, eL, ap_V, ap_O, ap_own, getV_val, getO_val, getO_own, getO_ownd, getL_own, ap_C, ap_1, ap_2, ap_And, ap_Or, ap_Not, ap_If, ap_aNil, ap_aCons, ap_aStar, ap_Tup, ap_Lst, ap_TupS, ap_LstS, ap_Call, ap_Chain, ap_Cut, ap_oNone, ap_oSome, ap_bV, ap_bAnd, ap_bOr, ap_bNot, ap_bYes, ap_wS, ap_Rng1, ap_Rng2, ap_TupRg1, ap_TupRg2, ap_LstRg1, ap_LstRg2, ap_Enum, ap_Enum2, ap_Zip, ap_mNil, ap_mVal, ap_mOwn, ap_sNx, ap_Seq, seqK_nx, seqK_rt, ap_Asg, ap_Set, ap_Own, ownK_lst, ownK_dct, ap_Ret, ap_sIf, ap_Stk, ap_Drop, ap_App, ap_Ext, ap_PutL, ap_Par, ap_Frz, frzS_own, frzS_val, ap_fn, fnK_rt, fnK_nx, ite_bind, gIx_tup, gIx_lst, itemI0, itemI1, itemI2, itemI3, gCut_tup, gCut_lst, asB_bl, asI_int, asS_tup, asS_lst, asL_lst, gAdd_int, gAdd_tup, gAdd_lst, gSub_int, gMulA_int, gLt_int, gLe_int, gGt_int, gGe_int, fTuple_lst, fTuple_tup, fList_tup, fList_lst, fInt_int, fInt_bl, gIsi_int, gIsi_bl, gIsi_tup, gIsi_lst, gIsi_str, gIsi_non, gIsB_bl, gIsNotB_bl, M.ret_bind, M.stk_bind, M.draw_bind, M.bind_ret, ofO_some, ofO_none, List.getD_cons_zero, List.getD_cons_succ, List.set_cons_zero, List.set_cons_succ, List.length_cons, List.length_nil, List.cons_append, List.nil_append, List.append_nil, List.replicate, Nat.reduceSub, Nat.reduceAdd, Nat.reduceEqDiff, if_true, if_false, ite_true, ite_false, reduceIte, Bool.not_true, Bool.not_false, Bool.false_eq_true, Bool.true_and, Bool.false_and, Bool.and_true, Bool.and_false, len_tup, len_lst, ne_int, eq_int, setAll, Mn.wipe, Tg.go, Tg.goes, Option.bind_some, isTup, isIntT, isBlT, isStrT, isLstT, known, List.isEmpty_nil, ownOf, ap_LcF, ap_turn, FM_map, FM_ret, FM_if, FM_opt, FM_nil, oCons_some, oCons_none, noX_ret, ap_Lc2F, ap_turn2, FL_map, FL_ret, FL_nil, ap_go, ap_Wipe, numbered0, paired_map, fAll_map, fAny_map, List.length_map, cutL_from, cutL_upto, mapV_nil, mapV_cons, Int.cast_ofNat_Int, BEq.rfl, Int.reduceLT, Int.reduceLE, Int.reduceBEq, Int.zero_le_ofNat, decide_true, decide_false, ap_For, v_is_int_eI, all_true, fSortedT, hse, hs, hd]
theorem v_soonest_placing {r : List Vl} (hr : okR r) {l row : List Nat} (h : l.Pairwise (· < ·)) (hl : ∀ i ∈ l, i < r.length) (hp : row.Perm l) : m_soonest_placing [eR r, eL l, eL row] = .ret (if stB (rv r) row = true then eT (soon (rv r) l row) else .non) := by
  have hb := lot_len hr h hl
  have hrow : ∀ i ∈ row, i < r.length := fun i hi => hl i (hp.mem_iff.mp hi)
  simp only [m_soonest_placing, b_soonest_placing, ap_V, ap_O, ap_own, getV_val, getO_val, getO_own, getO_ownd, getL_own, ap_C, ap_1, ap_2, ap_And, ap_Or, ap_Not, ap_If, ap_aNil, ap_aCons, ap_aStar, ap_Tup, ap_Lst, ap_TupS, ap_LstS, ap_Call, ap_Chain, ap_Cut, ap_oNone, ap_oSome, ap_bV, ap_bAnd, ap_bOr, ap_bNot, ap_bYes, ap_wS, ap_Rng1, ap_Rng2, ap_TupRg1, ap_TupRg2, ap_LstRg1, ap_LstRg2, ap_Enum, ap_Enum2, ap_Zip, ap_mNil, ap_mVal, ap_mOwn, ap_sNx, ap_Seq, seqK_nx, seqK_rt, ap_Asg, ap_Set, ap_Own, ownK_lst, ownK_dct, ap_Ret, ap_sIf, ap_Stk, ap_Drop, ap_App, ap_Ext, ap_PutL, ap_Par, ap_Frz, frzS_own, frzS_val, ap_fn, fnK_rt, fnK_nx, ite_bind, gIx_tup, gIx_lst, itemI0, itemI1, itemI2, itemI3, gCut_tup, gCut_lst, asB_bl, asI_int, asS_tup, asS_lst, asL_lst, gAdd_int, gAdd_tup, gAdd_lst, gSub_int, gMulA_int, gLt_int, gLe_int, gGt_int, gGe_int, fTuple_lst, fTuple_tup, fList_tup, fList_lst, fInt_int, fInt_bl, gIsi_int, gIsi_bl, gIsi_tup, gIsi_lst, gIsi_str, gIsi_non, gIsB_bl, gIsNotB_bl, M.ret_bind, M.stk_bind, M.draw_bind, M.bind_ret, ofO_some, ofO_none, List.getD_cons_zero, List.getD_cons_succ, List.set_cons_zero, List.set_cons_succ, List.length_cons, List.length_nil, List.cons_append, List.nil_append, List.append_nil, List.replicate, Nat.reduceSub, Nat.reduceAdd, Nat.reduceEqDiff, if_true, if_false, ite_true, ite_false, reduceIte, Bool.not_true, Bool.not_false, Bool.false_eq_true, Bool.true_and, Bool.false_and, Bool.and_true, Bool.and_false, len_tup, len_lst, ne_int, eq_int, setAll, Mn.wipe, Tg.go, Tg.goes, Option.bind_some, isTup, isIntT, isBlT, isStrT, isLstT, known, List.isEmpty_nil, ownOf, ap_LcF, ap_turn, FM_map, FM_ret, FM_if, FM_opt, FM_nil, oCons_some, oCons_none, noX_ret, ap_Lc2F, ap_turn2, FL_map, FL_ret, FL_nil, ap_go, ap_Wipe, numbered0, paired_map, fAll_map, fAny_map, List.length_map, cutL_from, cutL_upto, mapV_nil, mapV_cons, Int.cast_ofNat_Int, BEq.rfl, Int.reduceLT, Int.reduceLE, Int.reduceBEq, Int.zero_le_ofNat, decide_true, decide_false, ap_For, v_need_both hr h hl, v_need_row hp h, v_can_stand hr hrow]
  have hn : row.Nodup := hp.nodup_iff.mpr (h.imp fun h => Nat.ne_of_lt h)
  cases stB (rv r) row with
  | true =>
    simp only [ap_V, ap_O, ap_own, getV_val, getO_val, getO_own, getO_ownd, getL_own, ap_C, ap_1, ap_2, ap_And, ap_Or, ap_Not, ap_If, ap_aNil, ap_aCons, ap_aStar, ap_Tup, ap_Lst, ap_TupS, ap_LstS, ap_Call, ap_Chain, ap_Cut, ap_oNone, ap_oSome, ap_bV, ap_bAnd, ap_bOr, ap_bNot, ap_bYes, ap_wS, ap_Rng1, ap_Rng2, ap_TupRg1, ap_TupRg2, ap_LstRg1, ap_LstRg2, ap_Enum, ap_Enum2, ap_Zip, ap_mNil, ap_mVal, ap_mOwn, ap_sNx, ap_Seq, seqK_nx, seqK_rt, ap_Asg, ap_Set, ap_Own, ownK_lst, ownK_dct, ap_Ret, ap_sIf, ap_Stk, ap_Drop, ap_App, ap_Ext, ap_PutL, ap_Par, ap_Frz, frzS_own, frzS_val, ap_fn, fnK_rt, fnK_nx, ite_bind, gIx_tup, gIx_lst, itemI0, itemI1, itemI2, itemI3, gCut_tup, gCut_lst, asB_bl, asI_int, asS_tup, asS_lst, asL_lst, gAdd_int, gAdd_tup, gAdd_lst, gSub_int, gMulA_int, gLt_int, gLe_int, gGt_int, gGe_int, fTuple_lst, fTuple_tup, fList_tup, fList_lst, fInt_int, fInt_bl, gIsi_int, gIsi_bl, gIsi_tup, gIsi_lst, gIsi_str, gIsi_non, gIsB_bl, gIsNotB_bl, M.ret_bind, M.stk_bind, M.draw_bind, M.bind_ret, ofO_some, ofO_none, List.getD_cons_zero, List.getD_cons_succ, List.set_cons_zero, List.set_cons_succ, List.length_cons, List.length_nil, List.cons_append, List.nil_append, List.append_nil, List.replicate, Nat.reduceSub, Nat.reduceAdd, Nat.reduceEqDiff, if_true, if_false, ite_true, ite_false, reduceIte, Bool.not_true, Bool.not_false, Bool.false_eq_true, Bool.true_and, Bool.false_and, Bool.and_true, Bool.and_false, len_tup, len_lst, ne_int, eq_int, setAll, Mn.wipe, Tg.go, Tg.goes, Option.bind_some, isTup, isIntT, isBlT, isStrT, isLstT, known, List.isEmpty_nil, ownOf, ap_LcF, ap_turn, FM_map, FM_ret, FM_if, FM_opt, FM_nil, oCons_some, oCons_none, noX_ret, ap_Lc2F, ap_turn2, FL_map, FL_ret, FL_nil, ap_go, ap_Wipe, numbered0, paired_map, fAll_map, fAny_map, List.length_map, cutL_from, cutL_upto, mapV_nil, mapV_cons, Int.cast_ofNat_Int, BEq.rfl, Int.reduceLT, Int.reduceLE, Int.reduceBEq, Int.zero_le_ofNat, decide_true, decide_false, ap_For, v_soonest_in hr hrow hn (fun i hi => hp.mem_iff.mpr hi) (by rw [hp.length_eq]; omega)]
  | false => simp only [ap_V, ap_O, ap_own, getV_val, getO_val, getO_own, getO_ownd, getL_own, ap_C, ap_1, ap_2, ap_And, ap_Or, ap_Not, ap_If, ap_aNil, ap_aCons, ap_aStar, ap_Tup, ap_Lst, ap_TupS, ap_LstS, ap_Call, ap_Chain, ap_Cut, ap_oNone, ap_oSome, ap_bV, ap_bAnd, ap_bOr, ap_bNot, ap_bYes, ap_wS, ap_Rng1, ap_Rng2, ap_TupRg1, ap_TupRg2, ap_LstRg1, ap_LstRg2, ap_Enum, ap_Enum2, ap_Zip, ap_mNil, ap_mVal, ap_mOwn, ap_sNx, ap_Seq, seqK_nx, seqK_rt, ap_Asg, ap_Set, ap_Own, ownK_lst, ownK_dct, ap_Ret, ap_sIf, ap_Stk, ap_Drop, ap_App, ap_Ext, ap_PutL, ap_Par, ap_Frz, frzS_own, frzS_val, ap_fn, fnK_rt, fnK_nx, ite_bind, gIx_tup, gIx_lst, itemI0, itemI1, itemI2, itemI3, gCut_tup, gCut_lst, asB_bl, asI_int, asS_tup, asS_lst, asL_lst, gAdd_int, gAdd_tup, gAdd_lst, gSub_int, gMulA_int, gLt_int, gLe_int, gGt_int, gGe_int, fTuple_lst, fTuple_tup, fList_tup, fList_lst, fInt_int, fInt_bl, gIsi_int, gIsi_bl, gIsi_tup, gIsi_lst, gIsi_str, gIsi_non, gIsB_bl, gIsNotB_bl, M.ret_bind, M.stk_bind, M.draw_bind, M.bind_ret, ofO_some, ofO_none, List.getD_cons_zero, List.getD_cons_succ, List.set_cons_zero, List.set_cons_succ, List.length_cons, List.length_nil, List.cons_append, List.nil_append, List.append_nil, List.replicate, Nat.reduceSub, Nat.reduceAdd, Nat.reduceEqDiff, if_true, if_false, ite_true, ite_false, reduceIte, Bool.not_true, Bool.not_false, Bool.false_eq_true, Bool.true_and, Bool.false_and, Bool.and_true, Bool.and_false, len_tup, len_lst, ne_int, eq_int, setAll, Mn.wipe, Tg.go, Tg.goes, Option.bind_some, isTup, isIntT, isBlT, isStrT, isLstT, known, List.isEmpty_nil, ownOf, ap_LcF, ap_turn, FM_map, FM_ret, FM_if, FM_opt, FM_nil, oCons_some, oCons_none, noX_ret, ap_Lc2F, ap_turn2, FL_map, FL_ret, FL_nil, ap_go, ap_Wipe, numbered0, paired_map, fAll_map, fAny_map, List.length_map, cutL_from, cutL_upto, mapV_nil, mapV_cons, Int.cast_ofNat_Int, BEq.rfl, Int.reduceLT, Int.reduceLE, Int.reduceBEq, Int.zero_le_ofNat, decide_true, decide_false, ap_For]
end Hd

set_option maxHeartbeats 1000000
set_option maxRecDepth 100000
namespace Hd
open Mn
/-! the records that are drawn -/
def okT (k : Int) (c : Cl) : Prop := -k ≤ c.1 ∧ c.1 ≤ c.2 ∧ c.2 ≤ k
def okD (k : Int) (v : Vl) : Prop := okT k v.1 ∧ v.2.length ≤ 3 ∧ ∀ c ∈ v.2, okT k c
theorem okD_V {k : Int} (hk : k ≤ 1000000000) {v : Vl} (h : okD k v) : okV v := ⟨⟨by have := h.1.1; omega, h.1.2.1, by have := h.1.2.2; omega⟩, by have := h.2.1; omega, fun c hc => ⟨by have := (h.2.2 c hc).1; omega, (h.2.2 c hc).2.1, by have := (h.2.2 c hc).2.2; omega⟩⟩
theorem r_around {t m : Int} (h0 : 0 ≤ t) (h1 : t ≤ 100) (m0 : 0 ≤ m) (m1 : m ≤ 100) : Runs (m__law_around [.st, .int t, .int m]) 2 (fun d => ∃ c, d = eC c ∧ okT 1000 c ∧ c.1 ≤ t ∧ t ≤ c.2) := by
  simp only [m__law_around, b__law_around, ap_V, ap_O, ap_own, getV_val, getO_val, getO_own, getO_ownd, getL_own, ap_C, ap_1, ap_2, ap_And, ap_Or, ap_Not, ap_If, ap_aNil, ap_aCons, ap_aStar, ap_Tup, ap_Lst, ap_TupS, ap_LstS, ap_Call, ap_Chain, ap_Cut, ap_oNone, ap_oSome, ap_bV, ap_bAnd, ap_bOr, ap_bNot, ap_bYes, ap_wS, ap_Rng1, ap_Rng2, ap_TupRg1, ap_TupRg2, ap_LstRg1, ap_LstRg2, ap_Enum, ap_Enum2, ap_Zip, ap_mNil, ap_mVal, ap_mOwn, ap_sNx, ap_Seq, seqK_nx, seqK_rt, ap_Asg, ap_Set, ap_Own, ownK_lst, ownK_dct, ap_Ret, ap_sIf, ap_Stk, ap_Drop, ap_App, ap_Ext, ap_PutL, ap_Par, ap_Frz, frzS_own, frzS_val, ap_fn, fnK_rt, fnK_nx, ite_bind, gIx_tup, gIx_lst, itemI0, itemI1, itemI2, itemI3, gCut_tup, gCut_lst, asB_bl, asI_int, asS_tup, asS_lst, asL_lst, gAdd_int, gAdd_tup, gAdd_lst, gSub_int, gMulA_int, gLt_int, gLe_int, gGt_int, gGe_int, fTuple_lst, fTuple_tup, fList_tup, fList_lst, fInt_int, fInt_bl, gIsi_int, gIsi_bl, gIsi_tup, gIsi_lst, gIsi_str, gIsi_non, gIsB_bl, gIsNotB_bl, M.ret_bind, M.stk_bind, M.draw_bind, M.bind_ret, ofO_some, ofO_none, List.getD_cons_zero, List.getD_cons_succ, List.set_cons_zero, List.set_cons_succ, List.length_cons, List.length_nil, List.cons_append, List.nil_append, List.append_nil, List.replicate, Nat.reduceSub, Nat.reduceAdd, Nat.reduceEqDiff, if_true, if_false, ite_true, ite_false, reduceIte, Bool.not_true, Bool.not_false, Bool.false_eq_true, Bool.true_and, Bool.false_and, Bool.and_true, Bool.and_false, len_tup, len_lst, ne_int, eq_int, setAll, Mn.wipe, Tg.go, Tg.goes, Option.bind_some, isTup, isIntT, isBlT, isStrT, isLstT, known, List.isEmpty_nil, ownOf, ap_LcF, ap_turn, FM_map, FM_ret, FM_if, FM_opt, FM_nil, oCons_some, oCons_none, noX_ret, ap_Lc2F, ap_turn2, FL_map, FL_ret, FL_nil, ap_go, ap_Wipe, numbered0, paired_map, fAll_map, fAny_map, List.length_map, cutL_from, cutL_upto, mapV_nil, mapV_cons, Int.cast_ofNat_Int, BEq.rfl, Int.reduceLT, Int.reduceLE, Int.reduceBEq, Int.zero_le_ofNat, decide_true, decide_false, ap_For, dr_]
  refine .draw (by omega) (by omega) fun r r0 r1 => .draw (by omega) (by omega) fun s s0 s1 => .ret ⟨(t - r, t + s), rfl, by simp only [okT]; omega⟩
def eO : Option Nat → D
  | none => .lst []
  | some n => .lst [.int (n : Int)]
theorem eqO (o : Option Nat) : gEq (eO o) (.lst []) = .ret (.bl o.isNone) := by cases o <;> rfl
theorem neO (o : Option Nat) : gNe (eO o) (.lst []) = .ret (.bl o.isSome) := by cases o <;> rfl
theorem placeI_nat {n i : Nat} (h : i < n) : placeI n (i : Int) = some i := by
  unfold placeI
  rw [if_pos (by omega), if_pos (by omega)]; rfl
theorem gIx_lmap {α : Type} (f : α → D) {l : List α} {i : Nat} (h : i < l.length) : gIx (.lst (l.map f)) (.int (i : Int)) = .ret (f l[i]) := by
  rw [gIx_lst, itemI_nat (by simpa using h)]; simp
/-! one cell's values, one behind the other -/
theorem leastOf_min (a b : Int) : ∀ l : List Int, leastOf (min a b) l = min a (leastOf b l)
  | [] => rfl
  | y :: l => by
    show leastOf (min (min a b) y) l = min a (leastOf (min b y) l)
    rw [← leastOf_min a (min b y) l]
    congr 1; omega
theorem mostOf_max (a b : Int) : ∀ l : List Int, mostOf (max a b) l = max a (mostOf b l)
  | [] => rfl
  | y :: l => by
    show mostOf (max (max a b) y) l = max a (mostOf (max b y) l)
    rw [← mostOf_max a (max b y) l]
    congr 1; omega
theorem near_add (w c : Cl) (rs : List Cl) : near (w, rs ++ [c]) = min (near (w, rs)) c.2 := by
  unfold near leastOf
  simp [List.map_append, List.foldl_append]
theorem far_add (w c : Cl) (rs : List Cl) : far (w, rs ++ [c]) = max (far (w, rs)) c.1 := by
  unfold far mostOf
  simp [List.map_append, List.foldl_append]
theorem ear_nil_iff (v : Vl) : ear v = [] ↔ ∀ c ∈ v.2, v.1.1 ≤ c.2 := by
  unfold ear
  rw [List.map_eq_nil_iff, List.filter_eq_nil_iff]
  constructor
  · intro h c hc
    obtain ⟨i, hi, e⟩ := List.mem_iff_getElem.mp hc
    have := h (c, i) (by rw [List.mem_iff_getElem?]; exact ⟨i, by rw [List.getElem?_zipIdx, List.getElem?_eq_getElem hi, e]; simp⟩)
    simpa using this
  · intro h p hp
    have := h p.1 (mem_zipIdx0 hp).1
    simpa using this
theorem far_ge (v : Vl) : v.1.1 ≤ far v := by
  unfold far
  have : ∀ (l : List Int) (m : Int), m ≤ mostOf m l := by
    intro l
    induction l with
    | nil => intro m; exact Int.le_refl _
    | cons y l ih => intro m; exact Int.le_trans (by omega) (ih (max m y))
  exact this _ _
def Seqd (G : List Vl) (t : Int) : Prop := (∀ v ∈ G, far v ≤ t ∧ ear v = []) ∧ G.Pairwise fun a b => far a ≤ near b
theorem Seqd.later {G : List Vl} {t t' : Int} (h : Seqd G t) (ht : t ≤ t') : Seqd G t' := ⟨fun v hv => ⟨Int.le_trans (h.1 v hv).1 ht, (h.1 v hv).2⟩, h.2⟩
theorem Seqd.write {G : List Vl} {t : Int} (h : Seqd G t) {c : Cl} (h1 : c.1 ≤ t) (h2 : t ≤ c.2) : Seqd (G ++ [(c, [])]) t := by
  refine ⟨fun v hv => ?_, ?_⟩
  · rcases List.mem_append.mp hv with hv | hv
    · exact h.1 v hv
    · rw [List.mem_singleton.mp hv]
      exact ⟨h1, rfl⟩
  · rw [List.pairwise_append]
    refine ⟨h.2, List.pairwise_singleton _ _, fun a ha b hb => ?_⟩
    rw [List.mem_singleton.mp hb]
    exact Int.le_trans (h.1 a ha).1 h2
theorem Seqd.read {G : List Vl} {v : Vl} {t : Int} (h : Seqd (G ++ [v]) t) {c : Cl} (h1 : c.1 ≤ t) (h2 : t ≤ c.2) : Seqd (G ++ [(v.1, v.2 ++ [c])]) t := by
  have hv := h.1 v (by simp)
  have hp := List.pairwise_append.mp h.2
  refine ⟨fun u hu => ?_, ?_⟩
  · rcases List.mem_append.mp hu with hu | hu
    · exact h.1 u (List.mem_append_left _ hu)
    · rw [List.mem_singleton.mp hu]
      refine ⟨by rw [far_add]; have := hv.1; show max (far v) c.1 ≤ t; omega, (ear_nil_iff _).mpr fun q hq => ?_⟩
      rcases List.mem_append.mp hq with hq | hq
      · exact (ear_nil_iff v).mp hv.2 q hq
      · rw [List.mem_singleton.mp hq]
        have := far_ge v
        have := hv.1
        show v.1.1 ≤ c.2
        omega
  · rw [List.pairwise_append]
    refine ⟨hp.1, List.pairwise_singleton _ _, fun a ha b hb => ?_⟩
    rw [List.mem_singleton.mp hb, near_add]
    have h3 := hp.2.2 a ha v (by simp)
    have h4 := (h.1 a (List.mem_append_left _ ha)).1
    show far a ≤ min (near v) c.2
    omega
structure Inv (many cells : Nat) (T : Int) (L : List (Option Nat)) (G : List Vl) (t : Int) : Prop where
  len : L.length = cells
  ats : ∀ n, some n ∈ L → n < G.length
  few : G.length ≤ many
  oks : ∀ v ∈ G, okD 1000 v
  t0 : 0 ≤ t
  t1 : t ≤ T
  one : cells = 1 → Seqd G t ∧ ∀ n, some n ∈ L → n + 1 = G.length
theorem Inv.later {many cells : Nat} {T T' : Int} {L : List (Option Nat)} {G : List Vl} {t t' : Int} (h : Inv many cells T L G t) (h0 : t ≤ t') (h1 : t' ≤ T') : Inv many cells T' L G t' := ⟨h.len, h.ats, h.few, h.oks, by have := h.t0; omega, h1, fun e => ⟨(h.one e).1.later h0, (h.one e).2⟩⟩
abbrev cslots (many cells most : Nat) (L : List (Option Nat)) (G : List Vl) (t : Int) (x7 x8 x9 : SV) : Sl := [.val .st, .val (.int (many : Nat)), .val (.int (cells : Nat)), .val (.int (most : Nat)), .own (L.map eO), .own (G.map eV), .val (.int t), x7, x8, x9]
theorem r_cells_body {many cells most : Nat} (hm : many ≤ 12) (hc : 0 < cells) (hc9 : cells ≤ 9) (hmo : most ≤ 9) {T : Int} (hT : T ≤ 80) {L : List (Option Nat)} {G : List Vl} {t : Int} (I : Inv many cells T L G t) (x7 : SV) :
    Runs (lb1__law_cells (cslots many cells most L G t x7 .un .un)) 5 (RIs (fun σ => ∃ L' G' t', σ = cslots many cells most L' G' t' .un .un .un ∧ Inv many cells (T + 2) L' G' t' ∧ (0 < many → G' ≠ [])) fun _ => False) := by
  simp only [lb1__law_cells, cslots, ap_V, ap_O, ap_own, getV_val, getO_val, getO_own, getO_ownd, getL_own, ap_C, ap_1, ap_2, ap_And, ap_Or, ap_Not, ap_If, ap_aNil, ap_aCons, ap_aStar, ap_Tup, ap_Lst, ap_TupS, ap_LstS, ap_Call, ap_Chain, ap_Cut, ap_oNone, ap_oSome, ap_bV, ap_bAnd, ap_bOr, ap_bNot, ap_bYes, ap_wS, ap_Rng1, ap_Rng2, ap_TupRg1, ap_TupRg2, ap_LstRg1, ap_LstRg2, ap_Enum, ap_Enum2, ap_Zip, ap_mNil, ap_mVal, ap_mOwn, ap_sNx, ap_Seq, seqK_nx, seqK_rt, ap_Asg, ap_Set, ap_Own, ownK_lst, ownK_dct, ap_Ret, ap_sIf, ap_Stk, ap_Drop, ap_App, ap_Ext, ap_PutL, ap_Par, ap_Frz, frzS_own, frzS_val, ap_fn, fnK_rt, fnK_nx, ite_bind, gIx_tup, gIx_lst, itemI0, itemI1, itemI2, itemI3, gCut_tup, gCut_lst, asB_bl, asI_int, asS_tup, asS_lst, asL_lst, gAdd_int, gAdd_tup, gAdd_lst, gSub_int, gMulA_int, gLt_int, gLe_int, gGt_int, gGe_int, fTuple_lst, fTuple_tup, fList_tup, fList_lst, fInt_int, fInt_bl, gIsi_int, gIsi_bl, gIsi_tup, gIsi_lst, gIsi_str, gIsi_non, gIsB_bl, gIsNotB_bl, M.ret_bind, M.stk_bind, M.draw_bind, M.bind_ret, ofO_some, ofO_none, List.getD_cons_zero, List.getD_cons_succ, List.set_cons_zero, List.set_cons_succ, List.length_cons, List.length_nil, List.cons_append, List.nil_append, List.append_nil, List.replicate, Nat.reduceSub, Nat.reduceAdd, Nat.reduceEqDiff, if_true, if_false, ite_true, ite_false, reduceIte, Bool.not_true, Bool.not_false, Bool.false_eq_true, Bool.true_and, Bool.false_and, Bool.and_true, Bool.and_false, len_tup, len_lst, ne_int, eq_int, setAll, Mn.wipe, Tg.go, Tg.goes, Option.bind_some, isTup, isIntT, isBlT, isStrT, isLstT, known, List.isEmpty_nil, ownOf, ap_LcF, ap_turn, FM_map, FM_ret, FM_if, FM_opt, FM_nil, oCons_some, oCons_none, noX_ret, ap_Lc2F, ap_turn2, FL_map, FL_ret, FL_nil, ap_go, ap_Wipe, numbered0, paired_map, fAll_map, fAny_map, List.length_map, cutL_from, cutL_upto, mapV_nil, mapV_cons, Int.cast_ofNat_Int, BEq.rfl, Int.reduceLT, Int.reduceLE, Int.reduceBEq, Int.zero_le_ofNat, decide_true, decide_false, ap_For, dr_]
  refine .draw (by decide) (by decide) fun d1 d10 d11 => .draw (by omega) (by omega) fun d2 d20 d21 => ?_
  obtain ⟨s, rfl⟩ := Int.eq_ofNat_of_zero_le d20
  have hs : s < L.length := by have := I.len; omega
  have hs' : s < (L.map eO).length := by rw [List.length_map]; exact hs
  have t0 := I.t0
  have t1 := I.t1
  have hG : (G.map eV).length = G.length := List.length_map ..
  have hL : itemI (L.map eO) (s : Int) = some (eO L[s]) := by rw [itemI_nat hs']; simp
  have hsl := placeI_nat hs'
  have hfew := I.few
  have ha := r_around (t := t + d1) (m := most) (by omega) (by omega) (by omega) (by omega)
  have hset : (L.map eO).set s (.lst [.int (G.length : Int)]) = (L.set s (some G.length)).map eO := by rw [List.map_set]; rfl
  have IA : G.length < many → ∀ c, okT 1000 c ∧ c.1 ≤ t + d1 ∧ t + d1 ≤ c.2 → Inv many cells (T + 2) (L.set s (some G.length)) (G ++ [(c, [])]) (t + d1) := fun hg c hc => by
    refine ⟨by rw [List.length_set]; exact I.len, fun n hn => ?_, by rw [List.length_append]; simp; omega, fun v hv => ?_, by omega, by omega, fun e1 => ⟨((I.one e1).1.later (by omega)).write hc.2.1 hc.2.2, fun n hn => ?_⟩⟩
    · rw [List.length_append]
      rcases List.mem_or_eq_of_mem_set hn with hn | hn
      · have := I.ats n hn; omega
      · cases hn; simp
    · rcases List.mem_append.mp hv with hv | hv
      · exact I.oks v hv
      · rw [List.mem_singleton.mp hv]
        exact ⟨hc.1, by simp, fun c hc => by cases hc⟩
    · rw [List.length_append]
      have hl1 : L.length = 1 := by rw [I.len]; exact e1
      match L, hl1, hs, hn with
      | [_], _, hs, hn =>
        have hs0 : s = 0 := by simpa using hs
        subst hs0
        simp at hn
        subst hn; rfl
  have eA : ∀ c, (G ++ [(c, [])]).map eV = G.map eV ++ [.tup [eC c, .tup []]] := fun c => by rw [List.map_append]; rfl
  have IC : Inv many cells (T + 2) L G (t + d1) := I.later (by omega) (by omega)
  have hlt : G.length < 16777216 := by omega
  have runA : G.length < many → ∀ (f : D → M (Fl × Sl)), (∀ c, f (eC c) = .ret (.nx, cslots many cells most (L.set s (some G.length)) (G ++ [(c, [])]) (t + d1) .un .un .un)) → ∀ k, 2 ≤ k → Runs ((m__law_around [.st, .int (t + d1), .int (most : Int)]).bind f) k
      (RIs (fun σ => ∃ L' G' t', σ = cslots many cells most L' G' t' .un .un .un ∧ Inv many cells (T + 2) L' G' t' ∧ (0 < many → G' ≠ [])) fun _ => False) := fun hg f hf k hk => by
    refine (ha.bind (j := 0) fun d ⟨c, e, hc⟩ => ?_).le hk
    subst e
    rw [hf]
    exact .ret ⟨_, _, _, rfl, IA hg c hc, fun _ => by simp⟩
  have hpl : placeI L.length (s : Int) = some s := placeI_nat hs
  cases ho : L[s] with
  | none =>
    simp only [ho] at hL
    by_cases hg : G.length < many
    · have hg' : decide ((G.length : Int) < many) = true := decide_eq_true (by omega)
      simp only [ap_V, ap_O, ap_own, getV_val, getO_val, getO_own, getO_ownd, getL_own, ap_C, ap_1, ap_2, ap_And, ap_Or, ap_Not, ap_If, ap_aNil, ap_aCons, ap_aStar, ap_Tup, ap_Lst, ap_TupS, ap_LstS, ap_Call, ap_Chain, ap_Cut, ap_oNone, ap_oSome, ap_bV, ap_bAnd, ap_bOr, ap_bNot, ap_bYes, ap_wS, ap_Rng1, ap_Rng2, ap_TupRg1, ap_TupRg2, ap_LstRg1, ap_LstRg2, ap_Enum, ap_Enum2, ap_Zip, ap_mNil, ap_mVal, ap_mOwn, ap_sNx, ap_Seq, seqK_nx, seqK_rt, ap_Asg, ap_Set, ap_Own, ownK_lst, ownK_dct, ap_Ret, ap_sIf, ap_Stk, ap_Drop, ap_App, ap_Ext, ap_PutL, ap_Par, ap_Frz, frzS_own, frzS_val, ap_fn, fnK_rt, fnK_nx, ite_bind, gIx_tup, gIx_lst, itemI0, itemI1, itemI2, itemI3, gCut_tup, gCut_lst, asB_bl, asI_int, asS_tup, asS_lst, asL_lst, gAdd_int, gAdd_tup, gAdd_lst, gSub_int, gMulA_int, gLt_int, gLe_int, gGt_int, gGe_int, fTuple_lst, fTuple_tup, fList_tup, fList_lst, fInt_int, fInt_bl, gIsi_int, gIsi_bl, gIsi_tup, gIsi_lst, gIsi_str, gIsi_non, gIsB_bl, gIsNotB_bl, M.ret_bind, M.stk_bind, M.draw_bind, M.bind_ret, ofO_some, ofO_none, List.getD_cons_zero, List.getD_cons_succ, List.set_cons_zero, List.set_cons_succ, List.length_cons, List.length_nil, List.cons_append, List.nil_append, List.append_nil, List.replicate, Nat.reduceSub, Nat.reduceAdd, Nat.reduceEqDiff, if_true, if_false, ite_true, ite_false, reduceIte, Bool.not_true, Bool.not_false, Bool.false_eq_true, Bool.true_and, Bool.false_and, Bool.and_true, Bool.and_false, len_tup, len_lst, ne_int, eq_int, setAll, Mn.wipe, Tg.go, Tg.goes, Option.bind_some, isTup, isIntT, isBlT, isStrT, isLstT, known, List.isEmpty_nil, ownOf, ap_LcF, ap_turn, FM_map, FM_ret, FM_if, FM_opt, FM_nil, oCons_some, oCons_none, noX_ret, ap_Lc2F, ap_turn2, FL_map, FL_ret, FL_nil, ap_go, ap_Wipe, numbered0, paired_map, fAll_map, fAny_map, List.length_map, cutL_from, cutL_upto, mapV_nil, mapV_cons, Int.cast_ofNat_Int, BEq.rfl, Int.reduceLT, Int.reduceLE, Int.reduceBEq, Int.zero_le_ofNat, decide_true, decide_false, ap_For, hL, eqO, neO, hG, hg', hsl, hpl, Option.isNone_none, Option.isSome_none, M.bind_assoc]
      exact runA hg _ (fun c => by simp only [ap_V, ap_O, ap_own, getV_val, getO_val, getO_own, getO_ownd, getL_own, ap_C, ap_1, ap_2, ap_And, ap_Or, ap_Not, ap_If, ap_aNil, ap_aCons, ap_aStar, ap_Tup, ap_Lst, ap_TupS, ap_LstS, ap_Call, ap_Chain, ap_Cut, ap_oNone, ap_oSome, ap_bV, ap_bAnd, ap_bOr, ap_bNot, ap_bYes, ap_wS, ap_Rng1, ap_Rng2, ap_TupRg1, ap_TupRg2, ap_LstRg1, ap_LstRg2, ap_Enum, ap_Enum2, ap_Zip, ap_mNil, ap_mVal, ap_mOwn, ap_sNx, ap_Seq, seqK_nx, seqK_rt, ap_Asg, ap_Set, ap_Own, ownK_lst, ownK_dct, ap_Ret, ap_sIf, ap_Stk, ap_Drop, ap_App, ap_Ext, ap_PutL, ap_Par, ap_Frz, frzS_own, frzS_val, ap_fn, fnK_rt, fnK_nx, ite_bind, gIx_tup, gIx_lst, itemI0, itemI1, itemI2, itemI3, gCut_tup, gCut_lst, asB_bl, asI_int, asS_tup, asS_lst, asL_lst, gAdd_int, gAdd_tup, gAdd_lst, gSub_int, gMulA_int, gLt_int, gLe_int, gGt_int, gGe_int, fTuple_lst, fTuple_tup, fList_tup, fList_lst, fInt_int, fInt_bl, gIsi_int, gIsi_bl, gIsi_tup, gIsi_lst, gIsi_str, gIsi_non, gIsB_bl, gIsNotB_bl, M.ret_bind, M.stk_bind, M.draw_bind, M.bind_ret, ofO_some, ofO_none, List.getD_cons_zero, List.getD_cons_succ, List.set_cons_zero, List.set_cons_succ, List.length_cons, List.length_nil, List.cons_append, List.nil_append, List.append_nil, List.replicate, Nat.reduceSub, Nat.reduceAdd, Nat.reduceEqDiff, if_true, if_false, ite_true, ite_false, reduceIte, Bool.not_true, Bool.not_false, Bool.false_eq_true, Bool.true_and, Bool.false_and, Bool.and_true, Bool.and_false, len_tup, len_lst, ne_int, eq_int, setAll, Mn.wipe, Tg.go, Tg.goes, Option.bind_some, isTup, isIntT, isBlT, isStrT, isLstT, known, List.isEmpty_nil, ownOf, ap_LcF, ap_turn, FM_map, FM_ret, FM_if, FM_opt, FM_nil, oCons_some, oCons_none, noX_ret, ap_Lc2F, ap_turn2, FL_map, FL_ret, FL_nil, ap_go, ap_Wipe, numbered0, paired_map, fAll_map, fAny_map, List.length_map, cutL_from, cutL_upto, mapV_nil, mapV_cons, Int.cast_ofNat_Int, BEq.rfl, Int.reduceLT, Int.reduceLE, Int.reduceBEq, Int.zero_le_ofNat, decide_true, decide_false, ap_For, hlt, cslots, eA, hset]) _ (by decide)
    · have hg' : decide ((G.length : Int) < many) = false := decide_eq_false (by omega)
      simp only [ap_V, ap_O, ap_own, getV_val, getO_val, getO_own, getO_ownd, getL_own, ap_C, ap_1, ap_2, ap_And, ap_Or, ap_Not, ap_If, ap_aNil, ap_aCons, ap_aStar, ap_Tup, ap_Lst, ap_TupS, ap_LstS, ap_Call, ap_Chain, ap_Cut, ap_oNone, ap_oSome, ap_bV, ap_bAnd, ap_bOr, ap_bNot, ap_bYes, ap_wS, ap_Rng1, ap_Rng2, ap_TupRg1, ap_TupRg2, ap_LstRg1, ap_LstRg2, ap_Enum, ap_Enum2, ap_Zip, ap_mNil, ap_mVal, ap_mOwn, ap_sNx, ap_Seq, seqK_nx, seqK_rt, ap_Asg, ap_Set, ap_Own, ownK_lst, ownK_dct, ap_Ret, ap_sIf, ap_Stk, ap_Drop, ap_App, ap_Ext, ap_PutL, ap_Par, ap_Frz, frzS_own, frzS_val, ap_fn, fnK_rt, fnK_nx, ite_bind, gIx_tup, gIx_lst, itemI0, itemI1, itemI2, itemI3, gCut_tup, gCut_lst, asB_bl, asI_int, asS_tup, asS_lst, asL_lst, gAdd_int, gAdd_tup, gAdd_lst, gSub_int, gMulA_int, gLt_int, gLe_int, gGt_int, gGe_int, fTuple_lst, fTuple_tup, fList_tup, fList_lst, fInt_int, fInt_bl, gIsi_int, gIsi_bl, gIsi_tup, gIsi_lst, gIsi_str, gIsi_non, gIsB_bl, gIsNotB_bl, M.ret_bind, M.stk_bind, M.draw_bind, M.bind_ret, ofO_some, ofO_none, List.getD_cons_zero, List.getD_cons_succ, List.set_cons_zero, List.set_cons_succ, List.length_cons, List.length_nil, List.cons_append, List.nil_append, List.append_nil, List.replicate, Nat.reduceSub, Nat.reduceAdd, Nat.reduceEqDiff, if_true, if_false, ite_true, ite_false, reduceIte, Bool.not_true, Bool.not_false, Bool.false_eq_true, Bool.true_and, Bool.false_and, Bool.and_true, Bool.and_false, len_tup, len_lst, ne_int, eq_int, setAll, Mn.wipe, Tg.go, Tg.goes, Option.bind_some, isTup, isIntT, isBlT, isStrT, isLstT, known, List.isEmpty_nil, ownOf, ap_LcF, ap_turn, FM_map, FM_ret, FM_if, FM_opt, FM_nil, oCons_some, oCons_none, noX_ret, ap_Lc2F, ap_turn2, FL_map, FL_ret, FL_nil, ap_go, ap_Wipe, numbered0, paired_map, fAll_map, fAny_map, List.length_map, cutL_from, cutL_upto, mapV_nil, mapV_cons, Int.cast_ofNat_Int, BEq.rfl, Int.reduceLT, Int.reduceLE, Int.reduceBEq, Int.zero_le_ofNat, decide_true, decide_false, ap_For, hL, eqO, neO, hG, hg', hsl, Option.isNone_none, Option.isSome_none]
      exact .ret ⟨_, _, _, rfl, IC, fun h e => by rw [e] at hg; exact hg h⟩
  | some n =>
    simp only [ho] at hL
    have hmem : some n ∈ L := ho ▸ List.getElem_mem hs
    have hn : n < G.length := I.ats n hmem
    have hne : G ≠ [] := fun e => by rw [e] at hn; cases hn
    have hn' : n < (G.map eV).length := by rw [hG]; exact hn
    have hGn : itemI (G.map eV) (n : Int) = some (eV G[n]) := by rw [itemI_nat hn']; simp
    have hpn := placeI_nat hn'
    have hO : gIx (eO (some n)) (.int 0) = .ret (.int (n : Int)) := by unfold eO; rw [gIx_lst, itemI0]; rfl
    have hok := I.oks _ (List.getElem_mem hn)
    have IB : (G[n].2.length : Int) < 3 → ∀ c, okT 1000 c ∧ c.1 ≤ t + d1 ∧ t + d1 ≤ c.2 → Inv many cells (T + 2) L (G.set n (G[n].1, G[n].2 ++ [c])) (t + d1) := fun h3 c hc => by
      refine ⟨I.len, fun q hq => by rw [List.length_set]; exact I.ats q hq, by rw [List.length_set]; exact I.few, fun v hv => ?_, by omega, by omega, fun e1 => ⟨?_, fun q hq => by rw [List.length_set]; exact (I.one e1).2 q hq⟩⟩
      · rcases List.mem_or_eq_of_mem_set hv with hv | hv
        · exact I.oks v hv
        · subst hv
          refine ⟨hok.1, by rw [List.length_append]; simp; omega, fun q hq => ?_⟩
          rcases List.mem_append.mp hq with hq | hq
          · exact hok.2.2 q hq
          · rw [List.mem_singleton.mp hq]; exact hc.1
      · have hlast := (I.one e1).2 n hmem
        have hsq := (I.one e1).1.later (t' := t + d1) (by omega)
        have eG : G = G.take n ++ [G[n]] := by
          rw [List.take_append_getElem, List.take_of_length_le (by omega)]
        have eS : G.set n (G[n].1, G[n].2 ++ [c]) = G.take n ++ [(G[n].1, G[n].2 ++ [c])] := by
          rw [List.set_eq_take_append_cons_drop, if_pos hn, List.drop_eq_nil_of_le (by omega)]
        rw [eS]
        rw [eG] at hsq
        exact hsq.read hc.2.1 hc.2.2
    have eB : ∀ c, (G.set n (G[n].1, G[n].2 ++ [c])).map eV = (G.map eV).set n (.tup [eC G[n].1, .tup (G[n].2.map eC ++ [eC c])]) := fun c => by
      rw [List.map_set]; simp only [eV, List.map_append]; rfl
    have hll : G[n].2.length + 1 ≤ line := by have := hok.2.1; unfold line; omega
    have runB : (G[n].2.length : Int) < 3 → ∀ (f : D → M (Fl × Sl)), (∀ c, f (eC c) = .ret (.nx, cslots many cells most L (G.set n (G[n].1, G[n].2 ++ [c])) (t + d1) .un .un .un)) → ∀ k, 2 ≤ k → Runs ((m__law_around [.st, .int (t + d1), .int (most : Int)]).bind f) k
        (RIs (fun σ => ∃ L' G' t', σ = cslots many cells most L' G' t' .un .un .un ∧ Inv many cells (T + 2) L' G' t' ∧ (0 < many → G' ≠ [])) fun _ => False) := fun h3 f hf k hk => by
      refine (ha.bind (j := 0) fun d ⟨c, e, hc⟩ => ?_).le hk
      subst e
      rw [hf]
      exact .ret ⟨_, _, _, rfl, IB h3 c hc, fun _ e => hne (by simpa using congrArg List.length e)⟩
    have hpg : placeI G.length (n : Int) = some n := placeI_nat hn
    have last : ∀ (m : M (Fl × Sl)), (if (G[n].2.length : Int) < 3 then ∃ f, (∀ c, f (eC c) = .ret (.nx, cslots many cells most L (G.set n (G[n].1, G[n].2 ++ [c])) (t + d1) .un .un .un)) ∧ m = (m__law_around [.st, .int (t + d1), .int (most : Int)]).bind f else m = .ret (.nx, cslots many cells most L G (t + d1) .un .un .un)) → ∀ k, 2 ≤ k → Runs m k
      (RIs (fun σ => ∃ L' G' t', σ = cslots many cells most L' G' t' .un .un .un ∧ Inv many cells (T + 2) L' G' t' ∧ (0 < many → G' ≠ [])) fun _ => False) := fun m h k hk => by
      by_cases h3 : (G[n].2.length : Int) < 3
      · rw [if_pos h3] at h
        obtain ⟨f, hf, rfl⟩ := h
        exact runB h3 f hf k hk
      · rw [if_neg h3] at h
        rw [h]
        exact .ret ⟨_, _, _, rfl, IC, fun _ => hne⟩
    by_cases h3 : (G[n].2.length : Int) < 3
    · have h3' : decide ((G[n].2.length : Int) < 3) = true := decide_eq_true h3
      by_cases hg : G.length < many
      · have hg' : decide ((G.length : Int) < many) = true := decide_eq_true (by omega)
        simp only [ap_V, ap_O, ap_own, getV_val, getO_val, getO_own, getO_ownd, getL_own, ap_C, ap_1, ap_2, ap_And, ap_Or, ap_Not, ap_If, ap_aNil, ap_aCons, ap_aStar, ap_Tup, ap_Lst, ap_TupS, ap_LstS, ap_Call, ap_Chain, ap_Cut, ap_oNone, ap_oSome, ap_bV, ap_bAnd, ap_bOr, ap_bNot, ap_bYes, ap_wS, ap_Rng1, ap_Rng2, ap_TupRg1, ap_TupRg2, ap_LstRg1, ap_LstRg2, ap_Enum, ap_Enum2, ap_Zip, ap_mNil, ap_mVal, ap_mOwn, ap_sNx, ap_Seq, seqK_nx, seqK_rt, ap_Asg, ap_Set, ap_Own, ownK_lst, ownK_dct, ap_Ret, ap_sIf, ap_Stk, ap_Drop, ap_App, ap_Ext, ap_PutL, ap_Par, ap_Frz, frzS_own, frzS_val, ap_fn, fnK_rt, fnK_nx, ite_bind, gIx_tup, gIx_lst, itemI0, itemI1, itemI2, itemI3, gCut_tup, gCut_lst, asB_bl, asI_int, asS_tup, asS_lst, asL_lst, gAdd_int, gAdd_tup, gAdd_lst, gSub_int, gMulA_int, gLt_int, gLe_int, gGt_int, gGe_int, fTuple_lst, fTuple_tup, fList_tup, fList_lst, fInt_int, fInt_bl, gIsi_int, gIsi_bl, gIsi_tup, gIsi_lst, gIsi_str, gIsi_non, gIsB_bl, gIsNotB_bl, M.ret_bind, M.stk_bind, M.draw_bind, M.bind_ret, ofO_some, ofO_none, List.getD_cons_zero, List.getD_cons_succ, List.set_cons_zero, List.set_cons_succ, List.length_cons, List.length_nil, List.cons_append, List.nil_append, List.append_nil, List.replicate, Nat.reduceSub, Nat.reduceAdd, Nat.reduceEqDiff, if_true, if_false, ite_true, ite_false, reduceIte, Bool.not_true, Bool.not_false, Bool.false_eq_true, Bool.true_and, Bool.false_and, Bool.and_true, Bool.and_false, len_tup, len_lst, ne_int, eq_int, setAll, Mn.wipe, Tg.go, Tg.goes, Option.bind_some, isTup, isIntT, isBlT, isStrT, isLstT, known, List.isEmpty_nil, ownOf, ap_LcF, ap_turn, FM_map, FM_ret, FM_if, FM_opt, FM_nil, oCons_some, oCons_none, noX_ret, ap_Lc2F, ap_turn2, FL_map, FL_ret, FL_nil, ap_go, ap_Wipe, numbered0, paired_map, fAll_map, fAny_map, List.length_map, cutL_from, cutL_upto, mapV_nil, mapV_cons, Int.cast_ofNat_Int, BEq.rfl, Int.reduceLT, Int.reduceLE, Int.reduceBEq, Int.zero_le_ofNat, decide_true, decide_false, ap_For, hL, eqO, neO, hG, hg', hsl, Option.isNone_some, Option.isSome_some, hO, hGn, ix1, ix0, hpl, hpg, h3', M.bind_assoc]
        refine .draw (by decide) (by decide) fun d3 d30 d31 => ?_
        cases hz : (d3 == 0) with
        | true =>
          simp only [ap_V, ap_O, ap_own, getV_val, getO_val, getO_own, getO_ownd, getL_own, ap_C, ap_1, ap_2, ap_And, ap_Or, ap_Not, ap_If, ap_aNil, ap_aCons, ap_aStar, ap_Tup, ap_Lst, ap_TupS, ap_LstS, ap_Call, ap_Chain, ap_Cut, ap_oNone, ap_oSome, ap_bV, ap_bAnd, ap_bOr, ap_bNot, ap_bYes, ap_wS, ap_Rng1, ap_Rng2, ap_TupRg1, ap_TupRg2, ap_LstRg1, ap_LstRg2, ap_Enum, ap_Enum2, ap_Zip, ap_mNil, ap_mVal, ap_mOwn, ap_sNx, ap_Seq, seqK_nx, seqK_rt, ap_Asg, ap_Set, ap_Own, ownK_lst, ownK_dct, ap_Ret, ap_sIf, ap_Stk, ap_Drop, ap_App, ap_Ext, ap_PutL, ap_Par, ap_Frz, frzS_own, frzS_val, ap_fn, fnK_rt, fnK_nx, ite_bind, gIx_tup, gIx_lst, itemI0, itemI1, itemI2, itemI3, gCut_tup, gCut_lst, asB_bl, asI_int, asS_tup, asS_lst, asL_lst, gAdd_int, gAdd_tup, gAdd_lst, gSub_int, gMulA_int, gLt_int, gLe_int, gGt_int, gGe_int, fTuple_lst, fTuple_tup, fList_tup, fList_lst, fInt_int, fInt_bl, gIsi_int, gIsi_bl, gIsi_tup, gIsi_lst, gIsi_str, gIsi_non, gIsB_bl, gIsNotB_bl, M.ret_bind, M.stk_bind, M.draw_bind, M.bind_ret, ofO_some, ofO_none, List.getD_cons_zero, List.getD_cons_succ, List.set_cons_zero, List.set_cons_succ, List.length_cons, List.length_nil, List.cons_append, List.nil_append, List.append_nil, List.replicate, Nat.reduceSub, Nat.reduceAdd, Nat.reduceEqDiff, if_true, if_false, ite_true, ite_false, reduceIte, Bool.not_true, Bool.not_false, Bool.false_eq_true, Bool.true_and, Bool.false_and, Bool.and_true, Bool.and_false, len_tup, len_lst, ne_int, eq_int, setAll, Mn.wipe, Tg.go, Tg.goes, Option.bind_some, isTup, isIntT, isBlT, isStrT, isLstT, known, List.isEmpty_nil, ownOf, ap_LcF, ap_turn, FM_map, FM_ret, FM_if, FM_opt, FM_nil, oCons_some, oCons_none, noX_ret, ap_Lc2F, ap_turn2, FL_map, FL_ret, FL_nil, ap_go, ap_Wipe, numbered0, paired_map, fAll_map, fAny_map, List.length_map, cutL_from, cutL_upto, mapV_nil, mapV_cons, Int.cast_ofNat_Int, BEq.rfl, Int.reduceLT, Int.reduceLE, Int.reduceBEq, Int.zero_le_ofNat, decide_true, decide_false, ap_For, hpl, M.bind_assoc]
          exact runA hg _ (fun c => by simp only [ap_V, ap_O, ap_own, getV_val, getO_val, getO_own, getO_ownd, getL_own, ap_C, ap_1, ap_2, ap_And, ap_Or, ap_Not, ap_If, ap_aNil, ap_aCons, ap_aStar, ap_Tup, ap_Lst, ap_TupS, ap_LstS, ap_Call, ap_Chain, ap_Cut, ap_oNone, ap_oSome, ap_bV, ap_bAnd, ap_bOr, ap_bNot, ap_bYes, ap_wS, ap_Rng1, ap_Rng2, ap_TupRg1, ap_TupRg2, ap_LstRg1, ap_LstRg2, ap_Enum, ap_Enum2, ap_Zip, ap_mNil, ap_mVal, ap_mOwn, ap_sNx, ap_Seq, seqK_nx, seqK_rt, ap_Asg, ap_Set, ap_Own, ownK_lst, ownK_dct, ap_Ret, ap_sIf, ap_Stk, ap_Drop, ap_App, ap_Ext, ap_PutL, ap_Par, ap_Frz, frzS_own, frzS_val, ap_fn, fnK_rt, fnK_nx, ite_bind, gIx_tup, gIx_lst, itemI0, itemI1, itemI2, itemI3, gCut_tup, gCut_lst, asB_bl, asI_int, asS_tup, asS_lst, asL_lst, gAdd_int, gAdd_tup, gAdd_lst, gSub_int, gMulA_int, gLt_int, gLe_int, gGt_int, gGe_int, fTuple_lst, fTuple_tup, fList_tup, fList_lst, fInt_int, fInt_bl, gIsi_int, gIsi_bl, gIsi_tup, gIsi_lst, gIsi_str, gIsi_non, gIsB_bl, gIsNotB_bl, M.ret_bind, M.stk_bind, M.draw_bind, M.bind_ret, ofO_some, ofO_none, List.getD_cons_zero, List.getD_cons_succ, List.set_cons_zero, List.set_cons_succ, List.length_cons, List.length_nil, List.cons_append, List.nil_append, List.append_nil, List.replicate, Nat.reduceSub, Nat.reduceAdd, Nat.reduceEqDiff, if_true, if_false, ite_true, ite_false, reduceIte, Bool.not_true, Bool.not_false, Bool.false_eq_true, Bool.true_and, Bool.false_and, Bool.and_true, Bool.and_false, len_tup, len_lst, ne_int, eq_int, setAll, Mn.wipe, Tg.go, Tg.goes, Option.bind_some, isTup, isIntT, isBlT, isStrT, isLstT, known, List.isEmpty_nil, ownOf, ap_LcF, ap_turn, FM_map, FM_ret, FM_if, FM_opt, FM_nil, oCons_some, oCons_none, noX_ret, ap_Lc2F, ap_turn2, FL_map, FL_ret, FL_nil, ap_go, ap_Wipe, numbered0, paired_map, fAll_map, fAny_map, List.length_map, cutL_from, cutL_upto, mapV_nil, mapV_cons, Int.cast_ofNat_Int, BEq.rfl, Int.reduceLT, Int.reduceLE, Int.reduceBEq, Int.zero_le_ofNat, decide_true, decide_false, ap_For, hlt, cslots, eA, hset]) _ (by decide)
        | false =>
          simp only [ap_V, ap_O, ap_own, getV_val, getO_val, getO_own, getO_ownd, getL_own, ap_C, ap_1, ap_2, ap_And, ap_Or, ap_Not, ap_If, ap_aNil, ap_aCons, ap_aStar, ap_Tup, ap_Lst, ap_TupS, ap_LstS, ap_Call, ap_Chain, ap_Cut, ap_oNone, ap_oSome, ap_bV, ap_bAnd, ap_bOr, ap_bNot, ap_bYes, ap_wS, ap_Rng1, ap_Rng2, ap_TupRg1, ap_TupRg2, ap_LstRg1, ap_LstRg2, ap_Enum, ap_Enum2, ap_Zip, ap_mNil, ap_mVal, ap_mOwn, ap_sNx, ap_Seq, seqK_nx, seqK_rt, ap_Asg, ap_Set, ap_Own, ownK_lst, ownK_dct, ap_Ret, ap_sIf, ap_Stk, ap_Drop, ap_App, ap_Ext, ap_PutL, ap_Par, ap_Frz, frzS_own, frzS_val, ap_fn, fnK_rt, fnK_nx, ite_bind, gIx_tup, gIx_lst, itemI0, itemI1, itemI2, itemI3, gCut_tup, gCut_lst, asB_bl, asI_int, asS_tup, asS_lst, asL_lst, gAdd_int, gAdd_tup, gAdd_lst, gSub_int, gMulA_int, gLt_int, gLe_int, gGt_int, gGe_int, fTuple_lst, fTuple_tup, fList_tup, fList_lst, fInt_int, fInt_bl, gIsi_int, gIsi_bl, gIsi_tup, gIsi_lst, gIsi_str, gIsi_non, gIsB_bl, gIsNotB_bl, M.ret_bind, M.stk_bind, M.draw_bind, M.bind_ret, ofO_some, ofO_none, List.getD_cons_zero, List.getD_cons_succ, List.set_cons_zero, List.set_cons_succ, List.length_cons, List.length_nil, List.cons_append, List.nil_append, List.append_nil, List.replicate, Nat.reduceSub, Nat.reduceAdd, Nat.reduceEqDiff, if_true, if_false, ite_true, ite_false, reduceIte, Bool.not_true, Bool.not_false, Bool.false_eq_true, Bool.true_and, Bool.false_and, Bool.and_true, Bool.and_false, len_tup, len_lst, ne_int, eq_int, setAll, Mn.wipe, Tg.go, Tg.goes, Option.bind_some, isTup, isIntT, isBlT, isStrT, isLstT, known, List.isEmpty_nil, ownOf, ap_LcF, ap_turn, FM_map, FM_ret, FM_if, FM_opt, FM_nil, oCons_some, oCons_none, noX_ret, ap_Lc2F, ap_turn2, FL_map, FL_ret, FL_nil, ap_go, ap_Wipe, numbered0, paired_map, fAll_map, fAny_map, List.length_map, cutL_from, cutL_upto, mapV_nil, mapV_cons, Int.cast_ofNat_Int, BEq.rfl, Int.reduceLT, Int.reduceLE, Int.reduceBEq, Int.zero_le_ofNat, decide_true, decide_false, ap_For, hL, eqO, neO, hG, hsl, Option.isNone_some, Option.isSome_some, hO, hGn, ix1, ix0, hpl, hpg, h3', M.bind_assoc]
          refine last _ ?_ 2 (by decide)
          rw [if_pos h3]
          exact ⟨_, fun c => by simp only [ap_V, ap_O, ap_own, getV_val, getO_val, getO_own, getO_ownd, getL_own, ap_C, ap_1, ap_2, ap_And, ap_Or, ap_Not, ap_If, ap_aNil, ap_aCons, ap_aStar, ap_Tup, ap_Lst, ap_TupS, ap_LstS, ap_Call, ap_Chain, ap_Cut, ap_oNone, ap_oSome, ap_bV, ap_bAnd, ap_bOr, ap_bNot, ap_bYes, ap_wS, ap_Rng1, ap_Rng2, ap_TupRg1, ap_TupRg2, ap_LstRg1, ap_LstRg2, ap_Enum, ap_Enum2, ap_Zip, ap_mNil, ap_mVal, ap_mOwn, ap_sNx, ap_Seq, seqK_nx, seqK_rt, ap_Asg, ap_Set, ap_Own, ownK_lst, ownK_dct, ap_Ret, ap_sIf, ap_Stk, ap_Drop, ap_App, ap_Ext, ap_PutL, ap_Par, ap_Frz, frzS_own, frzS_val, ap_fn, fnK_rt, fnK_nx, ite_bind, gIx_tup, gIx_lst, itemI0, itemI1, itemI2, itemI3, gCut_tup, gCut_lst, asB_bl, asI_int, asS_tup, asS_lst, asL_lst, gAdd_int, gAdd_tup, gAdd_lst, gSub_int, gMulA_int, gLt_int, gLe_int, gGt_int, gGe_int, fTuple_lst, fTuple_tup, fList_tup, fList_lst, fInt_int, fInt_bl, gIsi_int, gIsi_bl, gIsi_tup, gIsi_lst, gIsi_str, gIsi_non, gIsB_bl, gIsNotB_bl, M.ret_bind, M.stk_bind, M.draw_bind, M.bind_ret, ofO_some, ofO_none, List.getD_cons_zero, List.getD_cons_succ, List.set_cons_zero, List.set_cons_succ, List.length_cons, List.length_nil, List.cons_append, List.nil_append, List.append_nil, List.replicate, Nat.reduceSub, Nat.reduceAdd, Nat.reduceEqDiff, if_true, if_false, ite_true, ite_false, reduceIte, Bool.not_true, Bool.not_false, Bool.false_eq_true, Bool.true_and, Bool.false_and, Bool.and_true, Bool.and_false, len_tup, len_lst, ne_int, eq_int, setAll, Mn.wipe, Tg.go, Tg.goes, Option.bind_some, isTup, isIntT, isBlT, isStrT, isLstT, known, List.isEmpty_nil, ownOf, ap_LcF, ap_turn, FM_map, FM_ret, FM_if, FM_opt, FM_nil, oCons_some, oCons_none, noX_ret, ap_Lc2F, ap_turn2, FL_map, FL_ret, FL_nil, ap_go, ap_Wipe, numbered0, paired_map, fAll_map, fAny_map, List.length_map, cutL_from, cutL_upto, mapV_nil, mapV_cons, Int.cast_ofNat_Int, BEq.rfl, Int.reduceLT, Int.reduceLE, Int.reduceBEq, Int.zero_le_ofNat, decide_true, decide_false, ap_For, hll, cslots, eB], rfl⟩
      · have hg' : decide ((G.length : Int) < many) = false := decide_eq_false (by omega)
        simp only [ap_V, ap_O, ap_own, getV_val, getO_val, getO_own, getO_ownd, getL_own, ap_C, ap_1, ap_2, ap_And, ap_Or, ap_Not, ap_If, ap_aNil, ap_aCons, ap_aStar, ap_Tup, ap_Lst, ap_TupS, ap_LstS, ap_Call, ap_Chain, ap_Cut, ap_oNone, ap_oSome, ap_bV, ap_bAnd, ap_bOr, ap_bNot, ap_bYes, ap_wS, ap_Rng1, ap_Rng2, ap_TupRg1, ap_TupRg2, ap_LstRg1, ap_LstRg2, ap_Enum, ap_Enum2, ap_Zip, ap_mNil, ap_mVal, ap_mOwn, ap_sNx, ap_Seq, seqK_nx, seqK_rt, ap_Asg, ap_Set, ap_Own, ownK_lst, ownK_dct, ap_Ret, ap_sIf, ap_Stk, ap_Drop, ap_App, ap_Ext, ap_PutL, ap_Par, ap_Frz, frzS_own, frzS_val, ap_fn, fnK_rt, fnK_nx, ite_bind, gIx_tup, gIx_lst, itemI0, itemI1, itemI2, itemI3, gCut_tup, gCut_lst, asB_bl, asI_int, asS_tup, asS_lst, asL_lst, gAdd_int, gAdd_tup, gAdd_lst, gSub_int, gMulA_int, gLt_int, gLe_int, gGt_int, gGe_int, fTuple_lst, fTuple_tup, fList_tup, fList_lst, fInt_int, fInt_bl, gIsi_int, gIsi_bl, gIsi_tup, gIsi_lst, gIsi_str, gIsi_non, gIsB_bl, gIsNotB_bl, M.ret_bind, M.stk_bind, M.draw_bind, M.bind_ret, ofO_some, ofO_none, List.getD_cons_zero, List.getD_cons_succ, List.set_cons_zero, List.set_cons_succ, List.length_cons, List.length_nil, List.cons_append, List.nil_append, List.append_nil, List.replicate, Nat.reduceSub, Nat.reduceAdd, Nat.reduceEqDiff, if_true, if_false, ite_true, ite_false, reduceIte, Bool.not_true, Bool.not_false, Bool.false_eq_true, Bool.true_and, Bool.false_and, Bool.and_true, Bool.and_false, len_tup, len_lst, ne_int, eq_int, setAll, Mn.wipe, Tg.go, Tg.goes, Option.bind_some, isTup, isIntT, isBlT, isStrT, isLstT, known, List.isEmpty_nil, ownOf, ap_LcF, ap_turn, FM_map, FM_ret, FM_if, FM_opt, FM_nil, oCons_some, oCons_none, noX_ret, ap_Lc2F, ap_turn2, FL_map, FL_ret, FL_nil, ap_go, ap_Wipe, numbered0, paired_map, fAll_map, fAny_map, List.length_map, cutL_from, cutL_upto, mapV_nil, mapV_cons, Int.cast_ofNat_Int, BEq.rfl, Int.reduceLT, Int.reduceLE, Int.reduceBEq, Int.zero_le_ofNat, decide_true, decide_false, ap_For, hL, eqO, neO, hG, hg', hsl, Option.isNone_some, Option.isSome_some, hO, hGn, ix1, ix0, hpl, hpg, h3', M.bind_assoc]
        refine last _ ?_ 3 (by decide)
        rw [if_pos h3]
        exact ⟨_, fun c => by simp only [ap_V, ap_O, ap_own, getV_val, getO_val, getO_own, getO_ownd, getL_own, ap_C, ap_1, ap_2, ap_And, ap_Or, ap_Not, ap_If, ap_aNil, ap_aCons, ap_aStar, ap_Tup, ap_Lst, ap_TupS, ap_LstS, ap_Call, ap_Chain, ap_Cut, ap_oNone, ap_oSome, ap_bV, ap_bAnd, ap_bOr, ap_bNot, ap_bYes, ap_wS, ap_Rng1, ap_Rng2, ap_TupRg1, ap_TupRg2, ap_LstRg1, ap_LstRg2, ap_Enum, ap_Enum2, ap_Zip, ap_mNil, ap_mVal, ap_mOwn, ap_sNx, ap_Seq, seqK_nx, seqK_rt, ap_Asg, ap_Set, ap_Own, ownK_lst, ownK_dct, ap_Ret, ap_sIf, ap_Stk, ap_Drop, ap_App, ap_Ext, ap_PutL, ap_Par, ap_Frz, frzS_own, frzS_val, ap_fn, fnK_rt, fnK_nx, ite_bind, gIx_tup, gIx_lst, itemI0, itemI1, itemI2, itemI3, gCut_tup, gCut_lst, asB_bl, asI_int, asS_tup, asS_lst, asL_lst, gAdd_int, gAdd_tup, gAdd_lst, gSub_int, gMulA_int, gLt_int, gLe_int, gGt_int, gGe_int, fTuple_lst, fTuple_tup, fList_tup, fList_lst, fInt_int, fInt_bl, gIsi_int, gIsi_bl, gIsi_tup, gIsi_lst, gIsi_str, gIsi_non, gIsB_bl, gIsNotB_bl, M.ret_bind, M.stk_bind, M.draw_bind, M.bind_ret, ofO_some, ofO_none, List.getD_cons_zero, List.getD_cons_succ, List.set_cons_zero, List.set_cons_succ, List.length_cons, List.length_nil, List.cons_append, List.nil_append, List.append_nil, List.replicate, Nat.reduceSub, Nat.reduceAdd, Nat.reduceEqDiff, if_true, if_false, ite_true, ite_false, reduceIte, Bool.not_true, Bool.not_false, Bool.false_eq_true, Bool.true_and, Bool.false_and, Bool.and_true, Bool.and_false, len_tup, len_lst, ne_int, eq_int, setAll, Mn.wipe, Tg.go, Tg.goes, Option.bind_some, isTup, isIntT, isBlT, isStrT, isLstT, known, List.isEmpty_nil, ownOf, ap_LcF, ap_turn, FM_map, FM_ret, FM_if, FM_opt, FM_nil, oCons_some, oCons_none, noX_ret, ap_Lc2F, ap_turn2, FL_map, FL_ret, FL_nil, ap_go, ap_Wipe, numbered0, paired_map, fAll_map, fAny_map, List.length_map, cutL_from, cutL_upto, mapV_nil, mapV_cons, Int.cast_ofNat_Int, BEq.rfl, Int.reduceLT, Int.reduceLE, Int.reduceBEq, Int.zero_le_ofNat, decide_true, decide_false, ap_For, hll, cslots, eB], rfl⟩
    · have h3' : decide ((G[n].2.length : Int) < 3) = false := decide_eq_false h3
      by_cases hg : G.length < many
      · have hg' : decide ((G.length : Int) < many) = true := decide_eq_true (by omega)
        simp only [ap_V, ap_O, ap_own, getV_val, getO_val, getO_own, getO_ownd, getL_own, ap_C, ap_1, ap_2, ap_And, ap_Or, ap_Not, ap_If, ap_aNil, ap_aCons, ap_aStar, ap_Tup, ap_Lst, ap_TupS, ap_LstS, ap_Call, ap_Chain, ap_Cut, ap_oNone, ap_oSome, ap_bV, ap_bAnd, ap_bOr, ap_bNot, ap_bYes, ap_wS, ap_Rng1, ap_Rng2, ap_TupRg1, ap_TupRg2, ap_LstRg1, ap_LstRg2, ap_Enum, ap_Enum2, ap_Zip, ap_mNil, ap_mVal, ap_mOwn, ap_sNx, ap_Seq, seqK_nx, seqK_rt, ap_Asg, ap_Set, ap_Own, ownK_lst, ownK_dct, ap_Ret, ap_sIf, ap_Stk, ap_Drop, ap_App, ap_Ext, ap_PutL, ap_Par, ap_Frz, frzS_own, frzS_val, ap_fn, fnK_rt, fnK_nx, ite_bind, gIx_tup, gIx_lst, itemI0, itemI1, itemI2, itemI3, gCut_tup, gCut_lst, asB_bl, asI_int, asS_tup, asS_lst, asL_lst, gAdd_int, gAdd_tup, gAdd_lst, gSub_int, gMulA_int, gLt_int, gLe_int, gGt_int, gGe_int, fTuple_lst, fTuple_tup, fList_tup, fList_lst, fInt_int, fInt_bl, gIsi_int, gIsi_bl, gIsi_tup, gIsi_lst, gIsi_str, gIsi_non, gIsB_bl, gIsNotB_bl, M.ret_bind, M.stk_bind, M.draw_bind, M.bind_ret, ofO_some, ofO_none, List.getD_cons_zero, List.getD_cons_succ, List.set_cons_zero, List.set_cons_succ, List.length_cons, List.length_nil, List.cons_append, List.nil_append, List.append_nil, List.replicate, Nat.reduceSub, Nat.reduceAdd, Nat.reduceEqDiff, if_true, if_false, ite_true, ite_false, reduceIte, Bool.not_true, Bool.not_false, Bool.false_eq_true, Bool.true_and, Bool.false_and, Bool.and_true, Bool.and_false, len_tup, len_lst, ne_int, eq_int, setAll, Mn.wipe, Tg.go, Tg.goes, Option.bind_some, isTup, isIntT, isBlT, isStrT, isLstT, known, List.isEmpty_nil, ownOf, ap_LcF, ap_turn, FM_map, FM_ret, FM_if, FM_opt, FM_nil, oCons_some, oCons_none, noX_ret, ap_Lc2F, ap_turn2, FL_map, FL_ret, FL_nil, ap_go, ap_Wipe, numbered0, paired_map, fAll_map, fAny_map, List.length_map, cutL_from, cutL_upto, mapV_nil, mapV_cons, Int.cast_ofNat_Int, BEq.rfl, Int.reduceLT, Int.reduceLE, Int.reduceBEq, Int.zero_le_ofNat, decide_true, decide_false, ap_For, hL, eqO, neO, hG, hg', hsl, Option.isNone_some, Option.isSome_some, hO, hGn, ix1, ix0, hpl, hpg, h3', M.bind_assoc]
        refine .draw (by decide) (by decide) fun d3 d30 d31 => ?_
        cases hz : (d3 == 0) with
        | true =>
          simp only [ap_V, ap_O, ap_own, getV_val, getO_val, getO_own, getO_ownd, getL_own, ap_C, ap_1, ap_2, ap_And, ap_Or, ap_Not, ap_If, ap_aNil, ap_aCons, ap_aStar, ap_Tup, ap_Lst, ap_TupS, ap_LstS, ap_Call, ap_Chain, ap_Cut, ap_oNone, ap_oSome, ap_bV, ap_bAnd, ap_bOr, ap_bNot, ap_bYes, ap_wS, ap_Rng1, ap_Rng2, ap_TupRg1, ap_TupRg2, ap_LstRg1, ap_LstRg2, ap_Enum, ap_Enum2, ap_Zip, ap_mNil, ap_mVal, ap_mOwn, ap_sNx, ap_Seq, seqK_nx, seqK_rt, ap_Asg, ap_Set, ap_Own, ownK_lst, ownK_dct, ap_Ret, ap_sIf, ap_Stk, ap_Drop, ap_App, ap_Ext, ap_PutL, ap_Par, ap_Frz, frzS_own, frzS_val, ap_fn, fnK_rt, fnK_nx, ite_bind, gIx_tup, gIx_lst, itemI0, itemI1, itemI2, itemI3, gCut_tup, gCut_lst, asB_bl, asI_int, asS_tup, asS_lst, asL_lst, gAdd_int, gAdd_tup, gAdd_lst, gSub_int, gMulA_int, gLt_int, gLe_int, gGt_int, gGe_int, fTuple_lst, fTuple_tup, fList_tup, fList_lst, fInt_int, fInt_bl, gIsi_int, gIsi_bl, gIsi_tup, gIsi_lst, gIsi_str, gIsi_non, gIsB_bl, gIsNotB_bl, M.ret_bind, M.stk_bind, M.draw_bind, M.bind_ret, ofO_some, ofO_none, List.getD_cons_zero, List.getD_cons_succ, List.set_cons_zero, List.set_cons_succ, List.length_cons, List.length_nil, List.cons_append, List.nil_append, List.append_nil, List.replicate, Nat.reduceSub, Nat.reduceAdd, Nat.reduceEqDiff, if_true, if_false, ite_true, ite_false, reduceIte, Bool.not_true, Bool.not_false, Bool.false_eq_true, Bool.true_and, Bool.false_and, Bool.and_true, Bool.and_false, len_tup, len_lst, ne_int, eq_int, setAll, Mn.wipe, Tg.go, Tg.goes, Option.bind_some, isTup, isIntT, isBlT, isStrT, isLstT, known, List.isEmpty_nil, ownOf, ap_LcF, ap_turn, FM_map, FM_ret, FM_if, FM_opt, FM_nil, oCons_some, oCons_none, noX_ret, ap_Lc2F, ap_turn2, FL_map, FL_ret, FL_nil, ap_go, ap_Wipe, numbered0, paired_map, fAll_map, fAny_map, List.length_map, cutL_from, cutL_upto, mapV_nil, mapV_cons, Int.cast_ofNat_Int, BEq.rfl, Int.reduceLT, Int.reduceLE, Int.reduceBEq, Int.zero_le_ofNat, decide_true, decide_false, ap_For, hpl, M.bind_assoc]
          exact runA hg _ (fun c => by simp only [ap_V, ap_O, ap_own, getV_val, getO_val, getO_own, getO_ownd, getL_own, ap_C, ap_1, ap_2, ap_And, ap_Or, ap_Not, ap_If, ap_aNil, ap_aCons, ap_aStar, ap_Tup, ap_Lst, ap_TupS, ap_LstS, ap_Call, ap_Chain, ap_Cut, ap_oNone, ap_oSome, ap_bV, ap_bAnd, ap_bOr, ap_bNot, ap_bYes, ap_wS, ap_Rng1, ap_Rng2, ap_TupRg1, ap_TupRg2, ap_LstRg1, ap_LstRg2, ap_Enum, ap_Enum2, ap_Zip, ap_mNil, ap_mVal, ap_mOwn, ap_sNx, ap_Seq, seqK_nx, seqK_rt, ap_Asg, ap_Set, ap_Own, ownK_lst, ownK_dct, ap_Ret, ap_sIf, ap_Stk, ap_Drop, ap_App, ap_Ext, ap_PutL, ap_Par, ap_Frz, frzS_own, frzS_val, ap_fn, fnK_rt, fnK_nx, ite_bind, gIx_tup, gIx_lst, itemI0, itemI1, itemI2, itemI3, gCut_tup, gCut_lst, asB_bl, asI_int, asS_tup, asS_lst, asL_lst, gAdd_int, gAdd_tup, gAdd_lst, gSub_int, gMulA_int, gLt_int, gLe_int, gGt_int, gGe_int, fTuple_lst, fTuple_tup, fList_tup, fList_lst, fInt_int, fInt_bl, gIsi_int, gIsi_bl, gIsi_tup, gIsi_lst, gIsi_str, gIsi_non, gIsB_bl, gIsNotB_bl, M.ret_bind, M.stk_bind, M.draw_bind, M.bind_ret, ofO_some, ofO_none, List.getD_cons_zero, List.getD_cons_succ, List.set_cons_zero, List.set_cons_succ, List.length_cons, List.length_nil, List.cons_append, List.nil_append, List.append_nil, List.replicate, Nat.reduceSub, Nat.reduceAdd, Nat.reduceEqDiff, if_true, if_false, ite_true, ite_false, reduceIte, Bool.not_true, Bool.not_false, Bool.false_eq_true, Bool.true_and, Bool.false_and, Bool.and_true, Bool.and_false, len_tup, len_lst, ne_int, eq_int, setAll, Mn.wipe, Tg.go, Tg.goes, Option.bind_some, isTup, isIntT, isBlT, isStrT, isLstT, known, List.isEmpty_nil, ownOf, ap_LcF, ap_turn, FM_map, FM_ret, FM_if, FM_opt, FM_nil, oCons_some, oCons_none, noX_ret, ap_Lc2F, ap_turn2, FL_map, FL_ret, FL_nil, ap_go, ap_Wipe, numbered0, paired_map, fAll_map, fAny_map, List.length_map, cutL_from, cutL_upto, mapV_nil, mapV_cons, Int.cast_ofNat_Int, BEq.rfl, Int.reduceLT, Int.reduceLE, Int.reduceBEq, Int.zero_le_ofNat, decide_true, decide_false, ap_For, hlt, cslots, eA, hset]) _ (by decide)
        | false =>
          simp only [ap_V, ap_O, ap_own, getV_val, getO_val, getO_own, getO_ownd, getL_own, ap_C, ap_1, ap_2, ap_And, ap_Or, ap_Not, ap_If, ap_aNil, ap_aCons, ap_aStar, ap_Tup, ap_Lst, ap_TupS, ap_LstS, ap_Call, ap_Chain, ap_Cut, ap_oNone, ap_oSome, ap_bV, ap_bAnd, ap_bOr, ap_bNot, ap_bYes, ap_wS, ap_Rng1, ap_Rng2, ap_TupRg1, ap_TupRg2, ap_LstRg1, ap_LstRg2, ap_Enum, ap_Enum2, ap_Zip, ap_mNil, ap_mVal, ap_mOwn, ap_sNx, ap_Seq, seqK_nx, seqK_rt, ap_Asg, ap_Set, ap_Own, ownK_lst, ownK_dct, ap_Ret, ap_sIf, ap_Stk, ap_Drop, ap_App, ap_Ext, ap_PutL, ap_Par, ap_Frz, frzS_own, frzS_val, ap_fn, fnK_rt, fnK_nx, ite_bind, gIx_tup, gIx_lst, itemI0, itemI1, itemI2, itemI3, gCut_tup, gCut_lst, asB_bl, asI_int, asS_tup, asS_lst, asL_lst, gAdd_int, gAdd_tup, gAdd_lst, gSub_int, gMulA_int, gLt_int, gLe_int, gGt_int, gGe_int, fTuple_lst, fTuple_tup, fList_tup, fList_lst, fInt_int, fInt_bl, gIsi_int, gIsi_bl, gIsi_tup, gIsi_lst, gIsi_str, gIsi_non, gIsB_bl, gIsNotB_bl, M.ret_bind, M.stk_bind, M.draw_bind, M.bind_ret, ofO_some, ofO_none, List.getD_cons_zero, List.getD_cons_succ, List.set_cons_zero, List.set_cons_succ, List.length_cons, List.length_nil, List.cons_append, List.nil_append, List.append_nil, List.replicate, Nat.reduceSub, Nat.reduceAdd, Nat.reduceEqDiff, if_true, if_false, ite_true, ite_false, reduceIte, Bool.not_true, Bool.not_false, Bool.false_eq_true, Bool.true_and, Bool.false_and, Bool.and_true, Bool.and_false, len_tup, len_lst, ne_int, eq_int, setAll, Mn.wipe, Tg.go, Tg.goes, Option.bind_some, isTup, isIntT, isBlT, isStrT, isLstT, known, List.isEmpty_nil, ownOf, ap_LcF, ap_turn, FM_map, FM_ret, FM_if, FM_opt, FM_nil, oCons_some, oCons_none, noX_ret, ap_Lc2F, ap_turn2, FL_map, FL_ret, FL_nil, ap_go, ap_Wipe, numbered0, paired_map, fAll_map, fAny_map, List.length_map, cutL_from, cutL_upto, mapV_nil, mapV_cons, Int.cast_ofNat_Int, BEq.rfl, Int.reduceLT, Int.reduceLE, Int.reduceBEq, Int.zero_le_ofNat, decide_true, decide_false, ap_For, hL, eqO, neO, hG, hsl, Option.isNone_some, Option.isSome_some, hO, hGn, ix1, ix0, hpl, hpg, h3', M.bind_assoc]
          refine last _ ?_ 2 (by decide)
          rw [if_neg h3]
      · have hg' : decide ((G.length : Int) < many) = false := decide_eq_false (by omega)
        simp only [ap_V, ap_O, ap_own, getV_val, getO_val, getO_own, getO_ownd, getL_own, ap_C, ap_1, ap_2, ap_And, ap_Or, ap_Not, ap_If, ap_aNil, ap_aCons, ap_aStar, ap_Tup, ap_Lst, ap_TupS, ap_LstS, ap_Call, ap_Chain, ap_Cut, ap_oNone, ap_oSome, ap_bV, ap_bAnd, ap_bOr, ap_bNot, ap_bYes, ap_wS, ap_Rng1, ap_Rng2, ap_TupRg1, ap_TupRg2, ap_LstRg1, ap_LstRg2, ap_Enum, ap_Enum2, ap_Zip, ap_mNil, ap_mVal, ap_mOwn, ap_sNx, ap_Seq, seqK_nx, seqK_rt, ap_Asg, ap_Set, ap_Own, ownK_lst, ownK_dct, ap_Ret, ap_sIf, ap_Stk, ap_Drop, ap_App, ap_Ext, ap_PutL, ap_Par, ap_Frz, frzS_own, frzS_val, ap_fn, fnK_rt, fnK_nx, ite_bind, gIx_tup, gIx_lst, itemI0, itemI1, itemI2, itemI3, gCut_tup, gCut_lst, asB_bl, asI_int, asS_tup, asS_lst, asL_lst, gAdd_int, gAdd_tup, gAdd_lst, gSub_int, gMulA_int, gLt_int, gLe_int, gGt_int, gGe_int, fTuple_lst, fTuple_tup, fList_tup, fList_lst, fInt_int, fInt_bl, gIsi_int, gIsi_bl, gIsi_tup, gIsi_lst, gIsi_str, gIsi_non, gIsB_bl, gIsNotB_bl, M.ret_bind, M.stk_bind, M.draw_bind, M.bind_ret, ofO_some, ofO_none, List.getD_cons_zero, List.getD_cons_succ, List.set_cons_zero, List.set_cons_succ, List.length_cons, List.length_nil, List.cons_append, List.nil_append, List.append_nil, List.replicate, Nat.reduceSub, Nat.reduceAdd, Nat.reduceEqDiff, if_true, if_false, ite_true, ite_false, reduceIte, Bool.not_true, Bool.not_false, Bool.false_eq_true, Bool.true_and, Bool.false_and, Bool.and_true, Bool.and_false, len_tup, len_lst, ne_int, eq_int, setAll, Mn.wipe, Tg.go, Tg.goes, Option.bind_some, isTup, isIntT, isBlT, isStrT, isLstT, known, List.isEmpty_nil, ownOf, ap_LcF, ap_turn, FM_map, FM_ret, FM_if, FM_opt, FM_nil, oCons_some, oCons_none, noX_ret, ap_Lc2F, ap_turn2, FL_map, FL_ret, FL_nil, ap_go, ap_Wipe, numbered0, paired_map, fAll_map, fAny_map, List.length_map, cutL_from, cutL_upto, mapV_nil, mapV_cons, Int.cast_ofNat_Int, BEq.rfl, Int.reduceLT, Int.reduceLE, Int.reduceBEq, Int.zero_le_ofNat, decide_true, decide_false, ap_For, hL, eqO, neO, hG, hg', hsl, Option.isNone_some, Option.isSome_some, hO, hGn, ix1, ix0, hpl, hpg, h3', M.bind_assoc]
        refine last _ ?_ 3 (by decide)
        rw [if_neg h3]
end Hd

set_option maxHeartbeats 1000000
set_option maxRecDepth 100000
namespace Hd
open Mn
theorem r_cells {many cells most : Nat} (hm : many ≤ 12) (hc : 0 < cells) (hc9 : cells ≤ 9) (hmo : most ≤ 9) : Runs (m__law_cells [.st, .int (many : Int), .int (cells : Int), .int (most : Int)]) 180 (fun d => ∃ r, d = eR r ∧ okR r ∧ r.length ≤ many ∧ (∀ v ∈ r, okD 1000 v) ∧ (0 < many → r ≠ []) ∧ (cells = 1 → ∃ t, Seqd r t)) := by
  have hr : (cells : Int) ≤ 16777216 ∧ -16777216 ≤ (cells : Int) := by omega
  have hr3 : 3 * (many : Int) ≤ 16777216 ∧ -16777216 ≤ 3 * (many : Int) := by omega
  have s3 : (small 3 || small (many : Int)) = true := by rw [show small 3 = true by decide]; rfl
  have e0 : (List.range cells).map (fun _ => D.lst []) = (List.replicate cells (none : Option Nat)).map eO := by
    rw [List.map_replicate]
    exact List.eq_replicate_iff.mpr ⟨by simp, fun b hb => by
      obtain ⟨i, _, e⟩ := List.mem_map.mp hb
      exact e.symm⟩
  have hl := runs_turns (g := .n 7) (b := lb1__law_cells) (R := fun _ => False) (k := 5) ((List.range (3 * many)).map eI) (fun i σ => ∃ L G t, σ = cslots many cells most L G t .un .un .un ∧ Inv many cells (2 * (i : Int)) L G t ∧ (0 < i → 0 < many → G ≠ [])) (cslots many cells most (List.replicate cells none) [] 0 .un .un .un)
    ⟨_, _, _, rfl, ⟨by simp, (fun n hn => by simp [List.mem_replicate] at hn), by simp, (fun v hv => by cases hv), by omega, by omega, fun _ => ⟨⟨fun v hv => (by cases hv), List.Pairwise.nil⟩, fun n hn => by simp [List.mem_replicate] at hn⟩⟩, fun h => absurd h (by decide)⟩ fun i d hd σ ⟨L, G, t, e, I, _⟩ => by
      subst e
      have hi := getElem_lt hd
      rw [List.length_map, List.length_range] at hi
      refine (r_cells_body hm hc hc9 hmo (T := 2 * (i : Int)) (by omega) I (.val d)).mono (Nat.le_refl _) fun r hr => ?_
      obtain ⟨fl, σ'⟩ := r
      cases fl with
      | nx =>
        obtain ⟨L', G', t', e, I', hne⟩ := hr
        exact ⟨L', G', t', e, I'.later (Int.le_refl _) (by have := I'.t1; omega), fun _ => hne⟩
      | rt d => exact hr.elim
  simp only [m__law_cells, b__law_cells, l1__law_cells, c1__law_cells, e1__law_cells, ap_V, ap_O, ap_own, getV_val, getO_val, getO_own, getO_ownd, getL_own, ap_C, ap_1, ap_2, ap_And, ap_Or, ap_Not, ap_If, ap_aNil, ap_aCons, ap_aStar, ap_Tup, ap_Lst, ap_TupS, ap_LstS, ap_Call, ap_Chain, ap_Cut, ap_oNone, ap_oSome, ap_bV, ap_bAnd, ap_bOr, ap_bNot, ap_bYes, ap_wS, ap_Rng1, ap_Rng2, ap_TupRg1, ap_TupRg2, ap_LstRg1, ap_LstRg2, ap_Enum, ap_Enum2, ap_Zip, ap_mNil, ap_mVal, ap_mOwn, ap_sNx, ap_Seq, seqK_nx, seqK_rt, ap_Asg, ap_Set, ap_Own, ownK_lst, ownK_dct, ap_Ret, ap_sIf, ap_Stk, ap_Drop, ap_App, ap_Ext, ap_PutL, ap_Par, ap_Frz, frzS_own, frzS_val, ap_fn, fnK_rt, fnK_nx, ite_bind, gIx_tup, gIx_lst, itemI0, itemI1, itemI2, itemI3, gCut_tup, gCut_lst, asB_bl, asI_int, asS_tup, asS_lst, asL_lst, gAdd_int, gAdd_tup, gAdd_lst, gSub_int, gMulA_int, gLt_int, gLe_int, gGt_int, gGe_int, fTuple_lst, fTuple_tup, fList_tup, fList_lst, fInt_int, fInt_bl, gIsi_int, gIsi_bl, gIsi_tup, gIsi_lst, gIsi_str, gIsi_non, gIsB_bl, gIsNotB_bl, M.ret_bind, M.stk_bind, M.draw_bind, M.bind_ret, ofO_some, ofO_none, List.getD_cons_zero, List.getD_cons_succ, List.set_cons_zero, List.set_cons_succ, List.length_cons, List.length_nil, List.cons_append, List.nil_append, List.append_nil, List.replicate, Nat.reduceSub, Nat.reduceAdd, Nat.reduceEqDiff, if_true, if_false, ite_true, ite_false, reduceIte, Bool.not_true, Bool.not_false, Bool.false_eq_true, Bool.true_and, Bool.false_and, Bool.and_true, Bool.and_false, len_tup, len_lst, ne_int, eq_int, setAll, Mn.wipe, Tg.go, Tg.goes, Option.bind_some, isTup, isIntT, isBlT, isStrT, isLstT, known, List.isEmpty_nil, ownOf, ap_LcF, ap_turn, FM_map, FM_ret, FM_if, FM_opt, FM_nil, oCons_some, oCons_none, noX_ret, ap_Lc2F, ap_turn2, FL_map, FL_ret, FL_nil, ap_go, ap_Wipe, numbered0, paired_map, fAll_map, fAny_map, List.length_map, cutL_from, cutL_upto, mapV_nil, mapV_cons, Int.cast_ofNat_Int, BEq.rfl, Int.reduceLT, Int.reduceLE, Int.reduceBEq, Int.zero_le_ofNat, decide_true, decide_false, ap_For, hr, and_self, Int.toNat_natCast, upTo0, s3, hr3, M.bind_assoc, ownOf]
  have he : (fun i : Nat => D.int (i : Int)) = eI := rfl
  have h3 : (3 * (many : Int)).toNat = 3 * many := by omega
  simp only [h3, upTo0, ap_V, ap_O, ap_own, getV_val, getO_val, getO_own, getO_ownd, getL_own, ap_C, ap_1, ap_2, ap_And, ap_Or, ap_Not, ap_If, ap_aNil, ap_aCons, ap_aStar, ap_Tup, ap_Lst, ap_TupS, ap_LstS, ap_Call, ap_Chain, ap_Cut, ap_oNone, ap_oSome, ap_bV, ap_bAnd, ap_bOr, ap_bNot, ap_bYes, ap_wS, ap_Rng1, ap_Rng2, ap_TupRg1, ap_TupRg2, ap_LstRg1, ap_LstRg2, ap_Enum, ap_Enum2, ap_Zip, ap_mNil, ap_mVal, ap_mOwn, ap_sNx, ap_Seq, seqK_nx, seqK_rt, ap_Asg, ap_Set, ap_Own, ownK_lst, ownK_dct, ap_Ret, ap_sIf, ap_Stk, ap_Drop, ap_App, ap_Ext, ap_PutL, ap_Par, ap_Frz, frzS_own, frzS_val, ap_fn, fnK_rt, fnK_nx, ite_bind, gIx_tup, gIx_lst, itemI0, itemI1, itemI2, itemI3, gCut_tup, gCut_lst, asB_bl, asI_int, asS_tup, asS_lst, asL_lst, gAdd_int, gAdd_tup, gAdd_lst, gSub_int, gMulA_int, gLt_int, gLe_int, gGt_int, gGe_int, fTuple_lst, fTuple_tup, fList_tup, fList_lst, fInt_int, fInt_bl, gIsi_int, gIsi_bl, gIsi_tup, gIsi_lst, gIsi_str, gIsi_non, gIsB_bl, gIsNotB_bl, M.ret_bind, M.stk_bind, M.draw_bind, M.bind_ret, ofO_some, ofO_none, List.getD_cons_zero, List.getD_cons_succ, List.set_cons_zero, List.set_cons_succ, List.length_cons, List.length_nil, List.cons_append, List.nil_append, List.append_nil, List.replicate, Nat.reduceSub, Nat.reduceAdd, Nat.reduceEqDiff, if_true, if_false, ite_true, ite_false, reduceIte, Bool.not_true, Bool.not_false, Bool.false_eq_true, Bool.true_and, Bool.false_and, Bool.and_true, Bool.and_false, len_tup, len_lst, ne_int, eq_int, setAll, Mn.wipe, Tg.go, Tg.goes, Option.bind_some, isTup, isIntT, isBlT, isStrT, isLstT, known, List.isEmpty_nil, ownOf, ap_LcF, ap_turn, FM_map, FM_ret, FM_if, FM_opt, FM_nil, oCons_some, oCons_none, noX_ret, ap_Lc2F, ap_turn2, FL_map, FL_ret, FL_nil, ap_go, ap_Wipe, numbered0, paired_map, fAll_map, fAny_map, List.length_map, cutL_from, cutL_upto, mapV_nil, mapV_cons, Int.cast_ofNat_Int, BEq.rfl, Int.reduceLT, Int.reduceLE, Int.reduceBEq, Int.zero_le_ofNat, decide_true, decide_false, ap_For, e0, he]
  simp only [cslots, List.map_nil] at hl
  refine (hl.bind (j := 0) fun r hr => ?_).le (by rw [List.length_map, List.length_range]; omega)
  obtain ⟨fl, σ'⟩ := r
  cases fl with
  | nx =>
    obtain ⟨L', G', t', e, I', hne⟩ := hr
    subst e
    simp only [cslots, ap_V, ap_O, ap_own, getV_val, getO_val, getO_own, getO_ownd, getL_own, ap_C, ap_1, ap_2, ap_And, ap_Or, ap_Not, ap_If, ap_aNil, ap_aCons, ap_aStar, ap_Tup, ap_Lst, ap_TupS, ap_LstS, ap_Call, ap_Chain, ap_Cut, ap_oNone, ap_oSome, ap_bV, ap_bAnd, ap_bOr, ap_bNot, ap_bYes, ap_wS, ap_Rng1, ap_Rng2, ap_TupRg1, ap_TupRg2, ap_LstRg1, ap_LstRg2, ap_Enum, ap_Enum2, ap_Zip, ap_mNil, ap_mVal, ap_mOwn, ap_sNx, ap_Seq, seqK_nx, seqK_rt, ap_Asg, ap_Set, ap_Own, ownK_lst, ownK_dct, ap_Ret, ap_sIf, ap_Stk, ap_Drop, ap_App, ap_Ext, ap_PutL, ap_Par, ap_Frz, frzS_own, frzS_val, ap_fn, fnK_rt, fnK_nx, ite_bind, gIx_tup, gIx_lst, itemI0, itemI1, itemI2, itemI3, gCut_tup, gCut_lst, asB_bl, asI_int, asS_tup, asS_lst, asL_lst, gAdd_int, gAdd_tup, gAdd_lst, gSub_int, gMulA_int, gLt_int, gLe_int, gGt_int, gGe_int, fTuple_lst, fTuple_tup, fList_tup, fList_lst, fInt_int, fInt_bl, gIsi_int, gIsi_bl, gIsi_tup, gIsi_lst, gIsi_str, gIsi_non, gIsB_bl, gIsNotB_bl, M.ret_bind, M.stk_bind, M.draw_bind, M.bind_ret, ofO_some, ofO_none, List.getD_cons_zero, List.getD_cons_succ, List.set_cons_zero, List.set_cons_succ, List.length_cons, List.length_nil, List.cons_append, List.nil_append, List.append_nil, List.replicate, Nat.reduceSub, Nat.reduceAdd, Nat.reduceEqDiff, if_true, if_false, ite_true, ite_false, reduceIte, Bool.not_true, Bool.not_false, Bool.false_eq_true, Bool.true_and, Bool.false_and, Bool.and_true, Bool.and_false, len_tup, len_lst, ne_int, eq_int, setAll, Mn.wipe, Tg.go, Tg.goes, Option.bind_some, isTup, isIntT, isBlT, isStrT, isLstT, known, List.isEmpty_nil, ownOf, ap_LcF, ap_turn, FM_map, FM_ret, FM_if, FM_opt, FM_nil, oCons_some, oCons_none, noX_ret, ap_Lc2F, ap_turn2, FL_map, FL_ret, FL_nil, ap_go, ap_Wipe, numbered0, paired_map, fAll_map, fAny_map, List.length_map, cutL_from, cutL_upto, mapV_nil, mapV_cons, Int.cast_ofNat_Int, BEq.rfl, Int.reduceLT, Int.reduceLE, Int.reduceBEq, Int.zero_le_ofNat, decide_true, decide_false, ap_For]
    refine .ret ⟨G', rfl, ⟨by have := I'.few; omega, fun v hv => okD_V (by decide) (I'.oks v hv)⟩, I'.few, I'.oks, fun h => ?_, fun h => ⟨t', (I'.one h).1⟩⟩
    rw [List.length_map, List.length_range] at hne
    exact hne (by omega) h
  | rt d => exact hr.elim
theorem enc_of : ∀ xs : List D, (∀ x ∈ xs, ∃ c, x = eC c ∧ okT 1000 c) → ∃ cs : List Cl, xs = cs.map eC ∧ ∀ c ∈ cs, okT 1000 c
  | [], _ => ⟨[], rfl, fun c hc => by cases hc⟩
  | x :: xs, h => by
    obtain ⟨cs, e, hc⟩ := enc_of xs fun y hy => h y (List.mem_cons_of_mem _ hy)
    obtain ⟨c, e2, hc2⟩ := h x List.mem_cons_self
    exact ⟨c :: cs, by rw [e, e2]; rfl, fun q hq => by
      rcases List.mem_cons.mp hq with rfl | hq
      · exact hc2
      · exact hc q hq⟩
abbrev rslots (many few kind : Int) (G : List Vl) (x5 : SV) : Sl := [.val .st, .val (.int many), .val (.int few), .val (.int kind), .own (G.map eV), x5, .un, .un, .un]
theorem r_record_body {many few kind : Int} {G : List Vl} (hG : G.length ≤ 12) (h : ∀ v ∈ G, okD 1000 v) (x5 : SV) : Runs (lb1__law_record (rslots many few kind G x5)) 20 (RIs (fun σ => ∃ v, σ = rslots many few kind (G ++ [v]) .un ∧ okD 1000 v) fun _ => False) := by
  have hlt : G.length < 16777216 := by omega
  simp only [lb1__law_record, rslots, ap_V, ap_O, ap_own, getV_val, getO_val, getO_own, getO_ownd, getL_own, ap_C, ap_1, ap_2, ap_And, ap_Or, ap_Not, ap_If, ap_aNil, ap_aCons, ap_aStar, ap_Tup, ap_Lst, ap_TupS, ap_LstS, ap_Call, ap_Chain, ap_Cut, ap_oNone, ap_oSome, ap_bV, ap_bAnd, ap_bOr, ap_bNot, ap_bYes, ap_wS, ap_Rng1, ap_Rng2, ap_TupRg1, ap_TupRg2, ap_LstRg1, ap_LstRg2, ap_Enum, ap_Enum2, ap_Zip, ap_mNil, ap_mVal, ap_mOwn, ap_sNx, ap_Seq, seqK_nx, seqK_rt, ap_Asg, ap_Set, ap_Own, ownK_lst, ownK_dct, ap_Ret, ap_sIf, ap_Stk, ap_Drop, ap_App, ap_Ext, ap_PutL, ap_Par, ap_Frz, frzS_own, frzS_val, ap_fn, fnK_rt, fnK_nx, ite_bind, gIx_tup, gIx_lst, itemI0, itemI1, itemI2, itemI3, gCut_tup, gCut_lst, asB_bl, asI_int, asS_tup, asS_lst, asL_lst, gAdd_int, gAdd_tup, gAdd_lst, gSub_int, gMulA_int, gLt_int, gLe_int, gGt_int, gGe_int, fTuple_lst, fTuple_tup, fList_tup, fList_lst, fInt_int, fInt_bl, gIsi_int, gIsi_bl, gIsi_tup, gIsi_lst, gIsi_str, gIsi_non, gIsB_bl, gIsNotB_bl, M.ret_bind, M.stk_bind, M.draw_bind, M.bind_ret, ofO_some, ofO_none, List.getD_cons_zero, List.getD_cons_succ, List.set_cons_zero, List.set_cons_succ, List.length_cons, List.length_nil, List.cons_append, List.nil_append, List.append_nil, List.replicate, Nat.reduceSub, Nat.reduceAdd, Nat.reduceEqDiff, if_true, if_false, ite_true, ite_false, reduceIte, Bool.not_true, Bool.not_false, Bool.false_eq_true, Bool.true_and, Bool.false_and, Bool.and_true, Bool.and_false, len_tup, len_lst, ne_int, eq_int, setAll, Mn.wipe, Tg.go, Tg.goes, Option.bind_some, isTup, isIntT, isBlT, isStrT, isLstT, known, List.isEmpty_nil, ownOf, ap_LcF, ap_turn, FM_map, FM_ret, FM_if, FM_opt, FM_nil, oCons_some, oCons_none, noX_ret, ap_Lc2F, ap_turn2, FL_map, FL_ret, FL_nil, ap_go, ap_Wipe, numbered0, paired_map, fAll_map, fAny_map, List.length_map, cutL_from, cutL_upto, mapV_nil, mapV_cons, Int.cast_ofNat_Int, BEq.rfl, Int.reduceLT, Int.reduceLE, Int.reduceBEq, Int.zero_le_ofNat, decide_true, decide_false, ap_For, dr_, M.bind_assoc]
  refine (Runs.draw (k := 19) (by decide) (by decide) fun d d0 d1 => ?_).le (by decide)
  refine ((r_around (t := d) (m := 3) d0 (by omega) (by decide) (by decide)).bind (j := 17) fun x ⟨w, e, hw, _, _⟩ => ?_).le (by decide)
  subst e
  simp only [c1__law_record, ap_Lc, ap_V, ap_O, ap_own, getV_val, getO_val, getO_own, getO_ownd, getL_own, ap_C, ap_1, ap_2, ap_And, ap_Or, ap_Not, ap_If, ap_aNil, ap_aCons, ap_aStar, ap_Tup, ap_Lst, ap_TupS, ap_LstS, ap_Call, ap_Chain, ap_Cut, ap_oNone, ap_oSome, ap_bV, ap_bAnd, ap_bOr, ap_bNot, ap_bYes, ap_wS, ap_Rng1, ap_Rng2, ap_TupRg1, ap_TupRg2, ap_LstRg1, ap_LstRg2, ap_Enum, ap_Enum2, ap_Zip, ap_mNil, ap_mVal, ap_mOwn, ap_sNx, ap_Seq, seqK_nx, seqK_rt, ap_Asg, ap_Set, ap_Own, ownK_lst, ownK_dct, ap_Ret, ap_sIf, ap_Stk, ap_Drop, ap_App, ap_Ext, ap_PutL, ap_Par, ap_Frz, frzS_own, frzS_val, ap_fn, fnK_rt, fnK_nx, ite_bind, gIx_tup, gIx_lst, itemI0, itemI1, itemI2, itemI3, gCut_tup, gCut_lst, asB_bl, asI_int, asS_tup, asS_lst, asL_lst, gAdd_int, gAdd_tup, gAdd_lst, gSub_int, gMulA_int, gLt_int, gLe_int, gGt_int, gGe_int, fTuple_lst, fTuple_tup, fList_tup, fList_lst, fInt_int, fInt_bl, gIsi_int, gIsi_bl, gIsi_tup, gIsi_lst, gIsi_str, gIsi_non, gIsB_bl, gIsNotB_bl, M.ret_bind, M.stk_bind, M.draw_bind, M.bind_ret, ofO_some, ofO_none, List.getD_cons_zero, List.getD_cons_succ, List.set_cons_zero, List.set_cons_succ, List.length_cons, List.length_nil, List.map_cons, List.map_nil, List.cons_append, List.nil_append, List.append_nil, List.replicate, Nat.reduceSub, Nat.reduceAdd, Nat.reduceEqDiff, if_true, if_false, ite_true, ite_false, reduceIte, Bool.not_true, Bool.not_false, Bool.false_eq_true, Bool.true_and, Bool.false_and, Bool.and_true, Bool.and_false, len_tup, len_lst, ne_int, eq_int, setAll, Mn.wipe, Tg.go, Tg.goes, Option.bind_some, isTup, isIntT, isBlT, isStrT, isLstT, known, List.isEmpty_nil, ownOf, dr_, M.bind_assoc]
  refine (Runs.draw (k := 16) (by decide) (by decide) fun n n0 n1 => ?_).le (by decide)
  have hn : n ≤ 16777216 ∧ -16777216 ≤ n := by omega
  simp only [hn, and_self, ap_V, ap_O, ap_own, getV_val, getO_val, getO_own, getO_ownd, getL_own, ap_C, ap_1, ap_2, ap_And, ap_Or, ap_Not, ap_If, ap_aNil, ap_aCons, ap_aStar, ap_Tup, ap_Lst, ap_TupS, ap_LstS, ap_Call, ap_Chain, ap_Cut, ap_oNone, ap_oSome, ap_bV, ap_bAnd, ap_bOr, ap_bNot, ap_bYes, ap_wS, ap_Rng1, ap_Rng2, ap_TupRg1, ap_TupRg2, ap_LstRg1, ap_LstRg2, ap_Enum, ap_Enum2, ap_Zip, ap_mNil, ap_mVal, ap_mOwn, ap_sNx, ap_Seq, seqK_nx, seqK_rt, ap_Asg, ap_Set, ap_Own, ownK_lst, ownK_dct, ap_Ret, ap_sIf, ap_Stk, ap_Drop, ap_App, ap_Ext, ap_PutL, ap_Par, ap_Frz, frzS_own, frzS_val, ap_fn, fnK_rt, fnK_nx, ite_bind, gIx_tup, gIx_lst, itemI0, itemI1, itemI2, itemI3, gCut_tup, gCut_lst, asB_bl, asI_int, asS_tup, asS_lst, asL_lst, gAdd_int, gAdd_tup, gAdd_lst, gSub_int, gMulA_int, gLt_int, gLe_int, gGt_int, gGe_int, fTuple_lst, fTuple_tup, fList_tup, fList_lst, fInt_int, fInt_bl, gIsi_int, gIsi_bl, gIsi_tup, gIsi_lst, gIsi_str, gIsi_non, gIsB_bl, gIsNotB_bl, M.ret_bind, M.stk_bind, M.draw_bind, M.bind_ret, ofO_some, ofO_none, List.getD_cons_zero, List.getD_cons_succ, List.set_cons_zero, List.set_cons_succ, List.length_cons, List.length_nil, List.map_cons, List.map_nil, List.cons_append, List.nil_append, List.append_nil, List.replicate, Nat.reduceSub, Nat.reduceAdd, Nat.reduceEqDiff, if_true, if_false, ite_true, ite_false, reduceIte, Bool.not_true, Bool.not_false, Bool.false_eq_true, Bool.true_and, Bool.false_and, Bool.and_true, Bool.and_false, len_tup, len_lst, ne_int, eq_int, setAll, Mn.wipe, Tg.go, Tg.goes, Option.bind_some, isTup, isIntT, isBlT, isStrT, isLstT, known, List.isEmpty_nil, ownOf, M.bind_assoc]
  have hlc := runs_lcE (g := .n 8) (e := e1__law_record) (σ := [.val .st, .val (.int many), .val (.int few), .val (.int kind), .own (G.map eV), x5, .val (eC w), .un, .un]) (R := fun d => ∃ c, d = eC c ∧ okT 1000 c) (k := 3) (upTo 0 n.toNat) fun d hd => ⟨_, rfl, by
    simp only [e1__law_record, ap_V, ap_O, ap_own, getV_val, getO_val, getO_own, getO_ownd, getL_own, ap_C, ap_1, ap_2, ap_And, ap_Or, ap_Not, ap_If, ap_aNil, ap_aCons, ap_aStar, ap_Tup, ap_Lst, ap_TupS, ap_LstS, ap_Call, ap_Chain, ap_Cut, ap_oNone, ap_oSome, ap_bV, ap_bAnd, ap_bOr, ap_bNot, ap_bYes, ap_wS, ap_Rng1, ap_Rng2, ap_TupRg1, ap_TupRg2, ap_LstRg1, ap_LstRg2, ap_Enum, ap_Enum2, ap_Zip, ap_mNil, ap_mVal, ap_mOwn, ap_sNx, ap_Seq, seqK_nx, seqK_rt, ap_Asg, ap_Set, ap_Own, ownK_lst, ownK_dct, ap_Ret, ap_sIf, ap_Stk, ap_Drop, ap_App, ap_Ext, ap_PutL, ap_Par, ap_Frz, frzS_own, frzS_val, ap_fn, fnK_rt, fnK_nx, ite_bind, gIx_tup, gIx_lst, itemI0, itemI1, itemI2, itemI3, gCut_tup, gCut_lst, asB_bl, asI_int, asS_tup, asS_lst, asL_lst, gAdd_int, gAdd_tup, gAdd_lst, gSub_int, gMulA_int, gLt_int, gLe_int, gGt_int, gGe_int, fTuple_lst, fTuple_tup, fList_tup, fList_lst, fInt_int, fInt_bl, gIsi_int, gIsi_bl, gIsi_tup, gIsi_lst, gIsi_str, gIsi_non, gIsB_bl, gIsNotB_bl, M.ret_bind, M.stk_bind, M.draw_bind, M.bind_ret, ofO_some, ofO_none, List.getD_cons_zero, List.getD_cons_succ, List.set_cons_zero, List.set_cons_succ, List.length_cons, List.length_nil, List.map_cons, List.map_nil, List.cons_append, List.nil_append, List.append_nil, List.replicate, Nat.reduceSub, Nat.reduceAdd, Nat.reduceEqDiff, if_true, if_false, ite_true, ite_false, reduceIte, Bool.not_true, Bool.not_false, Bool.false_eq_true, Bool.true_and, Bool.false_and, Bool.and_true, Bool.and_false, len_tup, len_lst, ne_int, eq_int, setAll, Mn.wipe, Tg.go, Tg.goes, Option.bind_some, isTup, isIntT, isBlT, isStrT, isLstT, known, List.isEmpty_nil, ownOf, dr_, M.bind_assoc]
    refine .draw (by decide) (by decide) fun t t0 t1 => ?_
    exact (r_around (t := 2 + t) (m := 3) (by omega) (by omega) (by decide) (by decide)).mono (Nat.le_refl _) fun d ⟨c, e, h, _⟩ => ⟨c, e, h⟩⟩
  have hl : (upTo 0 n.toNat).length ≤ 3 := by rw [upTo0, List.length_map, List.length_range]; omega
  refine (hlc.noX.bind (j := 0) fun xs ⟨h1, h2⟩ => ?_).le (by omega)
  obtain ⟨cs, hcs, hok⟩ := enc_of xs h2
  subst hcs
  simp only [ap_V, ap_O, ap_own, getV_val, getO_val, getO_own, getO_ownd, getL_own, ap_C, ap_1, ap_2, ap_And, ap_Or, ap_Not, ap_If, ap_aNil, ap_aCons, ap_aStar, ap_Tup, ap_Lst, ap_TupS, ap_LstS, ap_Call, ap_Chain, ap_Cut, ap_oNone, ap_oSome, ap_bV, ap_bAnd, ap_bOr, ap_bNot, ap_bYes, ap_wS, ap_Rng1, ap_Rng2, ap_TupRg1, ap_TupRg2, ap_LstRg1, ap_LstRg2, ap_Enum, ap_Enum2, ap_Zip, ap_mNil, ap_mVal, ap_mOwn, ap_sNx, ap_Seq, seqK_nx, seqK_rt, ap_Asg, ap_Set, ap_Own, ownK_lst, ownK_dct, ap_Ret, ap_sIf, ap_Stk, ap_Drop, ap_App, ap_Ext, ap_PutL, ap_Par, ap_Frz, frzS_own, frzS_val, ap_fn, fnK_rt, fnK_nx, ite_bind, gIx_tup, gIx_lst, itemI0, itemI1, itemI2, itemI3, gCut_tup, gCut_lst, asB_bl, asI_int, asS_tup, asS_lst, asL_lst, gAdd_int, gAdd_tup, gAdd_lst, gSub_int, gMulA_int, gLt_int, gLe_int, gGt_int, gGe_int, fTuple_lst, fTuple_tup, fList_tup, fList_lst, fInt_int, fInt_bl, gIsi_int, gIsi_bl, gIsi_tup, gIsi_lst, gIsi_str, gIsi_non, gIsB_bl, gIsNotB_bl, M.ret_bind, M.stk_bind, M.draw_bind, M.bind_ret, ofO_some, ofO_none, List.getD_cons_zero, List.getD_cons_succ, List.set_cons_zero, List.set_cons_succ, List.length_cons, List.length_nil, List.cons_append, List.nil_append, List.append_nil, List.replicate, Nat.reduceSub, Nat.reduceAdd, Nat.reduceEqDiff, if_true, if_false, ite_true, ite_false, reduceIte, Bool.not_true, Bool.not_false, Bool.false_eq_true, Bool.true_and, Bool.false_and, Bool.and_true, Bool.and_false, len_tup, len_lst, ne_int, eq_int, setAll, Mn.wipe, Tg.go, Tg.goes, Option.bind_some, isTup, isIntT, isBlT, isStrT, isLstT, known, List.isEmpty_nil, ownOf, ap_LcF, ap_turn, FM_map, FM_ret, FM_if, FM_opt, FM_nil, oCons_some, oCons_none, noX_ret, ap_Lc2F, ap_turn2, FL_map, FL_ret, FL_nil, ap_go, ap_Wipe, numbered0, paired_map, fAll_map, fAny_map, List.length_map, cutL_from, cutL_upto, mapV_nil, mapV_cons, Int.cast_ofNat_Int, BEq.rfl, Int.reduceLT, Int.reduceLE, Int.reduceBEq, Int.zero_le_ofNat, decide_true, decide_false, ap_For, hlt]
  refine .ret ⟨(w, cs), by simp only [rslots, List.map_append]; rfl, hw, ?_, hok⟩
  rw [List.length_map] at h1
  show cs.length ≤ 3
  omega
theorem r_record {many : Nat} (hm : 0 < many) (hm2 : many ≤ 12) : Runs (m__law_record [.st, .int (many : Int)]) 300 (fun d => ∃ r, d = eR r ∧ okR r ∧ r.length ≤ many ∧ r ≠ [] ∧ ∀ v ∈ r, okD 1000 v) := by
  simp only [m__law_record, b__law_record, ap_V, ap_O, ap_own, getV_val, getO_val, getO_own, getO_ownd, getL_own, ap_C, ap_1, ap_2, ap_And, ap_Or, ap_Not, ap_If, ap_aNil, ap_aCons, ap_aStar, ap_Tup, ap_Lst, ap_TupS, ap_LstS, ap_Call, ap_Chain, ap_Cut, ap_oNone, ap_oSome, ap_bV, ap_bAnd, ap_bOr, ap_bNot, ap_bYes, ap_wS, ap_Rng1, ap_Rng2, ap_TupRg1, ap_TupRg2, ap_LstRg1, ap_LstRg2, ap_Enum, ap_Enum2, ap_Zip, ap_mNil, ap_mVal, ap_mOwn, ap_sNx, ap_Seq, seqK_nx, seqK_rt, ap_Asg, ap_Set, ap_Own, ownK_lst, ownK_dct, ap_Ret, ap_sIf, ap_Stk, ap_Drop, ap_App, ap_Ext, ap_PutL, ap_Par, ap_Frz, frzS_own, frzS_val, ap_fn, fnK_rt, fnK_nx, ite_bind, gIx_tup, gIx_lst, itemI0, itemI1, itemI2, itemI3, gCut_tup, gCut_lst, asB_bl, asI_int, asS_tup, asS_lst, asL_lst, gAdd_int, gAdd_tup, gAdd_lst, gSub_int, gMulA_int, gLt_int, gLe_int, gGt_int, gGe_int, fTuple_lst, fTuple_tup, fList_tup, fList_lst, fInt_int, fInt_bl, gIsi_int, gIsi_bl, gIsi_tup, gIsi_lst, gIsi_str, gIsi_non, gIsB_bl, gIsNotB_bl, M.ret_bind, M.stk_bind, M.draw_bind, M.bind_ret, ofO_some, ofO_none, List.getD_cons_zero, List.getD_cons_succ, List.set_cons_zero, List.set_cons_succ, List.length_cons, List.length_nil, List.cons_append, List.nil_append, List.append_nil, List.replicate, Nat.reduceSub, Nat.reduceAdd, Nat.reduceEqDiff, if_true, if_false, ite_true, ite_false, reduceIte, Bool.not_true, Bool.not_false, Bool.false_eq_true, Bool.true_and, Bool.false_and, Bool.and_true, Bool.and_false, len_tup, len_lst, ne_int, eq_int, setAll, Mn.wipe, Tg.go, Tg.goes, Option.bind_some, isTup, isIntT, isBlT, isStrT, isLstT, known, List.isEmpty_nil, ownOf, ap_LcF, ap_turn, FM_map, FM_ret, FM_if, FM_opt, FM_nil, oCons_some, oCons_none, noX_ret, ap_Lc2F, ap_turn2, FL_map, FL_ret, FL_nil, ap_go, ap_Wipe, numbered0, paired_map, fAll_map, fAny_map, List.length_map, cutL_from, cutL_upto, mapV_nil, mapV_cons, Int.cast_ofNat_Int, BEq.rfl, Int.reduceLT, Int.reduceLE, Int.reduceBEq, Int.zero_le_ofNat, decide_true, decide_false, ap_For, dr_]
  refine (Runs.draw (k := 299) (by omega) (by omega) fun few f0 f1 => .draw (k := 298) (by decide) (by decide) fun kind k0 k1 => ?_).le (by decide)
  by_cases hk : kind < 2
  · have s2 : (small 2 || small kind) = true := by rw [show small 2 = true by decide]; rfl
    have hk' : decide (kind < 2) = true := decide_eq_true hk
    simp only [ap_V, ap_O, ap_own, getV_val, getO_val, getO_own, getO_ownd, getL_own, ap_C, ap_1, ap_2, ap_And, ap_Or, ap_Not, ap_If, ap_aNil, ap_aCons, ap_aStar, ap_Tup, ap_Lst, ap_TupS, ap_LstS, ap_Call, ap_Chain, ap_Cut, ap_oNone, ap_oSome, ap_bV, ap_bAnd, ap_bOr, ap_bNot, ap_bYes, ap_wS, ap_Rng1, ap_Rng2, ap_TupRg1, ap_TupRg2, ap_LstRg1, ap_LstRg2, ap_Enum, ap_Enum2, ap_Zip, ap_mNil, ap_mVal, ap_mOwn, ap_sNx, ap_Seq, seqK_nx, seqK_rt, ap_Asg, ap_Set, ap_Own, ownK_lst, ownK_dct, ap_Ret, ap_sIf, ap_Stk, ap_Drop, ap_App, ap_Ext, ap_PutL, ap_Par, ap_Frz, frzS_own, frzS_val, ap_fn, fnK_rt, fnK_nx, ite_bind, gIx_tup, gIx_lst, itemI0, itemI1, itemI2, itemI3, gCut_tup, gCut_lst, asB_bl, asI_int, asS_tup, asS_lst, asL_lst, gAdd_int, gAdd_tup, gAdd_lst, gSub_int, gMulA_int, gLt_int, gLe_int, gGt_int, gGe_int, fTuple_lst, fTuple_tup, fList_tup, fList_lst, fInt_int, fInt_bl, gIsi_int, gIsi_bl, gIsi_tup, gIsi_lst, gIsi_str, gIsi_non, gIsB_bl, gIsNotB_bl, M.ret_bind, M.stk_bind, M.draw_bind, M.bind_ret, ofO_some, ofO_none, List.getD_cons_zero, List.getD_cons_succ, List.set_cons_zero, List.set_cons_succ, List.length_cons, List.length_nil, List.cons_append, List.nil_append, List.append_nil, List.replicate, Nat.reduceSub, Nat.reduceAdd, Nat.reduceEqDiff, if_true, if_false, ite_true, ite_false, reduceIte, Bool.not_true, Bool.not_false, Bool.false_eq_true, Bool.true_and, Bool.false_and, Bool.and_true, Bool.and_false, len_tup, len_lst, ne_int, eq_int, setAll, Mn.wipe, Tg.go, Tg.goes, Option.bind_some, isTup, isIntT, isBlT, isStrT, isLstT, known, List.isEmpty_nil, ownOf, ap_LcF, ap_turn, FM_map, FM_ret, FM_if, FM_opt, FM_nil, oCons_some, oCons_none, noX_ret, ap_Lc2F, ap_turn2, FL_map, FL_ret, FL_nil, ap_go, ap_Wipe, numbered0, paired_map, fAll_map, fAny_map, List.length_map, cutL_from, cutL_upto, mapV_nil, mapV_cons, Int.cast_ofNat_Int, BEq.rfl, Int.reduceLT, Int.reduceLE, Int.reduceBEq, Int.zero_le_ofNat, decide_true, decide_false, ap_For, hk', s2, dr_, M.bind_assoc]
    refine .draw (k := 297) (by decide) (by decide) fun r r0 r1 => ?_
    obtain ⟨f, rfl⟩ := Int.eq_ofNat_of_zero_le f0
    obtain ⟨q, rfl⟩ := Int.eq_ofNat_of_zero_le k0
    have e1 : (1 + (f : Int)) = ((1 + f : Nat) : Int) := by omega
    have e2 : (1 + 2 * (q : Int)) = ((1 + 2 * q : Nat) : Int) := by omega
    have fin : ∀ mo : Nat, mo ≤ 9 → Runs (m__law_cells [.st, .int (1 + (f : Int)), .int (1 + 2 * (q : Int)), .int (mo : Int)]) 180 (fun d => ∃ r, d = eR r ∧ okR r ∧ r.length ≤ many ∧ r ≠ [] ∧ ∀ v ∈ r, okD 1000 v) := fun mo hmo => by
      rw [e1, e2]
      exact (r_cells (many := 1 + f) (cells := 1 + 2 * q) (most := mo) (by omega) (by omega) (by omega) hmo).mono (Nat.le_refl _) fun d ⟨r, e, h1, h2, h3, h4, _⟩ => ⟨r, e, h1, by omega, h4 (by omega), h3⟩
    have h3 : r = 0 ∨ r = 1 ∨ r = 2 := by omega
    rcases h3 with rfl | rfl | rfl
    · simp only [ap_V, ap_O, ap_own, getV_val, getO_val, getO_own, getO_ownd, getL_own, ap_C, ap_1, ap_2, ap_And, ap_Or, ap_Not, ap_If, ap_aNil, ap_aCons, ap_aStar, ap_Tup, ap_Lst, ap_TupS, ap_LstS, ap_Call, ap_Chain, ap_Cut, ap_oNone, ap_oSome, ap_bV, ap_bAnd, ap_bOr, ap_bNot, ap_bYes, ap_wS, ap_Rng1, ap_Rng2, ap_TupRg1, ap_TupRg2, ap_LstRg1, ap_LstRg2, ap_Enum, ap_Enum2, ap_Zip, ap_mNil, ap_mVal, ap_mOwn, ap_sNx, ap_Seq, seqK_nx, seqK_rt, ap_Asg, ap_Set, ap_Own, ownK_lst, ownK_dct, ap_Ret, ap_sIf, ap_Stk, ap_Drop, ap_App, ap_Ext, ap_PutL, ap_Par, ap_Frz, frzS_own, frzS_val, ap_fn, fnK_rt, fnK_nx, ite_bind, gIx_tup, gIx_lst, itemI0, itemI1, itemI2, itemI3, gCut_tup, gCut_lst, asB_bl, asI_int, asS_tup, asS_lst, asL_lst, gAdd_int, gAdd_tup, gAdd_lst, gSub_int, gMulA_int, gLt_int, gLe_int, gGt_int, gGe_int, fTuple_lst, fTuple_tup, fList_tup, fList_lst, fInt_int, fInt_bl, gIsi_int, gIsi_bl, gIsi_tup, gIsi_lst, gIsi_str, gIsi_non, gIsB_bl, gIsNotB_bl, M.ret_bind, M.stk_bind, M.draw_bind, M.bind_ret, ofO_some, ofO_none, List.getD_cons_zero, List.getD_cons_succ, List.set_cons_zero, List.set_cons_succ, List.length_cons, List.length_nil, List.cons_append, List.nil_append, List.append_nil, List.replicate, Nat.reduceSub, Nat.reduceAdd, Nat.reduceEqDiff, if_true, if_false, ite_true, ite_false, reduceIte, Bool.not_true, Bool.not_false, Bool.false_eq_true, Bool.true_and, Bool.false_and, Bool.and_true, Bool.and_false, len_tup, len_lst, ne_int, eq_int, setAll, Mn.wipe, Tg.go, Tg.goes, Option.bind_some, isTup, isIntT, isBlT, isStrT, isLstT, known, List.isEmpty_nil, ownOf, ap_LcF, ap_turn, FM_map, FM_ret, FM_if, FM_opt, FM_nil, oCons_some, oCons_none, noX_ret, ap_Lc2F, ap_turn2, FL_map, FL_ret, FL_nil, ap_go, ap_Wipe, numbered0, paired_map, fAll_map, fAny_map, List.length_map, cutL_from, cutL_upto, mapV_nil, mapV_cons, Int.cast_ofNat_Int, BEq.rfl, Int.reduceLT, Int.reduceLE, Int.reduceBEq, Int.zero_le_ofNat, decide_true, decide_false, ap_For]
      exact (fin 0 (by decide)).le (k' := 297) (by decide)
    · simp only [ap_V, ap_O, ap_own, getV_val, getO_val, getO_own, getO_ownd, getL_own, ap_C, ap_1, ap_2, ap_And, ap_Or, ap_Not, ap_If, ap_aNil, ap_aCons, ap_aStar, ap_Tup, ap_Lst, ap_TupS, ap_LstS, ap_Call, ap_Chain, ap_Cut, ap_oNone, ap_oSome, ap_bV, ap_bAnd, ap_bOr, ap_bNot, ap_bYes, ap_wS, ap_Rng1, ap_Rng2, ap_TupRg1, ap_TupRg2, ap_LstRg1, ap_LstRg2, ap_Enum, ap_Enum2, ap_Zip, ap_mNil, ap_mVal, ap_mOwn, ap_sNx, ap_Seq, seqK_nx, seqK_rt, ap_Asg, ap_Set, ap_Own, ownK_lst, ownK_dct, ap_Ret, ap_sIf, ap_Stk, ap_Drop, ap_App, ap_Ext, ap_PutL, ap_Par, ap_Frz, frzS_own, frzS_val, ap_fn, fnK_rt, fnK_nx, ite_bind, gIx_tup, gIx_lst, itemI0, itemI1, itemI2, itemI3, gCut_tup, gCut_lst, asB_bl, asI_int, asS_tup, asS_lst, asL_lst, gAdd_int, gAdd_tup, gAdd_lst, gSub_int, gMulA_int, gLt_int, gLe_int, gGt_int, gGe_int, fTuple_lst, fTuple_tup, fList_tup, fList_lst, fInt_int, fInt_bl, gIsi_int, gIsi_bl, gIsi_tup, gIsi_lst, gIsi_str, gIsi_non, gIsB_bl, gIsNotB_bl, M.ret_bind, M.stk_bind, M.draw_bind, M.bind_ret, ofO_some, ofO_none, List.getD_cons_zero, List.getD_cons_succ, List.set_cons_zero, List.set_cons_succ, List.length_cons, List.length_nil, List.cons_append, List.nil_append, List.append_nil, List.replicate, Nat.reduceSub, Nat.reduceAdd, Nat.reduceEqDiff, if_true, if_false, ite_true, ite_false, reduceIte, Bool.not_true, Bool.not_false, Bool.false_eq_true, Bool.true_and, Bool.false_and, Bool.and_true, Bool.and_false, len_tup, len_lst, ne_int, eq_int, setAll, Mn.wipe, Tg.go, Tg.goes, Option.bind_some, isTup, isIntT, isBlT, isStrT, isLstT, known, List.isEmpty_nil, ownOf, ap_LcF, ap_turn, FM_map, FM_ret, FM_if, FM_opt, FM_nil, oCons_some, oCons_none, noX_ret, ap_Lc2F, ap_turn2, FL_map, FL_ret, FL_nil, ap_go, ap_Wipe, numbered0, paired_map, fAll_map, fAny_map, List.length_map, cutL_from, cutL_upto, mapV_nil, mapV_cons, Int.cast_ofNat_Int, BEq.rfl, Int.reduceLT, Int.reduceLE, Int.reduceBEq, Int.zero_le_ofNat, decide_true, decide_false, ap_For]
      exact (fin 2 (by decide)).le (k' := 297) (by decide)
    · simp only [ap_V, ap_O, ap_own, getV_val, getO_val, getO_own, getO_ownd, getL_own, ap_C, ap_1, ap_2, ap_And, ap_Or, ap_Not, ap_If, ap_aNil, ap_aCons, ap_aStar, ap_Tup, ap_Lst, ap_TupS, ap_LstS, ap_Call, ap_Chain, ap_Cut, ap_oNone, ap_oSome, ap_bV, ap_bAnd, ap_bOr, ap_bNot, ap_bYes, ap_wS, ap_Rng1, ap_Rng2, ap_TupRg1, ap_TupRg2, ap_LstRg1, ap_LstRg2, ap_Enum, ap_Enum2, ap_Zip, ap_mNil, ap_mVal, ap_mOwn, ap_sNx, ap_Seq, seqK_nx, seqK_rt, ap_Asg, ap_Set, ap_Own, ownK_lst, ownK_dct, ap_Ret, ap_sIf, ap_Stk, ap_Drop, ap_App, ap_Ext, ap_PutL, ap_Par, ap_Frz, frzS_own, frzS_val, ap_fn, fnK_rt, fnK_nx, ite_bind, gIx_tup, gIx_lst, itemI0, itemI1, itemI2, itemI3, gCut_tup, gCut_lst, asB_bl, asI_int, asS_tup, asS_lst, asL_lst, gAdd_int, gAdd_tup, gAdd_lst, gSub_int, gMulA_int, gLt_int, gLe_int, gGt_int, gGe_int, fTuple_lst, fTuple_tup, fList_tup, fList_lst, fInt_int, fInt_bl, gIsi_int, gIsi_bl, gIsi_tup, gIsi_lst, gIsi_str, gIsi_non, gIsB_bl, gIsNotB_bl, M.ret_bind, M.stk_bind, M.draw_bind, M.bind_ret, ofO_some, ofO_none, List.getD_cons_zero, List.getD_cons_succ, List.set_cons_zero, List.set_cons_succ, List.length_cons, List.length_nil, List.cons_append, List.nil_append, List.append_nil, List.replicate, Nat.reduceSub, Nat.reduceAdd, Nat.reduceEqDiff, if_true, if_false, ite_true, ite_false, reduceIte, Bool.not_true, Bool.not_false, Bool.false_eq_true, Bool.true_and, Bool.false_and, Bool.and_true, Bool.and_false, len_tup, len_lst, ne_int, eq_int, setAll, Mn.wipe, Tg.go, Tg.goes, Option.bind_some, isTup, isIntT, isBlT, isStrT, isLstT, known, List.isEmpty_nil, ownOf, ap_LcF, ap_turn, FM_map, FM_ret, FM_if, FM_opt, FM_nil, oCons_some, oCons_none, noX_ret, ap_Lc2F, ap_turn2, FL_map, FL_ret, FL_nil, ap_go, ap_Wipe, numbered0, paired_map, fAll_map, fAny_map, List.length_map, cutL_from, cutL_upto, mapV_nil, mapV_cons, Int.cast_ofNat_Int, BEq.rfl, Int.reduceLT, Int.reduceLE, Int.reduceBEq, Int.zero_le_ofNat, decide_true, decide_false, ap_For]
      exact (fin 5 (by decide)).le (k' := 297) (by decide)
  · have hk' : decide (kind < 2) = false := decide_eq_false hk
    have hn : 1 + few ≤ 16777216 ∧ -16777216 ≤ 1 + few := by omega
    have hlen : (upTo 0 (1 + few).toNat).length ≤ many := by rw [upTo0, List.length_map, List.length_range]; omega
    have hlen1 : 0 < (upTo 0 (1 + few).toNat).length := by rw [upTo0, List.length_map, List.length_range]; omega
    have hl := runs_turns (g := .n 5) (b := lb1__law_record) (R := fun _ => False) (k := 20) (upTo 0 (1 + few).toNat) (fun i σ => ∃ G, σ = rslots many (1 + few) kind G .un ∧ G.length = i ∧ ∀ v ∈ G, okD 1000 v) (rslots many (1 + few) kind [] .un)
      ⟨_, rfl, rfl, fun v hv => by cases hv⟩ fun i d hd σ ⟨G, e, hG, hv⟩ => by
        subst e
        have hi := getElem_lt hd
        refine (r_record_body (many := many) (few := 1 + few) (kind := kind) (by omega) hv (.val d)).mono (Nat.le_refl _) fun r hr => ?_
        obtain ⟨fl, σ'⟩ := r
        cases fl with
        | nx =>
          obtain ⟨v, e, hok⟩ := hr
          refine ⟨_, e, by rw [List.length_append, hG]; rfl, fun u hu => ?_⟩
          rcases List.mem_append.mp hu with hu | hu
          · exact hv u hu
          · rw [List.mem_singleton.mp hu]; exact hok
        | rt d => exact hr.elim
    simp only [l1__law_record, ap_V, ap_O, ap_own, getV_val, getO_val, getO_own, getO_ownd, getL_own, ap_C, ap_1, ap_2, ap_And, ap_Or, ap_Not, ap_If, ap_aNil, ap_aCons, ap_aStar, ap_Tup, ap_Lst, ap_TupS, ap_LstS, ap_Call, ap_Chain, ap_Cut, ap_oNone, ap_oSome, ap_bV, ap_bAnd, ap_bOr, ap_bNot, ap_bYes, ap_wS, ap_Rng1, ap_Rng2, ap_TupRg1, ap_TupRg2, ap_LstRg1, ap_LstRg2, ap_Enum, ap_Enum2, ap_Zip, ap_mNil, ap_mVal, ap_mOwn, ap_sNx, ap_Seq, seqK_nx, seqK_rt, ap_Asg, ap_Set, ap_Own, ownK_lst, ownK_dct, ap_Ret, ap_sIf, ap_Stk, ap_Drop, ap_App, ap_Ext, ap_PutL, ap_Par, ap_Frz, frzS_own, frzS_val, ap_fn, fnK_rt, fnK_nx, ite_bind, gIx_tup, gIx_lst, itemI0, itemI1, itemI2, itemI3, gCut_tup, gCut_lst, asB_bl, asI_int, asS_tup, asS_lst, asL_lst, gAdd_int, gAdd_tup, gAdd_lst, gSub_int, gMulA_int, gLt_int, gLe_int, gGt_int, gGe_int, fTuple_lst, fTuple_tup, fList_tup, fList_lst, fInt_int, fInt_bl, gIsi_int, gIsi_bl, gIsi_tup, gIsi_lst, gIsi_str, gIsi_non, gIsB_bl, gIsNotB_bl, M.ret_bind, M.stk_bind, M.draw_bind, M.bind_ret, ofO_some, ofO_none, List.getD_cons_zero, List.getD_cons_succ, List.set_cons_zero, List.set_cons_succ, List.length_cons, List.length_nil, List.cons_append, List.nil_append, List.append_nil, List.replicate, Nat.reduceSub, Nat.reduceAdd, Nat.reduceEqDiff, if_true, if_false, ite_true, ite_false, reduceIte, Bool.not_true, Bool.not_false, Bool.false_eq_true, Bool.true_and, Bool.false_and, Bool.and_true, Bool.and_false, len_tup, len_lst, ne_int, eq_int, setAll, Mn.wipe, Tg.go, Tg.goes, Option.bind_some, isTup, isIntT, isBlT, isStrT, isLstT, known, List.isEmpty_nil, ownOf, ap_LcF, ap_turn, FM_map, FM_ret, FM_if, FM_opt, FM_nil, oCons_some, oCons_none, noX_ret, ap_Lc2F, ap_turn2, FL_map, FL_ret, FL_nil, ap_go, ap_Wipe, numbered0, paired_map, fAll_map, fAny_map, List.length_map, cutL_from, cutL_upto, mapV_nil, mapV_cons, Int.cast_ofNat_Int, BEq.rfl, Int.reduceLT, Int.reduceLE, Int.reduceBEq, Int.zero_le_ofNat, decide_true, decide_false, ap_For, hk', hn, and_self, M.bind_assoc]
    simp only [rslots, List.map_nil] at hl
    refine (hl.bind (j := 0) fun r hr => ?_).le (by omega)
    obtain ⟨fl, σ'⟩ := r
    cases fl with
    | nx =>
      obtain ⟨G, e, hG, hv⟩ := hr
      subst e
      simp only [rslots, ap_V, ap_O, ap_own, getV_val, getO_val, getO_own, getO_ownd, getL_own, ap_C, ap_1, ap_2, ap_And, ap_Or, ap_Not, ap_If, ap_aNil, ap_aCons, ap_aStar, ap_Tup, ap_Lst, ap_TupS, ap_LstS, ap_Call, ap_Chain, ap_Cut, ap_oNone, ap_oSome, ap_bV, ap_bAnd, ap_bOr, ap_bNot, ap_bYes, ap_wS, ap_Rng1, ap_Rng2, ap_TupRg1, ap_TupRg2, ap_LstRg1, ap_LstRg2, ap_Enum, ap_Enum2, ap_Zip, ap_mNil, ap_mVal, ap_mOwn, ap_sNx, ap_Seq, seqK_nx, seqK_rt, ap_Asg, ap_Set, ap_Own, ownK_lst, ownK_dct, ap_Ret, ap_sIf, ap_Stk, ap_Drop, ap_App, ap_Ext, ap_PutL, ap_Par, ap_Frz, frzS_own, frzS_val, ap_fn, fnK_rt, fnK_nx, ite_bind, gIx_tup, gIx_lst, itemI0, itemI1, itemI2, itemI3, gCut_tup, gCut_lst, asB_bl, asI_int, asS_tup, asS_lst, asL_lst, gAdd_int, gAdd_tup, gAdd_lst, gSub_int, gMulA_int, gLt_int, gLe_int, gGt_int, gGe_int, fTuple_lst, fTuple_tup, fList_tup, fList_lst, fInt_int, fInt_bl, gIsi_int, gIsi_bl, gIsi_tup, gIsi_lst, gIsi_str, gIsi_non, gIsB_bl, gIsNotB_bl, M.ret_bind, M.stk_bind, M.draw_bind, M.bind_ret, ofO_some, ofO_none, List.getD_cons_zero, List.getD_cons_succ, List.set_cons_zero, List.set_cons_succ, List.length_cons, List.length_nil, List.cons_append, List.nil_append, List.append_nil, List.replicate, Nat.reduceSub, Nat.reduceAdd, Nat.reduceEqDiff, if_true, if_false, ite_true, ite_false, reduceIte, Bool.not_true, Bool.not_false, Bool.false_eq_true, Bool.true_and, Bool.false_and, Bool.and_true, Bool.and_false, len_tup, len_lst, ne_int, eq_int, setAll, Mn.wipe, Tg.go, Tg.goes, Option.bind_some, isTup, isIntT, isBlT, isStrT, isLstT, known, List.isEmpty_nil, ownOf, ap_LcF, ap_turn, FM_map, FM_ret, FM_if, FM_opt, FM_nil, oCons_some, oCons_none, noX_ret, ap_Lc2F, ap_turn2, FL_map, FL_ret, FL_nil, ap_go, ap_Wipe, numbered0, paired_map, fAll_map, fAny_map, List.length_map, cutL_from, cutL_upto, mapV_nil, mapV_cons, Int.cast_ofNat_Int, BEq.rfl, Int.reduceLT, Int.reduceLE, Int.reduceBEq, Int.zero_le_ofNat, decide_true, decide_false, ap_For]
      exact .ret ⟨G, rfl, ⟨by omega, fun v hv' => okD_V (by decide) (hv v hv')⟩, by omega, fun e => by rw [e] at hG; simp at hG; omega, hv⟩
    | rt d => exact hr.elim
theorem r_lot {n : Nat} (hn : n ≤ 12) : Runs (m__law_lot [.st, .int (n : Int)]) n (fun d => ∃ l : List Nat, d = eL l ∧ l.Pairwise (· < ·) ∧ ∀ i ∈ l, i < n) := by
  have hr : (n : Int) ≤ 16777216 ∧ -16777216 ≤ (n : Int) := by omega
  have hs : wRng1 (xV 1) [.val .st, .val (.int (n : Int)), .un] = .ret ((List.range n).map eI) := by
    simp only [ap_V, ap_O, ap_own, getV_val, getO_val, getO_own, getO_ownd, getL_own, ap_C, ap_1, ap_2, ap_And, ap_Or, ap_Not, ap_If, ap_aNil, ap_aCons, ap_aStar, ap_Tup, ap_Lst, ap_TupS, ap_LstS, ap_Call, ap_Chain, ap_Cut, ap_oNone, ap_oSome, ap_bV, ap_bAnd, ap_bOr, ap_bNot, ap_bYes, ap_wS, ap_Rng1, ap_Rng2, ap_TupRg1, ap_TupRg2, ap_LstRg1, ap_LstRg2, ap_Enum, ap_Enum2, ap_Zip, ap_mNil, ap_mVal, ap_mOwn, ap_sNx, ap_Seq, seqK_nx, seqK_rt, ap_Asg, ap_Set, ap_Own, ownK_lst, ownK_dct, ap_Ret, ap_sIf, ap_Stk, ap_Drop, ap_App, ap_Ext, ap_PutL, ap_Par, ap_Frz, frzS_own, frzS_val, ap_fn, fnK_rt, fnK_nx, ite_bind, gIx_tup, gIx_lst, itemI0, itemI1, itemI2, itemI3, gCut_tup, gCut_lst, asB_bl, asI_int, asS_tup, asS_lst, asL_lst, gAdd_int, gAdd_tup, gAdd_lst, gSub_int, gMulA_int, gLt_int, gLe_int, gGt_int, gGe_int, fTuple_lst, fTuple_tup, fList_tup, fList_lst, fInt_int, fInt_bl, gIsi_int, gIsi_bl, gIsi_tup, gIsi_lst, gIsi_str, gIsi_non, gIsB_bl, gIsNotB_bl, M.ret_bind, M.stk_bind, M.draw_bind, M.bind_ret, ofO_some, ofO_none, List.getD_cons_zero, List.getD_cons_succ, List.set_cons_zero, List.set_cons_succ, List.length_cons, List.length_nil, List.map_cons, List.map_nil, List.cons_append, List.nil_append, List.append_nil, List.replicate, Nat.reduceSub, Nat.reduceAdd, Nat.reduceEqDiff, if_true, if_false, ite_true, ite_false, reduceIte, Bool.not_true, Bool.not_false, Bool.false_eq_true, Bool.true_and, Bool.false_and, Bool.and_true, Bool.and_false, len_tup, len_lst, ne_int, eq_int, setAll, Mn.wipe, Tg.go, Tg.goes, Option.bind_some, isTup, isIntT, isBlT, isStrT, isLstT, known, List.isEmpty_nil, ownOf, hr, and_self, Int.toNat_natCast]
    rw [upTo0]; rfl
  have h1 := runs_lc (src := wRng1 (xV 1)) (vs := [2]) (σ := [.val .st, .val (.int (n : Int)), .un]) hs (runs_lcF (enc := eI) (f := eI) (g := .n 2) (t := t1__law_lot) (e := e1__law_lot) (k := 1) (List.range n) fun i hi => ⟨_, rfl, by
    simp only [t1__law_lot, ap_V, ap_O, ap_own, getV_val, getO_val, getO_own, getO_ownd, getL_own, ap_C, ap_1, ap_2, ap_And, ap_Or, ap_Not, ap_If, ap_aNil, ap_aCons, ap_aStar, ap_Tup, ap_Lst, ap_TupS, ap_LstS, ap_Call, ap_Chain, ap_Cut, ap_oNone, ap_oSome, ap_bV, ap_bAnd, ap_bOr, ap_bNot, ap_bYes, ap_wS, ap_Rng1, ap_Rng2, ap_TupRg1, ap_TupRg2, ap_LstRg1, ap_LstRg2, ap_Enum, ap_Enum2, ap_Zip, ap_mNil, ap_mVal, ap_mOwn, ap_sNx, ap_Seq, seqK_nx, seqK_rt, ap_Asg, ap_Set, ap_Own, ownK_lst, ownK_dct, ap_Ret, ap_sIf, ap_Stk, ap_Drop, ap_App, ap_Ext, ap_PutL, ap_Par, ap_Frz, frzS_own, frzS_val, ap_fn, fnK_rt, fnK_nx, ite_bind, gIx_tup, gIx_lst, itemI0, itemI1, itemI2, itemI3, gCut_tup, gCut_lst, asB_bl, asI_int, asS_tup, asS_lst, asL_lst, gAdd_int, gAdd_tup, gAdd_lst, gSub_int, gMulA_int, gLt_int, gLe_int, gGt_int, gGe_int, fTuple_lst, fTuple_tup, fList_tup, fList_lst, fInt_int, fInt_bl, gIsi_int, gIsi_bl, gIsi_tup, gIsi_lst, gIsi_str, gIsi_non, gIsB_bl, gIsNotB_bl, M.ret_bind, M.stk_bind, M.draw_bind, M.bind_ret, ofO_some, ofO_none, List.getD_cons_zero, List.getD_cons_succ, List.set_cons_zero, List.set_cons_succ, List.length_cons, List.length_nil, List.map_cons, List.map_nil, List.cons_append, List.nil_append, List.append_nil, List.replicate, Nat.reduceSub, Nat.reduceAdd, Nat.reduceEqDiff, if_true, if_false, ite_true, ite_false, reduceIte, Bool.not_true, Bool.not_false, Bool.false_eq_true, Bool.true_and, Bool.false_and, Bool.and_true, Bool.and_false, len_tup, len_lst, ne_int, eq_int, setAll, Mn.wipe, Tg.go, Tg.goes, Option.bind_some, isTup, isIntT, isBlT, isStrT, isLstT, known, List.isEmpty_nil, ownOf, dr_]
    exact .draw (by decide) (by decide) fun r _ _ => .ret True.intro, by simp [e1__law_lot, ap_V, ap_O, ap_own, getV_val, getO_val, getO_own, getO_ownd, getL_own, ap_C, ap_1, ap_2, ap_And, ap_Or, ap_Not, ap_If, ap_aNil, ap_aCons, ap_aStar, ap_Tup, ap_Lst, ap_TupS, ap_LstS, ap_Call, ap_Chain, ap_Cut, ap_oNone, ap_oSome, ap_bV, ap_bAnd, ap_bOr, ap_bNot, ap_bYes, ap_wS, ap_Rng1, ap_Rng2, ap_TupRg1, ap_TupRg2, ap_LstRg1, ap_LstRg2, ap_Enum, ap_Enum2, ap_Zip, ap_mNil, ap_mVal, ap_mOwn, ap_sNx, ap_Seq, seqK_nx, seqK_rt, ap_Asg, ap_Set, ap_Own, ownK_lst, ownK_dct, ap_Ret, ap_sIf, ap_Stk, ap_Drop, ap_App, ap_Ext, ap_PutL, ap_Par, ap_Frz, frzS_own, frzS_val, ap_fn, fnK_rt, fnK_nx, ite_bind, gIx_tup, gIx_lst, itemI0, itemI1, itemI2, itemI3, gCut_tup, gCut_lst, asB_bl, asI_int, asS_tup, asS_lst, asL_lst, gAdd_int, gAdd_tup, gAdd_lst, gSub_int, gMulA_int, gLt_int, gLe_int, gGt_int, gGe_int, fTuple_lst, fTuple_tup, fList_tup, fList_lst, fInt_int, fInt_bl, gIsi_int, gIsi_bl, gIsi_tup, gIsi_lst, gIsi_str, gIsi_non, gIsB_bl, gIsNotB_bl, M.ret_bind, M.stk_bind, M.draw_bind, M.bind_ret, ofO_some, ofO_none, List.getD_cons_zero, List.getD_cons_succ, List.set_cons_zero, List.set_cons_succ, List.length_cons, List.length_nil, List.map_cons, List.map_nil, List.cons_append, List.nil_append, List.append_nil, List.replicate, Nat.reduceSub, Nat.reduceAdd, Nat.reduceEqDiff, if_true, if_false, ite_true, ite_false, reduceIte, Bool.not_true, Bool.not_false, Bool.false_eq_true, Bool.true_and, Bool.false_and, Bool.and_true, Bool.and_false, len_tup, len_lst, ne_int, eq_int, setAll, Mn.wipe, Tg.go, Tg.goes, Option.bind_some, isTup, isIntT, isBlT, isStrT, isLstT, known, List.isEmpty_nil, ownOf]⟩)
  have e : m__law_lot [.st, .int (n : Int)] = (c1__law_lot [.val .st, .val (.int (n : Int)), .un]).bind fun d => ((fTuple [d]).bind fun d => M.ret (Fl.rt d, [SV.val .st, .val (.int (n : Int)), .un])).bind fnK := by
    simp only [m__law_lot, b__law_lot, ap_V, ap_O, ap_own, getV_val, getO_val, getO_own, getO_ownd, getL_own, ap_C, ap_1, ap_2, ap_And, ap_Or, ap_Not, ap_If, ap_aNil, ap_aCons, ap_aStar, ap_Tup, ap_Lst, ap_TupS, ap_LstS, ap_Call, ap_Chain, ap_Cut, ap_oNone, ap_oSome, ap_bV, ap_bAnd, ap_bOr, ap_bNot, ap_bYes, ap_wS, ap_Rng1, ap_Rng2, ap_TupRg1, ap_TupRg2, ap_LstRg1, ap_LstRg2, ap_Enum, ap_Enum2, ap_Zip, ap_mNil, ap_mVal, ap_mOwn, ap_sNx, ap_Seq, seqK_nx, seqK_rt, ap_Asg, ap_Set, ap_Own, ownK_lst, ownK_dct, ap_Ret, ap_sIf, ap_Stk, ap_Drop, ap_App, ap_Ext, ap_PutL, ap_Par, ap_Frz, frzS_own, frzS_val, ap_fn, fnK_rt, fnK_nx, ite_bind, gIx_tup, gIx_lst, itemI0, itemI1, itemI2, itemI3, gCut_tup, gCut_lst, asB_bl, asI_int, asS_tup, asS_lst, asL_lst, gAdd_int, gAdd_tup, gAdd_lst, gSub_int, gMulA_int, gLt_int, gLe_int, gGt_int, gGe_int, fTuple_lst, fTuple_tup, fList_tup, fList_lst, fInt_int, fInt_bl, gIsi_int, gIsi_bl, gIsi_tup, gIsi_lst, gIsi_str, gIsi_non, gIsB_bl, gIsNotB_bl, M.ret_bind, M.stk_bind, M.draw_bind, M.bind_ret, ofO_some, ofO_none, List.getD_cons_zero, List.getD_cons_succ, List.set_cons_zero, List.set_cons_succ, List.length_cons, List.length_nil, List.map_cons, List.map_nil, List.cons_append, List.nil_append, List.append_nil, List.replicate, Nat.reduceSub, Nat.reduceAdd, Nat.reduceEqDiff, if_true, if_false, ite_true, ite_false, reduceIte, Bool.not_true, Bool.not_false, Bool.false_eq_true, Bool.true_and, Bool.false_and, Bool.and_true, Bool.and_false, len_tup, len_lst, ne_int, eq_int, setAll, Mn.wipe, Tg.go, Tg.goes, Option.bind_some, isTup, isIntT, isBlT, isStrT, isLstT, known, List.isEmpty_nil, ownOf, M.bind_assoc]
  rw [e]
  unfold c1__law_lot
  refine (h1.bind (j := 0) fun d ⟨xs, e, l', hsub, e2⟩ => ?_).le (by rw [List.length_range]; omega)
  subst e e2
  refine .ret ⟨l', rfl, ?_, fun i hi => List.mem_range.mp (hsub.subset hi)⟩
  exact List.Pairwise.sublist hsub List.pairwise_lt_range
def isT : M (Fl × Sl) → Bool
  | .ret (.rt (.bl true), _) => true
  | _ => false
theorem isT_ok {m : M (Fl × Sl)} (h : isT m = true) : Runs m 0 (fun r => r.1 = Fl.rt (.bl true)) := by
  unfold isT at h
  split at h
  · exact .ret rfl
  · cases h
end Hd

set_option maxHeartbeats 1000000
set_option maxRecDepth 100000
namespace Hd
open Mn
/-! the law's own placings -/
theorem le_near (x : Int) (v : Vl) : x ≤ near v ↔ x ≤ v.1.2 ∧ ∀ c ∈ v.2, x ≤ c.2 := by
  have h := leastOf_lt x (v.2.map (·.2)) v.1.2
  unfold near
  constructor
  · intro hx
    have hn : ¬ (v.1.2 < x ∨ ∃ y ∈ v.2.map (·.2), y < x) := fun k => by have := h.mpr k; omega
    refine ⟨by have := fun k => hn (.inl k); omega, fun c hc => ?_⟩
    by_cases hh : x ≤ c.2
    · exact hh
    · exact (hn (.inr ⟨c.2, List.mem_map.mpr ⟨c, hc, rfl⟩, by omega⟩)).elim
  · rintro ⟨h1, h2⟩
    have hn : ¬ leastOf v.1.2 (v.2.map (·.2)) < x := fun k => by
      rcases h.mp k with k | ⟨y, hy, k⟩
      · omega
      · obtain ⟨c, hc, rfl⟩ := List.mem_map.mp hy
        have := h2 c hc
        omega
    omega
theorem mostOf_le (x : Int) : ∀ (l : List Int) (m : Int), mostOf m l ≤ x ↔ m ≤ x ∧ ∀ y ∈ l, y ≤ x
  | [], m => by simp [mostOf]
  | y :: l, m => by
    show mostOf (max m y) l ≤ x ↔ _
    rw [mostOf_le x l]
    simp only [List.mem_cons, forall_eq_or_imp, ← and_assoc]
    exact and_congr_left fun _ => by omega
theorem far_le (x : Int) (v : Vl) : far v ≤ x ↔ v.1.1 ≤ x ∧ ∀ c ∈ v.2, c.1 ≤ x := by
  unfold far
  rw [mostOf_le]
  simp
theorem mostOf_tk (b : Int) : ∀ (l : List Cl) (m : Int), b ≤ m → mostOf m (l.map fun c => max b c.1) = mostOf m (l.map (·.1))
  | [], _, _ => rfl
  | c :: l, m, h => by
    show mostOf (max m (max b c.1)) (l.map fun c => max b c.1) = mostOf (max m c.1) (l.map (·.1))
    rw [show max m (max b c.1) = max m c.1 by omega]
    exact mostOf_tk b l _ (by omega)
theorem most_tk (t : Int) (v : Vl) : mostOf (max t v.1.1) (v.2.map fun c => max (max t v.1.1) c.1) = max t (far v) := by
  rw [mostOf_tk _ _ _ (Int.le_refl _), mostOf_max]; rfl
def late (t : Int) (v : Vl) : List (Int × Cl) := ((tk t v).zip (v.1 :: v.2)).filter fun p => decide (p.2.2 < p.1)
theorem late_iff {v : Vl} (hv : okV v) (t : Int) : (late t v).isEmpty = true ↔ t ≤ near v ∧ ear v = [] := by
  have hz : (tk t v).zip (v.1 :: v.2) = (max t v.1.1, v.1) :: v.2.map fun c => (max (max t v.1.1) c.1, c) := by
    unfold tk
    rw [List.zip_cons_cons]
    congr 1
    generalize v.2 = l
    induction l with
    | nil => rfl
    | cons c l ih => rw [List.map_cons, List.zip_cons_cons, ih, List.map_cons]
  unfold late
  rw [List.isEmpty_iff, List.filter_eq_nil_iff, hz, le_near, ear_nil_iff]
  simp only [List.mem_cons, forall_eq_or_imp, List.mem_map, decide_eq_true_eq, Int.not_lt, forall_exists_index, and_imp, forall_apply_eq_imp_iff₂]
  have h1 := hv.1.2.1
  constructor
  · rintro ⟨a, b⟩
    exact ⟨⟨by omega, fun c hc => by have := b c hc; omega⟩, fun c hc => by have := b c hc; omega⟩
  · rintro ⟨⟨a, b⟩, d⟩
    exact ⟨by omega, fun c hc => by have := b c hc; have := d c hc; have := (hv.2.2 c hc).2.1; omega⟩
def byOk (f : Nat → Vl) : Int → List Nat → Bool
  | _, [] => true
  | t, i :: row => (late t (f i)).isEmpty && byOk f (max t (far (f i))) row
theorem byOk_iff {f : Nat → Vl} : ∀ (row : List Nat) (t : Int), (∀ i ∈ row, okV (f i)) → (byOk f t row = true ↔ (∀ i ∈ row, t ≤ near (f i)) ∧ stB f row = true)
  | [], t, _ => by simp [byOk, stB]
  | i :: row, t, h => by
    rw [byOk, Bool.and_eq_true_iff, late_iff (h i List.mem_cons_self), byOk_iff row _ fun j hj => h j (List.mem_cons_of_mem _ hj), stB, Bool.and_eq_true_iff, Bool.and_eq_true_iff, List.isEmpty_iff, List.all_eq_true]
    simp only [List.mem_cons, forall_eq_or_imp, decide_eq_true_eq]
    constructor
    · rintro ⟨⟨a, b⟩, c, d⟩
      exact ⟨⟨a, fun j hj => by have := c j hj; omega⟩, ⟨b, fun j hj => by have := c j hj; omega⟩, d⟩
    · rintro ⟨⟨a, b⟩, ⟨c, d⟩, e⟩
      exact ⟨⟨a, c⟩, fun j hj => by have := b j hj; have := d j hj; omega, e⟩
theorem by_go {vs : List Vl} (hv : ∀ v ∈ vs, okV v) (b : SV) : ∀ (row : List Nat) (L : List (Nat × List Int)) (t : Int), (∀ i ∈ row, i < vs.length) → (L.map (·.1) ++ row).Nodup → L.length + row.length ≤ 1000 →
    ∃ σ', forGo (.n 4) lb1__law_by_row (row.map eI) [.val (.lst (vs.map eV)), b, .ownd (L.map ent), .val (.int t), .un, .un, .un, .un, .un, .un, .un, .un] = if byOk (rv vs) t row = true then .ret (.nx, [.val (.lst (vs.map eV)), b, .ownd ((L ++ pl (rv vs) t row).map ent), .val (.int (lastT (rv vs) t row)), .un, .un, .un, .un, .un, .un, .un, .un]) else .ret (.rt .non, σ')
  | [], L, t, _, _, _ => ⟨[], by simp [forGo_nil, pl, lastT, byOk]⟩
  | i :: row, L, t, hl, hn, hb => by
    have hi := hl i List.mem_cons_self
    have h1 : i ∉ L.map (·.1) := fun h => by
      have := (List.nodup_append.mp hn).2.2 i h i List.mem_cons_self
      exact this rfl
    have h2 : L.length < 16777216 := by simp only [List.length_cons] at hb; omega
    have hk : isKeyD (eI i) = true := rfl
    have hx : gIx (.lst (vs.map eV)) (eI i) = .ret (eV (rv vs i)) := by
      have h : gIx (.lst (vs.map eV)) (.int (i : Int)) = .ret (eV vs[i]) := by rw [gIx_lst, itemI_nat (by simpa using hi)]; simp
      rw [rv_eq hi]; exact h
    obtain ⟨σ', ih⟩ := by_go hv b row (L ++ [(i, tk t (rv vs i))]) (max t (far (rv vs i))) (fun j hj => hl j (List.mem_cons_of_mem _ hj)) (by rw [List.map_append, List.append_assoc]; exact hn) (by rw [List.length_append]; simp at hb ⊢; omega)
    have ho : okV (rv vs i) := by rw [rv_eq hi]; exact hv _ (List.getElem_mem hi)
    obtain ⟨v, hvi⟩ : ∃ v, v = rv vs i := ⟨_, rfl⟩
    rw [← hvi] at ih ho hx
    have hsm : v.2.length ≤ 1000 := small_v ho
    have hll : 1 + v.2.length ≤ line := by unfold line; omega
    have hc := v__law_calls v hsm
    have et : ∀ (e : D), gIx (.lst [.int (max t v.1.1)]) (.int 0) = .ret (.int (max t v.1.1)) := fun _ => by rw [gIx_lst, itemI0]; rfl
    have eC' : ∀ c : Cl, eC c = .tup [.int c.1, .int c.2] := fun _ => rfl
    have etk : (D.int (max t v.1.1) :: v.2.map fun c => D.int (max (max t v.1.1) c.1)) = (tk t v).map D.int := by simp [tk, List.map_map, Function.comp]
    have epair : paired ((tk t v).map D.int) ((v.1 :: v.2).map eC) = ((tk t v).zip (v.1 :: v.2)).map fun p => .tup [.int p.1, eC p.2] := paired_map _ _ _ _
    have hmx : fMax [.lst ((tk t v).map D.int)] = .ret (.int (max t (far v))) := by
      have := fMax_map (fun i : Int => i) (max t v.1.1) (v.2.map fun c => max (max t v.1.1) c.1)
      rw [show (tk t v).map D.int = ((max t v.1.1) :: v.2.map fun c => max (max t v.1.1) c.1).map D.int from rfl, this]
      rw [List.map_id', most_tk]
    have hne := neNil (enc := fun _ : Int × Cl => D.int 1) (late t v) fun _ _ => rfl
    rw [List.map_cons, forGo_turn]
    have hC : wS (xV 6) [.val (.lst (vs.map eV)), b, .ownd (L.map ent), .val (.int t), .val (eI i), .val (eC v.1), .val (.tup (v.2.map eC)), .val (.lst [.int (max t v.1.1)]), .un, .un, .un, .un] = .ret (v.2.map eC) := by simp only [ap_V, ap_O, ap_own, getV_val, getO_val, getO_own, getO_ownd, getL_own, ap_C, ap_1, ap_2, ap_And, ap_Or, ap_Not, ap_If, ap_aNil, ap_aCons, ap_aStar, ap_Tup, ap_Lst, ap_TupS, ap_LstS, ap_Call, ap_Chain, ap_Cut, ap_oNone, ap_oSome, ap_bV, ap_bAnd, ap_bOr, ap_bNot, ap_bYes, ap_wS, ap_Rng1, ap_Rng2, ap_TupRg1, ap_TupRg2, ap_LstRg1, ap_LstRg2, ap_Enum, ap_Enum2, ap_Zip, ap_mNil, ap_mVal, ap_mOwn, ap_sNx, ap_Seq, seqK_nx, seqK_rt, ap_Asg, ap_Set, ap_Own, ownK_lst, ownK_dct, ap_Ret, ap_sIf, ap_Stk, ap_Drop, ap_App, ap_Ext, ap_PutL, ap_Par, ap_Frz, frzS_own, frzS_val, ap_fn, fnK_rt, fnK_nx, ite_bind, gIx_tup, gIx_lst, itemI0, itemI1, itemI2, itemI3, gCut_tup, gCut_lst, asB_bl, asI_int, asS_tup, asS_lst, asL_lst, gAdd_int, gAdd_tup, gAdd_lst, gSub_int, gMulA_int, gLt_int, gLe_int, gGt_int, gGe_int, fTuple_lst, fTuple_tup, fList_tup, fList_lst, fInt_int, fInt_bl, gIsi_int, gIsi_bl, gIsi_tup, gIsi_lst, gIsi_str, gIsi_non, gIsB_bl, gIsNotB_bl, M.ret_bind, M.stk_bind, M.draw_bind, M.bind_ret, ofO_some, ofO_none, List.getD_cons_zero, List.getD_cons_succ, List.set_cons_zero, List.set_cons_succ, List.length_cons, List.length_nil, List.cons_append, List.nil_append, List.append_nil, List.replicate, Nat.reduceSub, Nat.reduceAdd, Nat.reduceEqDiff, if_true, if_false, ite_true, ite_false, reduceIte, Bool.not_true, Bool.not_false, Bool.false_eq_true, Bool.true_and, Bool.false_and, Bool.and_true, Bool.and_false, len_tup, len_lst, ne_int, eq_int, setAll, Mn.wipe, Tg.go, Tg.goes, Option.bind_some, isTup, isIntT, isBlT, isStrT, isLstT, known, List.isEmpty_nil, ownOf, ap_LcF, ap_turn, FM_map, FM_ret, FM_if, FM_opt, FM_nil, oCons_some, oCons_none, noX_ret, ap_Lc2F, ap_turn2, FL_map, FL_ret, FL_nil, ap_go, ap_Wipe, numbered0, paired_map, fAll_map, fAny_map, List.length_map, cutL_from, cutL_upto, mapV_nil, mapV_cons, Int.cast_ofNat_Int, BEq.rfl, Int.reduceLT, Int.reduceLE, Int.reduceBEq, Int.zero_le_ofNat, decide_true, decide_false, ap_For]
    have hc1 : c1__law_by_row [.val (.lst (vs.map eV)), b, .ownd (L.map ent), .val (.int t), .val (eI i), .val (eC v.1), .val (.tup (v.2.map eC)), .val (.lst [.int (max t v.1.1)]), .un, .un, .un, .un] = .ret (.lst (v.2.map fun c => D.int (max (max t v.1.1) c.1))) := by
      simp only [c1__law_by_row, e1__law_by_row, ap_V, ap_O, ap_own, getV_val, getO_val, getO_own, getO_ownd, getL_own, ap_C, ap_1, ap_2, ap_And, ap_Or, ap_Not, ap_If, ap_aNil, ap_aCons, ap_aStar, ap_Tup, ap_Lst, ap_TupS, ap_LstS, ap_Call, ap_Chain, ap_Cut, ap_oNone, ap_oSome, ap_bV, ap_bAnd, ap_bOr, ap_bNot, ap_bYes, ap_wS, ap_Rng1, ap_Rng2, ap_TupRg1, ap_TupRg2, ap_LstRg1, ap_LstRg2, ap_Enum, ap_Enum2, ap_Zip, ap_mNil, ap_mVal, ap_mOwn, ap_sNx, ap_Seq, seqK_nx, seqK_rt, ap_Asg, ap_Set, ap_Own, ownK_lst, ownK_dct, ap_Ret, ap_sIf, ap_Stk, ap_Drop, ap_App, ap_Ext, ap_PutL, ap_Par, ap_Frz, frzS_own, frzS_val, ap_fn, fnK_rt, fnK_nx, ite_bind, gIx_tup, gIx_lst, itemI0, itemI1, itemI2, itemI3, gCut_tup, gCut_lst, asB_bl, asI_int, asS_tup, asS_lst, asL_lst, gAdd_int, gAdd_tup, gAdd_lst, gSub_int, gMulA_int, gLt_int, gLe_int, gGt_int, gGe_int, fTuple_lst, fTuple_tup, fList_tup, fList_lst, fInt_int, fInt_bl, gIsi_int, gIsi_bl, gIsi_tup, gIsi_lst, gIsi_str, gIsi_non, gIsB_bl, gIsNotB_bl, M.ret_bind, M.stk_bind, M.draw_bind, M.bind_ret, ofO_some, ofO_none, List.getD_cons_zero, List.getD_cons_succ, List.set_cons_zero, List.set_cons_succ, List.length_cons, List.length_nil, List.cons_append, List.nil_append, List.append_nil, List.replicate, Nat.reduceSub, Nat.reduceAdd, Nat.reduceEqDiff, if_true, if_false, ite_true, ite_false, reduceIte, Bool.not_true, Bool.not_false, Bool.false_eq_true, Bool.true_and, Bool.false_and, Bool.and_true, Bool.and_false, len_tup, len_lst, ne_int, eq_int, setAll, Mn.wipe, Tg.go, Tg.goes, Option.bind_some, isTup, isIntT, isBlT, isStrT, isLstT, known, List.isEmpty_nil, ownOf, ap_LcF, ap_turn, FM_map, FM_ret, FM_if, FM_opt, FM_nil, oCons_some, oCons_none, noX_ret, ap_Lc2F, ap_turn2, FL_map, FL_ret, FL_nil, ap_go, ap_Wipe, numbered0, paired_map, fAll_map, fAny_map, List.length_map, cutL_from, cutL_upto, mapV_nil, mapV_cons, Int.cast_ofNat_Int, BEq.rfl, Int.reduceLT, Int.reduceLE, Int.reduceBEq, Int.zero_le_ofNat, decide_true, decide_false, ap_For, eC', fMax_2, mx]
    have hc2 : c2__law_by_row [.val (.lst (vs.map eV)), b, .ownd (L.map ent), .val (.int t), .val (eI i), .val (eC v.1), .val (.tup (v.2.map eC)), .val (.lst ((tk t v).map D.int)), .un, .un, .un, .un] = .ret (.lst ((late t v).map fun _ => D.int 1)) := by
      simp only [c2__law_by_row, e2__law_by_row, t1__law_by_row, ap_V, ap_O, ap_own, getV_val, getO_val, getO_own, getO_ownd, getL_own, ap_C, ap_1, ap_2, ap_And, ap_Or, ap_Not, ap_If, ap_aNil, ap_aCons, ap_aStar, ap_Tup, ap_Lst, ap_TupS, ap_LstS, ap_Call, ap_Chain, ap_Cut, ap_oNone, ap_oSome, ap_bV, ap_bAnd, ap_bOr, ap_bNot, ap_bYes, ap_wS, ap_Rng1, ap_Rng2, ap_TupRg1, ap_TupRg2, ap_LstRg1, ap_LstRg2, ap_Enum, ap_Enum2, ap_Zip, ap_mNil, ap_mVal, ap_mOwn, ap_sNx, ap_Seq, seqK_nx, seqK_rt, ap_Asg, ap_Set, ap_Own, ownK_lst, ownK_dct, ap_Ret, ap_sIf, ap_Stk, ap_Drop, ap_App, ap_Ext, ap_PutL, ap_Par, ap_Frz, frzS_own, frzS_val, ap_fn, fnK_rt, fnK_nx, ite_bind, gIx_tup, gIx_lst, itemI0, itemI1, itemI2, itemI3, gCut_tup, gCut_lst, asB_bl, asI_int, asS_tup, asS_lst, asL_lst, gAdd_int, gAdd_tup, gAdd_lst, gSub_int, gMulA_int, gLt_int, gLe_int, gGt_int, gGe_int, fTuple_lst, fTuple_tup, fList_tup, fList_lst, fInt_int, fInt_bl, gIsi_int, gIsi_bl, gIsi_tup, gIsi_lst, gIsi_str, gIsi_non, gIsB_bl, gIsNotB_bl, M.ret_bind, M.stk_bind, M.draw_bind, M.bind_ret, ofO_some, ofO_none, List.getD_cons_zero, List.getD_cons_succ, List.set_cons_zero, List.set_cons_succ, List.length_cons, List.length_nil, List.cons_append, List.nil_append, List.append_nil, List.replicate, Nat.reduceSub, Nat.reduceAdd, Nat.reduceEqDiff, if_true, if_false, ite_true, ite_false, reduceIte, Bool.not_true, Bool.not_false, Bool.false_eq_true, Bool.true_and, Bool.false_and, Bool.and_true, Bool.and_false, len_tup, len_lst, ne_int, eq_int, setAll, Mn.wipe, Tg.go, Tg.goes, Option.bind_some, isTup, isIntT, isBlT, isStrT, isLstT, known, List.isEmpty_nil, ownOf, ap_LcF, ap_turn, FM_map, FM_ret, FM_if, FM_opt, FM_nil, oCons_some, oCons_none, noX_ret, ap_Lc2F, ap_turn2, FL_map, FL_ret, FL_nil, ap_go, ap_Wipe, numbered0, paired_map, fAll_map, fAny_map, List.length_map, cutL_from, cutL_upto, mapV_nil, mapV_cons, Int.cast_ofNat_Int, BEq.rfl, Int.reduceLT, Int.reduceLE, Int.reduceBEq, Int.zero_le_ofNat, decide_true, decide_false, ap_For, -paired_map, hx, hc, epair, cx1]
      rfl
    have e : turn (.n 4) lb1__law_by_row (eI i) [.val (.lst (vs.map eV)), b, .ownd (L.map ent), .val (.int t), .un, .un, .un, .un, .un, .un, .un, .un] = if (late t v).isEmpty = true then .ret (.nx, [.val (.lst (vs.map eV)), b, .ownd ((L ++ [(i, tk t v)]).map ent), .val (.int (max t (far v))), .un, .un, .un, .un, .un, .un, .un, .un]) else .ret (.rt .non, [.val (.lst (vs.map eV)), b, .ownd (L.map ent), .val (.int t), .val (eI i), .val (eC v.1), .val (.tup (v.2.map eC)), .val (.lst ((tk t v).map D.int)), .un, .un, .un, .un]) := by
      have hV : eV v = .tup [eC v.1, .tup (v.2.map eC)] := rfl
      simp only [lb1__law_by_row, ap_V, ap_O, ap_own, getV_val, getO_val, getO_own, getO_ownd, getL_own, ap_C, ap_1, ap_2, ap_And, ap_Or, ap_Not, ap_If, ap_aNil, ap_aCons, ap_aStar, ap_Tup, ap_Lst, ap_TupS, ap_LstS, ap_Call, ap_Chain, ap_Cut, ap_oNone, ap_oSome, ap_bV, ap_bAnd, ap_bOr, ap_bNot, ap_bYes, ap_wS, ap_Rng1, ap_Rng2, ap_TupRg1, ap_TupRg2, ap_LstRg1, ap_LstRg2, ap_Enum, ap_Enum2, ap_Zip, ap_mNil, ap_mVal, ap_mOwn, ap_sNx, ap_Seq, seqK_nx, seqK_rt, ap_Asg, ap_Set, ap_Own, ownK_lst, ownK_dct, ap_Ret, ap_sIf, ap_Stk, ap_Drop, ap_App, ap_Ext, ap_PutL, ap_Par, ap_Frz, frzS_own, frzS_val, ap_fn, fnK_rt, fnK_nx, ite_bind, gIx_tup, gIx_lst, itemI0, itemI1, itemI2, itemI3, gCut_tup, gCut_lst, asB_bl, asI_int, asS_tup, asS_lst, asL_lst, gAdd_int, gAdd_tup, gAdd_lst, gSub_int, gMulA_int, gLt_int, gLe_int, gGt_int, gGe_int, fTuple_lst, fTuple_tup, fList_tup, fList_lst, fInt_int, fInt_bl, gIsi_int, gIsi_bl, gIsi_tup, gIsi_lst, gIsi_str, gIsi_non, gIsB_bl, gIsNotB_bl, M.ret_bind, M.stk_bind, M.draw_bind, M.bind_ret, ofO_some, ofO_none, List.getD_cons_zero, List.getD_cons_succ, List.set_cons_zero, List.set_cons_succ, List.length_cons, List.length_nil, List.cons_append, List.nil_append, List.append_nil, List.replicate, Nat.reduceSub, Nat.reduceAdd, Nat.reduceEqDiff, if_true, if_false, ite_true, ite_false, reduceIte, Bool.not_true, Bool.not_false, Bool.false_eq_true, Bool.true_and, Bool.false_and, Bool.and_true, Bool.and_false, len_tup, len_lst, ne_int, eq_int, setAll, Mn.wipe, Tg.go, Tg.goes, Option.bind_some, isTup, isIntT, isBlT, isStrT, isLstT, known, List.isEmpty_nil, ownOf, ap_LcF, ap_turn, FM_map, FM_ret, FM_if, FM_opt, FM_nil, oCons_some, oCons_none, noX_ret, ap_Lc2F, ap_turn2, FL_map, FL_ret, FL_nil, ap_go, ap_Wipe, numbered0, paired_map, fAll_map, fAny_map, List.length_map, cutL_from, cutL_upto, mapV_nil, mapV_cons, Int.cast_ofNat_Int, BEq.rfl, Int.reduceLT, Int.reduceLE, Int.reduceBEq, Int.zero_le_ofNat, decide_true, decide_false, ap_For, hx, hV, cx0, fMax_2, mx, hc1, hll, List.length_cons, List.length_nil, etk, hc2, hne]
      cases hz : (late t v).isEmpty with
      | true =>
        simp only [ap_V, ap_O, ap_own, getV_val, getO_val, getO_own, getO_ownd, getL_own, ap_C, ap_1, ap_2, ap_And, ap_Or, ap_Not, ap_If, ap_aNil, ap_aCons, ap_aStar, ap_Tup, ap_Lst, ap_TupS, ap_LstS, ap_Call, ap_Chain, ap_Cut, ap_oNone, ap_oSome, ap_bV, ap_bAnd, ap_bOr, ap_bNot, ap_bYes, ap_wS, ap_Rng1, ap_Rng2, ap_TupRg1, ap_TupRg2, ap_LstRg1, ap_LstRg2, ap_Enum, ap_Enum2, ap_Zip, ap_mNil, ap_mVal, ap_mOwn, ap_sNx, ap_Seq, seqK_nx, seqK_rt, ap_Asg, ap_Set, ap_Own, ownK_lst, ownK_dct, ap_Ret, ap_sIf, ap_Stk, ap_Drop, ap_App, ap_Ext, ap_PutL, ap_Par, ap_Frz, frzS_own, frzS_val, ap_fn, fnK_rt, fnK_nx, ite_bind, gIx_tup, gIx_lst, itemI0, itemI1, itemI2, itemI3, gCut_tup, gCut_lst, asB_bl, asI_int, asS_tup, asS_lst, asL_lst, gAdd_int, gAdd_tup, gAdd_lst, gSub_int, gMulA_int, gLt_int, gLe_int, gGt_int, gGe_int, fTuple_lst, fTuple_tup, fList_tup, fList_lst, fInt_int, fInt_bl, gIsi_int, gIsi_bl, gIsi_tup, gIsi_lst, gIsi_str, gIsi_non, gIsB_bl, gIsNotB_bl, M.ret_bind, M.stk_bind, M.draw_bind, M.bind_ret, ofO_some, ofO_none, List.getD_cons_zero, List.getD_cons_succ, List.set_cons_zero, List.set_cons_succ, List.length_cons, List.length_nil, List.cons_append, List.nil_append, List.append_nil, List.replicate, Nat.reduceSub, Nat.reduceAdd, Nat.reduceEqDiff, if_true, if_false, ite_true, ite_false, reduceIte, Bool.not_true, Bool.not_false, Bool.false_eq_true, Bool.true_and, Bool.false_and, Bool.and_true, Bool.and_false, len_tup, len_lst, ne_int, eq_int, setAll, Mn.wipe, Tg.go, Tg.goes, Option.bind_some, isTup, isIntT, isBlT, isStrT, isLstT, known, List.isEmpty_nil, ownOf, ap_LcF, ap_turn, FM_map, FM_ret, FM_if, FM_opt, FM_nil, oCons_some, oCons_none, noX_ret, ap_Lc2F, ap_turn2, FL_map, FL_ret, FL_nil, ap_go, ap_Wipe, numbered0, paired_map, fAll_map, fAny_map, List.length_map, cutL_from, cutL_upto, mapV_nil, mapV_cons, Int.cast_ofNat_Int, BEq.rfl, Int.reduceLT, Int.reduceLE, Int.reduceBEq, Int.zero_le_ofNat, decide_true, decide_false, ap_For, sPutDN, getDc, hmx, hk, h2, keys_ent, and_self]
        rw [show D.tup ((tk t v).map D.int) = eTk (tk t v) from rfl, putK_ent h1]
      | false => simp only [ap_V, ap_O, ap_own, getV_val, getO_val, getO_own, getO_ownd, getL_own, ap_C, ap_1, ap_2, ap_And, ap_Or, ap_Not, ap_If, ap_aNil, ap_aCons, ap_aStar, ap_Tup, ap_Lst, ap_TupS, ap_LstS, ap_Call, ap_Chain, ap_Cut, ap_oNone, ap_oSome, ap_bV, ap_bAnd, ap_bOr, ap_bNot, ap_bYes, ap_wS, ap_Rng1, ap_Rng2, ap_TupRg1, ap_TupRg2, ap_LstRg1, ap_LstRg2, ap_Enum, ap_Enum2, ap_Zip, ap_mNil, ap_mVal, ap_mOwn, ap_sNx, ap_Seq, seqK_nx, seqK_rt, ap_Asg, ap_Set, ap_Own, ownK_lst, ownK_dct, ap_Ret, ap_sIf, ap_Stk, ap_Drop, ap_App, ap_Ext, ap_PutL, ap_Par, ap_Frz, frzS_own, frzS_val, ap_fn, fnK_rt, fnK_nx, ite_bind, gIx_tup, gIx_lst, itemI0, itemI1, itemI2, itemI3, gCut_tup, gCut_lst, asB_bl, asI_int, asS_tup, asS_lst, asL_lst, gAdd_int, gAdd_tup, gAdd_lst, gSub_int, gMulA_int, gLt_int, gLe_int, gGt_int, gGe_int, fTuple_lst, fTuple_tup, fList_tup, fList_lst, fInt_int, fInt_bl, gIsi_int, gIsi_bl, gIsi_tup, gIsi_lst, gIsi_str, gIsi_non, gIsB_bl, gIsNotB_bl, M.ret_bind, M.stk_bind, M.draw_bind, M.bind_ret, ofO_some, ofO_none, List.getD_cons_zero, List.getD_cons_succ, List.set_cons_zero, List.set_cons_succ, List.length_cons, List.length_nil, List.cons_append, List.nil_append, List.append_nil, List.replicate, Nat.reduceSub, Nat.reduceAdd, Nat.reduceEqDiff, if_true, if_false, ite_true, ite_false, reduceIte, Bool.not_true, Bool.not_false, Bool.false_eq_true, Bool.true_and, Bool.false_and, Bool.and_true, Bool.and_false, len_tup, len_lst, ne_int, eq_int, setAll, Mn.wipe, Tg.go, Tg.goes, Option.bind_some, isTup, isIntT, isBlT, isStrT, isLstT, known, List.isEmpty_nil, ownOf, ap_LcF, ap_turn, FM_map, FM_ret, FM_if, FM_opt, FM_nil, oCons_some, oCons_none, noX_ret, ap_Lc2F, ap_turn2, FL_map, FL_ret, FL_nil, ap_go, ap_Wipe, numbered0, paired_map, fAll_map, fAny_map, List.length_map, cutL_from, cutL_upto, mapV_nil, mapV_cons, Int.cast_ofNat_Int, BEq.rfl, Int.reduceLT, Int.reduceLE, Int.reduceBEq, Int.zero_le_ofNat, decide_true, decide_false, ap_For]
    cases hz : (late t v).isEmpty with
    | true =>
      refine ⟨σ', ?_⟩
      rw [e, hz, if_pos rfl, M.ret_bind, forK_nx, ih, byOk, pl, ← hvi, hz, Bool.true_and, List.append_assoc]
      simp only [lastT, List.foldl_cons, ← hvi]; rfl
    | false =>
      refine ⟨[.val (.lst (vs.map eV)), b, .ownd (L.map ent), .val (.int t), .val (eI i), .val (eC v.1), .val (.tup (v.2.map eC)), .val (.lst ((tk t v).map D.int)), .un, .un, .un, .un], ?_⟩
      rw [e, hz, if_neg (by decide), M.ret_bind, forK_rt, byOk, ← hvi, hz, Bool.false_and, if_neg (by decide)]
theorem intKeys_ent : ∀ L : List (Nat × List Int), intKeys (L.map ent) = some (L.map fun p => (p.1 : Int))
  | [] => rfl
  | p :: L => by
    show (intKeys (L.map ent)).map _ = _
    rw [intKeys_ent L]; rfl
theorem sort_ints {l row : List Nat} (h : row.Perm l) (hl : l.Pairwise (· ≤ ·)) : (row.map fun i : Nat => (i : Int)).mergeSort leI = l.map fun i : Nat => (i : Int) := by
  rw [← List.map_mergeSort (f := fun i : Nat => (i : Int)) (r := fun i j => decide (i ≤ j)) (s := leI) (l := row) (fun a _ b _ => by unfold leI; rw [decide_eq_decide]; omega)]
  congr 1
  refine List.Perm.eq_of_pairwise (le := (· ≤ ·)) (fun a b _ _ h1 h2 => Nat.le_antisymm h1 h2) ?_ hl ((List.mergeSort_perm _ _).trans h)
  exact (List.pairwise_mergeSort (le := fun i j : Nat => decide (i ≤ j)) (fun a b c h1 h2 => by simp at *; omega) (fun a b => by simp; omega) row).imp fun h => of_decide_eq_true h
theorem near_low {v : Vl} (h : okV v) : -1000000000 ≤ near v := by
  rw [le_near]
  exact ⟨by have := h.1.1; have := h.1.2.1; omega, fun c hc => by have := (h.2.2 c hc).1; have := (h.2.2 c hc).2.1; omega⟩
theorem v_by_row {vs : List Vl} (hv : ∀ v ∈ vs, okV v) (hb : vs.length ≤ 60) {row : List Nat} (hp : row.Perm (List.range vs.length)) :
    m__law_by_row [.lst (vs.map eV), eL row] = .ret (if stB (rv vs) row = true then eT (soon (rv vs) (List.range vs.length) row) else .non) := by
  have hl : ∀ i ∈ row, i < vs.length := fun i hi => List.mem_range.mp (hp.mem_iff.mp hi)
  have hn : row.Nodup := hp.nodup_iff.mpr List.nodup_range
  have hlen : row.length = vs.length := by rw [hp.length_eq, List.length_range]
  have hok : ∀ i ∈ row, okV (rv vs i) := fun i hi => by rw [rv_eq (hl i hi)]; exact hv _ (List.getElem_mem _)
  obtain ⟨σ', h⟩ := by_go hv (.val (.tup (row.map eI))) row [] (-1000000000) hl (by simpa using hn) (by simp; omega)
  have hby : byOk (rv vs) (-1000000000) row = stB (rv vs) row := by
    rw [Bool.eq_iff_iff, byOk_iff row _ hok]
    exact ⟨fun h => h.2, fun h => ⟨fun i hi => near_low (hok i hi), h⟩⟩
  rw [hby] at h
  simp only [List.map_nil, List.nil_append] at h
  have hpow : gPow (.int 10) (.int 9) = .ret (.int 1000000000) := rfl
  have hneg : gNeg (.int 1000000000) = .ret (.int (-1000000000)) := rfl
  have hk : ((pl (rv vs) (-1000000000) row).map fun p => (p.1 : Int)) = row.map fun i : Nat => (i : Int) := by
    conv => rhs; rw [← pl_keys (rv vs) row (-1000000000)]
    rw [List.map_map]; rfl
  have hs := sort_ints hp (List.pairwise_le_range)
  have h64 : (row.map fun i : Nat => (i : Int)).length < 64 := by rw [List.length_map]; omega
  simp only [m__law_by_row, b__law_by_row, l1__law_by_row, c3__law_by_row, eL, xD0, ap_V, ap_O, ap_own, getV_val, getO_val, getO_own, getO_ownd, getL_own, ap_C, ap_1, ap_2, ap_And, ap_Or, ap_Not, ap_If, ap_aNil, ap_aCons, ap_aStar, ap_Tup, ap_Lst, ap_TupS, ap_LstS, ap_Call, ap_Chain, ap_Cut, ap_oNone, ap_oSome, ap_bV, ap_bAnd, ap_bOr, ap_bNot, ap_bYes, ap_wS, ap_Rng1, ap_Rng2, ap_TupRg1, ap_TupRg2, ap_LstRg1, ap_LstRg2, ap_Enum, ap_Enum2, ap_Zip, ap_mNil, ap_mVal, ap_mOwn, ap_sNx, ap_Seq, seqK_nx, seqK_rt, ap_Asg, ap_Set, ap_Own, ownK_lst, ownK_dct, ap_Ret, ap_sIf, ap_Stk, ap_Drop, ap_App, ap_Ext, ap_PutL, ap_Par, ap_Frz, frzS_own, frzS_val, ap_fn, fnK_rt, fnK_nx, ite_bind, gIx_tup, gIx_lst, itemI0, itemI1, itemI2, itemI3, gCut_tup, gCut_lst, asB_bl, asI_int, asS_tup, asS_lst, asL_lst, gAdd_int, gAdd_tup, gAdd_lst, gSub_int, gMulA_int, gLt_int, gLe_int, gGt_int, gGe_int, fTuple_lst, fTuple_tup, fList_tup, fList_lst, fInt_int, fInt_bl, gIsi_int, gIsi_bl, gIsi_tup, gIsi_lst, gIsi_str, gIsi_non, gIsB_bl, gIsNotB_bl, M.ret_bind, M.stk_bind, M.draw_bind, M.bind_ret, ofO_some, ofO_none, List.getD_cons_zero, List.getD_cons_succ, List.set_cons_zero, List.set_cons_succ, List.length_cons, List.length_nil, List.cons_append, List.nil_append, List.append_nil, List.replicate, Nat.reduceSub, Nat.reduceAdd, Nat.reduceEqDiff, if_true, if_false, ite_true, ite_false, reduceIte, Bool.not_true, Bool.not_false, Bool.false_eq_true, Bool.true_and, Bool.false_and, Bool.and_true, Bool.and_false, len_tup, len_lst, ne_int, eq_int, setAll, Mn.wipe, Tg.go, Tg.goes, Option.bind_some, isTup, isIntT, isBlT, isStrT, isLstT, known, List.isEmpty_nil, ownOf, ap_LcF, ap_turn, FM_map, FM_ret, FM_if, FM_opt, FM_nil, oCons_some, oCons_none, noX_ret, ap_Lc2F, ap_turn2, FL_map, FL_ret, FL_nil, ap_go, ap_Wipe, numbered0, paired_map, fAll_map, fAny_map, List.length_map, cutL_from, cutL_upto, mapV_nil, mapV_cons, Int.cast_ofNat_Int, BEq.rfl, Int.reduceLT, Int.reduceLE, Int.reduceBEq, Int.zero_le_ofNat, decide_true, decide_false, ap_For, ownOf, hpow, hneg, h]
  cases hst : stB (rv vs) row with
  | false => simp only [ap_V, ap_O, ap_own, getV_val, getO_val, getO_own, getO_ownd, getL_own, ap_C, ap_1, ap_2, ap_And, ap_Or, ap_Not, ap_If, ap_aNil, ap_aCons, ap_aStar, ap_Tup, ap_Lst, ap_TupS, ap_LstS, ap_Call, ap_Chain, ap_Cut, ap_oNone, ap_oSome, ap_bV, ap_bAnd, ap_bOr, ap_bNot, ap_bYes, ap_wS, ap_Rng1, ap_Rng2, ap_TupRg1, ap_TupRg2, ap_LstRg1, ap_LstRg2, ap_Enum, ap_Enum2, ap_Zip, ap_mNil, ap_mVal, ap_mOwn, ap_sNx, ap_Seq, seqK_nx, seqK_rt, ap_Asg, ap_Set, ap_Own, ownK_lst, ownK_dct, ap_Ret, ap_sIf, ap_Stk, ap_Drop, ap_App, ap_Ext, ap_PutL, ap_Par, ap_Frz, frzS_own, frzS_val, ap_fn, fnK_rt, fnK_nx, ite_bind, gIx_tup, gIx_lst, itemI0, itemI1, itemI2, itemI3, gCut_tup, gCut_lst, asB_bl, asI_int, asS_tup, asS_lst, asL_lst, gAdd_int, gAdd_tup, gAdd_lst, gSub_int, gMulA_int, gLt_int, gLe_int, gGt_int, gGe_int, fTuple_lst, fTuple_tup, fList_tup, fList_lst, fInt_int, fInt_bl, gIsi_int, gIsi_bl, gIsi_tup, gIsi_lst, gIsi_str, gIsi_non, gIsB_bl, gIsNotB_bl, M.ret_bind, M.stk_bind, M.draw_bind, M.bind_ret, ofO_some, ofO_none, List.getD_cons_zero, List.getD_cons_succ, List.set_cons_zero, List.set_cons_succ, List.length_cons, List.length_nil, List.cons_append, List.nil_append, List.append_nil, List.replicate, Nat.reduceSub, Nat.reduceAdd, Nat.reduceEqDiff, if_true, if_false, ite_true, ite_false, reduceIte, Bool.not_true, Bool.not_false, Bool.false_eq_true, Bool.true_and, Bool.false_and, Bool.and_true, Bool.and_false, len_tup, len_lst, ne_int, eq_int, setAll, Mn.wipe, Tg.go, Tg.goes, Option.bind_some, isTup, isIntT, isBlT, isStrT, isLstT, known, List.isEmpty_nil, ownOf, ap_LcF, ap_turn, FM_map, FM_ret, FM_if, FM_opt, FM_nil, oCons_some, oCons_none, noX_ret, ap_Lc2F, ap_turn2, FL_map, FL_ret, FL_nil, ap_go, ap_Wipe, numbered0, paired_map, fAll_map, fAny_map, List.length_map, cutL_from, cutL_upto, mapV_nil, mapV_cons, Int.cast_ofNat_Int, BEq.rfl, Int.reduceLT, Int.reduceLE, Int.reduceBEq, Int.zero_le_ofNat, decide_true, decide_false, ap_For]
  | true =>
    have h64' : row.length < 64 := by omega
    have hcomp : (D.int ∘ fun i : Nat => (i : Int)) = eI := rfl
    simp only [ap_V, ap_O, ap_own, getV_val, getO_val, getO_own, getO_ownd, getL_own, ap_C, ap_1, ap_2, ap_And, ap_Or, ap_Not, ap_If, ap_aNil, ap_aCons, ap_aStar, ap_Tup, ap_Lst, ap_TupS, ap_LstS, ap_Call, ap_Chain, ap_Cut, ap_oNone, ap_oSome, ap_bV, ap_bAnd, ap_bOr, ap_bNot, ap_bYes, ap_wS, ap_Rng1, ap_Rng2, ap_TupRg1, ap_TupRg2, ap_LstRg1, ap_LstRg2, ap_Enum, ap_Enum2, ap_Zip, ap_mNil, ap_mVal, ap_mOwn, ap_sNx, ap_Seq, seqK_nx, seqK_rt, ap_Asg, ap_Set, ap_Own, ownK_lst, ownK_dct, ap_Ret, ap_sIf, ap_Stk, ap_Drop, ap_App, ap_Ext, ap_PutL, ap_Par, ap_Frz, frzS_own, frzS_val, ap_fn, fnK_rt, fnK_nx, ite_bind, gIx_tup, gIx_lst, itemI0, itemI1, itemI2, itemI3, gCut_tup, gCut_lst, asB_bl, asI_int, asS_tup, asS_lst, asL_lst, gAdd_int, gAdd_tup, gAdd_lst, gSub_int, gMulA_int, gLt_int, gLe_int, gGt_int, gGe_int, fTuple_lst, fTuple_tup, fList_tup, fList_lst, fInt_int, fInt_bl, gIsi_int, gIsi_bl, gIsi_tup, gIsi_lst, gIsi_str, gIsi_non, gIsB_bl, gIsNotB_bl, M.ret_bind, M.stk_bind, M.draw_bind, M.bind_ret, ofO_some, ofO_none, List.getD_cons_zero, List.getD_cons_succ, List.set_cons_zero, List.set_cons_succ, List.length_cons, List.length_nil, List.cons_append, List.nil_append, List.append_nil, List.replicate, Nat.reduceSub, Nat.reduceAdd, Nat.reduceEqDiff, if_true, if_false, ite_true, ite_false, reduceIte, Bool.not_true, Bool.not_false, Bool.false_eq_true, Bool.true_and, Bool.false_and, Bool.and_true, Bool.and_false, len_tup, len_lst, ne_int, eq_int, setAll, Mn.wipe, Tg.go, Tg.goes, Option.bind_some, isTup, isIntT, isBlT, isStrT, isLstT, known, List.isEmpty_nil, ownOf, ap_LcF, ap_turn, FM_map, FM_ret, FM_if, FM_opt, FM_nil, oCons_some, oCons_none, noX_ret, ap_Lc2F, ap_turn2, FL_map, FL_ret, FL_nil, ap_go, ap_Wipe, numbered0, paired_map, fAll_map, fAny_map, List.length_map, cutL_from, cutL_upto, mapV_nil, mapV_cons, Int.cast_ofNat_Int, BEq.rfl, Int.reduceLT, Int.reduceLE, Int.reduceBEq, Int.zero_le_ofNat, decide_true, decide_false, ap_For, fSortedD, intKeys_ent, hk, h64', hs, List.map_map, hcomp]
    rw [FM_congr (g := fun i => .ret (some (eTk (look (pl (rv vs) (-1000000000) row) i)))) fun i hi => by
      have hi' : i ∈ (pl (rv vs) (-1000000000) row).map (·.1) := by rw [pl_keys]; exact hp.mem_iff.mpr hi
      have hk : isKeyD (eI i) = true := rfl
      simp only [e3__law_by_row, gIxD, ap_V, ap_O, ap_own, getV_val, getO_val, getO_own, getO_ownd, getL_own, ap_C, ap_1, ap_2, ap_And, ap_Or, ap_Not, ap_If, ap_aNil, ap_aCons, ap_aStar, ap_Tup, ap_Lst, ap_TupS, ap_LstS, ap_Call, ap_Chain, ap_Cut, ap_oNone, ap_oSome, ap_bV, ap_bAnd, ap_bOr, ap_bNot, ap_bYes, ap_wS, ap_Rng1, ap_Rng2, ap_TupRg1, ap_TupRg2, ap_LstRg1, ap_LstRg2, ap_Enum, ap_Enum2, ap_Zip, ap_mNil, ap_mVal, ap_mOwn, ap_sNx, ap_Seq, seqK_nx, seqK_rt, ap_Asg, ap_Set, ap_Own, ownK_lst, ownK_dct, ap_Ret, ap_sIf, ap_Stk, ap_Drop, ap_App, ap_Ext, ap_PutL, ap_Par, ap_Frz, frzS_own, frzS_val, ap_fn, fnK_rt, fnK_nx, ite_bind, gIx_tup, gIx_lst, itemI0, itemI1, itemI2, itemI3, gCut_tup, gCut_lst, asB_bl, asI_int, asS_tup, asS_lst, asL_lst, gAdd_int, gAdd_tup, gAdd_lst, gSub_int, gMulA_int, gLt_int, gLe_int, gGt_int, gGe_int, fTuple_lst, fTuple_tup, fList_tup, fList_lst, fInt_int, fInt_bl, gIsi_int, gIsi_bl, gIsi_tup, gIsi_lst, gIsi_str, gIsi_non, gIsB_bl, gIsNotB_bl, M.ret_bind, M.stk_bind, M.draw_bind, M.bind_ret, ofO_some, ofO_none, List.getD_cons_zero, List.getD_cons_succ, List.set_cons_zero, List.set_cons_succ, List.length_cons, List.length_nil, List.cons_append, List.nil_append, List.append_nil, List.replicate, Nat.reduceSub, Nat.reduceAdd, Nat.reduceEqDiff, if_true, if_false, ite_true, ite_false, reduceIte, Bool.not_true, Bool.not_false, Bool.false_eq_true, Bool.true_and, Bool.false_and, Bool.and_true, Bool.and_false, len_tup, len_lst, ne_int, eq_int, setAll, Mn.wipe, Tg.go, Tg.goes, Option.bind_some, isTup, isIntT, isBlT, isStrT, isLstT, known, List.isEmpty_nil, ownOf, ap_LcF, ap_turn, FM_map, FM_ret, FM_if, FM_opt, FM_nil, oCons_some, oCons_none, noX_ret, ap_Lc2F, ap_turn2, FL_map, FL_ret, FL_nil, ap_go, ap_Wipe, numbered0, paired_map, fAll_map, fAny_map, List.length_map, cutL_from, cutL_upto, mapV_nil, mapV_cons, Int.cast_ofNat_Int, BEq.rfl, Int.reduceLT, Int.reduceLE, Int.reduceBEq, Int.zero_le_ofNat, decide_true, decide_false, ap_For, getK_ent, look_some hi', hk, Option.map_some]]
    simp only [ap_V, ap_O, ap_own, getV_val, getO_val, getO_own, getO_ownd, getL_own, ap_C, ap_1, ap_2, ap_And, ap_Or, ap_Not, ap_If, ap_aNil, ap_aCons, ap_aStar, ap_Tup, ap_Lst, ap_TupS, ap_LstS, ap_Call, ap_Chain, ap_Cut, ap_oNone, ap_oSome, ap_bV, ap_bAnd, ap_bOr, ap_bNot, ap_bYes, ap_wS, ap_Rng1, ap_Rng2, ap_TupRg1, ap_TupRg2, ap_LstRg1, ap_LstRg2, ap_Enum, ap_Enum2, ap_Zip, ap_mNil, ap_mVal, ap_mOwn, ap_sNx, ap_Seq, seqK_nx, seqK_rt, ap_Asg, ap_Set, ap_Own, ownK_lst, ownK_dct, ap_Ret, ap_sIf, ap_Stk, ap_Drop, ap_App, ap_Ext, ap_PutL, ap_Par, ap_Frz, frzS_own, frzS_val, ap_fn, fnK_rt, fnK_nx, ite_bind, gIx_tup, gIx_lst, itemI0, itemI1, itemI2, itemI3, gCut_tup, gCut_lst, asB_bl, asI_int, asS_tup, asS_lst, asL_lst, gAdd_int, gAdd_tup, gAdd_lst, gSub_int, gMulA_int, gLt_int, gLe_int, gGt_int, gGe_int, fTuple_lst, fTuple_tup, fList_tup, fList_lst, fInt_int, fInt_bl, gIsi_int, gIsi_bl, gIsi_tup, gIsi_lst, gIsi_str, gIsi_non, gIsB_bl, gIsNotB_bl, M.ret_bind, M.stk_bind, M.draw_bind, M.bind_ret, ofO_some, ofO_none, List.getD_cons_zero, List.getD_cons_succ, List.set_cons_zero, List.set_cons_succ, List.length_cons, List.length_nil, List.cons_append, List.nil_append, List.append_nil, List.replicate, Nat.reduceSub, Nat.reduceAdd, Nat.reduceEqDiff, if_true, if_false, ite_true, ite_false, reduceIte, Bool.not_true, Bool.not_false, Bool.false_eq_true, Bool.true_and, Bool.false_and, Bool.and_true, Bool.and_false, len_tup, len_lst, ne_int, eq_int, setAll, Mn.wipe, Tg.go, Tg.goes, Option.bind_some, isTup, isIntT, isBlT, isStrT, isLstT, known, List.isEmpty_nil, ownOf, ap_LcF, ap_turn, FM_map, FM_ret, FM_if, FM_opt, FM_nil, oCons_some, oCons_none, noX_ret, ap_Lc2F, ap_turn2, FL_map, FL_ret, FL_nil, ap_go, ap_Wipe, numbered0, paired_map, fAll_map, fAny_map, List.length_map, cutL_from, cutL_upto, mapV_nil, mapV_cons, Int.cast_ofNat_Int, BEq.rfl, Int.reduceLT, Int.reduceLE, Int.reduceBEq, Int.zero_le_ofNat, decide_true, decide_false, ap_For, eT, soon, List.map_map]; rfl
/-! all rows -/
def rowsN (n : Nat) : List (List Nat) := (List.range n).foldl (fun rows _ => rows.flatMap fun row => ((List.range n).filter fun i => decide (i ∉ row)).map fun i => row ++ [i]) [[]]
theorem v_rows {n : Nat} (h : n ≤ 4) : m__law_rows [.int (n : Int)] = .ret (.lst ((rowsN n).map eL)) := by
  have h' : n = 0 ∨ n = 1 ∨ n = 2 ∨ n = 3 ∨ n = 4 := by omega
  rcases h' with rfl | rfl | rfl | rfl | rfl <;> kernel_rfl
theorem rows_perm {n : Nat} (h : n ≤ 4) : ∀ row ∈ rowsN n, row.Perm (List.range n) := by
  have h' : n = 0 ∨ n = 1 ∨ n = 2 ∨ n = 3 ∨ n = 4 := by omega
  rcases h' with rfl | rfl | rfl | rfl | rfl <;> decide +kernel
theorem rows_mem (n : Nat) {row : List Nat} (hp : row.Perm (List.range n)) : row ∈ rowsN n := by
  have key : ∀ (ks : List Nat) (rows : List (List Nat)) (pre l : List Nat), pre ∈ rows → l.length = ks.length → (pre ++ l).Nodup → (∀ i ∈ l, i < n) → pre ++ l ∈ ks.foldl (fun rows _ => rows.flatMap fun row => ((List.range n).filter fun i => decide (i ∉ row)).map fun i => row ++ [i]) rows := by
    intro ks
    induction ks with
    | nil => intro rows pre l h hl _ _; rw [List.length_eq_zero_iff.mp hl, List.append_nil]; exact h
    | cons k ks ih =>
      intro rows pre l h hl hn hb
      cases l with
      | nil => simp at hl
      | cons x l =>
        rw [List.foldl_cons, show pre ++ x :: l = (pre ++ [x]) ++ l by simp]
        refine ih _ (pre ++ [x]) l ?_ (by simpa using hl) (by simpa using hn) fun i hi => hb i (List.mem_cons_of_mem _ hi)
        simp only [List.mem_flatMap, List.mem_map, List.mem_filter, List.mem_range, decide_eq_true_eq]
        exact ⟨pre, h, x, ⟨hb x List.mem_cons_self, fun hm => (List.nodup_append.mp hn).2.2 x hm x List.mem_cons_self rfl⟩, rfl⟩
  exact key (List.range n) [[]] [] row (by simp) hp.length_eq (hp.nodup_iff.mpr List.nodup_range) fun i hi => List.mem_range.mp (hp.mem_iff.mp hi)
theorem v_is_cell {vs : List Vl} (hv : ∀ v ∈ vs, okV v) (hb : vs.length ≤ 4) : m__law_is_cell [.lst (vs.map eV)] = .ret (.bl ((rowsN vs.length).any (stB (rv vs)))) := by
  simp only [m__law_is_cell, b__law_is_cell, c1__law_is_cell, ap_V, ap_O, ap_own, getV_val, getO_val, getO_own, getO_ownd, getL_own, ap_C, ap_1, ap_2, ap_And, ap_Or, ap_Not, ap_If, ap_aNil, ap_aCons, ap_aStar, ap_Tup, ap_Lst, ap_TupS, ap_LstS, ap_Call, ap_Chain, ap_Cut, ap_oNone, ap_oSome, ap_bV, ap_bAnd, ap_bOr, ap_bNot, ap_bYes, ap_wS, ap_Rng1, ap_Rng2, ap_TupRg1, ap_TupRg2, ap_LstRg1, ap_LstRg2, ap_Enum, ap_Enum2, ap_Zip, ap_mNil, ap_mVal, ap_mOwn, ap_sNx, ap_Seq, seqK_nx, seqK_rt, ap_Asg, ap_Set, ap_Own, ownK_lst, ownK_dct, ap_Ret, ap_sIf, ap_Stk, ap_Drop, ap_App, ap_Ext, ap_PutL, ap_Par, ap_Frz, frzS_own, frzS_val, ap_fn, fnK_rt, fnK_nx, ite_bind, gIx_tup, gIx_lst, itemI0, itemI1, itemI2, itemI3, gCut_tup, gCut_lst, asB_bl, asI_int, asS_tup, asS_lst, asL_lst, gAdd_int, gAdd_tup, gAdd_lst, gSub_int, gMulA_int, gLt_int, gLe_int, gGt_int, gGe_int, fTuple_lst, fTuple_tup, fList_tup, fList_lst, fInt_int, fInt_bl, gIsi_int, gIsi_bl, gIsi_tup, gIsi_lst, gIsi_str, gIsi_non, gIsB_bl, gIsNotB_bl, M.ret_bind, M.stk_bind, M.draw_bind, M.bind_ret, ofO_some, ofO_none, List.getD_cons_zero, List.getD_cons_succ, List.set_cons_zero, List.set_cons_succ, List.length_cons, List.length_nil, List.cons_append, List.nil_append, List.append_nil, List.replicate, Nat.reduceSub, Nat.reduceAdd, Nat.reduceEqDiff, if_true, if_false, ite_true, ite_false, reduceIte, Bool.not_true, Bool.not_false, Bool.false_eq_true, Bool.true_and, Bool.false_and, Bool.and_true, Bool.and_false, len_tup, len_lst, ne_int, eq_int, setAll, Mn.wipe, Tg.go, Tg.goes, Option.bind_some, isTup, isIntT, isBlT, isStrT, isLstT, known, List.isEmpty_nil, ownOf, ap_LcF, ap_turn, FM_map, FM_ret, FM_if, FM_opt, FM_nil, oCons_some, oCons_none, noX_ret, ap_Lc2F, ap_turn2, FL_map, FL_ret, FL_nil, ap_go, ap_Wipe, numbered0, paired_map, fAll_map, fAny_map, List.length_map, cutL_from, cutL_upto, mapV_nil, mapV_cons, Int.cast_ofNat_Int, BEq.rfl, Int.reduceLT, Int.reduceLE, Int.reduceBEq, Int.zero_le_ofNat, decide_true, decide_false, ap_For, v_rows hb]
  rw [FM_congr (g := fun row => if stB (rv vs) row = true then .ret (some (.int 1)) else .ret none) fun row hr => by
    have hp := rows_perm hb row hr
    simp only [t1__law_is_cell, e1__law_is_cell, ap_V, ap_O, ap_own, getV_val, getO_val, getO_own, getO_ownd, getL_own, ap_C, ap_1, ap_2, ap_And, ap_Or, ap_Not, ap_If, ap_aNil, ap_aCons, ap_aStar, ap_Tup, ap_Lst, ap_TupS, ap_LstS, ap_Call, ap_Chain, ap_Cut, ap_oNone, ap_oSome, ap_bV, ap_bAnd, ap_bOr, ap_bNot, ap_bYes, ap_wS, ap_Rng1, ap_Rng2, ap_TupRg1, ap_TupRg2, ap_LstRg1, ap_LstRg2, ap_Enum, ap_Enum2, ap_Zip, ap_mNil, ap_mVal, ap_mOwn, ap_sNx, ap_Seq, seqK_nx, seqK_rt, ap_Asg, ap_Set, ap_Own, ownK_lst, ownK_dct, ap_Ret, ap_sIf, ap_Stk, ap_Drop, ap_App, ap_Ext, ap_PutL, ap_Par, ap_Frz, frzS_own, frzS_val, ap_fn, fnK_rt, fnK_nx, ite_bind, gIx_tup, gIx_lst, itemI0, itemI1, itemI2, itemI3, gCut_tup, gCut_lst, asB_bl, asI_int, asS_tup, asS_lst, asL_lst, gAdd_int, gAdd_tup, gAdd_lst, gSub_int, gMulA_int, gLt_int, gLe_int, gGt_int, gGe_int, fTuple_lst, fTuple_tup, fList_tup, fList_lst, fInt_int, fInt_bl, gIsi_int, gIsi_bl, gIsi_tup, gIsi_lst, gIsi_str, gIsi_non, gIsB_bl, gIsNotB_bl, M.ret_bind, M.stk_bind, M.draw_bind, M.bind_ret, ofO_some, ofO_none, List.getD_cons_zero, List.getD_cons_succ, List.set_cons_zero, List.set_cons_succ, List.length_cons, List.length_nil, List.cons_append, List.nil_append, List.append_nil, List.replicate, Nat.reduceSub, Nat.reduceAdd, Nat.reduceEqDiff, if_true, if_false, ite_true, ite_false, reduceIte, Bool.not_true, Bool.not_false, Bool.false_eq_true, Bool.true_and, Bool.false_and, Bool.and_true, Bool.and_false, len_tup, len_lst, ne_int, eq_int, setAll, Mn.wipe, Tg.go, Tg.goes, Option.bind_some, isTup, isIntT, isBlT, isStrT, isLstT, known, List.isEmpty_nil, ownOf, ap_LcF, ap_turn, FM_map, FM_ret, FM_if, FM_opt, FM_nil, oCons_some, oCons_none, noX_ret, ap_Lc2F, ap_turn2, FL_map, FL_ret, FL_nil, ap_go, ap_Wipe, numbered0, paired_map, fAll_map, fAny_map, List.length_map, cutL_from, cutL_upto, mapV_nil, mapV_cons, Int.cast_ofNat_Int, BEq.rfl, Int.reduceLT, Int.reduceLE, Int.reduceBEq, Int.zero_le_ofNat, decide_true, decide_false, ap_For, v_by_row hv (by omega) hp]
    cases stB (rv vs) row <;> rfl]
  simp only [ap_V, ap_O, ap_own, getV_val, getO_val, getO_own, getO_ownd, getL_own, ap_C, ap_1, ap_2, ap_And, ap_Or, ap_Not, ap_If, ap_aNil, ap_aCons, ap_aStar, ap_Tup, ap_Lst, ap_TupS, ap_LstS, ap_Call, ap_Chain, ap_Cut, ap_oNone, ap_oSome, ap_bV, ap_bAnd, ap_bOr, ap_bNot, ap_bYes, ap_wS, ap_Rng1, ap_Rng2, ap_TupRg1, ap_TupRg2, ap_LstRg1, ap_LstRg2, ap_Enum, ap_Enum2, ap_Zip, ap_mNil, ap_mVal, ap_mOwn, ap_sNx, ap_Seq, seqK_nx, seqK_rt, ap_Asg, ap_Set, ap_Own, ownK_lst, ownK_dct, ap_Ret, ap_sIf, ap_Stk, ap_Drop, ap_App, ap_Ext, ap_PutL, ap_Par, ap_Frz, frzS_own, frzS_val, ap_fn, fnK_rt, fnK_nx, ite_bind, gIx_tup, gIx_lst, itemI0, itemI1, itemI2, itemI3, gCut_tup, gCut_lst, asB_bl, asI_int, asS_tup, asS_lst, asL_lst, gAdd_int, gAdd_tup, gAdd_lst, gSub_int, gMulA_int, gLt_int, gLe_int, gGt_int, gGe_int, fTuple_lst, fTuple_tup, fList_tup, fList_lst, fInt_int, fInt_bl, gIsi_int, gIsi_bl, gIsi_tup, gIsi_lst, gIsi_str, gIsi_non, gIsB_bl, gIsNotB_bl, M.ret_bind, M.stk_bind, M.draw_bind, M.bind_ret, ofO_some, ofO_none, List.getD_cons_zero, List.getD_cons_succ, List.set_cons_zero, List.set_cons_succ, List.length_cons, List.length_nil, List.cons_append, List.nil_append, List.append_nil, List.replicate, Nat.reduceSub, Nat.reduceAdd, Nat.reduceEqDiff, if_true, if_false, ite_true, ite_false, reduceIte, Bool.not_true, Bool.not_false, Bool.false_eq_true, Bool.true_and, Bool.false_and, Bool.and_true, Bool.and_false, len_tup, len_lst, ne_int, eq_int, setAll, Mn.wipe, Tg.go, Tg.goes, Option.bind_some, isTup, isIntT, isBlT, isStrT, isLstT, known, List.isEmpty_nil, ownOf, ap_LcF, ap_turn, FM_map, FM_ret, FM_if, FM_opt, FM_nil, oCons_some, oCons_none, noX_ret, ap_Lc2F, ap_turn2, FL_map, FL_ret, FL_nil, ap_go, ap_Wipe, numbered0, paired_map, fAll_map, fAny_map, List.length_map, cutL_from, cutL_upto, mapV_nil, mapV_cons, Int.cast_ofNat_Int, BEq.rfl, Int.reduceLT, Int.reduceLE, Int.reduceBEq, Int.zero_le_ofNat, decide_true, decide_false, ap_For, neNil (enc := fun _ => D.int 1) _ (fun _ _ => rfl)]
  congr 2
  induction rowsN vs.length with
  | nil => rfl
  | cons x l ih =>
    rw [List.filter_cons, List.any_cons, ← ih]
    cases stB (rv vs) x <;> simp
end Hd

set_option maxHeartbeats 1000000
set_option maxRecDepth 100000
namespace Hd
open Mn
theorem odd_comm (a b : Vl) : odd a b = odd b a := Bool.and_comm _ _
def badF (vs : List Vl) (p : Vl × Nat) : Bool := !(ear p.1).isEmpty || (vs.take p.2).any fun a => odd p.1 a
def fitB (vs : List Vl) : Bool := !(vs.zipIdx.any (badF vs))
theorem any_badF : ∀ (l m : List Vl), (l.zipIdx m.length).any (badF (m ++ l)) = false ↔ (∀ v ∈ l, ear v = []) ∧ (∀ b ∈ l, ∀ a ∈ m, odd b a = false) ∧ l.Pairwise fun a b => odd a b = false
  | [], m => by simp
  | x :: l, m => by
    have ih := any_badF l (m ++ [x])
    rw [List.length_append, List.length_singleton, List.append_assoc, List.singleton_append] at ih
    rw [List.zipIdx_cons, List.any_cons, Bool.or_eq_false_iff, ih, badF, Bool.or_eq_false_iff]
    have e : (m ++ x :: l).take m.length = m := by simp
    rw [e, List.pairwise_cons]
    simp only [Bool.not_eq_eq_eq_not, Bool.not_false, List.isEmpty_iff, List.any_eq_false, List.mem_cons, forall_eq_or_imp, List.mem_append, List.mem_singleton, Bool.not_eq_true]
    constructor
    · rintro ⟨⟨a, b⟩, c, d, e⟩
      exact ⟨⟨a, c⟩, ⟨b, fun y hy z hz => d y hy z (.inl hz)⟩, fun y hy => by rw [odd_comm]; exact d y hy x (.inr (.inl rfl)), e⟩
    · rintro ⟨⟨a, b⟩, ⟨c, d⟩, e, f⟩
      refine ⟨⟨a, c⟩, b, fun y hy z hz => ?_, f⟩
      rcases hz with hz | hz
      · exact d y hy z hz
      · rcases hz with rfl | hz
        · rw [odd_comm]; exact e y hy
        · cases hz
theorem fitB_iff (vs : List Vl) : fitB vs = true ↔ (∀ v ∈ vs, ear v = []) ∧ vs.Pairwise fun a b => odd a b = false := by
  have h := any_badF vs []
  rw [List.nil_append, List.length_nil] at h
  unfold fitB
  rw [Bool.not_eq_true', h]
  simp
theorem v__law_fits {vs : List Vl} (hv : ∀ v ∈ vs, okV v) : m__law_fits [.lst (vs.map eV)] = .ret (.bl (fitB vs)) := by
  simp only [m__law_fits, b__law_fits, l1__law_fits, ap_V, ap_O, ap_own, getV_val, getO_val, getO_own, getO_ownd, getL_own, ap_C, ap_1, ap_2, ap_And, ap_Or, ap_Not, ap_If, ap_aNil, ap_aCons, ap_aStar, ap_Tup, ap_Lst, ap_TupS, ap_LstS, ap_Call, ap_Chain, ap_Cut, ap_oNone, ap_oSome, ap_bV, ap_bAnd, ap_bOr, ap_bNot, ap_bYes, ap_wS, ap_Rng1, ap_Rng2, ap_TupRg1, ap_TupRg2, ap_LstRg1, ap_LstRg2, ap_Enum, ap_Enum2, ap_Zip, ap_mNil, ap_mVal, ap_mOwn, ap_sNx, ap_Seq, seqK_nx, seqK_rt, ap_Asg, ap_Set, ap_Own, ownK_lst, ownK_dct, ap_Ret, ap_sIf, ap_Stk, ap_Drop, ap_App, ap_Ext, ap_PutL, ap_Par, ap_Frz, frzS_own, frzS_val, ap_fn, fnK_rt, fnK_nx, ite_bind, gIx_tup, gIx_lst, itemI0, itemI1, itemI2, itemI3, gCut_tup, gCut_lst, asB_bl, asI_int, asS_tup, asS_lst, asL_lst, gAdd_int, gAdd_tup, gAdd_lst, gSub_int, gMulA_int, gLt_int, gLe_int, gGt_int, gGe_int, fTuple_lst, fTuple_tup, fList_tup, fList_lst, fInt_int, fInt_bl, gIsi_int, gIsi_bl, gIsi_tup, gIsi_lst, gIsi_str, gIsi_non, gIsB_bl, gIsNotB_bl, M.ret_bind, M.stk_bind, M.draw_bind, M.bind_ret, ofO_some, ofO_none, List.getD_cons_zero, List.getD_cons_succ, List.set_cons_zero, List.set_cons_succ, List.length_cons, List.length_nil, List.cons_append, List.nil_append, List.append_nil, List.replicate, Nat.reduceSub, Nat.reduceAdd, Nat.reduceEqDiff, if_true, if_false, ite_true, ite_false, reduceIte, Bool.not_true, Bool.not_false, Bool.false_eq_true, Bool.true_and, Bool.false_and, Bool.and_true, Bool.and_false, len_tup, len_lst, ne_int, eq_int, setAll, Mn.wipe, Tg.go, Tg.goes, Option.bind_some, isTup, isIntT, isBlT, isStrT, isLstT, known, List.isEmpty_nil, ownOf, ap_LcF, ap_turn, FM_map, FM_ret, FM_if, FM_opt, FM_nil, oCons_some, oCons_none, noX_ret, ap_Lc2F, ap_turn2, FL_map, FL_ret, FL_nil, ap_go, ap_Wipe, numbered0, paired_map, fAll_map, fAny_map, List.length_map, cutL_from, cutL_upto, mapV_nil, mapV_cons, Int.cast_ofNat_Int, BEq.rfl, Int.reduceLT, Int.reduceLE, Int.reduceBEq, Int.zero_le_ofNat, decide_true, decide_false, ap_For]
  obtain ⟨σ', e⟩ := for_find (g := .t [.n 1, .n 2]) (b := lb1__law_fits) (enc := fun p : Vl × Nat => D.tup [.int (p.2 : Nat), eV p.1]) (p := badF vs) (σ := [.val (.lst (vs.map eV)), .un, .un, .un]) (r := .bl false) (σr := fun p => [.val (.lst (vs.map eV)), .val (.int (p.2 : Nat)), .val (eV p.1), .un]) vs.zipIdx fun p hp => by
    have hp1 := hv _ (mem_zipIdx0 hp).1
    have hx : ∀ a ∈ vs.take p.2, okV a := fun a ha => hv a (List.mem_of_mem_take ha)
    rw [show badF vs p = (!(ear p.1).isEmpty || (vs.take p.2).any fun a => odd p.1 a) from rfl]
    have h1 := neNil (enc := D.int) (ear p.1) fun _ _ => rfl
    have h2 := neNil (enc := fun _ : Vl => D.int 1) ((vs.take p.2).filter fun a => odd p.1 a) fun _ _ => rfl
    have e3 : (!((vs.take p.2).filter fun a => odd p.1 a).isEmpty) = (vs.take p.2).any fun a => odd p.1 a := by
      generalize vs.take p.2 = l
      induction l with
      | nil => rfl
      | cons x l ih =>
        rw [List.filter_cons, List.any_cons, ← ih]
        cases odd p.1 x <;> simp
    simp only [lb1__law_fits, c1__law_fits, ap_V, ap_O, ap_own, getV_val, getO_val, getO_own, getO_ownd, getL_own, ap_C, ap_1, ap_2, ap_And, ap_Or, ap_Not, ap_If, ap_aNil, ap_aCons, ap_aStar, ap_Tup, ap_Lst, ap_TupS, ap_LstS, ap_Call, ap_Chain, ap_Cut, ap_oNone, ap_oSome, ap_bV, ap_bAnd, ap_bOr, ap_bNot, ap_bYes, ap_wS, ap_Rng1, ap_Rng2, ap_TupRg1, ap_TupRg2, ap_LstRg1, ap_LstRg2, ap_Enum, ap_Enum2, ap_Zip, ap_mNil, ap_mVal, ap_mOwn, ap_sNx, ap_Seq, seqK_nx, seqK_rt, ap_Asg, ap_Set, ap_Own, ownK_lst, ownK_dct, ap_Ret, ap_sIf, ap_Stk, ap_Drop, ap_App, ap_Ext, ap_PutL, ap_Par, ap_Frz, frzS_own, frzS_val, ap_fn, fnK_rt, fnK_nx, ite_bind, gIx_tup, gIx_lst, itemI0, itemI1, itemI2, itemI3, gCut_tup, gCut_lst, asB_bl, asI_int, asS_tup, asS_lst, asL_lst, gAdd_int, gAdd_tup, gAdd_lst, gSub_int, gMulA_int, gLt_int, gLe_int, gGt_int, gGe_int, fTuple_lst, fTuple_tup, fList_tup, fList_lst, fInt_int, fInt_bl, gIsi_int, gIsi_bl, gIsi_tup, gIsi_lst, gIsi_str, gIsi_non, gIsB_bl, gIsNotB_bl, M.ret_bind, M.stk_bind, M.draw_bind, M.bind_ret, ofO_some, ofO_none, List.getD_cons_zero, List.getD_cons_succ, List.set_cons_zero, List.set_cons_succ, List.length_cons, List.length_nil, List.cons_append, List.nil_append, List.append_nil, List.replicate, Nat.reduceSub, Nat.reduceAdd, Nat.reduceEqDiff, if_true, if_false, ite_true, ite_false, reduceIte, Bool.not_true, Bool.not_false, Bool.false_eq_true, Bool.true_and, Bool.false_and, Bool.and_true, Bool.and_false, len_tup, len_lst, ne_int, eq_int, setAll, Mn.wipe, Tg.go, Tg.goes, Option.bind_some, isTup, isIntT, isBlT, isStrT, isLstT, known, List.isEmpty_nil, ownOf, ap_LcF, ap_turn, FM_map, FM_ret, FM_if, FM_opt, FM_nil, oCons_some, oCons_none, noX_ret, ap_Lc2F, ap_turn2, FL_map, FL_ret, FL_nil, ap_go, ap_Wipe, numbered0, paired_map, fAll_map, fAny_map, List.length_map, cutL_from, cutL_upto, mapV_nil, mapV_cons, Int.cast_ofNat_Int, BEq.rfl, Int.reduceLT, Int.reduceLE, Int.reduceBEq, Int.zero_le_ofNat, decide_true, decide_false, ap_For, v__law_early, h1, cutL_upto, ← List.map_take]
    cases he : (ear p.1).isEmpty with
    | false => simp only [ap_V, ap_O, ap_own, getV_val, getO_val, getO_own, getO_ownd, getL_own, ap_C, ap_1, ap_2, ap_And, ap_Or, ap_Not, ap_If, ap_aNil, ap_aCons, ap_aStar, ap_Tup, ap_Lst, ap_TupS, ap_LstS, ap_Call, ap_Chain, ap_Cut, ap_oNone, ap_oSome, ap_bV, ap_bAnd, ap_bOr, ap_bNot, ap_bYes, ap_wS, ap_Rng1, ap_Rng2, ap_TupRg1, ap_TupRg2, ap_LstRg1, ap_LstRg2, ap_Enum, ap_Enum2, ap_Zip, ap_mNil, ap_mVal, ap_mOwn, ap_sNx, ap_Seq, seqK_nx, seqK_rt, ap_Asg, ap_Set, ap_Own, ownK_lst, ownK_dct, ap_Ret, ap_sIf, ap_Stk, ap_Drop, ap_App, ap_Ext, ap_PutL, ap_Par, ap_Frz, frzS_own, frzS_val, ap_fn, fnK_rt, fnK_nx, ite_bind, gIx_tup, gIx_lst, itemI0, itemI1, itemI2, itemI3, gCut_tup, gCut_lst, asB_bl, asI_int, asS_tup, asS_lst, asL_lst, gAdd_int, gAdd_tup, gAdd_lst, gSub_int, gMulA_int, gLt_int, gLe_int, gGt_int, gGe_int, fTuple_lst, fTuple_tup, fList_tup, fList_lst, fInt_int, fInt_bl, gIsi_int, gIsi_bl, gIsi_tup, gIsi_lst, gIsi_str, gIsi_non, gIsB_bl, gIsNotB_bl, M.ret_bind, M.stk_bind, M.draw_bind, M.bind_ret, ofO_some, ofO_none, List.getD_cons_zero, List.getD_cons_succ, List.set_cons_zero, List.set_cons_succ, List.length_cons, List.length_nil, List.cons_append, List.nil_append, List.append_nil, List.replicate, Nat.reduceSub, Nat.reduceAdd, Nat.reduceEqDiff, if_true, if_false, ite_true, ite_false, reduceIte, Bool.not_true, Bool.not_false, Bool.false_eq_true, Bool.true_and, Bool.false_and, Bool.and_true, Bool.and_false, len_tup, len_lst, ne_int, eq_int, setAll, Mn.wipe, Tg.go, Tg.goes, Option.bind_some, isTup, isIntT, isBlT, isStrT, isLstT, known, List.isEmpty_nil, ownOf, ap_LcF, ap_turn, FM_map, FM_ret, FM_if, FM_opt, FM_nil, oCons_some, oCons_none, noX_ret, ap_Lc2F, ap_turn2, FL_map, FL_ret, FL_nil, ap_go, ap_Wipe, numbered0, paired_map, fAll_map, fAny_map, List.length_map, cutL_from, cutL_upto, mapV_nil, mapV_cons, Int.cast_ofNat_Int, BEq.rfl, Int.reduceLT, Int.reduceLE, Int.reduceBEq, Int.zero_le_ofNat, decide_true, decide_false, ap_For, Bool.true_or]
    | true =>
      simp only [ap_V, ap_O, ap_own, getV_val, getO_val, getO_own, getO_ownd, getL_own, ap_C, ap_1, ap_2, ap_And, ap_Or, ap_Not, ap_If, ap_aNil, ap_aCons, ap_aStar, ap_Tup, ap_Lst, ap_TupS, ap_LstS, ap_Call, ap_Chain, ap_Cut, ap_oNone, ap_oSome, ap_bV, ap_bAnd, ap_bOr, ap_bNot, ap_bYes, ap_wS, ap_Rng1, ap_Rng2, ap_TupRg1, ap_TupRg2, ap_LstRg1, ap_LstRg2, ap_Enum, ap_Enum2, ap_Zip, ap_mNil, ap_mVal, ap_mOwn, ap_sNx, ap_Seq, seqK_nx, seqK_rt, ap_Asg, ap_Set, ap_Own, ownK_lst, ownK_dct, ap_Ret, ap_sIf, ap_Stk, ap_Drop, ap_App, ap_Ext, ap_PutL, ap_Par, ap_Frz, frzS_own, frzS_val, ap_fn, fnK_rt, fnK_nx, ite_bind, gIx_tup, gIx_lst, itemI0, itemI1, itemI2, itemI3, gCut_tup, gCut_lst, asB_bl, asI_int, asS_tup, asS_lst, asL_lst, gAdd_int, gAdd_tup, gAdd_lst, gSub_int, gMulA_int, gLt_int, gLe_int, gGt_int, gGe_int, fTuple_lst, fTuple_tup, fList_tup, fList_lst, fInt_int, fInt_bl, gIsi_int, gIsi_bl, gIsi_tup, gIsi_lst, gIsi_str, gIsi_non, gIsB_bl, gIsNotB_bl, M.ret_bind, M.stk_bind, M.draw_bind, M.bind_ret, ofO_some, ofO_none, List.getD_cons_zero, List.getD_cons_succ, List.set_cons_zero, List.set_cons_succ, List.length_cons, List.length_nil, List.cons_append, List.nil_append, List.append_nil, List.replicate, Nat.reduceSub, Nat.reduceAdd, Nat.reduceEqDiff, if_true, if_false, ite_true, ite_false, reduceIte, Bool.not_true, Bool.not_false, Bool.false_eq_true, Bool.true_and, Bool.false_and, Bool.and_true, Bool.and_false, len_tup, len_lst, ne_int, eq_int, setAll, Mn.wipe, Tg.go, Tg.goes, Option.bind_some, isTup, isIntT, isBlT, isStrT, isLstT, known, List.isEmpty_nil, ownOf, ap_LcF, ap_turn, FM_map, FM_ret, FM_if, FM_opt, FM_nil, oCons_some, oCons_none, noX_ret, ap_Lc2F, ap_turn2, FL_map, FL_ret, FL_nil, ap_go, ap_Wipe, numbered0, paired_map, fAll_map, fAny_map, List.length_map, cutL_from, cutL_upto, mapV_nil, mapV_cons, Int.cast_ofNat_Int, BEq.rfl, Int.reduceLT, Int.reduceLE, Int.reduceBEq, Int.zero_le_ofNat, decide_true, decide_false, ap_For, Bool.false_or, cutL_upto, ← List.map_take]
      rw [FM_congr (g := fun a => if odd p.1 a = true then .ret (some (.int 1)) else .ret none) fun a ha => by
        simp only [t1__law_fits, e1__law_fits, ap_V, ap_O, ap_own, getV_val, getO_val, getO_own, getO_ownd, getL_own, ap_C, ap_1, ap_2, ap_And, ap_Or, ap_Not, ap_If, ap_aNil, ap_aCons, ap_aStar, ap_Tup, ap_Lst, ap_TupS, ap_LstS, ap_Call, ap_Chain, ap_Cut, ap_oNone, ap_oSome, ap_bV, ap_bAnd, ap_bOr, ap_bNot, ap_bYes, ap_wS, ap_Rng1, ap_Rng2, ap_TupRg1, ap_TupRg2, ap_LstRg1, ap_LstRg2, ap_Enum, ap_Enum2, ap_Zip, ap_mNil, ap_mVal, ap_mOwn, ap_sNx, ap_Seq, seqK_nx, seqK_rt, ap_Asg, ap_Set, ap_Own, ownK_lst, ownK_dct, ap_Ret, ap_sIf, ap_Stk, ap_Drop, ap_App, ap_Ext, ap_PutL, ap_Par, ap_Frz, frzS_own, frzS_val, ap_fn, fnK_rt, fnK_nx, ite_bind, gIx_tup, gIx_lst, itemI0, itemI1, itemI2, itemI3, gCut_tup, gCut_lst, asB_bl, asI_int, asS_tup, asS_lst, asL_lst, gAdd_int, gAdd_tup, gAdd_lst, gSub_int, gMulA_int, gLt_int, gLe_int, gGt_int, gGe_int, fTuple_lst, fTuple_tup, fList_tup, fList_lst, fInt_int, fInt_bl, gIsi_int, gIsi_bl, gIsi_tup, gIsi_lst, gIsi_str, gIsi_non, gIsB_bl, gIsNotB_bl, M.ret_bind, M.stk_bind, M.draw_bind, M.bind_ret, ofO_some, ofO_none, List.getD_cons_zero, List.getD_cons_succ, List.set_cons_zero, List.set_cons_succ, List.length_cons, List.length_nil, List.cons_append, List.nil_append, List.append_nil, List.replicate, Nat.reduceSub, Nat.reduceAdd, Nat.reduceEqDiff, if_true, if_false, ite_true, ite_false, reduceIte, Bool.not_true, Bool.not_false, Bool.false_eq_true, Bool.true_and, Bool.false_and, Bool.and_true, Bool.and_false, len_tup, len_lst, ne_int, eq_int, setAll, Mn.wipe, Tg.go, Tg.goes, Option.bind_some, isTup, isIntT, isBlT, isStrT, isLstT, known, List.isEmpty_nil, ownOf, ap_LcF, ap_turn, FM_map, FM_ret, FM_if, FM_opt, FM_nil, oCons_some, oCons_none, noX_ret, ap_Lc2F, ap_turn2, FL_map, FL_ret, FL_nil, ap_go, ap_Wipe, numbered0, paired_map, fAll_map, fAny_map, List.length_map, cutL_from, cutL_upto, mapV_nil, mapV_cons, Int.cast_ofNat_Int, BEq.rfl, Int.reduceLT, Int.reduceLE, Int.reduceBEq, Int.zero_le_ofNat, decide_true, decide_false, ap_For, v__law_odd hp1 (hx a ha)]]
      simp only [ap_V, ap_O, ap_own, getV_val, getO_val, getO_own, getO_ownd, getL_own, ap_C, ap_1, ap_2, ap_And, ap_Or, ap_Not, ap_If, ap_aNil, ap_aCons, ap_aStar, ap_Tup, ap_Lst, ap_TupS, ap_LstS, ap_Call, ap_Chain, ap_Cut, ap_oNone, ap_oSome, ap_bV, ap_bAnd, ap_bOr, ap_bNot, ap_bYes, ap_wS, ap_Rng1, ap_Rng2, ap_TupRg1, ap_TupRg2, ap_LstRg1, ap_LstRg2, ap_Enum, ap_Enum2, ap_Zip, ap_mNil, ap_mVal, ap_mOwn, ap_sNx, ap_Seq, seqK_nx, seqK_rt, ap_Asg, ap_Set, ap_Own, ownK_lst, ownK_dct, ap_Ret, ap_sIf, ap_Stk, ap_Drop, ap_App, ap_Ext, ap_PutL, ap_Par, ap_Frz, frzS_own, frzS_val, ap_fn, fnK_rt, fnK_nx, ite_bind, gIx_tup, gIx_lst, itemI0, itemI1, itemI2, itemI3, gCut_tup, gCut_lst, asB_bl, asI_int, asS_tup, asS_lst, asL_lst, gAdd_int, gAdd_tup, gAdd_lst, gSub_int, gMulA_int, gLt_int, gLe_int, gGt_int, gGe_int, fTuple_lst, fTuple_tup, fList_tup, fList_lst, fInt_int, fInt_bl, gIsi_int, gIsi_bl, gIsi_tup, gIsi_lst, gIsi_str, gIsi_non, gIsB_bl, gIsNotB_bl, M.ret_bind, M.stk_bind, M.draw_bind, M.bind_ret, ofO_some, ofO_none, List.getD_cons_zero, List.getD_cons_succ, List.set_cons_zero, List.set_cons_succ, List.length_cons, List.length_nil, List.cons_append, List.nil_append, List.append_nil, List.replicate, Nat.reduceSub, Nat.reduceAdd, Nat.reduceEqDiff, if_true, if_false, ite_true, ite_false, reduceIte, Bool.not_true, Bool.not_false, Bool.false_eq_true, Bool.true_and, Bool.false_and, Bool.and_true, Bool.and_false, len_tup, len_lst, ne_int, eq_int, setAll, Mn.wipe, Tg.go, Tg.goes, Option.bind_some, isTup, isIntT, isBlT, isStrT, isLstT, known, List.isEmpty_nil, ownOf, ap_LcF, ap_turn, FM_map, FM_ret, FM_if, FM_opt, FM_nil, oCons_some, oCons_none, noX_ret, ap_Lc2F, ap_turn2, FL_map, FL_ret, FL_nil, ap_go, ap_Wipe, numbered0, paired_map, fAll_map, fAny_map, List.length_map, cutL_from, cutL_upto, mapV_nil, mapV_cons, Int.cast_ofNat_Int, BEq.rfl, Int.reduceLT, Int.reduceLE, Int.reduceBEq, Int.zero_le_ofNat, decide_true, decide_false, ap_For, h2, e3]
  rw [e]
  unfold fitB
  cases (vs.zipIdx.any (badF vs)) <;> rfl
/-! some row has a placing exactly if all is well two by two -/
theorem stB_odd {a b : Vl} (h : far a ≤ near b) : odd a b = false := by
  unfold odd frc
  have : ¬ near b < far a := by omega
  simp [this]
theorem first_of (f : Nat → Vl) : ∀ l : List Nat, l ≠ [] → (l.Pairwise fun i j => odd (f i) (f j) = false) → ∃ i l', (i :: l').Perm l ∧ ∀ j ∈ l', far (f i) ≤ near (f j) := by
  intro l hne hp
  obtain ⟨m, us, hm, hmin⟩ : ∃ m us, (m :: us).Perm l ∧ ∀ u ∈ us, near (f m) ≤ near (f u) := by
    clear hp
    induction l with
    | nil => exact absurd rfl hne
    | cons x l ih =>
      by_cases hl : l = []
      · subst hl; exact ⟨x, [], .refl _, fun u hu => by cases hu⟩
      · obtain ⟨m, us, h1, h2⟩ := ih hl
        by_cases hx : near (f x) ≤ near (f m)
        · refine ⟨x, l, .refl _, fun u hu => ?_⟩
          rcases List.mem_cons.mp (h1.mem_iff.mpr hu) with rfl | hu
          · exact hx
          · exact Int.le_trans hx (h2 u hu)
        · refine ⟨m, x :: us, (List.Perm.swap x m us).trans (h1.cons x), fun u hu => ?_⟩
          rcases List.mem_cons.mp hu with rfl | hu
          · omega
          · exact h2 u hu
  have hp' : (m :: us).Pairwise fun i j => odd (f i) (f j) = false := (hm.pairwise_iff fun {a b} h => by rw [odd_comm]; exact h).mpr hp
  by_cases hall : ∀ u ∈ us, far (f m) ≤ near (f u)
  · exact ⟨m, us, hm, hall⟩
  · have : ∃ u ∈ us, near (f u) < far (f m) := by
      refine Classical.byContradiction fun h => hall fun u hu => ?_
      by_cases hh : far (f m) ≤ near (f u)
      · exact hh
      · exact (h ⟨u, hu, by omega⟩).elim
    obtain ⟨u, hu, hlt⟩ := this
    have ho := (List.pairwise_cons.mp hp').1 u hu
    have hfu : far (f u) ≤ near (f m) := by
      unfold odd frc at ho
      have h1 : decide (near (f u) < far (f m)) = true := decide_eq_true hlt
      rw [h1, Bool.and_true, decide_eq_false_iff_not] at ho
      omega
    refine ⟨u, m :: us.erase u, ?_, fun j hj => ?_⟩
    · exact (List.Perm.swap m u _).trans (((List.perm_cons_erase hu).symm.cons m).trans hm)
    · rcases List.mem_cons.mp hj with rfl | hj
      · exact hfu
      · exact Int.le_trans hfu (hmin j (List.mem_of_mem_erase hj))
theorem some_row (f : Nat → Vl) : ∀ (n : Nat) (l : List Nat), l.length = n → (∀ i ∈ l, ear (f i) = []) → (l.Pairwise fun i j => odd (f i) (f j) = false) → ∃ row : List Nat, row.Perm l ∧ stB f row = true
  | 0, l, hl, _, _ => ⟨[], by rw [List.length_eq_zero_iff.mp hl], rfl⟩
  | n + 1, l, hl, he, hp => by
    obtain ⟨i, l', h1, h2⟩ := first_of f l (fun e => by rw [e] at hl; cases hl) hp
    have hp' : (i :: l').Pairwise fun i j => odd (f i) (f j) = false := (h1.pairwise_iff fun {a b} h => by rw [odd_comm]; exact h).mpr hp
    obtain ⟨row, r1, r2⟩ := some_row f n l' (by have := h1.length_eq; simp at this; omega) (fun j hj => he j (h1.mem_iff.mp (List.mem_cons_of_mem _ hj))) (List.pairwise_cons.mp hp').2
    refine ⟨i :: row, (r1.cons i).trans h1, ?_⟩
    rw [stB_iff] at r2 ⊢
    refine ⟨fun j hj => ?_, List.pairwise_cons.mpr ⟨fun j hj => h2 j (r1.mem_iff.mp hj), r2.2⟩⟩
    rcases List.mem_cons.mp hj with rfl | hj
    · exact he j (h1.mem_iff.mp List.mem_cons_self)
    · exact r2.1 j hj
theorem row_fits {f : Nat → Vl} {row l : List Nat} (hp : row.Perm l) (h : stB f row = true) : (∀ i ∈ l, ear (f i) = []) ∧ l.Pairwise fun i j => odd (f i) (f j) = false := by
  rw [stB_iff] at h
  refine ⟨fun i hi => h.1 i (hp.mem_iff.mpr hi), ?_⟩
  exact (hp.pairwise_iff fun {a b} h => by rw [odd_comm]; exact h).mp (h.2.imp stB_odd)
theorem any_row (f : Nat → Vl) {n : Nat} (hn : n ≤ 4) : (rowsN n).any (stB f) = true ↔ (∀ i < n, ear (f i) = []) ∧ (List.range n).Pairwise fun i j => odd (f i) (f j) = false := by
  rw [List.any_eq_true]
  constructor
  · rintro ⟨row, hr, h⟩
    obtain ⟨a, b⟩ := row_fits (rows_perm hn row hr) h
    exact ⟨fun i hi => a i (List.mem_range.mpr hi), b⟩
  · rintro ⟨a, b⟩
    obtain ⟨row, h1, h2⟩ := some_row f n (List.range n) List.length_range (fun i hi => a i (List.mem_range.mp hi)) b
    exact ⟨row, rows_mem n h1, h2⟩
/-- by the values of a lot -/
theorem any_row_fit {vs : List Vl} (hn : vs.length ≤ 4) : (rowsN vs.length).any (stB (rv vs)) = fitB vs := by
  rw [Bool.eq_iff_iff, any_row (rv vs) hn, fitB_iff]
  have e : vs = (List.range vs.length).map (rv vs) := by
    refine List.ext_getElem (by simp) fun i h1 h2 => ?_
    simp only [List.getElem_map, List.getElem_range]
    rw [rv_eq h1]
  constructor
  · rintro ⟨a, b⟩
    refine ⟨fun v hv => ?_, ?_⟩
    · obtain ⟨i, hi, rfl⟩ := List.mem_iff_getElem.mp hv
      rw [← rv_eq hi]; exact a i hi
    · rw [e, List.pairwise_map]; exact b
  · rintro ⟨a, b⟩
    refine ⟨fun i hi => by rw [rv_eq hi]; exact a _ (List.getElem_mem hi), ?_⟩
    rw [e, List.pairwise_map] at b
    exact b
theorem opL_nil (r : List Vl) : ∀ l : List Nat, opL r l = [] ↔ l.Pairwise fun i j => oddI r i j = false
  | [] => by simp [opL]
  | i :: l => by
    rw [opL, List.append_eq_nil_iff, opL_nil r l, List.pairwise_cons, List.map_eq_nil_iff, List.filter_eq_nil_iff]
    simp only [Bool.not_eq_true]
theorem oddI_ne {r : List Vl} {i j : Nat} (h : i ≠ j) : oddI r i j = odd (rv r i) (rv r j) := by
  unfold oddI
  have : ((i : Int) == (j : Int)) = false := by rw [beq_eq_false_iff_ne]; omega
  rw [this]; rfl
theorem rgt_fit {r : List Vl} {l : List Nat} (h : l.Pairwise (· < ·)) : rgt r l = fitB (l.map (rv r)) := by
  rw [Bool.eq_iff_iff, fitB_iff, rgt, Bool.and_eq_true_iff, List.isEmpty_iff, List.isEmpty_iff, opL_nil, List.flatMap_eq_nil_iff]
  have e : (∀ i ∈ l, bds r i = []) ↔ ∀ v ∈ l.map (rv r), ear v = [] := by
    simp only [bds, List.map_eq_nil_iff, List.mem_map, forall_exists_index, and_imp, forall_apply_eq_imp_iff₂]
  have e2 : (l.Pairwise fun i j => oddI r i j = false) ↔ (l.map (rv r)).Pairwise fun a b => odd a b = false := by
    rw [List.pairwise_map]
    constructor
    · intro k
      refine (h.and k).imp fun ⟨h1, h2⟩ => ?_
      rw [oddI_ne (Nat.ne_of_lt h1)] at h2; exact h2
    · intro k
      refine (h.and k).imp fun ⟨h1, h2⟩ => ?_
      rw [oddI_ne (Nat.ne_of_lt h1)]; exact h2
  rw [e, e2]
theorem seqd_fit {G : List Vl} {t : Int} (h : Seqd G t) : (∀ v ∈ G, ear v = []) ∧ G.Pairwise fun a b => odd a b = false := ⟨fun v hv => (h.1 v hv).2, h.2.imp stB_odd⟩
theorem fit_sub {r : List Vl} (h : (∀ v ∈ r, ear v = []) ∧ r.Pairwise fun a b => odd a b = false) {l : List Nat} (hp : l.Pairwise (· < ·)) (hl : ∀ i ∈ l, i < r.length) : fitB (l.map (rv r)) = true := by
  rw [fitB_iff]
  refine ⟨fun v hv => ?_, ?_⟩
  · obtain ⟨i, hi, rfl⟩ := List.mem_map.mp hv
    rw [rv_eq (hl i hi)]; exact h.1 _ (List.getElem_mem _)
  · rw [List.pairwise_map]
    have h2 : ∀ i j, i < r.length → j < r.length → i < j → odd (rv r i) (rv r j) = false := fun i j hi hj hij => by
      rw [rv_eq hi, rv_eq hj]
      exact List.pairwise_iff_getElem.mp h.2 i j hi hj hij
    exact List.Pairwise.imp_of_mem (fun {i j} hi hj hij => h2 i j (hl i hi) (hl j hj) hij) hp
theorem v_all_odds {r : List Vl} (h : okR r) : m_all_odds [eR r] = .ret (.tup ((opL r (List.range r.length)).map eQ)) := by
  have h1 : (r.length : Int) ≤ 16777216 ∧ -16777216 ≤ (r.length : Int) := by have := h.1; omega
  have ho := v_odds_in h (l := List.range r.length) (fun i hi => List.mem_range.mp hi) (by rw [List.length_range]; have := h.1; omega)
  have e : D.tup (upTo 0 r.length) = eL (List.range r.length) := by rw [upTo0]; rfl
  simp only [m_all_odds, b_all_odds, ap_V, ap_O, ap_own, getV_val, getO_val, getO_own, getO_ownd, getL_own, ap_C, ap_1, ap_2, ap_And, ap_Or, ap_Not, ap_If, ap_aNil, ap_aCons, ap_aStar, ap_Tup, ap_Lst, ap_TupS, ap_LstS, ap_Call, ap_Chain, ap_Cut, ap_oNone, ap_oSome, ap_bV, ap_bAnd, ap_bOr, ap_bNot, ap_bYes, ap_wS, ap_Rng1, ap_Rng2, ap_TupRg1, ap_TupRg2, ap_LstRg1, ap_LstRg2, ap_Enum, ap_Enum2, ap_Zip, ap_mNil, ap_mVal, ap_mOwn, ap_sNx, ap_Seq, seqK_nx, seqK_rt, ap_Asg, ap_Set, ap_Own, ownK_lst, ownK_dct, ap_Ret, ap_sIf, ap_Stk, ap_Drop, ap_App, ap_Ext, ap_PutL, ap_Par, ap_Frz, frzS_own, frzS_val, ap_fn, fnK_rt, fnK_nx, ite_bind, gIx_tup, gIx_lst, itemI0, itemI1, itemI2, itemI3, gCut_tup, gCut_lst, asB_bl, asI_int, asS_tup, asS_lst, asL_lst, gAdd_int, gAdd_tup, gAdd_lst, gSub_int, gMulA_int, gLt_int, gLe_int, gGt_int, gGe_int, fTuple_lst, fTuple_tup, fList_tup, fList_lst, fInt_int, fInt_bl, gIsi_int, gIsi_bl, gIsi_tup, gIsi_lst, gIsi_str, gIsi_non, gIsB_bl, gIsNotB_bl, M.ret_bind, M.stk_bind, M.draw_bind, M.bind_ret, ofO_some, ofO_none, List.getD_cons_zero, List.getD_cons_succ, List.set_cons_zero, List.set_cons_succ, List.length_cons, List.length_nil, List.cons_append, List.nil_append, List.append_nil, List.replicate, Nat.reduceSub, Nat.reduceAdd, Nat.reduceEqDiff, if_true, if_false, ite_true, ite_false, reduceIte, Bool.not_true, Bool.not_false, Bool.false_eq_true, Bool.true_and, Bool.false_and, Bool.and_true, Bool.and_false, len_tup, len_lst, ne_int, eq_int, setAll, Mn.wipe, Tg.go, Tg.goes, Option.bind_some, isTup, isIntT, isBlT, isStrT, isLstT, known, List.isEmpty_nil, ownOf, ap_LcF, ap_turn, FM_map, FM_ret, FM_if, FM_opt, FM_nil, oCons_some, oCons_none, noX_ret, ap_Lc2F, ap_turn2, FL_map, FL_ret, FL_nil, ap_go, ap_Wipe, numbered0, paired_map, fAll_map, fAny_map, List.length_map, cutL_from, cutL_upto, mapV_nil, mapV_cons, Int.cast_ofNat_Int, BEq.rfl, Int.reduceLT, Int.reduceLE, Int.reduceBEq, Int.zero_le_ofNat, decide_true, decide_false, ap_For, v_need_record h, lenR, h1, Int.toNat_natCast, e, ho, and_self]
theorem flat_eL (l : List Nat) : allFlat (l.map eI) = true := by
  induction l with
  | nil => rfl
  | cons x l ih => rw [List.map_cons, allFlat, ih]; rfl
theorem hasIn_eL (x : Int) (l : List Nat) : hasIn (.int x) (l.map eI) = l.any fun i => decide ((i : Int) = x) := by
  induction l with
  | nil => rfl
  | cons i l ih =>
    rw [List.map_cons, hasIn, ih, List.any_cons]; rfl
theorem gIn_eL (x : Int) (l : List Nat) : gIn (.int x) (.tup (l.map eI)) = .ret (.bl (l.any fun i => decide ((i : Int) = x))) := by
  show (if (flat0 (.int x) && allFlat (l.map eI)) = true then M.ret (hasIn (.int x) (l.map eI)) else .stk).bind _ = _
  rw [flat_eL, show (flat0 (.int x) && true) = true from rfl, if_pos rfl, hasIn_eL]; rfl
end Hd

set_option maxHeartbeats 1000000
set_option maxRecDepth 100000
namespace Hd
open Mn
/-! all lots -/
def lotsN (n : Nat) : List (List Nat) := (List.range n).foldl (fun rows i => rows ++ rows.map fun row => row ++ [i]) [[]]
theorem v_lots {n : Nat} (h : n ≤ 4) : m__law_lots [.int (n : Int)] = .ret (.lst ((lotsN n).map eL)) := by
  have h' : n = 0 ∨ n = 1 ∨ n = 2 ∨ n = 3 ∨ n = 4 := by omega
  rcases h' with rfl | rfl | rfl | rfl | rfl <;> kernel_rfl
theorem lots_ok {n : Nat} (h : n ≤ 4) : ∀ l ∈ lotsN n, l.Pairwise (· < ·) ∧ ∀ i ∈ l, i < n := by
  have h' : n = 0 ∨ n = 1 ∨ n = 2 ∨ n = 3 ∨ n = 4 := by omega
  rcases h' with rfl | rfl | rfl | rfl | rfl <;> decide +kernel
/-! a row told -/
def told (l row : List Nat) : List Nat := row.map fun s => l.getD s 0
theorem told_perm {l row : List Nat} (h : row.Perm (List.range l.length)) : (told l row).Perm l := by
  have e : (List.range l.length).map (fun s => l.getD s 0) = l := by
    refine List.ext_getElem (by simp) fun i h1 h2 => ?_
    simp only [List.getElem_map, List.getElem_range]
    rw [List.getD_eq_getElem?_getD, List.getElem?_eq_getElem h2]; rfl
  have := h.map fun s => l.getD s 0
  rw [e] at this
  exact this
def ahead (r : List Vl) (tl : List Nat) (p : Nat × Nat) : Bool := (tl.take p.2).any fun j => frcI r p.1 j
theorem any_ahead (r : List Vl) : ∀ (l m : List Nat), (l.zipIdx m.length).any (ahead r (m ++ l)) = false ↔ (∀ b ∈ l, ∀ a ∈ m, frcI r b a = false) ∧ l.Pairwise fun a b => frcI r b a = false
  | [], m => by simp
  | x :: l, m => by
    have ih := any_ahead r l (m ++ [x])
    rw [List.length_append, List.length_singleton, List.append_assoc, List.singleton_append] at ih
    rw [List.zipIdx_cons, List.any_cons, Bool.or_eq_false_iff, ih, ahead]
    have e : (m ++ x :: l).take m.length = m := by simp
    rw [e, List.pairwise_cons]
    simp only [List.any_eq_false, List.mem_cons, forall_eq_or_imp, List.mem_append, List.mem_singleton, Bool.not_eq_true]
    constructor
    · rintro ⟨b, d, e⟩
      exact ⟨⟨b, fun y hy z hz => d y hy z (.inl hz)⟩, fun y hy => d y hy x (.inr (.inl rfl)), e⟩
    · rintro ⟨⟨c, d⟩, e, f⟩
      refine ⟨c, fun y hy z hz => ?_, f⟩
      rcases hz with hz | hz
      · exact d y hy z hz
      · rcases hz with rfl | hz
        · exact e y hy
        · cases hz
theorem told_st {r : List Vl} {tl : List Nat} (hn : tl.Nodup) (he : ∀ i ∈ tl, ear (rv r i) = []) : stB (rv r) tl = !(tl.zipIdx.any (ahead r tl)) := by
  have h := any_ahead r tl []
  rw [List.nil_append, List.length_nil] at h
  rw [Bool.eq_iff_iff, stB_iff, Bool.not_eq_true', h]
  have hf : ∀ i j : Nat, i ≠ j → (frcI r j i = false ↔ far (rv r i) ≤ near (rv r j)) := fun i j hij => by
    unfold frcI frc
    have : ((j : Int) == (i : Int)) = false := by rw [beq_eq_false_iff_ne]; omega
    rw [this, Bool.not_false, Bool.true_and, decide_eq_false_iff_not]; omega
  constructor
  · rintro ⟨_, k⟩
    exact ⟨fun _ _ _ h => (by cases h), (hn.and k).imp fun ⟨h1, h2⟩ => (hf _ _ h1).mpr h2⟩
  · rintro ⟨_, k⟩
    exact ⟨he, (hn.and k).imp fun ⟨h1, h2⟩ => (hf _ _ h1).mp h2⟩
/-! what stands there of a lot -/
theorem flats_app : ∀ {n : Nat} {a b : List D}, flats n a = true → flats n b = true → flats n (a ++ b) = true
  | n, [], b, _, h => h
  | n, x :: a, b, h, k => by
    have h' := Bool.and_eq_true_iff.mp (show (flat n x && flats n a) = true by simpa [flats] using h)
    rw [List.cons_append]
    simp only [flats, h'.1, flats_app h'.2 k]; rfl
theorem eqNilD {xs : List D} (h : flats 49 xs = true) : gEq (.lst xs) (.lst []) = .ret (.bl xs.isEmpty) := by
  have e : isData (.lst xs) = true := by
    unfold isData
    simp only [flat]; exact h
  unfold gEq
  rw [e]
  cases xs <;> rfl
theorem mem_opL {r : List Vl} : ∀ {l : List Nat} {p : Nat × Nat}, p ∈ opL r l → p.1 ∈ l ∧ p.2 ∈ l ∧ oddI r p.1 p.2 = true
  | [], p, h => by cases h
  | i :: l, p, h => by
    rw [opL, List.mem_append] at h
    rcases h with h | h
    · obtain ⟨j, hj, rfl⟩ := List.mem_map.mp h
      obtain ⟨h1, h2⟩ := List.mem_filter.mp hj
      exact ⟨List.mem_cons_self, List.mem_cons_of_mem _ h1, h2⟩
    · obtain ⟨a, b, c⟩ := mem_opL h
      exact ⟨List.mem_cons_of_mem _ a, List.mem_cons_of_mem _ b, c⟩
theorem opL_mem {r : List Vl} : ∀ {l : List Nat}, l.Pairwise (· < ·) → ∀ {i j : Nat}, i ∈ l → j ∈ l → i < j → oddI r i j = true → (i, j) ∈ opL r l
  | [], _, i, j, h, _, _, _ => by cases h
  | x :: l, hp, i, j, hi, hj, hij, ho => by
    rw [opL, List.mem_append]
    obtain ⟨h1, h2⟩ := List.pairwise_cons.mp hp
    rcases List.mem_cons.mp hi with e | hi'
    · rcases List.mem_cons.mp hj with e2 | hj'
      · omega
      · subst e; exact .inl (List.mem_map.mpr ⟨j, List.mem_filter.mpr ⟨hj', ho⟩, rfl⟩)
    · rcases List.mem_cons.mp hj with e2 | hj'
      · have := h1 i hi'; omega
      · exact .inr (opL_mem h2 hi' hj' hij ho)
theorem opL_len (r : List Vl) (l : List Nat) (n : Nat) (h : l.length ≤ n) : (opL r l).length ≤ l.length * n := by
  induction l with
  | nil => simp [opL]
  | cons i l ih =>
    have h' : l.length ≤ n := by simp at h; omega
    have hi := ih h'
    have hf := List.length_filter_le (oddI r i) l
    rw [opL, List.length_append, List.length_map, List.length_cons, Nat.add_mul]
    omega
def inL (l : List Nat) (x : Int) : Bool := l.any fun i => decide ((i : Int) = x)
theorem inL_iff (l : List Nat) (x : Int) : inL l x = true ↔ ∃ i ∈ l, (i : Int) = x := by
  unfold inL
  rw [List.any_eq_true]
  simp
theorem bad_iff {r : List Vl} {l : List Nat} (hp : l.Pairwise (· < ·)) (hl : ∀ i ∈ l, i < r.length) :
    ((((List.range r.length).flatMap (bds r)).filter fun p => inL l p.1) = [] ∧ ((opL r (List.range r.length)).filter fun p => inL l p.1 && inL l p.2) = []) ↔ rgt r l = true := by
  rw [rgt, Bool.and_eq_true_iff, List.isEmpty_iff, List.isEmpty_iff, List.flatMap_eq_nil_iff, List.filter_eq_nil_iff, List.filter_eq_nil_iff]
  have hin : ∀ i : Nat, inL l (i : Int) = true ↔ i ∈ l := fun i => by
    rw [inL_iff]
    exact ⟨fun ⟨j, hj, e⟩ => by have : j = i := by omega
                                exact this ▸ hj, fun h => ⟨i, h, rfl⟩⟩
  refine and_congr ⟨fun h i hi => ?_, fun h p hp' => ?_⟩ ⟨fun h => ?_, fun h p hp' => ?_⟩
  · refine List.eq_nil_iff_forall_not_mem.mpr fun p hp' => h p (List.mem_flatMap.mpr ⟨i, List.mem_range.mpr (hl i hi), hp'⟩) ?_
    obtain ⟨s, _, rfl⟩ := List.mem_map.mp hp'
    exact (hin i).mpr hi
  · obtain ⟨i, hi, hpi⟩ := List.mem_flatMap.mp hp'
    intro k
    obtain ⟨s, hs, rfl⟩ := List.mem_map.mp hpi
    have := h i ((hin i).mp k)
    rw [this] at hpi; cases hpi
  · rw [opL_nil]
    refine List.Pairwise.imp_of_mem (fun {i j} hi hj hij => ?_) hp
    rw [← Bool.not_eq_true]
    intro ho
    refine h (i, j) (opL_mem List.pairwise_lt_range (List.mem_range.mpr (hl i hi)) (List.mem_range.mpr (hl j hj)) hij ho) ?_
    rw [(hin i).mpr hi, (hin j).mpr hj]; rfl
  · intro k
    obtain ⟨k1, k2⟩ := Bool.and_eq_true_iff.mp k
    obtain ⟨a, b, ho⟩ := mem_opL hp'
    have : p ∈ opL r l := by
      have hpw : ∀ (l' : List Nat), l'.Pairwise (· < ·) → ∀ q ∈ opL r l', q.1 < q.2 := by
        intro l'
        induction l' with
        | nil => intro _ q hq; cases hq
        | cons x l' ih =>
          intro hw q hq
          rw [opL, List.mem_append] at hq
          rcases hq with hq | hq
          · obtain ⟨j, hj, rfl⟩ := List.mem_map.mp hq
            exact (List.pairwise_cons.mp hw).1 j (List.mem_filter.mp hj).1
          · exact ih (List.pairwise_cons.mp hw).2 q hq
      exact opL_mem hp ((hin _).mp k1) ((hin _).mp k2) (hpw _ List.pairwise_lt_range p hp') ho
    rw [h] at this; cases this
/-! a lot's judgement -/
abbrev q4 (r : List Vl) (a1 a2 a4 a5 : SV) : Sl := [.val (eR r), a1, a2, .un, a4, a5, .un, .un, .un, .un, .un]
theorem l1_k04 {r : List Vl} (hr : okR r) {tl : List Nat} (hl : ∀ i ∈ tl, i < r.length) (a1 a2 a4 a5 a8 : SV) :
    l1__law_record_right [.val (eR r), a1, a2, .un, a4, a5, .un, .un, a8, .val (eL tl), .val (.bl true)] = .ret (.nx, [.val (eR r), a1, a2, .un, a4, a5, .un, .un, a8, .val (eL tl), .val (.bl (!(tl.zipIdx.any (ahead r tl))))]) := by
  have h := for_fold (g := .t [.n 6, .n 3]) (b := lb1__law_record_right) (enc := fun p : Nat × Nat => D.tup [.int (p.2 : Nat), eI p.1]) (st := fun b : Bool => [.val (eR r), a1, a2, .un, a4, a5, .un, .un, a8, .val (eL tl), .val (.bl b)]) (step := fun b p => if ahead r tl p = true then false else b) tl.zipIdx true fun b p hp => by
    have hp1 : p.1 < r.length := hl _ (mem_zipIdx0 hp).1
    have hx : ∀ j ∈ tl.take p.2, j < r.length := fun j hj => hl j (List.mem_of_mem_take hj)
    have h2 := neNil (enc := fun _ : Nat => D.int 1) ((tl.take p.2).filter fun j => frcI r p.1 j) fun _ _ => rfl
    have e3 : (!((tl.take p.2).filter fun j => frcI r p.1 j).isEmpty) = ahead r tl p := by
      unfold ahead
      generalize tl.take p.2 = l
      induction l with
      | nil => rfl
      | cons x l ih =>
        rw [List.filter_cons, List.any_cons, ← ih]
        cases frcI r p.1 x <;> simp
    simp only [lb1__law_record_right, c5__law_record_right, eL, ap_V, ap_O, ap_own, getV_val, getO_val, getO_own, getO_ownd, getL_own, ap_C, ap_1, ap_2, ap_And, ap_Or, ap_Not, ap_If, ap_aNil, ap_aCons, ap_aStar, ap_Tup, ap_Lst, ap_TupS, ap_LstS, ap_Call, ap_Chain, ap_Cut, ap_oNone, ap_oSome, ap_bV, ap_bAnd, ap_bOr, ap_bNot, ap_bYes, ap_wS, ap_Rng1, ap_Rng2, ap_TupRg1, ap_TupRg2, ap_LstRg1, ap_LstRg2, ap_Enum, ap_Enum2, ap_Zip, ap_mNil, ap_mVal, ap_mOwn, ap_sNx, ap_Seq, seqK_nx, seqK_rt, ap_Asg, ap_Set, ap_Own, ownK_lst, ownK_dct, ap_Ret, ap_sIf, ap_Stk, ap_Drop, ap_App, ap_Ext, ap_PutL, ap_Par, ap_Frz, frzS_own, frzS_val, ap_fn, fnK_rt, fnK_nx, ite_bind, gIx_tup, gIx_lst, itemI0, itemI1, itemI2, itemI3, gCut_tup, gCut_lst, asB_bl, asI_int, asS_tup, asS_lst, asL_lst, gAdd_int, gAdd_tup, gAdd_lst, gSub_int, gMulA_int, gLt_int, gLe_int, gGt_int, gGe_int, fTuple_lst, fTuple_tup, fList_tup, fList_lst, fInt_int, fInt_bl, gIsi_int, gIsi_bl, gIsi_tup, gIsi_lst, gIsi_str, gIsi_non, gIsB_bl, gIsNotB_bl, M.ret_bind, M.stk_bind, M.draw_bind, M.bind_ret, ofO_some, ofO_none, List.getD_cons_zero, List.getD_cons_succ, List.set_cons_zero, List.set_cons_succ, List.length_cons, List.length_nil, List.cons_append, List.nil_append, List.append_nil, List.replicate, Nat.reduceSub, Nat.reduceAdd, Nat.reduceEqDiff, if_true, if_false, ite_true, ite_false, reduceIte, Bool.not_true, Bool.not_false, Bool.false_eq_true, Bool.true_and, Bool.false_and, Bool.and_true, Bool.and_false, len_tup, len_lst, ne_int, eq_int, setAll, Mn.wipe, Tg.go, Tg.goes, Option.bind_some, isTup, isIntT, isBlT, isStrT, isLstT, known, List.isEmpty_nil, ownOf, ap_LcF, ap_turn, FM_map, FM_ret, FM_if, FM_opt, FM_nil, oCons_some, oCons_none, noX_ret, ap_Lc2F, ap_turn2, FL_map, FL_ret, FL_nil, ap_go, ap_Wipe, numbered0, paired_map, fAll_map, fAny_map, List.length_map, cutL_from, cutL_upto, mapV_nil, mapV_cons, Int.cast_ofNat_Int, BEq.rfl, Int.reduceLT, Int.reduceLE, Int.reduceBEq, Int.zero_le_ofNat, decide_true, decide_false, ap_For, cutL_upto, ← List.map_take]
    rw [FM_congr (g := fun j => if frcI r p.1 j = true then .ret (some (.int 1)) else .ret none) fun j hj => by
      simp only [t3__law_record_right, e5__law_record_right, ap_V, ap_O, ap_own, getV_val, getO_val, getO_own, getO_ownd, getL_own, ap_C, ap_1, ap_2, ap_And, ap_Or, ap_Not, ap_If, ap_aNil, ap_aCons, ap_aStar, ap_Tup, ap_Lst, ap_TupS, ap_LstS, ap_Call, ap_Chain, ap_Cut, ap_oNone, ap_oSome, ap_bV, ap_bAnd, ap_bOr, ap_bNot, ap_bYes, ap_wS, ap_Rng1, ap_Rng2, ap_TupRg1, ap_TupRg2, ap_LstRg1, ap_LstRg2, ap_Enum, ap_Enum2, ap_Zip, ap_mNil, ap_mVal, ap_mOwn, ap_sNx, ap_Seq, seqK_nx, seqK_rt, ap_Asg, ap_Set, ap_Own, ownK_lst, ownK_dct, ap_Ret, ap_sIf, ap_Stk, ap_Drop, ap_App, ap_Ext, ap_PutL, ap_Par, ap_Frz, frzS_own, frzS_val, ap_fn, fnK_rt, fnK_nx, ite_bind, gIx_tup, gIx_lst, itemI0, itemI1, itemI2, itemI3, gCut_tup, gCut_lst, asB_bl, asI_int, asS_tup, asS_lst, asL_lst, gAdd_int, gAdd_tup, gAdd_lst, gSub_int, gMulA_int, gLt_int, gLe_int, gGt_int, gGe_int, fTuple_lst, fTuple_tup, fList_tup, fList_lst, fInt_int, fInt_bl, gIsi_int, gIsi_bl, gIsi_tup, gIsi_lst, gIsi_str, gIsi_non, gIsB_bl, gIsNotB_bl, M.ret_bind, M.stk_bind, M.draw_bind, M.bind_ret, ofO_some, ofO_none, List.getD_cons_zero, List.getD_cons_succ, List.set_cons_zero, List.set_cons_succ, List.length_cons, List.length_nil, List.cons_append, List.nil_append, List.append_nil, List.replicate, Nat.reduceSub, Nat.reduceAdd, Nat.reduceEqDiff, if_true, if_false, ite_true, ite_false, reduceIte, Bool.not_true, Bool.not_false, Bool.false_eq_true, Bool.true_and, Bool.false_and, Bool.and_true, Bool.and_false, len_tup, len_lst, ne_int, eq_int, setAll, Mn.wipe, Tg.go, Tg.goes, Option.bind_some, isTup, isIntT, isBlT, isStrT, isLstT, known, List.isEmpty_nil, ownOf, ap_LcF, ap_turn, FM_map, FM_ret, FM_if, FM_opt, FM_nil, oCons_some, oCons_none, noX_ret, ap_Lc2F, ap_turn2, FL_map, FL_ret, FL_nil, ap_go, ap_Wipe, numbered0, paired_map, fAll_map, fAny_map, List.length_map, cutL_from, cutL_upto, mapV_nil, mapV_cons, Int.cast_ofNat_Int, BEq.rfl, Int.reduceLT, Int.reduceLE, Int.reduceBEq, Int.zero_le_ofNat, decide_true, decide_false, ap_For, eI, v_is_forced hr hp1 (hx j hj)]]
    simp only [ap_V, ap_O, ap_own, getV_val, getO_val, getO_own, getO_ownd, getL_own, ap_C, ap_1, ap_2, ap_And, ap_Or, ap_Not, ap_If, ap_aNil, ap_aCons, ap_aStar, ap_Tup, ap_Lst, ap_TupS, ap_LstS, ap_Call, ap_Chain, ap_Cut, ap_oNone, ap_oSome, ap_bV, ap_bAnd, ap_bOr, ap_bNot, ap_bYes, ap_wS, ap_Rng1, ap_Rng2, ap_TupRg1, ap_TupRg2, ap_LstRg1, ap_LstRg2, ap_Enum, ap_Enum2, ap_Zip, ap_mNil, ap_mVal, ap_mOwn, ap_sNx, ap_Seq, seqK_nx, seqK_rt, ap_Asg, ap_Set, ap_Own, ownK_lst, ownK_dct, ap_Ret, ap_sIf, ap_Stk, ap_Drop, ap_App, ap_Ext, ap_PutL, ap_Par, ap_Frz, frzS_own, frzS_val, ap_fn, fnK_rt, fnK_nx, ite_bind, gIx_tup, gIx_lst, itemI0, itemI1, itemI2, itemI3, gCut_tup, gCut_lst, asB_bl, asI_int, asS_tup, asS_lst, asL_lst, gAdd_int, gAdd_tup, gAdd_lst, gSub_int, gMulA_int, gLt_int, gLe_int, gGt_int, gGe_int, fTuple_lst, fTuple_tup, fList_tup, fList_lst, fInt_int, fInt_bl, gIsi_int, gIsi_bl, gIsi_tup, gIsi_lst, gIsi_str, gIsi_non, gIsB_bl, gIsNotB_bl, M.ret_bind, M.stk_bind, M.draw_bind, M.bind_ret, ofO_some, ofO_none, List.getD_cons_zero, List.getD_cons_succ, List.set_cons_zero, List.set_cons_succ, List.length_cons, List.length_nil, List.cons_append, List.nil_append, List.append_nil, List.replicate, Nat.reduceSub, Nat.reduceAdd, Nat.reduceEqDiff, if_true, if_false, ite_true, ite_false, reduceIte, Bool.not_true, Bool.not_false, Bool.false_eq_true, Bool.true_and, Bool.false_and, Bool.and_true, Bool.and_false, len_tup, len_lst, ne_int, eq_int, setAll, Mn.wipe, Tg.go, Tg.goes, Option.bind_some, isTup, isIntT, isBlT, isStrT, isLstT, known, List.isEmpty_nil, ownOf, ap_LcF, ap_turn, FM_map, FM_ret, FM_if, FM_opt, FM_nil, oCons_some, oCons_none, noX_ret, ap_Lc2F, ap_turn2, FL_map, FL_ret, FL_nil, ap_go, ap_Wipe, numbered0, paired_map, fAll_map, fAny_map, List.length_map, cutL_from, cutL_upto, mapV_nil, mapV_cons, Int.cast_ofNat_Int, BEq.rfl, Int.reduceLT, Int.reduceLE, Int.reduceBEq, Int.zero_le_ofNat, decide_true, decide_false, ap_For, h2, e3]
    cases ahead r tl p <;> simp only [ap_V, ap_O, ap_own, getV_val, getO_val, getO_own, getO_ownd, getL_own, ap_C, ap_1, ap_2, ap_And, ap_Or, ap_Not, ap_If, ap_aNil, ap_aCons, ap_aStar, ap_Tup, ap_Lst, ap_TupS, ap_LstS, ap_Call, ap_Chain, ap_Cut, ap_oNone, ap_oSome, ap_bV, ap_bAnd, ap_bOr, ap_bNot, ap_bYes, ap_wS, ap_Rng1, ap_Rng2, ap_TupRg1, ap_TupRg2, ap_LstRg1, ap_LstRg2, ap_Enum, ap_Enum2, ap_Zip, ap_mNil, ap_mVal, ap_mOwn, ap_sNx, ap_Seq, seqK_nx, seqK_rt, ap_Asg, ap_Set, ap_Own, ownK_lst, ownK_dct, ap_Ret, ap_sIf, ap_Stk, ap_Drop, ap_App, ap_Ext, ap_PutL, ap_Par, ap_Frz, frzS_own, frzS_val, ap_fn, fnK_rt, fnK_nx, ite_bind, gIx_tup, gIx_lst, itemI0, itemI1, itemI2, itemI3, gCut_tup, gCut_lst, asB_bl, asI_int, asS_tup, asS_lst, asL_lst, gAdd_int, gAdd_tup, gAdd_lst, gSub_int, gMulA_int, gLt_int, gLe_int, gGt_int, gGe_int, fTuple_lst, fTuple_tup, fList_tup, fList_lst, fInt_int, fInt_bl, gIsi_int, gIsi_bl, gIsi_tup, gIsi_lst, gIsi_str, gIsi_non, gIsB_bl, gIsNotB_bl, M.ret_bind, M.stk_bind, M.draw_bind, M.bind_ret, ofO_some, ofO_none, List.getD_cons_zero, List.getD_cons_succ, List.set_cons_zero, List.set_cons_succ, List.length_cons, List.length_nil, List.cons_append, List.nil_append, List.append_nil, List.replicate, Nat.reduceSub, Nat.reduceAdd, Nat.reduceEqDiff, if_true, if_false, ite_true, ite_false, reduceIte, Bool.not_true, Bool.not_false, Bool.false_eq_true, Bool.true_and, Bool.false_and, Bool.and_true, Bool.and_false, len_tup, len_lst, ne_int, eq_int, setAll, Mn.wipe, Tg.go, Tg.goes, Option.bind_some, isTup, isIntT, isBlT, isStrT, isLstT, known, List.isEmpty_nil, ownOf, ap_LcF, ap_turn, FM_map, FM_ret, FM_if, FM_opt, FM_nil, oCons_some, oCons_none, noX_ret, ap_Lc2F, ap_turn2, FL_map, FL_ret, FL_nil, ap_go, ap_Wipe, numbered0, paired_map, fAll_map, fAny_map, List.length_map, cutL_from, cutL_upto, mapV_nil, mapV_cons, Int.cast_ofNat_Int, BEq.rfl, Int.reduceLT, Int.reduceLE, Int.reduceBEq, Int.zero_le_ofNat, decide_true, decide_false, ap_For]
  have hf : ∀ (ps : List (Nat × Nat)) (b : Bool), ps.foldl (fun b p => if ahead r tl p = true then false else b) b = (b && !(ps.any (ahead r tl))) := by
    intro ps
    induction ps with
    | nil => intro b; simp
    | cons p ps ih => intro b; rw [List.foldl_cons, ih, List.any_cons]; cases ahead r tl p <;> simp
  rw [hf, Bool.true_and] at h
  simp only [eL] at h
  simp only [l1__law_record_right, eL, ap_V, ap_O, ap_own, getV_val, getO_val, getO_own, getO_ownd, getL_own, ap_C, ap_1, ap_2, ap_And, ap_Or, ap_Not, ap_If, ap_aNil, ap_aCons, ap_aStar, ap_Tup, ap_Lst, ap_TupS, ap_LstS, ap_Call, ap_Chain, ap_Cut, ap_oNone, ap_oSome, ap_bV, ap_bAnd, ap_bOr, ap_bNot, ap_bYes, ap_wS, ap_Rng1, ap_Rng2, ap_TupRg1, ap_TupRg2, ap_LstRg1, ap_LstRg2, ap_Enum, ap_Enum2, ap_Zip, ap_mNil, ap_mVal, ap_mOwn, ap_sNx, ap_Seq, seqK_nx, seqK_rt, ap_Asg, ap_Set, ap_Own, ownK_lst, ownK_dct, ap_Ret, ap_sIf, ap_Stk, ap_Drop, ap_App, ap_Ext, ap_PutL, ap_Par, ap_Frz, frzS_own, frzS_val, ap_fn, fnK_rt, fnK_nx, ite_bind, gIx_tup, gIx_lst, itemI0, itemI1, itemI2, itemI3, gCut_tup, gCut_lst, asB_bl, asI_int, asS_tup, asS_lst, asL_lst, gAdd_int, gAdd_tup, gAdd_lst, gSub_int, gMulA_int, gLt_int, gLe_int, gGt_int, gGe_int, fTuple_lst, fTuple_tup, fList_tup, fList_lst, fInt_int, fInt_bl, gIsi_int, gIsi_bl, gIsi_tup, gIsi_lst, gIsi_str, gIsi_non, gIsB_bl, gIsNotB_bl, M.ret_bind, M.stk_bind, M.draw_bind, M.bind_ret, ofO_some, ofO_none, List.getD_cons_zero, List.getD_cons_succ, List.set_cons_zero, List.set_cons_succ, List.length_cons, List.length_nil, List.cons_append, List.nil_append, List.append_nil, List.replicate, Nat.reduceSub, Nat.reduceAdd, Nat.reduceEqDiff, if_true, if_false, ite_true, ite_false, reduceIte, Bool.not_true, Bool.not_false, Bool.false_eq_true, Bool.true_and, Bool.false_and, Bool.and_true, Bool.and_false, len_tup, len_lst, ne_int, eq_int, setAll, Mn.wipe, Tg.go, Tg.goes, Option.bind_some, isTup, isIntT, isBlT, isStrT, isLstT, known, List.isEmpty_nil, ownOf, ap_LcF, ap_turn, FM_map, FM_ret, FM_if, FM_opt, FM_nil, oCons_some, oCons_none, noX_ret, ap_Lc2F, ap_turn2, FL_map, FL_ret, FL_nil, ap_go, ap_Wipe, numbered0, paired_map, fAll_map, fAny_map, List.length_map, cutL_from, cutL_upto, mapV_nil, mapV_cons, Int.cast_ofNat_Int, BEq.rfl, Int.reduceLT, Int.reduceLE, Int.reduceBEq, Int.zero_le_ofNat, decide_true, decide_false, ap_For, h]
theorem l2_k04 {r : List Vl} (hr : okR r) {l : List Nat} (hp : l.Pairwise (· < ·)) (hl : ∀ i ∈ l, i < r.length) (h4 : l.length ≤ 4) (a2 a5 : SV) (due : Bool) (hd : due = true → ∀ i ∈ l, ear (rv r i) = []) :
    l2__law_record_right (q4 r (.val (eL l)) a2 (.val (.bl due)) a5) = .ret (.nx, q4 r (.val (eL l)) a2 (.val (.bl due)) a5) := by
  cases due with
  | false => simp only [l2__law_record_right, q4, ap_V, ap_O, ap_own, getV_val, getO_val, getO_own, getO_ownd, getL_own, ap_C, ap_1, ap_2, ap_And, ap_Or, ap_Not, ap_If, ap_aNil, ap_aCons, ap_aStar, ap_Tup, ap_Lst, ap_TupS, ap_LstS, ap_Call, ap_Chain, ap_Cut, ap_oNone, ap_oSome, ap_bV, ap_bAnd, ap_bOr, ap_bNot, ap_bYes, ap_wS, ap_Rng1, ap_Rng2, ap_TupRg1, ap_TupRg2, ap_LstRg1, ap_LstRg2, ap_Enum, ap_Enum2, ap_Zip, ap_mNil, ap_mVal, ap_mOwn, ap_sNx, ap_Seq, seqK_nx, seqK_rt, ap_Asg, ap_Set, ap_Own, ownK_lst, ownK_dct, ap_Ret, ap_sIf, ap_Stk, ap_Drop, ap_App, ap_Ext, ap_PutL, ap_Par, ap_Frz, frzS_own, frzS_val, ap_fn, fnK_rt, fnK_nx, ite_bind, gIx_tup, gIx_lst, itemI0, itemI1, itemI2, itemI3, gCut_tup, gCut_lst, asB_bl, asI_int, asS_tup, asS_lst, asL_lst, gAdd_int, gAdd_tup, gAdd_lst, gSub_int, gMulA_int, gLt_int, gLe_int, gGt_int, gGe_int, fTuple_lst, fTuple_tup, fList_tup, fList_lst, fInt_int, fInt_bl, gIsi_int, gIsi_bl, gIsi_tup, gIsi_lst, gIsi_str, gIsi_non, gIsB_bl, gIsNotB_bl, M.ret_bind, M.stk_bind, M.draw_bind, M.bind_ret, ofO_some, ofO_none, List.getD_cons_zero, List.getD_cons_succ, List.set_cons_zero, List.set_cons_succ, List.length_cons, List.length_nil, List.cons_append, List.nil_append, List.append_nil, List.replicate, Nat.reduceSub, Nat.reduceAdd, Nat.reduceEqDiff, if_true, if_false, ite_true, ite_false, reduceIte, Bool.not_true, Bool.not_false, Bool.false_eq_true, Bool.true_and, Bool.false_and, Bool.and_true, Bool.and_false, len_tup, len_lst, ne_int, eq_int, setAll, Mn.wipe, Tg.go, Tg.goes, Option.bind_some, isTup, isIntT, isBlT, isStrT, isLstT, known, List.isEmpty_nil, ownOf, ap_LcF, ap_turn, FM_map, FM_ret, FM_if, FM_opt, FM_nil, oCons_some, oCons_none, noX_ret, ap_Lc2F, ap_turn2, FL_map, FL_ret, FL_nil, ap_go, ap_Wipe, numbered0, paired_map, fAll_map, fAny_map, List.length_map, cutL_from, cutL_upto, mapV_nil, mapV_cons, Int.cast_ofNat_Int, BEq.rfl, Int.reduceLT, Int.reduceLE, Int.reduceBEq, Int.zero_le_ofNat, decide_true, decide_false, ap_For, forGo_nil]
  | true =>
    have hd := hd rfl
    simp only [l2__law_record_right, q4, eL, ap_V, ap_O, ap_own, getV_val, getO_val, getO_own, getO_ownd, getL_own, ap_C, ap_1, ap_2, ap_And, ap_Or, ap_Not, ap_If, ap_aNil, ap_aCons, ap_aStar, ap_Tup, ap_Lst, ap_TupS, ap_LstS, ap_Call, ap_Chain, ap_Cut, ap_oNone, ap_oSome, ap_bV, ap_bAnd, ap_bOr, ap_bNot, ap_bYes, ap_wS, ap_Rng1, ap_Rng2, ap_TupRg1, ap_TupRg2, ap_LstRg1, ap_LstRg2, ap_Enum, ap_Enum2, ap_Zip, ap_mNil, ap_mVal, ap_mOwn, ap_sNx, ap_Seq, seqK_nx, seqK_rt, ap_Asg, ap_Set, ap_Own, ownK_lst, ownK_dct, ap_Ret, ap_sIf, ap_Stk, ap_Drop, ap_App, ap_Ext, ap_PutL, ap_Par, ap_Frz, frzS_own, frzS_val, ap_fn, fnK_rt, fnK_nx, ite_bind, gIx_tup, gIx_lst, itemI0, itemI1, itemI2, itemI3, gCut_tup, gCut_lst, asB_bl, asI_int, asS_tup, asS_lst, asL_lst, gAdd_int, gAdd_tup, gAdd_lst, gSub_int, gMulA_int, gLt_int, gLe_int, gGt_int, gGe_int, fTuple_lst, fTuple_tup, fList_tup, fList_lst, fInt_int, fInt_bl, gIsi_int, gIsi_bl, gIsi_tup, gIsi_lst, gIsi_str, gIsi_non, gIsB_bl, gIsNotB_bl, M.ret_bind, M.stk_bind, M.draw_bind, M.bind_ret, ofO_some, ofO_none, List.getD_cons_zero, List.getD_cons_succ, List.set_cons_zero, List.set_cons_succ, List.length_cons, List.length_nil, List.cons_append, List.nil_append, List.append_nil, List.replicate, Nat.reduceSub, Nat.reduceAdd, Nat.reduceEqDiff, if_true, if_false, ite_true, ite_false, reduceIte, Bool.not_true, Bool.not_false, Bool.false_eq_true, Bool.true_and, Bool.false_and, Bool.and_true, Bool.and_false, len_tup, len_lst, ne_int, eq_int, setAll, Mn.wipe, Tg.go, Tg.goes, Option.bind_some, isTup, isIntT, isBlT, isStrT, isLstT, known, List.isEmpty_nil, ownOf, ap_LcF, ap_turn, FM_map, FM_ret, FM_if, FM_opt, FM_nil, oCons_some, oCons_none, noX_ret, ap_Lc2F, ap_turn2, FL_map, FL_ret, FL_nil, ap_go, ap_Wipe, numbered0, paired_map, fAll_map, fAny_map, List.length_map, cutL_from, cutL_upto, mapV_nil, mapV_cons, Int.cast_ofNat_Int, BEq.rfl, Int.reduceLT, Int.reduceLE, Int.reduceBEq, Int.zero_le_ofNat, decide_true, decide_false, ap_For, v_rows h4]
    refine for_same (enc := eL) (rowsN l.length) fun row hrow => ?_
    have hpm := rows_perm h4 row hrow
    have htp := told_perm hpm
    have htl : ∀ i ∈ told l row, i < r.length := fun i hi => hl i (htp.mem_iff.mp hi)
    have hnd : (told l row).Nodup := htp.nodup_iff.mpr (hp.imp fun h => Nat.ne_of_lt h)
    have hst := told_st (r := r) hnd fun i hi => hd i (htp.mem_iff.mp hi)
    have hL1 := l1_k04 hr htl (.val (eL l)) a2 (.val (.bl true)) a5 (.val (eL row))
    have hsp := v_soonest_placing hr hp hl htp
    simp only [eL] at hL1 hsp
    simp only [lb2__law_record_right, c4__law_record_right, eL, ap_V, ap_O, ap_own, getV_val, getO_val, getO_own, getO_ownd, getL_own, ap_C, ap_1, ap_2, ap_And, ap_Or, ap_Not, ap_If, ap_aNil, ap_aCons, ap_aStar, ap_Tup, ap_Lst, ap_TupS, ap_LstS, ap_Call, ap_Chain, ap_Cut, ap_oNone, ap_oSome, ap_bV, ap_bAnd, ap_bOr, ap_bNot, ap_bYes, ap_wS, ap_Rng1, ap_Rng2, ap_TupRg1, ap_TupRg2, ap_LstRg1, ap_LstRg2, ap_Enum, ap_Enum2, ap_Zip, ap_mNil, ap_mVal, ap_mOwn, ap_sNx, ap_Seq, seqK_nx, seqK_rt, ap_Asg, ap_Set, ap_Own, ownK_lst, ownK_dct, ap_Ret, ap_sIf, ap_Stk, ap_Drop, ap_App, ap_Ext, ap_PutL, ap_Par, ap_Frz, frzS_own, frzS_val, ap_fn, fnK_rt, fnK_nx, ite_bind, gIx_tup, gIx_lst, itemI0, itemI1, itemI2, itemI3, gCut_tup, gCut_lst, asB_bl, asI_int, asS_tup, asS_lst, asL_lst, gAdd_int, gAdd_tup, gAdd_lst, gSub_int, gMulA_int, gLt_int, gLe_int, gGt_int, gGe_int, fTuple_lst, fTuple_tup, fList_tup, fList_lst, fInt_int, fInt_bl, gIsi_int, gIsi_bl, gIsi_tup, gIsi_lst, gIsi_str, gIsi_non, gIsB_bl, gIsNotB_bl, M.ret_bind, M.stk_bind, M.draw_bind, M.bind_ret, ofO_some, ofO_none, List.getD_cons_zero, List.getD_cons_succ, List.set_cons_zero, List.set_cons_succ, List.length_cons, List.length_nil, List.cons_append, List.nil_append, List.append_nil, List.replicate, Nat.reduceSub, Nat.reduceAdd, Nat.reduceEqDiff, if_true, if_false, ite_true, ite_false, reduceIte, Bool.not_true, Bool.not_false, Bool.false_eq_true, Bool.true_and, Bool.false_and, Bool.and_true, Bool.and_false, len_tup, len_lst, ne_int, eq_int, setAll, Mn.wipe, Tg.go, Tg.goes, Option.bind_some, isTup, isIntT, isBlT, isStrT, isLstT, known, List.isEmpty_nil, ownOf, ap_LcF, ap_turn, FM_map, FM_ret, FM_if, FM_opt, FM_nil, oCons_some, oCons_none, noX_ret, ap_Lc2F, ap_turn2, FL_map, FL_ret, FL_nil, ap_go, ap_Wipe, numbered0, paired_map, fAll_map, fAny_map, List.length_map, cutL_from, cutL_upto, mapV_nil, mapV_cons, Int.cast_ofNat_Int, BEq.rfl, Int.reduceLT, Int.reduceLE, Int.reduceBEq, Int.zero_le_ofNat, decide_true, decide_false, ap_For, List.length_cons, List.length_nil]
    rw [FM_congr (g := fun s => .ret (some (eI (l.getD s 0)))) fun s hs => by
      have hs' : s < l.length := List.mem_range.mp (hpm.mem_iff.mp hs)
      have hx : gIx (.tup (l.map eI)) (eI s) = .ret (eI (l.getD s 0)) := by
        show gIx (.tup (l.map eI)) (.int (s : Int)) = _
        rw [gIx_tup, itemI_nat (by simpa using hs')]
        simp [List.getD_eq_getElem?_getD, List.getElem?_eq_getElem hs']
      simp only [e4__law_record_right, ap_V, ap_O, ap_own, getV_val, getO_val, getO_own, getO_ownd, getL_own, ap_C, ap_1, ap_2, ap_And, ap_Or, ap_Not, ap_If, ap_aNil, ap_aCons, ap_aStar, ap_Tup, ap_Lst, ap_TupS, ap_LstS, ap_Call, ap_Chain, ap_Cut, ap_oNone, ap_oSome, ap_bV, ap_bAnd, ap_bOr, ap_bNot, ap_bYes, ap_wS, ap_Rng1, ap_Rng2, ap_TupRg1, ap_TupRg2, ap_LstRg1, ap_LstRg2, ap_Enum, ap_Enum2, ap_Zip, ap_mNil, ap_mVal, ap_mOwn, ap_sNx, ap_Seq, seqK_nx, seqK_rt, ap_Asg, ap_Set, ap_Own, ownK_lst, ownK_dct, ap_Ret, ap_sIf, ap_Stk, ap_Drop, ap_App, ap_Ext, ap_PutL, ap_Par, ap_Frz, frzS_own, frzS_val, ap_fn, fnK_rt, fnK_nx, ite_bind, gIx_tup, gIx_lst, itemI0, itemI1, itemI2, itemI3, gCut_tup, gCut_lst, asB_bl, asI_int, asS_tup, asS_lst, asL_lst, gAdd_int, gAdd_tup, gAdd_lst, gSub_int, gMulA_int, gLt_int, gLe_int, gGt_int, gGe_int, fTuple_lst, fTuple_tup, fList_tup, fList_lst, fInt_int, fInt_bl, gIsi_int, gIsi_bl, gIsi_tup, gIsi_lst, gIsi_str, gIsi_non, gIsB_bl, gIsNotB_bl, M.ret_bind, M.stk_bind, M.draw_bind, M.bind_ret, ofO_some, ofO_none, List.getD_cons_zero, List.getD_cons_succ, List.set_cons_zero, List.set_cons_succ, List.length_cons, List.length_nil, List.cons_append, List.nil_append, List.append_nil, List.replicate, Nat.reduceSub, Nat.reduceAdd, Nat.reduceEqDiff, if_true, if_false, ite_true, ite_false, reduceIte, Bool.not_true, Bool.not_false, Bool.false_eq_true, Bool.true_and, Bool.false_and, Bool.and_true, Bool.and_false, len_tup, len_lst, ne_int, eq_int, setAll, Mn.wipe, Tg.go, Tg.goes, Option.bind_some, isTup, isIntT, isBlT, isStrT, isLstT, known, List.isEmpty_nil, ownOf, ap_LcF, ap_turn, FM_map, FM_ret, FM_if, FM_opt, FM_nil, oCons_some, oCons_none, noX_ret, ap_Lc2F, ap_turn2, FL_map, FL_ret, FL_nil, ap_go, ap_Wipe, numbered0, paired_map, fAll_map, fAny_map, List.length_map, cutL_from, cutL_upto, mapV_nil, mapV_cons, Int.cast_ofNat_Int, BEq.rfl, Int.reduceLT, Int.reduceLE, Int.reduceBEq, Int.zero_le_ofNat, decide_true, decide_false, ap_For, hx]]
    have et : (row.map fun s => eI (l.getD s 0)) = (told l row).map eI := by rw [told, List.map_map]; rfl
    simp only [ap_V, ap_O, ap_own, getV_val, getO_val, getO_own, getO_ownd, getL_own, ap_C, ap_1, ap_2, ap_And, ap_Or, ap_Not, ap_If, ap_aNil, ap_aCons, ap_aStar, ap_Tup, ap_Lst, ap_TupS, ap_LstS, ap_Call, ap_Chain, ap_Cut, ap_oNone, ap_oSome, ap_bV, ap_bAnd, ap_bOr, ap_bNot, ap_bYes, ap_wS, ap_Rng1, ap_Rng2, ap_TupRg1, ap_TupRg2, ap_LstRg1, ap_LstRg2, ap_Enum, ap_Enum2, ap_Zip, ap_mNil, ap_mVal, ap_mOwn, ap_sNx, ap_Seq, seqK_nx, seqK_rt, ap_Asg, ap_Set, ap_Own, ownK_lst, ownK_dct, ap_Ret, ap_sIf, ap_Stk, ap_Drop, ap_App, ap_Ext, ap_PutL, ap_Par, ap_Frz, frzS_own, frzS_val, ap_fn, fnK_rt, fnK_nx, ite_bind, gIx_tup, gIx_lst, itemI0, itemI1, itemI2, itemI3, gCut_tup, gCut_lst, asB_bl, asI_int, asS_tup, asS_lst, asL_lst, gAdd_int, gAdd_tup, gAdd_lst, gSub_int, gMulA_int, gLt_int, gLe_int, gGt_int, gGe_int, fTuple_lst, fTuple_tup, fList_tup, fList_lst, fInt_int, fInt_bl, gIsi_int, gIsi_bl, gIsi_tup, gIsi_lst, gIsi_str, gIsi_non, gIsB_bl, gIsNotB_bl, M.ret_bind, M.stk_bind, M.draw_bind, M.bind_ret, ofO_some, ofO_none, List.getD_cons_zero, List.getD_cons_succ, List.set_cons_zero, List.set_cons_succ, List.length_cons, List.length_nil, List.cons_append, List.nil_append, List.append_nil, List.replicate, Nat.reduceSub, Nat.reduceAdd, Nat.reduceEqDiff, if_true, if_false, ite_true, ite_false, reduceIte, Bool.not_true, Bool.not_false, Bool.false_eq_true, Bool.true_and, Bool.false_and, Bool.and_true, Bool.and_false, len_tup, len_lst, ne_int, eq_int, setAll, Mn.wipe, Tg.go, Tg.goes, Option.bind_some, isTup, isIntT, isBlT, isStrT, isLstT, known, List.isEmpty_nil, ownOf, ap_LcF, ap_turn, FM_map, FM_ret, FM_if, FM_opt, FM_nil, oCons_some, oCons_none, noX_ret, ap_Lc2F, ap_turn2, FL_map, FL_ret, FL_nil, ap_go, ap_Wipe, numbered0, paired_map, fAll_map, fAny_map, List.length_map, cutL_from, cutL_upto, mapV_nil, mapV_cons, Int.cast_ofNat_Int, BEq.rfl, Int.reduceLT, Int.reduceLE, Int.reduceBEq, Int.zero_le_ofNat, decide_true, decide_false, ap_For, et, hL1, hsp, ← hst]
    cases stB (rv r) (told l row) with
    | true => simp only [ap_V, ap_O, ap_own, getV_val, getO_val, getO_own, getO_ownd, getL_own, ap_C, ap_1, ap_2, ap_And, ap_Or, ap_Not, ap_If, ap_aNil, ap_aCons, ap_aStar, ap_Tup, ap_Lst, ap_TupS, ap_LstS, ap_Call, ap_Chain, ap_Cut, ap_oNone, ap_oSome, ap_bV, ap_bAnd, ap_bOr, ap_bNot, ap_bYes, ap_wS, ap_Rng1, ap_Rng2, ap_TupRg1, ap_TupRg2, ap_LstRg1, ap_LstRg2, ap_Enum, ap_Enum2, ap_Zip, ap_mNil, ap_mVal, ap_mOwn, ap_sNx, ap_Seq, seqK_nx, seqK_rt, ap_Asg, ap_Set, ap_Own, ownK_lst, ownK_dct, ap_Ret, ap_sIf, ap_Stk, ap_Drop, ap_App, ap_Ext, ap_PutL, ap_Par, ap_Frz, frzS_own, frzS_val, ap_fn, fnK_rt, fnK_nx, ite_bind, gIx_tup, gIx_lst, itemI0, itemI1, itemI2, itemI3, gCut_tup, gCut_lst, asB_bl, asI_int, asS_tup, asS_lst, asL_lst, gAdd_int, gAdd_tup, gAdd_lst, gSub_int, gMulA_int, gLt_int, gLe_int, gGt_int, gGe_int, fTuple_lst, fTuple_tup, fList_tup, fList_lst, fInt_int, fInt_bl, gIsi_int, gIsi_bl, gIsi_tup, gIsi_lst, gIsi_str, gIsi_non, gIsB_bl, gIsNotB_bl, M.ret_bind, M.stk_bind, M.draw_bind, M.bind_ret, ofO_some, ofO_none, List.getD_cons_zero, List.getD_cons_succ, List.set_cons_zero, List.set_cons_succ, List.length_cons, List.length_nil, List.cons_append, List.nil_append, List.append_nil, List.replicate, Nat.reduceSub, Nat.reduceAdd, Nat.reduceEqDiff, if_true, if_false, ite_true, ite_false, reduceIte, Bool.not_true, Bool.not_false, Bool.false_eq_true, Bool.true_and, Bool.false_and, Bool.and_true, Bool.and_false, len_tup, len_lst, ne_int, eq_int, setAll, Mn.wipe, Tg.go, Tg.goes, Option.bind_some, isTup, isIntT, isBlT, isStrT, isLstT, known, List.isEmpty_nil, ownOf, ap_LcF, ap_turn, FM_map, FM_ret, FM_if, FM_opt, FM_nil, oCons_some, oCons_none, noX_ret, ap_Lc2F, ap_turn2, FL_map, FL_ret, FL_nil, ap_go, ap_Wipe, numbered0, paired_map, fAll_map, fAny_map, List.length_map, cutL_from, cutL_upto, mapV_nil, mapV_cons, Int.cast_ofNat_Int, BEq.rfl, Int.reduceLT, Int.reduceLE, Int.reduceBEq, Int.zero_le_ofNat, decide_true, decide_false, ap_For]; rfl
    | false => simp only [ap_V, ap_O, ap_own, getV_val, getO_val, getO_own, getO_ownd, getL_own, ap_C, ap_1, ap_2, ap_And, ap_Or, ap_Not, ap_If, ap_aNil, ap_aCons, ap_aStar, ap_Tup, ap_Lst, ap_TupS, ap_LstS, ap_Call, ap_Chain, ap_Cut, ap_oNone, ap_oSome, ap_bV, ap_bAnd, ap_bOr, ap_bNot, ap_bYes, ap_wS, ap_Rng1, ap_Rng2, ap_TupRg1, ap_TupRg2, ap_LstRg1, ap_LstRg2, ap_Enum, ap_Enum2, ap_Zip, ap_mNil, ap_mVal, ap_mOwn, ap_sNx, ap_Seq, seqK_nx, seqK_rt, ap_Asg, ap_Set, ap_Own, ownK_lst, ownK_dct, ap_Ret, ap_sIf, ap_Stk, ap_Drop, ap_App, ap_Ext, ap_PutL, ap_Par, ap_Frz, frzS_own, frzS_val, ap_fn, fnK_rt, fnK_nx, ite_bind, gIx_tup, gIx_lst, itemI0, itemI1, itemI2, itemI3, gCut_tup, gCut_lst, asB_bl, asI_int, asS_tup, asS_lst, asL_lst, gAdd_int, gAdd_tup, gAdd_lst, gSub_int, gMulA_int, gLt_int, gLe_int, gGt_int, gGe_int, fTuple_lst, fTuple_tup, fList_tup, fList_lst, fInt_int, fInt_bl, gIsi_int, gIsi_bl, gIsi_tup, gIsi_lst, gIsi_str, gIsi_non, gIsB_bl, gIsNotB_bl, M.ret_bind, M.stk_bind, M.draw_bind, M.bind_ret, ofO_some, ofO_none, List.getD_cons_zero, List.getD_cons_succ, List.set_cons_zero, List.set_cons_succ, List.length_cons, List.length_nil, List.cons_append, List.nil_append, List.append_nil, List.replicate, Nat.reduceSub, Nat.reduceAdd, Nat.reduceEqDiff, if_true, if_false, ite_true, ite_false, reduceIte, Bool.not_true, Bool.not_false, Bool.false_eq_true, Bool.true_and, Bool.false_and, Bool.and_true, Bool.and_false, len_tup, len_lst, ne_int, eq_int, setAll, Mn.wipe, Tg.go, Tg.goes, Option.bind_some, isTup, isIntT, isBlT, isStrT, isLstT, known, List.isEmpty_nil, ownOf, ap_LcF, ap_turn, FM_map, FM_ret, FM_if, FM_opt, FM_nil, oCons_some, oCons_none, noX_ret, ap_Lc2F, ap_turn2, FL_map, FL_ret, FL_nil, ap_go, ap_Wipe, numbered0, paired_map, fAll_map, fAny_map, List.length_map, cutL_from, cutL_upto, mapV_nil, mapV_cons, Int.cast_ofNat_Int, BEq.rfl, Int.reduceLT, Int.reduceLE, Int.reduceBEq, Int.zero_le_ofNat, decide_true, decide_false, ap_For]; rfl
theorem r_right_k04 {r : List Vl} (hr : okR r) (h4 : r.length ≤ 4) : m__law_record_right [eR r] = .ret (.bl true) := by
  simp only [m__law_record_right, b__law_record_right, l3__law_record_right, ap_V, ap_O, ap_own, getV_val, getO_val, getO_own, getO_ownd, getL_own, ap_C, ap_1, ap_2, ap_And, ap_Or, ap_Not, ap_If, ap_aNil, ap_aCons, ap_aStar, ap_Tup, ap_Lst, ap_TupS, ap_LstS, ap_Call, ap_Chain, ap_Cut, ap_oNone, ap_oSome, ap_bV, ap_bAnd, ap_bOr, ap_bNot, ap_bYes, ap_wS, ap_Rng1, ap_Rng2, ap_TupRg1, ap_TupRg2, ap_LstRg1, ap_LstRg2, ap_Enum, ap_Enum2, ap_Zip, ap_mNil, ap_mVal, ap_mOwn, ap_sNx, ap_Seq, seqK_nx, seqK_rt, ap_Asg, ap_Set, ap_Own, ownK_lst, ownK_dct, ap_Ret, ap_sIf, ap_Stk, ap_Drop, ap_App, ap_Ext, ap_PutL, ap_Par, ap_Frz, frzS_own, frzS_val, ap_fn, fnK_rt, fnK_nx, ite_bind, gIx_tup, gIx_lst, itemI0, itemI1, itemI2, itemI3, gCut_tup, gCut_lst, asB_bl, asI_int, asS_tup, asS_lst, asL_lst, gAdd_int, gAdd_tup, gAdd_lst, gSub_int, gMulA_int, gLt_int, gLe_int, gGt_int, gGe_int, fTuple_lst, fTuple_tup, fList_tup, fList_lst, fInt_int, fInt_bl, gIsi_int, gIsi_bl, gIsi_tup, gIsi_lst, gIsi_str, gIsi_non, gIsB_bl, gIsNotB_bl, M.ret_bind, M.stk_bind, M.draw_bind, M.bind_ret, ofO_some, ofO_none, List.getD_cons_zero, List.getD_cons_succ, List.set_cons_zero, List.set_cons_succ, List.length_cons, List.length_nil, List.cons_append, List.nil_append, List.append_nil, List.replicate, Nat.reduceSub, Nat.reduceAdd, Nat.reduceEqDiff, if_true, if_false, ite_true, ite_false, reduceIte, Bool.not_true, Bool.not_false, Bool.false_eq_true, Bool.true_and, Bool.false_and, Bool.and_true, Bool.and_false, len_tup, len_lst, ne_int, eq_int, setAll, Mn.wipe, Tg.go, Tg.goes, Option.bind_some, isTup, isIntT, isBlT, isStrT, isLstT, known, List.isEmpty_nil, ownOf, ap_LcF, ap_turn, FM_map, FM_ret, FM_if, FM_opt, FM_nil, oCons_some, oCons_none, noX_ret, ap_Lc2F, ap_turn2, FL_map, FL_ret, FL_nil, ap_go, ap_Wipe, numbered0, paired_map, fAll_map, fAny_map, List.length_map, cutL_from, cutL_upto, mapV_nil, mapV_cons, Int.cast_ofNat_Int, BEq.rfl, Int.reduceLT, Int.reduceLE, Int.reduceBEq, Int.zero_le_ofNat, decide_true, decide_false, ap_For, lenR, v_lots h4]
  rw [for_same (enc := eL) (lotsN r.length) fun l hl => by
    obtain ⟨hp, hb⟩ := lots_ok h4 l hl
    have hlen : l.length ≤ 4 := Nat.le_trans (by
      rw [← List.length_range (n := r.length)]
      exact List.Nodup.length_le_of_subset (hp.imp fun h => Nat.ne_of_lt h) fun i hi => List.mem_range.mpr (hb i hi)) h4
    have hvs : ∀ v ∈ l.map (rv r), okV v := fun v hv => by
      obtain ⟨i, hi, rfl⟩ := List.mem_map.mp hv
      exact okAt hr (hb i hi)
    have e1 := v_is_cell hvs (by rw [List.length_map]; exact hlen)
    rw [any_row_fit (by rw [List.length_map]; exact hlen)] at e1
    have e2 := v__law_fits hvs
    have e3 := v_is_right hr hp hb
    have erf := rgt_fit (r := r) hp
    have n1 : ∀ b : Bool, gNe (.bl b) (.bl b) = .ret (.bl false) := fun b => by cases b <;> rfl
    have ebad := bad_iff (r := r) hp hb
    rw [List.map_map] at e1 e2
    have hL2 := l2_k04 hr hp hb hlen (.val (.lst (l.map fun i => eV (rv r i)))) (.val (.lst ((((List.range r.length).flatMap (bds r)).filter fun p => inL l p.1).map fun _ => D.int 1))) (fitB (l.map (rv r))) (fun h i hi => by
      have := (fitB_iff _).mp h
      exact this.1 _ (List.mem_map.mpr ⟨i, hi, rfl⟩))
    have hodds := v_all_odds hr
    have hear := v_early_reads hr
    have hin : ∀ x : Int, gIn (.int x) (.tup (l.map eI)) = .ret (.bl (inL l x)) := fun x => gIn_eL x l
    simp only [lb3__law_record_right, c1__law_record_right, eL, ap_V, ap_O, ap_own, getV_val, getO_val, getO_own, getO_ownd, getL_own, ap_C, ap_1, ap_2, ap_And, ap_Or, ap_Not, ap_If, ap_aNil, ap_aCons, ap_aStar, ap_Tup, ap_Lst, ap_TupS, ap_LstS, ap_Call, ap_Chain, ap_Cut, ap_oNone, ap_oSome, ap_bV, ap_bAnd, ap_bOr, ap_bNot, ap_bYes, ap_wS, ap_Rng1, ap_Rng2, ap_TupRg1, ap_TupRg2, ap_LstRg1, ap_LstRg2, ap_Enum, ap_Enum2, ap_Zip, ap_mNil, ap_mVal, ap_mOwn, ap_sNx, ap_Seq, seqK_nx, seqK_rt, ap_Asg, ap_Set, ap_Own, ownK_lst, ownK_dct, ap_Ret, ap_sIf, ap_Stk, ap_Drop, ap_App, ap_Ext, ap_PutL, ap_Par, ap_Frz, frzS_own, frzS_val, ap_fn, fnK_rt, fnK_nx, ite_bind, gIx_tup, gIx_lst, itemI0, itemI1, itemI2, itemI3, gCut_tup, gCut_lst, asB_bl, asI_int, asS_tup, asS_lst, asL_lst, gAdd_int, gAdd_tup, gAdd_lst, gSub_int, gMulA_int, gLt_int, gLe_int, gGt_int, gGe_int, fTuple_lst, fTuple_tup, fList_tup, fList_lst, fInt_int, fInt_bl, gIsi_int, gIsi_bl, gIsi_tup, gIsi_lst, gIsi_str, gIsi_non, gIsB_bl, gIsNotB_bl, M.ret_bind, M.stk_bind, M.draw_bind, M.bind_ret, ofO_some, ofO_none, List.getD_cons_zero, List.getD_cons_succ, List.set_cons_zero, List.set_cons_succ, List.length_cons, List.length_nil, List.cons_append, List.nil_append, List.append_nil, List.replicate, Nat.reduceSub, Nat.reduceAdd, Nat.reduceEqDiff, if_true, if_false, ite_true, ite_false, reduceIte, Bool.not_true, Bool.not_false, Bool.false_eq_true, Bool.true_and, Bool.false_and, Bool.and_true, Bool.and_false, len_tup, len_lst, ne_int, eq_int, setAll, Mn.wipe, Tg.go, Tg.goes, Option.bind_some, isTup, isIntT, isBlT, isStrT, isLstT, known, List.isEmpty_nil, ownOf, ap_LcF, ap_turn, FM_map, FM_ret, FM_if, FM_opt, FM_nil, oCons_some, oCons_none, noX_ret, ap_Lc2F, ap_turn2, FL_map, FL_ret, FL_nil, ap_go, ap_Wipe, numbered0, paired_map, fAll_map, fAny_map, List.length_map, cutL_from, cutL_upto, mapV_nil, mapV_cons, Int.cast_ofNat_Int, BEq.rfl, Int.reduceLT, Int.reduceLE, Int.reduceBEq, Int.zero_le_ofNat, decide_true, decide_false, ap_For]
    rw [FM_congr (g := fun i => .ret (some (eV (rv r i)))) fun i hi => by
      have hx : gIx (eR r) (eI i) = .ret (eV (rv r i)) := ixR (hb i hi)
      simp only [e1__law_record_right, ap_V, ap_O, ap_own, getV_val, getO_val, getO_own, getO_ownd, getL_own, ap_C, ap_1, ap_2, ap_And, ap_Or, ap_Not, ap_If, ap_aNil, ap_aCons, ap_aStar, ap_Tup, ap_Lst, ap_TupS, ap_LstS, ap_Call, ap_Chain, ap_Cut, ap_oNone, ap_oSome, ap_bV, ap_bAnd, ap_bOr, ap_bNot, ap_bYes, ap_wS, ap_Rng1, ap_Rng2, ap_TupRg1, ap_TupRg2, ap_LstRg1, ap_LstRg2, ap_Enum, ap_Enum2, ap_Zip, ap_mNil, ap_mVal, ap_mOwn, ap_sNx, ap_Seq, seqK_nx, seqK_rt, ap_Asg, ap_Set, ap_Own, ownK_lst, ownK_dct, ap_Ret, ap_sIf, ap_Stk, ap_Drop, ap_App, ap_Ext, ap_PutL, ap_Par, ap_Frz, frzS_own, frzS_val, ap_fn, fnK_rt, fnK_nx, ite_bind, gIx_tup, gIx_lst, itemI0, itemI1, itemI2, itemI3, gCut_tup, gCut_lst, asB_bl, asI_int, asS_tup, asS_lst, asL_lst, gAdd_int, gAdd_tup, gAdd_lst, gSub_int, gMulA_int, gLt_int, gLe_int, gGt_int, gGe_int, fTuple_lst, fTuple_tup, fList_tup, fList_lst, fInt_int, fInt_bl, gIsi_int, gIsi_bl, gIsi_tup, gIsi_lst, gIsi_str, gIsi_non, gIsB_bl, gIsNotB_bl, M.ret_bind, M.stk_bind, M.draw_bind, M.bind_ret, ofO_some, ofO_none, List.getD_cons_zero, List.getD_cons_succ, List.set_cons_zero, List.set_cons_succ, List.length_cons, List.length_nil, List.cons_append, List.nil_append, List.append_nil, List.replicate, Nat.reduceSub, Nat.reduceAdd, Nat.reduceEqDiff, if_true, if_false, ite_true, ite_false, reduceIte, Bool.not_true, Bool.not_false, Bool.false_eq_true, Bool.true_and, Bool.false_and, Bool.and_true, Bool.and_false, len_tup, len_lst, ne_int, eq_int, setAll, Mn.wipe, Tg.go, Tg.goes, Option.bind_some, isTup, isIntT, isBlT, isStrT, isLstT, known, List.isEmpty_nil, ownOf, ap_LcF, ap_turn, FM_map, FM_ret, FM_if, FM_opt, FM_nil, oCons_some, oCons_none, noX_ret, ap_Lc2F, ap_turn2, FL_map, FL_ret, FL_nil, ap_go, ap_Wipe, numbered0, paired_map, fAll_map, fAny_map, List.length_map, cutL_from, cutL_upto, mapV_nil, mapV_cons, Int.cast_ofNat_Int, BEq.rfl, Int.reduceLT, Int.reduceLE, Int.reduceBEq, Int.zero_le_ofNat, decide_true, decide_false, ap_For, hx]]
    have ec : (List.map (eV ∘ rv r) l) = l.map fun i => eV (rv r i) := rfl
    rw [ec] at e1 e2
    simp only [eL] at e3 hL2
    have hA : c2__law_record_right [.val (eR r), .val (.tup (l.map eI)), .val (.lst (l.map fun i => eV (rv r i))), .un, .val (.bl (fitB (l.map (rv r)))), .un, .un, .un, .un, .un, .un] = .ret (.lst ((((List.range r.length).flatMap (bds r)).filter fun p => inL l p.1).map fun _ => D.int 1)) := by
      simp only [c2__law_record_right, ap_V, ap_O, ap_own, getV_val, getO_val, getO_own, getO_ownd, getL_own, ap_C, ap_1, ap_2, ap_And, ap_Or, ap_Not, ap_If, ap_aNil, ap_aCons, ap_aStar, ap_Tup, ap_Lst, ap_TupS, ap_LstS, ap_Call, ap_Chain, ap_Cut, ap_oNone, ap_oSome, ap_bV, ap_bAnd, ap_bOr, ap_bNot, ap_bYes, ap_wS, ap_Rng1, ap_Rng2, ap_TupRg1, ap_TupRg2, ap_LstRg1, ap_LstRg2, ap_Enum, ap_Enum2, ap_Zip, ap_mNil, ap_mVal, ap_mOwn, ap_sNx, ap_Seq, seqK_nx, seqK_rt, ap_Asg, ap_Set, ap_Own, ownK_lst, ownK_dct, ap_Ret, ap_sIf, ap_Stk, ap_Drop, ap_App, ap_Ext, ap_PutL, ap_Par, ap_Frz, frzS_own, frzS_val, ap_fn, fnK_rt, fnK_nx, ite_bind, gIx_tup, gIx_lst, itemI0, itemI1, itemI2, itemI3, gCut_tup, gCut_lst, asB_bl, asI_int, asS_tup, asS_lst, asL_lst, gAdd_int, gAdd_tup, gAdd_lst, gSub_int, gMulA_int, gLt_int, gLe_int, gGt_int, gGe_int, fTuple_lst, fTuple_tup, fList_tup, fList_lst, fInt_int, fInt_bl, gIsi_int, gIsi_bl, gIsi_tup, gIsi_lst, gIsi_str, gIsi_non, gIsB_bl, gIsNotB_bl, M.ret_bind, M.stk_bind, M.draw_bind, M.bind_ret, ofO_some, ofO_none, List.getD_cons_zero, List.getD_cons_succ, List.set_cons_zero, List.set_cons_succ, List.length_cons, List.length_nil, List.cons_append, List.nil_append, List.append_nil, List.replicate, Nat.reduceSub, Nat.reduceAdd, Nat.reduceEqDiff, if_true, if_false, ite_true, ite_false, reduceIte, Bool.not_true, Bool.not_false, Bool.false_eq_true, Bool.true_and, Bool.false_and, Bool.and_true, Bool.and_false, len_tup, len_lst, ne_int, eq_int, setAll, Mn.wipe, Tg.go, Tg.goes, Option.bind_some, isTup, isIntT, isBlT, isStrT, isLstT, known, List.isEmpty_nil, ownOf, ap_LcF, ap_turn, FM_map, FM_ret, FM_if, FM_opt, FM_nil, oCons_some, oCons_none, noX_ret, ap_Lc2F, ap_turn2, FL_map, FL_ret, FL_nil, ap_go, ap_Wipe, numbered0, paired_map, fAll_map, fAny_map, List.length_map, cutL_from, cutL_upto, mapV_nil, mapV_cons, Int.cast_ofNat_Int, BEq.rfl, Int.reduceLT, Int.reduceLE, Int.reduceBEq, Int.zero_le_ofNat, decide_true, decide_false, ap_For, hear]
      rw [FM_congr (g := fun p : Int × Int => if inL l p.1 = true then .ret (some (D.int 1)) else .ret none) fun p _ => by
        simp only [eP, t1__law_record_right, e2__law_record_right, ap_V, ap_O, ap_own, getV_val, getO_val, getO_own, getO_ownd, getL_own, ap_C, ap_1, ap_2, ap_And, ap_Or, ap_Not, ap_If, ap_aNil, ap_aCons, ap_aStar, ap_Tup, ap_Lst, ap_TupS, ap_LstS, ap_Call, ap_Chain, ap_Cut, ap_oNone, ap_oSome, ap_bV, ap_bAnd, ap_bOr, ap_bNot, ap_bYes, ap_wS, ap_Rng1, ap_Rng2, ap_TupRg1, ap_TupRg2, ap_LstRg1, ap_LstRg2, ap_Enum, ap_Enum2, ap_Zip, ap_mNil, ap_mVal, ap_mOwn, ap_sNx, ap_Seq, seqK_nx, seqK_rt, ap_Asg, ap_Set, ap_Own, ownK_lst, ownK_dct, ap_Ret, ap_sIf, ap_Stk, ap_Drop, ap_App, ap_Ext, ap_PutL, ap_Par, ap_Frz, frzS_own, frzS_val, ap_fn, fnK_rt, fnK_nx, ite_bind, gIx_tup, gIx_lst, itemI0, itemI1, itemI2, itemI3, gCut_tup, gCut_lst, asB_bl, asI_int, asS_tup, asS_lst, asL_lst, gAdd_int, gAdd_tup, gAdd_lst, gSub_int, gMulA_int, gLt_int, gLe_int, gGt_int, gGe_int, fTuple_lst, fTuple_tup, fList_tup, fList_lst, fInt_int, fInt_bl, gIsi_int, gIsi_bl, gIsi_tup, gIsi_lst, gIsi_str, gIsi_non, gIsB_bl, gIsNotB_bl, M.ret_bind, M.stk_bind, M.draw_bind, M.bind_ret, ofO_some, ofO_none, List.getD_cons_zero, List.getD_cons_succ, List.set_cons_zero, List.set_cons_succ, List.length_cons, List.length_nil, List.cons_append, List.nil_append, List.append_nil, List.replicate, Nat.reduceSub, Nat.reduceAdd, Nat.reduceEqDiff, if_true, if_false, ite_true, ite_false, reduceIte, Bool.not_true, Bool.not_false, Bool.false_eq_true, Bool.true_and, Bool.false_and, Bool.and_true, Bool.and_false, len_tup, len_lst, ne_int, eq_int, setAll, Mn.wipe, Tg.go, Tg.goes, Option.bind_some, isTup, isIntT, isBlT, isStrT, isLstT, known, List.isEmpty_nil, ownOf, ap_LcF, ap_turn, FM_map, FM_ret, FM_if, FM_opt, FM_nil, oCons_some, oCons_none, noX_ret, ap_Lc2F, ap_turn2, FL_map, FL_ret, FL_nil, ap_go, ap_Wipe, numbered0, paired_map, fAll_map, fAny_map, List.length_map, cutL_from, cutL_upto, mapV_nil, mapV_cons, Int.cast_ofNat_Int, BEq.rfl, Int.reduceLT, Int.reduceLE, Int.reduceBEq, Int.zero_le_ofNat, decide_true, decide_false, ap_For, hin]]
      simp only [ap_V, ap_O, ap_own, getV_val, getO_val, getO_own, getO_ownd, getL_own, ap_C, ap_1, ap_2, ap_And, ap_Or, ap_Not, ap_If, ap_aNil, ap_aCons, ap_aStar, ap_Tup, ap_Lst, ap_TupS, ap_LstS, ap_Call, ap_Chain, ap_Cut, ap_oNone, ap_oSome, ap_bV, ap_bAnd, ap_bOr, ap_bNot, ap_bYes, ap_wS, ap_Rng1, ap_Rng2, ap_TupRg1, ap_TupRg2, ap_LstRg1, ap_LstRg2, ap_Enum, ap_Enum2, ap_Zip, ap_mNil, ap_mVal, ap_mOwn, ap_sNx, ap_Seq, seqK_nx, seqK_rt, ap_Asg, ap_Set, ap_Own, ownK_lst, ownK_dct, ap_Ret, ap_sIf, ap_Stk, ap_Drop, ap_App, ap_Ext, ap_PutL, ap_Par, ap_Frz, frzS_own, frzS_val, ap_fn, fnK_rt, fnK_nx, ite_bind, gIx_tup, gIx_lst, itemI0, itemI1, itemI2, itemI3, gCut_tup, gCut_lst, asB_bl, asI_int, asS_tup, asS_lst, asL_lst, gAdd_int, gAdd_tup, gAdd_lst, gSub_int, gMulA_int, gLt_int, gLe_int, gGt_int, gGe_int, fTuple_lst, fTuple_tup, fList_tup, fList_lst, fInt_int, fInt_bl, gIsi_int, gIsi_bl, gIsi_tup, gIsi_lst, gIsi_str, gIsi_non, gIsB_bl, gIsNotB_bl, M.ret_bind, M.stk_bind, M.draw_bind, M.bind_ret, ofO_some, ofO_none, List.getD_cons_zero, List.getD_cons_succ, List.set_cons_zero, List.set_cons_succ, List.length_cons, List.length_nil, List.cons_append, List.nil_append, List.append_nil, List.replicate, Nat.reduceSub, Nat.reduceAdd, Nat.reduceEqDiff, if_true, if_false, ite_true, ite_false, reduceIte, Bool.not_true, Bool.not_false, Bool.false_eq_true, Bool.true_and, Bool.false_and, Bool.and_true, Bool.and_false, len_tup, len_lst, ne_int, eq_int, setAll, Mn.wipe, Tg.go, Tg.goes, Option.bind_some, isTup, isIntT, isBlT, isStrT, isLstT, known, List.isEmpty_nil, ownOf, ap_LcF, ap_turn, FM_map, FM_ret, FM_if, FM_opt, FM_nil, oCons_some, oCons_none, noX_ret, ap_Lc2F, ap_turn2, FL_map, FL_ret, FL_nil, ap_go, ap_Wipe, numbered0, paired_map, fAll_map, fAny_map, List.length_map, cutL_from, cutL_upto, mapV_nil, mapV_cons, Int.cast_ofNat_Int, BEq.rfl, Int.reduceLT, Int.reduceLE, Int.reduceBEq, Int.zero_le_ofNat, decide_true, decide_false, ap_For]
    have hB : ∀ x, c3__law_record_right [.val (eR r), .val (.tup (l.map eI)), .val (.lst (l.map fun i => eV (rv r i))), .un, .val (.bl (fitB (l.map (rv r)))), x, .un, .un, .un, .un, .un] = .ret (.lst (((opL r (List.range r.length)).filter fun p => inL l (p.1 : Int) && inL l (p.2 : Int)).map fun _ => D.int 1)) := fun x => by
      simp only [c3__law_record_right, ap_V, ap_O, ap_own, getV_val, getO_val, getO_own, getO_ownd, getL_own, ap_C, ap_1, ap_2, ap_And, ap_Or, ap_Not, ap_If, ap_aNil, ap_aCons, ap_aStar, ap_Tup, ap_Lst, ap_TupS, ap_LstS, ap_Call, ap_Chain, ap_Cut, ap_oNone, ap_oSome, ap_bV, ap_bAnd, ap_bOr, ap_bNot, ap_bYes, ap_wS, ap_Rng1, ap_Rng2, ap_TupRg1, ap_TupRg2, ap_LstRg1, ap_LstRg2, ap_Enum, ap_Enum2, ap_Zip, ap_mNil, ap_mVal, ap_mOwn, ap_sNx, ap_Seq, seqK_nx, seqK_rt, ap_Asg, ap_Set, ap_Own, ownK_lst, ownK_dct, ap_Ret, ap_sIf, ap_Stk, ap_Drop, ap_App, ap_Ext, ap_PutL, ap_Par, ap_Frz, frzS_own, frzS_val, ap_fn, fnK_rt, fnK_nx, ite_bind, gIx_tup, gIx_lst, itemI0, itemI1, itemI2, itemI3, gCut_tup, gCut_lst, asB_bl, asI_int, asS_tup, asS_lst, asL_lst, gAdd_int, gAdd_tup, gAdd_lst, gSub_int, gMulA_int, gLt_int, gLe_int, gGt_int, gGe_int, fTuple_lst, fTuple_tup, fList_tup, fList_lst, fInt_int, fInt_bl, gIsi_int, gIsi_bl, gIsi_tup, gIsi_lst, gIsi_str, gIsi_non, gIsB_bl, gIsNotB_bl, M.ret_bind, M.stk_bind, M.draw_bind, M.bind_ret, ofO_some, ofO_none, List.getD_cons_zero, List.getD_cons_succ, List.set_cons_zero, List.set_cons_succ, List.length_cons, List.length_nil, List.cons_append, List.nil_append, List.append_nil, List.replicate, Nat.reduceSub, Nat.reduceAdd, Nat.reduceEqDiff, if_true, if_false, ite_true, ite_false, reduceIte, Bool.not_true, Bool.not_false, Bool.false_eq_true, Bool.true_and, Bool.false_and, Bool.and_true, Bool.and_false, len_tup, len_lst, ne_int, eq_int, setAll, Mn.wipe, Tg.go, Tg.goes, Option.bind_some, isTup, isIntT, isBlT, isStrT, isLstT, known, List.isEmpty_nil, ownOf, ap_LcF, ap_turn, FM_map, FM_ret, FM_if, FM_opt, FM_nil, oCons_some, oCons_none, noX_ret, ap_Lc2F, ap_turn2, FL_map, FL_ret, FL_nil, ap_go, ap_Wipe, numbered0, paired_map, fAll_map, fAny_map, List.length_map, cutL_from, cutL_upto, mapV_nil, mapV_cons, Int.cast_ofNat_Int, BEq.rfl, Int.reduceLT, Int.reduceLE, Int.reduceBEq, Int.zero_le_ofNat, decide_true, decide_false, ap_For, hodds]
      rw [FM_congr (g := fun p : Nat × Nat => if (inL l (p.1 : Int) && inL l (p.2 : Int)) = true then .ret (some (D.int 1)) else .ret none) fun p _ => by
        simp only [eQ, eI, t2__law_record_right, e3__law_record_right, ap_V, ap_O, ap_own, getV_val, getO_val, getO_own, getO_ownd, getL_own, ap_C, ap_1, ap_2, ap_And, ap_Or, ap_Not, ap_If, ap_aNil, ap_aCons, ap_aStar, ap_Tup, ap_Lst, ap_TupS, ap_LstS, ap_Call, ap_Chain, ap_Cut, ap_oNone, ap_oSome, ap_bV, ap_bAnd, ap_bOr, ap_bNot, ap_bYes, ap_wS, ap_Rng1, ap_Rng2, ap_TupRg1, ap_TupRg2, ap_LstRg1, ap_LstRg2, ap_Enum, ap_Enum2, ap_Zip, ap_mNil, ap_mVal, ap_mOwn, ap_sNx, ap_Seq, seqK_nx, seqK_rt, ap_Asg, ap_Set, ap_Own, ownK_lst, ownK_dct, ap_Ret, ap_sIf, ap_Stk, ap_Drop, ap_App, ap_Ext, ap_PutL, ap_Par, ap_Frz, frzS_own, frzS_val, ap_fn, fnK_rt, fnK_nx, ite_bind, gIx_tup, gIx_lst, itemI0, itemI1, itemI2, itemI3, gCut_tup, gCut_lst, asB_bl, asI_int, asS_tup, asS_lst, asL_lst, gAdd_int, gAdd_tup, gAdd_lst, gSub_int, gMulA_int, gLt_int, gLe_int, gGt_int, gGe_int, fTuple_lst, fTuple_tup, fList_tup, fList_lst, fInt_int, fInt_bl, gIsi_int, gIsi_bl, gIsi_tup, gIsi_lst, gIsi_str, gIsi_non, gIsB_bl, gIsNotB_bl, M.ret_bind, M.stk_bind, M.draw_bind, M.bind_ret, ofO_some, ofO_none, List.getD_cons_zero, List.getD_cons_succ, List.set_cons_zero, List.set_cons_succ, List.length_cons, List.length_nil, List.cons_append, List.nil_append, List.append_nil, List.replicate, Nat.reduceSub, Nat.reduceAdd, Nat.reduceEqDiff, if_true, if_false, ite_true, ite_false, reduceIte, Bool.not_true, Bool.not_false, Bool.false_eq_true, Bool.true_and, Bool.false_and, Bool.and_true, Bool.and_false, len_tup, len_lst, ne_int, eq_int, setAll, Mn.wipe, Tg.go, Tg.goes, Option.bind_some, isTup, isIntT, isBlT, isStrT, isLstT, known, List.isEmpty_nil, ownOf, ap_LcF, ap_turn, FM_map, FM_ret, FM_if, FM_opt, FM_nil, oCons_some, oCons_none, noX_ret, ap_Lc2F, ap_turn2, FL_map, FL_ret, FL_nil, ap_go, ap_Wipe, numbered0, paired_map, fAll_map, fAny_map, List.length_map, cutL_from, cutL_upto, mapV_nil, mapV_cons, Int.cast_ofNat_Int, BEq.rfl, Int.reduceLT, Int.reduceLE, Int.reduceBEq, Int.zero_le_ofNat, decide_true, decide_false, ap_For, hin]
        cases inL l (p.1 : Int) <;> simp only [ap_V, ap_O, ap_own, getV_val, getO_val, getO_own, getO_ownd, getL_own, ap_C, ap_1, ap_2, ap_And, ap_Or, ap_Not, ap_If, ap_aNil, ap_aCons, ap_aStar, ap_Tup, ap_Lst, ap_TupS, ap_LstS, ap_Call, ap_Chain, ap_Cut, ap_oNone, ap_oSome, ap_bV, ap_bAnd, ap_bOr, ap_bNot, ap_bYes, ap_wS, ap_Rng1, ap_Rng2, ap_TupRg1, ap_TupRg2, ap_LstRg1, ap_LstRg2, ap_Enum, ap_Enum2, ap_Zip, ap_mNil, ap_mVal, ap_mOwn, ap_sNx, ap_Seq, seqK_nx, seqK_rt, ap_Asg, ap_Set, ap_Own, ownK_lst, ownK_dct, ap_Ret, ap_sIf, ap_Stk, ap_Drop, ap_App, ap_Ext, ap_PutL, ap_Par, ap_Frz, frzS_own, frzS_val, ap_fn, fnK_rt, fnK_nx, ite_bind, gIx_tup, gIx_lst, itemI0, itemI1, itemI2, itemI3, gCut_tup, gCut_lst, asB_bl, asI_int, asS_tup, asS_lst, asL_lst, gAdd_int, gAdd_tup, gAdd_lst, gSub_int, gMulA_int, gLt_int, gLe_int, gGt_int, gGe_int, fTuple_lst, fTuple_tup, fList_tup, fList_lst, fInt_int, fInt_bl, gIsi_int, gIsi_bl, gIsi_tup, gIsi_lst, gIsi_str, gIsi_non, gIsB_bl, gIsNotB_bl, M.ret_bind, M.stk_bind, M.draw_bind, M.bind_ret, ofO_some, ofO_none, List.getD_cons_zero, List.getD_cons_succ, List.set_cons_zero, List.set_cons_succ, List.length_cons, List.length_nil, List.cons_append, List.nil_append, List.append_nil, List.replicate, Nat.reduceSub, Nat.reduceAdd, Nat.reduceEqDiff, if_true, if_false, ite_true, ite_false, reduceIte, Bool.not_true, Bool.not_false, Bool.false_eq_true, Bool.true_and, Bool.false_and, Bool.and_true, Bool.and_false, len_tup, len_lst, ne_int, eq_int, setAll, Mn.wipe, Tg.go, Tg.goes, Option.bind_some, isTup, isIntT, isBlT, isStrT, isLstT, known, List.isEmpty_nil, ownOf, ap_LcF, ap_turn, FM_map, FM_ret, FM_if, FM_opt, FM_nil, oCons_some, oCons_none, noX_ret, ap_Lc2F, ap_turn2, FL_map, FL_ret, FL_nil, ap_go, ap_Wipe, numbered0, paired_map, fAll_map, fAny_map, List.length_map, cutL_from, cutL_upto, mapV_nil, mapV_cons, Int.cast_ofNat_Int, BEq.rfl, Int.reduceLT, Int.reduceLE, Int.reduceBEq, Int.zero_le_ofNat, decide_true, decide_false, ap_For]]
      simp only [ap_V, ap_O, ap_own, getV_val, getO_val, getO_own, getO_ownd, getL_own, ap_C, ap_1, ap_2, ap_And, ap_Or, ap_Not, ap_If, ap_aNil, ap_aCons, ap_aStar, ap_Tup, ap_Lst, ap_TupS, ap_LstS, ap_Call, ap_Chain, ap_Cut, ap_oNone, ap_oSome, ap_bV, ap_bAnd, ap_bOr, ap_bNot, ap_bYes, ap_wS, ap_Rng1, ap_Rng2, ap_TupRg1, ap_TupRg2, ap_LstRg1, ap_LstRg2, ap_Enum, ap_Enum2, ap_Zip, ap_mNil, ap_mVal, ap_mOwn, ap_sNx, ap_Seq, seqK_nx, seqK_rt, ap_Asg, ap_Set, ap_Own, ownK_lst, ownK_dct, ap_Ret, ap_sIf, ap_Stk, ap_Drop, ap_App, ap_Ext, ap_PutL, ap_Par, ap_Frz, frzS_own, frzS_val, ap_fn, fnK_rt, fnK_nx, ite_bind, gIx_tup, gIx_lst, itemI0, itemI1, itemI2, itemI3, gCut_tup, gCut_lst, asB_bl, asI_int, asS_tup, asS_lst, asL_lst, gAdd_int, gAdd_tup, gAdd_lst, gSub_int, gMulA_int, gLt_int, gLe_int, gGt_int, gGe_int, fTuple_lst, fTuple_tup, fList_tup, fList_lst, fInt_int, fInt_bl, gIsi_int, gIsi_bl, gIsi_tup, gIsi_lst, gIsi_str, gIsi_non, gIsB_bl, gIsNotB_bl, M.ret_bind, M.stk_bind, M.draw_bind, M.bind_ret, ofO_some, ofO_none, List.getD_cons_zero, List.getD_cons_succ, List.set_cons_zero, List.set_cons_succ, List.length_cons, List.length_nil, List.cons_append, List.nil_append, List.append_nil, List.replicate, Nat.reduceSub, Nat.reduceAdd, Nat.reduceEqDiff, if_true, if_false, ite_true, ite_false, reduceIte, Bool.not_true, Bool.not_false, Bool.false_eq_true, Bool.true_and, Bool.false_and, Bool.and_true, Bool.and_false, len_tup, len_lst, ne_int, eq_int, setAll, Mn.wipe, Tg.go, Tg.goes, Option.bind_some, isTup, isIntT, isBlT, isStrT, isLstT, known, List.isEmpty_nil, ownOf, ap_LcF, ap_turn, FM_map, FM_ret, FM_if, FM_opt, FM_nil, oCons_some, oCons_none, noX_ret, ap_Lc2F, ap_turn2, FL_map, FL_ret, FL_nil, ap_go, ap_Wipe, numbered0, paired_map, fAll_map, fAny_map, List.length_map, cutL_from, cutL_upto, mapV_nil, mapV_cons, Int.cast_ofNat_Int, BEq.rfl, Int.reduceLT, Int.reduceLE, Int.reduceBEq, Int.zero_le_ofNat, decide_true, decide_false, ap_For]
    simp only [ap_V, ap_O, ap_own, getV_val, getO_val, getO_own, getO_ownd, getL_own, ap_C, ap_1, ap_2, ap_And, ap_Or, ap_Not, ap_If, ap_aNil, ap_aCons, ap_aStar, ap_Tup, ap_Lst, ap_TupS, ap_LstS, ap_Call, ap_Chain, ap_Cut, ap_oNone, ap_oSome, ap_bV, ap_bAnd, ap_bOr, ap_bNot, ap_bYes, ap_wS, ap_Rng1, ap_Rng2, ap_TupRg1, ap_TupRg2, ap_LstRg1, ap_LstRg2, ap_Enum, ap_Enum2, ap_Zip, ap_mNil, ap_mVal, ap_mOwn, ap_sNx, ap_Seq, seqK_nx, seqK_rt, ap_Asg, ap_Set, ap_Own, ownK_lst, ownK_dct, ap_Ret, ap_sIf, ap_Stk, ap_Drop, ap_App, ap_Ext, ap_PutL, ap_Par, ap_Frz, frzS_own, frzS_val, ap_fn, fnK_rt, fnK_nx, ite_bind, gIx_tup, gIx_lst, itemI0, itemI1, itemI2, itemI3, gCut_tup, gCut_lst, asB_bl, asI_int, asS_tup, asS_lst, asL_lst, gAdd_int, gAdd_tup, gAdd_lst, gSub_int, gMulA_int, gLt_int, gLe_int, gGt_int, gGe_int, fTuple_lst, fTuple_tup, fList_tup, fList_lst, fInt_int, fInt_bl, gIsi_int, gIsi_bl, gIsi_tup, gIsi_lst, gIsi_str, gIsi_non, gIsB_bl, gIsNotB_bl, M.ret_bind, M.stk_bind, M.draw_bind, M.bind_ret, ofO_some, ofO_none, List.getD_cons_zero, List.getD_cons_succ, List.set_cons_zero, List.set_cons_succ, List.length_cons, List.length_nil, List.cons_append, List.nil_append, List.append_nil, List.replicate, Nat.reduceSub, Nat.reduceAdd, Nat.reduceEqDiff, if_true, if_false, ite_true, ite_false, reduceIte, Bool.not_true, Bool.not_false, Bool.false_eq_true, Bool.true_and, Bool.false_and, Bool.and_true, Bool.and_false, len_tup, len_lst, ne_int, eq_int, setAll, Mn.wipe, Tg.go, Tg.goes, Option.bind_some, isTup, isIntT, isBlT, isStrT, isLstT, known, List.isEmpty_nil, ownOf, ap_LcF, ap_turn, FM_map, FM_ret, FM_if, FM_opt, FM_nil, oCons_some, oCons_none, noX_ret, ap_Lc2F, ap_turn2, FL_map, FL_ret, FL_nil, ap_go, ap_Wipe, numbered0, paired_map, fAll_map, fAny_map, List.length_map, cutL_from, cutL_upto, mapV_nil, mapV_cons, Int.cast_ofNat_Int, BEq.rfl, Int.reduceLT, Int.reduceLE, Int.reduceBEq, Int.zero_le_ofNat, decide_true, decide_false, ap_For, e1, e2, e3, n1, erf, hA, hB]
    generalize hAA : (((List.range r.length).flatMap (bds r)).filter fun p => inL l p.1) = A at ebad hL2 ⊢
    generalize hBB : ((opL r (List.range r.length)).filter fun p => inL l (p.1 : Int) && inL l (p.2 : Int)) = B at ebad ⊢
    have hAl : A.length ≤ 100 := by
      rw [← hAA]
      refine Nat.le_trans (List.length_filter_le _ _) ?_
      have := bound_flat (bds r) 4 (List.range r.length) fun i hi => bds_len hr (List.mem_range.mp hi)
      rw [List.length_range] at this
      omega
    have hBl : B.length ≤ 100 := by
      rw [← hBB]
      refine Nat.le_trans (List.length_filter_le _ _) ?_
      have := opL_len r (List.range r.length) r.length (by rw [List.length_range]; exact Nat.le_refl _)
      rw [List.length_range] at this
      have h2 := Nat.mul_le_mul h4 h4
      omega
    have hAB : A.length + B.length ≤ line := by unfold line; omega
    have hem : gEq (.lst ((A.map fun _ => D.int 1) ++ (B.map fun _ => D.int 1))) (.lst []) = .ret (.bl (fitB (l.map (rv r)))) := by
      rw [eqNilD (flats_app (flats_map fun _ _ => rfl) (flats_map fun _ _ => rfl)), ← erf]
      refine congrArg (fun b => M.ret (D.bl b)) ?_
      rw [Bool.eq_iff_iff, List.isEmpty_iff, List.append_eq_nil_iff, List.map_eq_nil_iff, List.map_eq_nil_iff]
      exact ebad
    simp only [ap_V, ap_O, ap_own, getV_val, getO_val, getO_own, getO_ownd, getL_own, ap_C, ap_1, ap_2, ap_And, ap_Or, ap_Not, ap_If, ap_aNil, ap_aCons, ap_aStar, ap_Tup, ap_Lst, ap_TupS, ap_LstS, ap_Call, ap_Chain, ap_Cut, ap_oNone, ap_oSome, ap_bV, ap_bAnd, ap_bOr, ap_bNot, ap_bYes, ap_wS, ap_Rng1, ap_Rng2, ap_TupRg1, ap_TupRg2, ap_LstRg1, ap_LstRg2, ap_Enum, ap_Enum2, ap_Zip, ap_mNil, ap_mVal, ap_mOwn, ap_sNx, ap_Seq, seqK_nx, seqK_rt, ap_Asg, ap_Set, ap_Own, ownK_lst, ownK_dct, ap_Ret, ap_sIf, ap_Stk, ap_Drop, ap_App, ap_Ext, ap_PutL, ap_Par, ap_Frz, frzS_own, frzS_val, ap_fn, fnK_rt, fnK_nx, ite_bind, gIx_tup, gIx_lst, itemI0, itemI1, itemI2, itemI3, gCut_tup, gCut_lst, asB_bl, asI_int, asS_tup, asS_lst, asL_lst, gAdd_int, gAdd_tup, gAdd_lst, gSub_int, gMulA_int, gLt_int, gLe_int, gGt_int, gGe_int, fTuple_lst, fTuple_tup, fList_tup, fList_lst, fInt_int, fInt_bl, gIsi_int, gIsi_bl, gIsi_tup, gIsi_lst, gIsi_str, gIsi_non, gIsB_bl, gIsNotB_bl, M.ret_bind, M.stk_bind, M.draw_bind, M.bind_ret, ofO_some, ofO_none, List.getD_cons_zero, List.getD_cons_succ, List.set_cons_zero, List.set_cons_succ, List.length_cons, List.length_nil, List.cons_append, List.nil_append, List.append_nil, List.replicate, Nat.reduceSub, Nat.reduceAdd, Nat.reduceEqDiff, if_true, if_false, ite_true, ite_false, reduceIte, Bool.not_true, Bool.not_false, Bool.false_eq_true, Bool.true_and, Bool.false_and, Bool.and_true, Bool.and_false, len_tup, len_lst, ne_int, eq_int, setAll, Mn.wipe, Tg.go, Tg.goes, Option.bind_some, isTup, isIntT, isBlT, isStrT, isLstT, known, List.isEmpty_nil, ownOf, ap_LcF, ap_turn, FM_map, FM_ret, FM_if, FM_opt, FM_nil, oCons_some, oCons_none, noX_ret, ap_Lc2F, ap_turn2, FL_map, FL_ret, FL_nil, ap_go, ap_Wipe, numbered0, paired_map, fAll_map, fAny_map, List.length_map, cutL_from, cutL_upto, mapV_nil, mapV_cons, Int.cast_ofNat_Int, BEq.rfl, Int.reduceLT, Int.reduceLE, Int.reduceBEq, Int.zero_le_ofNat, decide_true, decide_false, ap_For, hAB, hem, n1, hL2]]
  simp only [ap_V, ap_O, ap_own, getV_val, getO_val, getO_own, getO_ownd, getL_own, ap_C, ap_1, ap_2, ap_And, ap_Or, ap_Not, ap_If, ap_aNil, ap_aCons, ap_aStar, ap_Tup, ap_Lst, ap_TupS, ap_LstS, ap_Call, ap_Chain, ap_Cut, ap_oNone, ap_oSome, ap_bV, ap_bAnd, ap_bOr, ap_bNot, ap_bYes, ap_wS, ap_Rng1, ap_Rng2, ap_TupRg1, ap_TupRg2, ap_LstRg1, ap_LstRg2, ap_Enum, ap_Enum2, ap_Zip, ap_mNil, ap_mVal, ap_mOwn, ap_sNx, ap_Seq, seqK_nx, seqK_rt, ap_Asg, ap_Set, ap_Own, ownK_lst, ownK_dct, ap_Ret, ap_sIf, ap_Stk, ap_Drop, ap_App, ap_Ext, ap_PutL, ap_Par, ap_Frz, frzS_own, frzS_val, ap_fn, fnK_rt, fnK_nx, ite_bind, gIx_tup, gIx_lst, itemI0, itemI1, itemI2, itemI3, gCut_tup, gCut_lst, asB_bl, asI_int, asS_tup, asS_lst, asL_lst, gAdd_int, gAdd_tup, gAdd_lst, gSub_int, gMulA_int, gLt_int, gLe_int, gGt_int, gGe_int, fTuple_lst, fTuple_tup, fList_tup, fList_lst, fInt_int, fInt_bl, gIsi_int, gIsi_bl, gIsi_tup, gIsi_lst, gIsi_str, gIsi_non, gIsB_bl, gIsNotB_bl, M.ret_bind, M.stk_bind, M.draw_bind, M.bind_ret, ofO_some, ofO_none, List.getD_cons_zero, List.getD_cons_succ, List.set_cons_zero, List.set_cons_succ, List.length_cons, List.length_nil, List.cons_append, List.nil_append, List.append_nil, List.replicate, Nat.reduceSub, Nat.reduceAdd, Nat.reduceEqDiff, if_true, if_false, ite_true, ite_false, reduceIte, Bool.not_true, Bool.not_false, Bool.false_eq_true, Bool.true_and, Bool.false_and, Bool.and_true, Bool.and_false, len_tup, len_lst, ne_int, eq_int, setAll, Mn.wipe, Tg.go, Tg.goes, Option.bind_some, isTup, isIntT, isBlT, isStrT, isLstT, known, List.isEmpty_nil, ownOf, ap_LcF, ap_turn, FM_map, FM_ret, FM_if, FM_opt, FM_nil, oCons_some, oCons_none, noX_ret, ap_Lc2F, ap_turn2, FL_map, FL_ret, FL_nil, ap_go, ap_Wipe, numbered0, paired_map, fAll_map, fAny_map, List.length_map, cutL_from, cutL_upto, mapV_nil, mapV_cons, Int.cast_ofNat_Int, BEq.rfl, Int.reduceLT, Int.reduceLE, Int.reduceBEq, Int.zero_le_ofNat, decide_true, decide_false, ap_For]
end Hd

set_option maxHeartbeats 1000000
set_option maxRecDepth 100000
namespace Hd
open Mn
/-! the law -/
abbrev lw (ns : List Int) (x2 : SV) : Sl := [.val (.scr ns), .val .st, x2, .un, .un, .un, .un, .un]
def OkS (ns : List Int) (r : Fl × Sl) : Prop := r = (Fl.nx, lw ns .un)
theorem runs_same {g : Tg} {b : XS} {k : Nat} {σ : Sl} : ∀ (ds : List D), (∀ d ∈ ds, Runs (turn g b d σ) k (fun r => r = (Fl.nx, σ))) → Runs (forGo g b ds σ) (ds.length * k) (fun r => r = (Fl.nx, σ))
  | [], _ => .ret rfl
  | d :: ds, h => by
    rw [forGo_turn, List.length_cons, Nat.add_mul, Nat.one_mul, Nat.add_comm]
    refine (h d List.mem_cons_self).bind fun a ha => ?_
    subst ha
    exact runs_same ds fun d hd => h d (List.mem_cons_of_mem _ hd)
theorem range_lt (n : Nat) : (List.range n).Pairwise (· < ·) := List.pairwise_lt_range
theorem tup_range (n : Nat) : D.tup (upTo 0 n) = eL (List.range n) := by rw [upTo0]; rfl
theorem k04_1 (ns : List Int) : Runs (l1_law (lw ns .un)) 1800 (OkS ns) := by
  simp only [l1_law, lw, ap_V, ap_O, ap_own, getV_val, getO_val, getO_own, getO_ownd, getL_own, ap_C, ap_1, ap_2, ap_And, ap_Or, ap_Not, ap_If, ap_aNil, ap_aCons, ap_aStar, ap_Tup, ap_Lst, ap_TupS, ap_LstS, ap_Call, ap_Chain, ap_Cut, ap_oNone, ap_oSome, ap_bV, ap_bAnd, ap_bOr, ap_bNot, ap_bYes, ap_wS, ap_Rng1, ap_Rng2, ap_TupRg1, ap_TupRg2, ap_LstRg1, ap_LstRg2, ap_Enum, ap_Enum2, ap_Zip, ap_mNil, ap_mVal, ap_mOwn, ap_sNx, ap_Seq, seqK_nx, seqK_rt, ap_Asg, ap_Set, ap_Own, ownK_lst, ownK_dct, ap_Ret, ap_sIf, ap_Stk, ap_Drop, ap_App, ap_Ext, ap_PutL, ap_Par, ap_Frz, frzS_own, frzS_val, ap_fn, fnK_rt, fnK_nx, ite_bind, gIx_tup, gIx_lst, itemI0, itemI1, itemI2, itemI3, gCut_tup, gCut_lst, asB_bl, asI_int, asS_tup, asS_lst, asL_lst, gAdd_int, gAdd_tup, gAdd_lst, gSub_int, gMulA_int, gLt_int, gLe_int, gGt_int, gGe_int, fTuple_lst, fTuple_tup, fList_tup, fList_lst, fInt_int, fInt_bl, gIsi_int, gIsi_bl, gIsi_tup, gIsi_lst, gIsi_str, gIsi_non, gIsB_bl, gIsNotB_bl, M.ret_bind, M.stk_bind, M.draw_bind, M.bind_ret, ofO_some, ofO_none, List.getD_cons_zero, List.getD_cons_succ, List.set_cons_zero, List.set_cons_succ, List.length_cons, List.length_nil, List.cons_append, List.nil_append, List.append_nil, List.replicate, Nat.reduceSub, Nat.reduceAdd, Nat.reduceEqDiff, if_true, if_false, ite_true, ite_false, reduceIte, Bool.not_true, Bool.not_false, Bool.false_eq_true, Bool.true_and, Bool.false_and, Bool.and_true, Bool.and_false, len_tup, len_lst, ne_int, eq_int, setAll, Mn.wipe, Tg.go, Tg.goes, Option.bind_some, isTup, isIntT, isBlT, isStrT, isLstT, known, List.isEmpty_nil, ownOf, ap_LcF, ap_turn, FM_map, FM_ret, FM_if, FM_opt, FM_nil, oCons_some, oCons_none, noX_ret, ap_Lc2F, ap_turn2, FL_map, FL_ret, FL_nil, ap_go, ap_Wipe, numbered0, paired_map, fAll_map, fAny_map, List.length_map, cutL_from, cutL_upto, mapV_nil, mapV_cons, Int.cast_ofNat_Int, BEq.rfl, Int.reduceLT, Int.reduceLE, Int.reduceBEq, Int.zero_le_ofNat, decide_true, decide_false, ap_For]
  refine (runs_same (k := 300) (upTo 0 6) fun d _ => ?_).le (by decide)
  simp only [lb1_law, ap_V, ap_O, ap_own, getV_val, getO_val, getO_own, getO_ownd, getL_own, ap_C, ap_1, ap_2, ap_And, ap_Or, ap_Not, ap_If, ap_aNil, ap_aCons, ap_aStar, ap_Tup, ap_Lst, ap_TupS, ap_LstS, ap_Call, ap_Chain, ap_Cut, ap_oNone, ap_oSome, ap_bV, ap_bAnd, ap_bOr, ap_bNot, ap_bYes, ap_wS, ap_Rng1, ap_Rng2, ap_TupRg1, ap_TupRg2, ap_LstRg1, ap_LstRg2, ap_Enum, ap_Enum2, ap_Zip, ap_mNil, ap_mVal, ap_mOwn, ap_sNx, ap_Seq, seqK_nx, seqK_rt, ap_Asg, ap_Set, ap_Own, ownK_lst, ownK_dct, ap_Ret, ap_sIf, ap_Stk, ap_Drop, ap_App, ap_Ext, ap_PutL, ap_Par, ap_Frz, frzS_own, frzS_val, ap_fn, fnK_rt, fnK_nx, ite_bind, gIx_tup, gIx_lst, itemI0, itemI1, itemI2, itemI3, gCut_tup, gCut_lst, asB_bl, asI_int, asS_tup, asS_lst, asL_lst, gAdd_int, gAdd_tup, gAdd_lst, gSub_int, gMulA_int, gLt_int, gLe_int, gGt_int, gGe_int, fTuple_lst, fTuple_tup, fList_tup, fList_lst, fInt_int, fInt_bl, gIsi_int, gIsi_bl, gIsi_tup, gIsi_lst, gIsi_str, gIsi_non, gIsB_bl, gIsNotB_bl, M.ret_bind, M.stk_bind, M.draw_bind, M.bind_ret, ofO_some, ofO_none, List.getD_cons_zero, List.getD_cons_succ, List.set_cons_zero, List.set_cons_succ, List.length_cons, List.length_nil, List.cons_append, List.nil_append, List.append_nil, List.replicate, Nat.reduceSub, Nat.reduceAdd, Nat.reduceEqDiff, if_true, if_false, ite_true, ite_false, reduceIte, Bool.not_true, Bool.not_false, Bool.false_eq_true, Bool.true_and, Bool.false_and, Bool.and_true, Bool.and_false, len_tup, len_lst, ne_int, eq_int, setAll, Mn.wipe, Tg.go, Tg.goes, Option.bind_some, isTup, isIntT, isBlT, isStrT, isLstT, known, List.isEmpty_nil, ownOf, ap_LcF, ap_turn, FM_map, FM_ret, FM_if, FM_opt, FM_nil, oCons_some, oCons_none, noX_ret, ap_Lc2F, ap_turn2, FL_map, FL_ret, FL_nil, ap_go, ap_Wipe, numbered0, paired_map, fAll_map, fAny_map, List.length_map, cutL_from, cutL_upto, mapV_nil, mapV_cons, Int.cast_ofNat_Int, BEq.rfl, Int.reduceLT, Int.reduceLE, Int.reduceBEq, Int.zero_le_ofNat, decide_true, decide_false, ap_For, M.bind_assoc]
  have hrec := r_record (many := 4) (by decide) (by decide)
  simp only [Int.cast_ofNat_Int] at hrec
  refine (hrec.bind (j := 0) fun x ⟨r, e, hr, h4, _⟩ => ?_).le (by decide)
  subst e
  simp only [r_right_k04 hr h4, ap_V, ap_O, ap_own, getV_val, getO_val, getO_own, getO_ownd, getL_own, ap_C, ap_1, ap_2, ap_And, ap_Or, ap_Not, ap_If, ap_aNil, ap_aCons, ap_aStar, ap_Tup, ap_Lst, ap_TupS, ap_LstS, ap_Call, ap_Chain, ap_Cut, ap_oNone, ap_oSome, ap_bV, ap_bAnd, ap_bOr, ap_bNot, ap_bYes, ap_wS, ap_Rng1, ap_Rng2, ap_TupRg1, ap_TupRg2, ap_LstRg1, ap_LstRg2, ap_Enum, ap_Enum2, ap_Zip, ap_mNil, ap_mVal, ap_mOwn, ap_sNx, ap_Seq, seqK_nx, seqK_rt, ap_Asg, ap_Set, ap_Own, ownK_lst, ownK_dct, ap_Ret, ap_sIf, ap_Stk, ap_Drop, ap_App, ap_Ext, ap_PutL, ap_Par, ap_Frz, frzS_own, frzS_val, ap_fn, fnK_rt, fnK_nx, ite_bind, gIx_tup, gIx_lst, itemI0, itemI1, itemI2, itemI3, gCut_tup, gCut_lst, asB_bl, asI_int, asS_tup, asS_lst, asL_lst, gAdd_int, gAdd_tup, gAdd_lst, gSub_int, gMulA_int, gLt_int, gLe_int, gGt_int, gGe_int, fTuple_lst, fTuple_tup, fList_tup, fList_lst, fInt_int, fInt_bl, gIsi_int, gIsi_bl, gIsi_tup, gIsi_lst, gIsi_str, gIsi_non, gIsB_bl, gIsNotB_bl, M.ret_bind, M.stk_bind, M.draw_bind, M.bind_ret, ofO_some, ofO_none, List.getD_cons_zero, List.getD_cons_succ, List.set_cons_zero, List.set_cons_succ, List.length_cons, List.length_nil, List.cons_append, List.nil_append, List.append_nil, List.replicate, Nat.reduceSub, Nat.reduceAdd, Nat.reduceEqDiff, if_true, if_false, ite_true, ite_false, reduceIte, Bool.not_true, Bool.not_false, Bool.false_eq_true, Bool.true_and, Bool.false_and, Bool.and_true, Bool.and_false, len_tup, len_lst, ne_int, eq_int, setAll, Mn.wipe, Tg.go, Tg.goes, Option.bind_some, isTup, isIntT, isBlT, isStrT, isLstT, known, List.isEmpty_nil, ownOf, ap_LcF, ap_turn, FM_map, FM_ret, FM_if, FM_opt, FM_nil, oCons_some, oCons_none, noX_ret, ap_Lc2F, ap_turn2, FL_map, FL_ret, FL_nil, ap_go, ap_Wipe, numbered0, paired_map, fAll_map, fAny_map, List.length_map, cutL_from, cutL_upto, mapV_nil, mapV_cons, Int.cast_ofNat_Int, BEq.rfl, Int.reduceLT, Int.reduceLE, Int.reduceBEq, Int.zero_le_ofNat, decide_true, decide_false, ap_For]
  exact .ret rfl
theorem fit_all {r : List Vl} (h : (∀ v ∈ r, ear v = []) ∧ r.Pairwise fun a b => odd a b = false) : rgt r (List.range r.length) = true := by
  rw [rgt_fit (range_lt _)]
  exact fit_sub h (range_lt _) fun i hi => List.mem_range.mp hi
theorem k04_2 (ns : List Int) : Runs (l2_law (lw ns .un)) 1000 (OkS ns) := by
  simp only [l2_law, lw, ap_V, ap_O, ap_own, getV_val, getO_val, getO_own, getO_ownd, getL_own, ap_C, ap_1, ap_2, ap_And, ap_Or, ap_Not, ap_If, ap_aNil, ap_aCons, ap_aStar, ap_Tup, ap_Lst, ap_TupS, ap_LstS, ap_Call, ap_Chain, ap_Cut, ap_oNone, ap_oSome, ap_bV, ap_bAnd, ap_bOr, ap_bNot, ap_bYes, ap_wS, ap_Rng1, ap_Rng2, ap_TupRg1, ap_TupRg2, ap_LstRg1, ap_LstRg2, ap_Enum, ap_Enum2, ap_Zip, ap_mNil, ap_mVal, ap_mOwn, ap_sNx, ap_Seq, seqK_nx, seqK_rt, ap_Asg, ap_Set, ap_Own, ownK_lst, ownK_dct, ap_Ret, ap_sIf, ap_Stk, ap_Drop, ap_App, ap_Ext, ap_PutL, ap_Par, ap_Frz, frzS_own, frzS_val, ap_fn, fnK_rt, fnK_nx, ite_bind, gIx_tup, gIx_lst, itemI0, itemI1, itemI2, itemI3, gCut_tup, gCut_lst, asB_bl, asI_int, asS_tup, asS_lst, asL_lst, gAdd_int, gAdd_tup, gAdd_lst, gSub_int, gMulA_int, gLt_int, gLe_int, gGt_int, gGe_int, fTuple_lst, fTuple_tup, fList_tup, fList_lst, fInt_int, fInt_bl, gIsi_int, gIsi_bl, gIsi_tup, gIsi_lst, gIsi_str, gIsi_non, gIsB_bl, gIsNotB_bl, M.ret_bind, M.stk_bind, M.draw_bind, M.bind_ret, ofO_some, ofO_none, List.getD_cons_zero, List.getD_cons_succ, List.set_cons_zero, List.set_cons_succ, List.length_cons, List.length_nil, List.cons_append, List.nil_append, List.append_nil, List.replicate, Nat.reduceSub, Nat.reduceAdd, Nat.reduceEqDiff, if_true, if_false, ite_true, ite_false, reduceIte, Bool.not_true, Bool.not_false, Bool.false_eq_true, Bool.true_and, Bool.false_and, Bool.and_true, Bool.and_false, len_tup, len_lst, ne_int, eq_int, setAll, Mn.wipe, Tg.go, Tg.goes, Option.bind_some, isTup, isIntT, isBlT, isStrT, isLstT, known, List.isEmpty_nil, ownOf, ap_LcF, ap_turn, FM_map, FM_ret, FM_if, FM_opt, FM_nil, oCons_some, oCons_none, noX_ret, ap_Lc2F, ap_turn2, FL_map, FL_ret, FL_nil, ap_go, ap_Wipe, numbered0, paired_map, fAll_map, fAny_map, List.length_map, cutL_from, cutL_upto, mapV_nil, mapV_cons, Int.cast_ofNat_Int, BEq.rfl, Int.reduceLT, Int.reduceLE, Int.reduceBEq, Int.zero_le_ofNat, decide_true, decide_false, ap_For]
  refine (runs_same (k := 250) (upTo 0 4) fun d _ => ?_).le (by decide)
  simp only [lb2_law, ap_V, ap_O, ap_own, getV_val, getO_val, getO_own, getO_ownd, getL_own, ap_C, ap_1, ap_2, ap_And, ap_Or, ap_Not, ap_If, ap_aNil, ap_aCons, ap_aStar, ap_Tup, ap_Lst, ap_TupS, ap_LstS, ap_Call, ap_Chain, ap_Cut, ap_oNone, ap_oSome, ap_bV, ap_bAnd, ap_bOr, ap_bNot, ap_bYes, ap_wS, ap_Rng1, ap_Rng2, ap_TupRg1, ap_TupRg2, ap_LstRg1, ap_LstRg2, ap_Enum, ap_Enum2, ap_Zip, ap_mNil, ap_mVal, ap_mOwn, ap_sNx, ap_Seq, seqK_nx, seqK_rt, ap_Asg, ap_Set, ap_Own, ownK_lst, ownK_dct, ap_Ret, ap_sIf, ap_Stk, ap_Drop, ap_App, ap_Ext, ap_PutL, ap_Par, ap_Frz, frzS_own, frzS_val, ap_fn, fnK_rt, fnK_nx, ite_bind, gIx_tup, gIx_lst, itemI0, itemI1, itemI2, itemI3, gCut_tup, gCut_lst, asB_bl, asI_int, asS_tup, asS_lst, asL_lst, gAdd_int, gAdd_tup, gAdd_lst, gSub_int, gMulA_int, gLt_int, gLe_int, gGt_int, gGe_int, fTuple_lst, fTuple_tup, fList_tup, fList_lst, fInt_int, fInt_bl, gIsi_int, gIsi_bl, gIsi_tup, gIsi_lst, gIsi_str, gIsi_non, gIsB_bl, gIsNotB_bl, M.ret_bind, M.stk_bind, M.draw_bind, M.bind_ret, ofO_some, ofO_none, List.getD_cons_zero, List.getD_cons_succ, List.set_cons_zero, List.set_cons_succ, List.length_cons, List.length_nil, List.cons_append, List.nil_append, List.append_nil, List.replicate, Nat.reduceSub, Nat.reduceAdd, Nat.reduceEqDiff, if_true, if_false, ite_true, ite_false, reduceIte, Bool.not_true, Bool.not_false, Bool.false_eq_true, Bool.true_and, Bool.false_and, Bool.and_true, Bool.and_false, len_tup, len_lst, ne_int, eq_int, setAll, Mn.wipe, Tg.go, Tg.goes, Option.bind_some, isTup, isIntT, isBlT, isStrT, isLstT, known, List.isEmpty_nil, ownOf, ap_LcF, ap_turn, FM_map, FM_ret, FM_if, FM_opt, FM_nil, oCons_some, oCons_none, noX_ret, ap_Lc2F, ap_turn2, FL_map, FL_ret, FL_nil, ap_go, ap_Wipe, numbered0, paired_map, fAll_map, fAny_map, List.length_map, cutL_from, cutL_upto, mapV_nil, mapV_cons, Int.cast_ofNat_Int, BEq.rfl, Int.reduceLT, Int.reduceLE, Int.reduceBEq, Int.zero_le_ofNat, decide_true, decide_false, ap_For, dr_, M.bind_assoc]
  refine (Runs.draw (k := 249) (by decide) (by decide) fun mo m0 m1 => ?_).le (by decide)
  obtain ⟨m, rfl⟩ := Int.eq_ofNat_of_zero_le m0
  have hc := r_cells (many := 12) (cells := 1) (most := m) (by decide) (by decide) (by decide) (by omega)
  simp only [Int.cast_ofNat_Int, Int.natCast_one] at hc
  refine (hc.bind (j := 12) fun x ⟨r, e, hr, h12, _, _, hone⟩ => ?_).le (by decide)
  subst e
  obtain ⟨t, hs⟩ := hone True.intro
  have hf := seqd_fit hs
  simp only [ap_V, ap_O, ap_own, getV_val, getO_val, getO_own, getO_ownd, getL_own, ap_C, ap_1, ap_2, ap_And, ap_Or, ap_Not, ap_If, ap_aNil, ap_aCons, ap_aStar, ap_Tup, ap_Lst, ap_TupS, ap_LstS, ap_Call, ap_Chain, ap_Cut, ap_oNone, ap_oSome, ap_bV, ap_bAnd, ap_bOr, ap_bNot, ap_bYes, ap_wS, ap_Rng1, ap_Rng2, ap_TupRg1, ap_TupRg2, ap_LstRg1, ap_LstRg2, ap_Enum, ap_Enum2, ap_Zip, ap_mNil, ap_mVal, ap_mOwn, ap_sNx, ap_Seq, seqK_nx, seqK_rt, ap_Asg, ap_Set, ap_Own, ownK_lst, ownK_dct, ap_Ret, ap_sIf, ap_Stk, ap_Drop, ap_App, ap_Ext, ap_PutL, ap_Par, ap_Frz, frzS_own, frzS_val, ap_fn, fnK_rt, fnK_nx, ite_bind, gIx_tup, gIx_lst, itemI0, itemI1, itemI2, itemI3, gCut_tup, gCut_lst, asB_bl, asI_int, asS_tup, asS_lst, asL_lst, gAdd_int, gAdd_tup, gAdd_lst, gSub_int, gMulA_int, gLt_int, gLe_int, gGt_int, gGe_int, fTuple_lst, fTuple_tup, fList_tup, fList_lst, fInt_int, fInt_bl, gIsi_int, gIsi_bl, gIsi_tup, gIsi_lst, gIsi_str, gIsi_non, gIsB_bl, gIsNotB_bl, M.ret_bind, M.stk_bind, M.draw_bind, M.bind_ret, ofO_some, ofO_none, List.getD_cons_zero, List.getD_cons_succ, List.set_cons_zero, List.set_cons_succ, List.length_cons, List.length_nil, List.cons_append, List.nil_append, List.append_nil, List.replicate, Nat.reduceSub, Nat.reduceAdd, Nat.reduceEqDiff, if_true, if_false, ite_true, ite_false, reduceIte, Bool.not_true, Bool.not_false, Bool.false_eq_true, Bool.true_and, Bool.false_and, Bool.and_true, Bool.and_false, len_tup, len_lst, ne_int, eq_int, setAll, Mn.wipe, Tg.go, Tg.goes, Option.bind_some, isTup, isIntT, isBlT, isStrT, isLstT, known, List.isEmpty_nil, ownOf, ap_LcF, ap_turn, FM_map, FM_ret, FM_if, FM_opt, FM_nil, oCons_some, oCons_none, noX_ret, ap_Lc2F, ap_turn2, FL_map, FL_ret, FL_nil, ap_go, ap_Wipe, numbered0, paired_map, fAll_map, fAny_map, List.length_map, cutL_from, cutL_upto, mapV_nil, mapV_cons, Int.cast_ofNat_Int, BEq.rfl, Int.reduceLT, Int.reduceLE, Int.reduceBEq, Int.zero_le_ofNat, decide_true, decide_false, ap_For, lenR, M.bind_assoc]
  refine ((r_lot h12).bind (j := 0) fun x ⟨l, e, hp, hl⟩ => ?_).le (by omega)
  subst e
  have hn : (r.length : Int) ≤ 16777216 ∧ -16777216 ≤ (r.length : Int) := by omega
  have g1 : rgt r l = true := by rw [rgt_fit hp]; exact fit_sub hf hp hl
  simp only [ap_V, ap_O, ap_own, getV_val, getO_val, getO_own, getO_ownd, getL_own, ap_C, ap_1, ap_2, ap_And, ap_Or, ap_Not, ap_If, ap_aNil, ap_aCons, ap_aStar, ap_Tup, ap_Lst, ap_TupS, ap_LstS, ap_Call, ap_Chain, ap_Cut, ap_oNone, ap_oSome, ap_bV, ap_bAnd, ap_bOr, ap_bNot, ap_bYes, ap_wS, ap_Rng1, ap_Rng2, ap_TupRg1, ap_TupRg2, ap_LstRg1, ap_LstRg2, ap_Enum, ap_Enum2, ap_Zip, ap_mNil, ap_mVal, ap_mOwn, ap_sNx, ap_Seq, seqK_nx, seqK_rt, ap_Asg, ap_Set, ap_Own, ownK_lst, ownK_dct, ap_Ret, ap_sIf, ap_Stk, ap_Drop, ap_App, ap_Ext, ap_PutL, ap_Par, ap_Frz, frzS_own, frzS_val, ap_fn, fnK_rt, fnK_nx, ite_bind, gIx_tup, gIx_lst, itemI0, itemI1, itemI2, itemI3, gCut_tup, gCut_lst, asB_bl, asI_int, asS_tup, asS_lst, asL_lst, gAdd_int, gAdd_tup, gAdd_lst, gSub_int, gMulA_int, gLt_int, gLe_int, gGt_int, gGe_int, fTuple_lst, fTuple_tup, fList_tup, fList_lst, fInt_int, fInt_bl, gIsi_int, gIsi_bl, gIsi_tup, gIsi_lst, gIsi_str, gIsi_non, gIsB_bl, gIsNotB_bl, M.ret_bind, M.stk_bind, M.draw_bind, M.bind_ret, ofO_some, ofO_none, List.getD_cons_zero, List.getD_cons_succ, List.set_cons_zero, List.set_cons_succ, List.length_cons, List.length_nil, List.cons_append, List.nil_append, List.append_nil, List.replicate, Nat.reduceSub, Nat.reduceAdd, Nat.reduceEqDiff, if_true, if_false, ite_true, ite_false, reduceIte, Bool.not_true, Bool.not_false, Bool.false_eq_true, Bool.true_and, Bool.false_and, Bool.and_true, Bool.and_false, len_tup, len_lst, ne_int, eq_int, setAll, Mn.wipe, Tg.go, Tg.goes, Option.bind_some, isTup, isIntT, isBlT, isStrT, isLstT, known, List.isEmpty_nil, ownOf, ap_LcF, ap_turn, FM_map, FM_ret, FM_if, FM_opt, FM_nil, oCons_some, oCons_none, noX_ret, ap_Lc2F, ap_turn2, FL_map, FL_ret, FL_nil, ap_go, ap_Wipe, numbered0, paired_map, fAll_map, fAny_map, List.length_map, cutL_from, cutL_upto, mapV_nil, mapV_cons, Int.cast_ofNat_Int, BEq.rfl, Int.reduceLT, Int.reduceLE, Int.reduceBEq, Int.zero_le_ofNat, decide_true, decide_false, ap_For, lenR, hn, and_self, Int.toNat_natCast, tup_range, v_is_right hr (range_lt _) (fun i hi => List.mem_range.mp hi), fit_all hf, v_is_right hr hp hl, g1]
  exact .ret rfl
theorem k04_turn (ns : List Int) {r : List Vl} (hr : okR r) (x2 : SV) {l : List Nat} (hp : l.Pairwise (· < ·)) (hl : ∀ i ∈ l, i < r.length) : turn (.n 4) lb3_law (eL l) [.val (.scr ns), .val .st, x2, .val (eR r), .un, .un, .un, .un] = .ret (.nx, [.val (.scr ns), .val .st, x2, .val (eR r), .un, .un, .un, .un]) := by
  have hvs : ∀ v ∈ l.map (rv r), okV v := fun v hv => by
    obtain ⟨i, hi, rfl⟩ := List.mem_map.mp hv
    exact okAt hr (hl i hi)
  have e2 := v__law_fits hvs
  rw [List.map_map] at e2
  have ec : (List.map (eV ∘ rv r) l) = l.map fun i => eV (rv r i) := rfl
  rw [ec] at e2
  have e3 := v_is_right hr hp hl
  rw [rgt_fit hp] at e3
  have n1 : ∀ b : Bool, gNe (.bl b) (.bl b) = .ret (.bl false) := fun b => by cases b <;> rfl
  have hc : c1_law [.val (.scr ns), .val .st, x2, .val (eR r), .val (eL l), .un, .un, .un] = .ret (.lst (l.map fun i => eV (rv r i))) := by
    simp only [c1_law, eL, ap_V, ap_O, ap_own, getV_val, getO_val, getO_own, getO_ownd, getL_own, ap_C, ap_1, ap_2, ap_And, ap_Or, ap_Not, ap_If, ap_aNil, ap_aCons, ap_aStar, ap_Tup, ap_Lst, ap_TupS, ap_LstS, ap_Call, ap_Chain, ap_Cut, ap_oNone, ap_oSome, ap_bV, ap_bAnd, ap_bOr, ap_bNot, ap_bYes, ap_wS, ap_Rng1, ap_Rng2, ap_TupRg1, ap_TupRg2, ap_LstRg1, ap_LstRg2, ap_Enum, ap_Enum2, ap_Zip, ap_mNil, ap_mVal, ap_mOwn, ap_sNx, ap_Seq, seqK_nx, seqK_rt, ap_Asg, ap_Set, ap_Own, ownK_lst, ownK_dct, ap_Ret, ap_sIf, ap_Stk, ap_Drop, ap_App, ap_Ext, ap_PutL, ap_Par, ap_Frz, frzS_own, frzS_val, ap_fn, fnK_rt, fnK_nx, ite_bind, gIx_tup, gIx_lst, itemI0, itemI1, itemI2, itemI3, gCut_tup, gCut_lst, asB_bl, asI_int, asS_tup, asS_lst, asL_lst, gAdd_int, gAdd_tup, gAdd_lst, gSub_int, gMulA_int, gLt_int, gLe_int, gGt_int, gGe_int, fTuple_lst, fTuple_tup, fList_tup, fList_lst, fInt_int, fInt_bl, gIsi_int, gIsi_bl, gIsi_tup, gIsi_lst, gIsi_str, gIsi_non, gIsB_bl, gIsNotB_bl, M.ret_bind, M.stk_bind, M.draw_bind, M.bind_ret, ofO_some, ofO_none, List.getD_cons_zero, List.getD_cons_succ, List.set_cons_zero, List.set_cons_succ, List.length_cons, List.length_nil, List.cons_append, List.nil_append, List.append_nil, List.replicate, Nat.reduceSub, Nat.reduceAdd, Nat.reduceEqDiff, if_true, if_false, ite_true, ite_false, reduceIte, Bool.not_true, Bool.not_false, Bool.false_eq_true, Bool.true_and, Bool.false_and, Bool.and_true, Bool.and_false, len_tup, len_lst, ne_int, eq_int, setAll, Mn.wipe, Tg.go, Tg.goes, Option.bind_some, isTup, isIntT, isBlT, isStrT, isLstT, known, List.isEmpty_nil, ownOf, ap_LcF, ap_turn, FM_map, FM_ret, FM_if, FM_opt, FM_nil, oCons_some, oCons_none, noX_ret, ap_Lc2F, ap_turn2, FL_map, FL_ret, FL_nil, ap_go, ap_Wipe, numbered0, paired_map, fAll_map, fAny_map, List.length_map, cutL_from, cutL_upto, mapV_nil, mapV_cons, Int.cast_ofNat_Int, BEq.rfl, Int.reduceLT, Int.reduceLE, Int.reduceBEq, Int.zero_le_ofNat, decide_true, decide_false, ap_For]
    rw [FM_congr (g := fun i => .ret (some (eV (rv r i)))) fun i hi => by
      have hx : gIx (eR r) (eI i) = .ret (eV (rv r i)) := ixR (hl i hi)
      simp only [e1_law, ap_V, ap_O, ap_own, getV_val, getO_val, getO_own, getO_ownd, getL_own, ap_C, ap_1, ap_2, ap_And, ap_Or, ap_Not, ap_If, ap_aNil, ap_aCons, ap_aStar, ap_Tup, ap_Lst, ap_TupS, ap_LstS, ap_Call, ap_Chain, ap_Cut, ap_oNone, ap_oSome, ap_bV, ap_bAnd, ap_bOr, ap_bNot, ap_bYes, ap_wS, ap_Rng1, ap_Rng2, ap_TupRg1, ap_TupRg2, ap_LstRg1, ap_LstRg2, ap_Enum, ap_Enum2, ap_Zip, ap_mNil, ap_mVal, ap_mOwn, ap_sNx, ap_Seq, seqK_nx, seqK_rt, ap_Asg, ap_Set, ap_Own, ownK_lst, ownK_dct, ap_Ret, ap_sIf, ap_Stk, ap_Drop, ap_App, ap_Ext, ap_PutL, ap_Par, ap_Frz, frzS_own, frzS_val, ap_fn, fnK_rt, fnK_nx, ite_bind, gIx_tup, gIx_lst, itemI0, itemI1, itemI2, itemI3, gCut_tup, gCut_lst, asB_bl, asI_int, asS_tup, asS_lst, asL_lst, gAdd_int, gAdd_tup, gAdd_lst, gSub_int, gMulA_int, gLt_int, gLe_int, gGt_int, gGe_int, fTuple_lst, fTuple_tup, fList_tup, fList_lst, fInt_int, fInt_bl, gIsi_int, gIsi_bl, gIsi_tup, gIsi_lst, gIsi_str, gIsi_non, gIsB_bl, gIsNotB_bl, M.ret_bind, M.stk_bind, M.draw_bind, M.bind_ret, ofO_some, ofO_none, List.getD_cons_zero, List.getD_cons_succ, List.set_cons_zero, List.set_cons_succ, List.length_cons, List.length_nil, List.cons_append, List.nil_append, List.append_nil, List.replicate, Nat.reduceSub, Nat.reduceAdd, Nat.reduceEqDiff, if_true, if_false, ite_true, ite_false, reduceIte, Bool.not_true, Bool.not_false, Bool.false_eq_true, Bool.true_and, Bool.false_and, Bool.and_true, Bool.and_false, len_tup, len_lst, ne_int, eq_int, setAll, Mn.wipe, Tg.go, Tg.goes, Option.bind_some, isTup, isIntT, isBlT, isStrT, isLstT, known, List.isEmpty_nil, ownOf, ap_LcF, ap_turn, FM_map, FM_ret, FM_if, FM_opt, FM_nil, oCons_some, oCons_none, noX_ret, ap_Lc2F, ap_turn2, FL_map, FL_ret, FL_nil, ap_go, ap_Wipe, numbered0, paired_map, fAll_map, fAny_map, List.length_map, cutL_from, cutL_upto, mapV_nil, mapV_cons, Int.cast_ofNat_Int, BEq.rfl, Int.reduceLT, Int.reduceLE, Int.reduceBEq, Int.zero_le_ofNat, decide_true, decide_false, ap_For, hx]]
    simp only [ap_V, ap_O, ap_own, getV_val, getO_val, getO_own, getO_ownd, getL_own, ap_C, ap_1, ap_2, ap_And, ap_Or, ap_Not, ap_If, ap_aNil, ap_aCons, ap_aStar, ap_Tup, ap_Lst, ap_TupS, ap_LstS, ap_Call, ap_Chain, ap_Cut, ap_oNone, ap_oSome, ap_bV, ap_bAnd, ap_bOr, ap_bNot, ap_bYes, ap_wS, ap_Rng1, ap_Rng2, ap_TupRg1, ap_TupRg2, ap_LstRg1, ap_LstRg2, ap_Enum, ap_Enum2, ap_Zip, ap_mNil, ap_mVal, ap_mOwn, ap_sNx, ap_Seq, seqK_nx, seqK_rt, ap_Asg, ap_Set, ap_Own, ownK_lst, ownK_dct, ap_Ret, ap_sIf, ap_Stk, ap_Drop, ap_App, ap_Ext, ap_PutL, ap_Par, ap_Frz, frzS_own, frzS_val, ap_fn, fnK_rt, fnK_nx, ite_bind, gIx_tup, gIx_lst, itemI0, itemI1, itemI2, itemI3, gCut_tup, gCut_lst, asB_bl, asI_int, asS_tup, asS_lst, asL_lst, gAdd_int, gAdd_tup, gAdd_lst, gSub_int, gMulA_int, gLt_int, gLe_int, gGt_int, gGe_int, fTuple_lst, fTuple_tup, fList_tup, fList_lst, fInt_int, fInt_bl, gIsi_int, gIsi_bl, gIsi_tup, gIsi_lst, gIsi_str, gIsi_non, gIsB_bl, gIsNotB_bl, M.ret_bind, M.stk_bind, M.draw_bind, M.bind_ret, ofO_some, ofO_none, List.getD_cons_zero, List.getD_cons_succ, List.set_cons_zero, List.set_cons_succ, List.length_cons, List.length_nil, List.cons_append, List.nil_append, List.append_nil, List.replicate, Nat.reduceSub, Nat.reduceAdd, Nat.reduceEqDiff, if_true, if_false, ite_true, ite_false, reduceIte, Bool.not_true, Bool.not_false, Bool.false_eq_true, Bool.true_and, Bool.false_and, Bool.and_true, Bool.and_false, len_tup, len_lst, ne_int, eq_int, setAll, Mn.wipe, Tg.go, Tg.goes, Option.bind_some, isTup, isIntT, isBlT, isStrT, isLstT, known, List.isEmpty_nil, ownOf, ap_LcF, ap_turn, FM_map, FM_ret, FM_if, FM_opt, FM_nil, oCons_some, oCons_none, noX_ret, ap_Lc2F, ap_turn2, FL_map, FL_ret, FL_nil, ap_go, ap_Wipe, numbered0, paired_map, fAll_map, fAny_map, List.length_map, cutL_from, cutL_upto, mapV_nil, mapV_cons, Int.cast_ofNat_Int, BEq.rfl, Int.reduceLT, Int.reduceLE, Int.reduceBEq, Int.zero_le_ofNat, decide_true, decide_false, ap_For]
  simp only [lb3_law, ap_V, ap_O, ap_own, getV_val, getO_val, getO_own, getO_ownd, getL_own, ap_C, ap_1, ap_2, ap_And, ap_Or, ap_Not, ap_If, ap_aNil, ap_aCons, ap_aStar, ap_Tup, ap_Lst, ap_TupS, ap_LstS, ap_Call, ap_Chain, ap_Cut, ap_oNone, ap_oSome, ap_bV, ap_bAnd, ap_bOr, ap_bNot, ap_bYes, ap_wS, ap_Rng1, ap_Rng2, ap_TupRg1, ap_TupRg2, ap_LstRg1, ap_LstRg2, ap_Enum, ap_Enum2, ap_Zip, ap_mNil, ap_mVal, ap_mOwn, ap_sNx, ap_Seq, seqK_nx, seqK_rt, ap_Asg, ap_Set, ap_Own, ownK_lst, ownK_dct, ap_Ret, ap_sIf, ap_Stk, ap_Drop, ap_App, ap_Ext, ap_PutL, ap_Par, ap_Frz, frzS_own, frzS_val, ap_fn, fnK_rt, fnK_nx, ite_bind, gIx_tup, gIx_lst, itemI0, itemI1, itemI2, itemI3, gCut_tup, gCut_lst, asB_bl, asI_int, asS_tup, asS_lst, asL_lst, gAdd_int, gAdd_tup, gAdd_lst, gSub_int, gMulA_int, gLt_int, gLe_int, gGt_int, gGe_int, fTuple_lst, fTuple_tup, fList_tup, fList_lst, fInt_int, fInt_bl, gIsi_int, gIsi_bl, gIsi_tup, gIsi_lst, gIsi_str, gIsi_non, gIsB_bl, gIsNotB_bl, M.ret_bind, M.stk_bind, M.draw_bind, M.bind_ret, ofO_some, ofO_none, List.getD_cons_zero, List.getD_cons_succ, List.set_cons_zero, List.set_cons_succ, List.length_cons, List.length_nil, List.cons_append, List.nil_append, List.append_nil, List.replicate, Nat.reduceSub, Nat.reduceAdd, Nat.reduceEqDiff, if_true, if_false, ite_true, ite_false, reduceIte, Bool.not_true, Bool.not_false, Bool.false_eq_true, Bool.true_and, Bool.false_and, Bool.and_true, Bool.and_false, len_tup, len_lst, ne_int, eq_int, setAll, Mn.wipe, Tg.go, Tg.goes, Option.bind_some, isTup, isIntT, isBlT, isStrT, isLstT, known, List.isEmpty_nil, ownOf, ap_LcF, ap_turn, FM_map, FM_ret, FM_if, FM_opt, FM_nil, oCons_some, oCons_none, noX_ret, ap_Lc2F, ap_turn2, FL_map, FL_ret, FL_nil, ap_go, ap_Wipe, numbered0, paired_map, fAll_map, fAny_map, List.length_map, cutL_from, cutL_upto, mapV_nil, mapV_cons, Int.cast_ofNat_Int, BEq.rfl, Int.reduceLT, Int.reduceLE, Int.reduceBEq, Int.zero_le_ofNat, decide_true, decide_false, ap_For, hc, e2, e3, n1]
theorem k04_4 (ns : List Int) : Runs (l4_law (lw ns .un)) 1200 (OkS ns) := by
  simp only [l4_law, lw, ap_V, ap_O, ap_own, getV_val, getO_val, getO_own, getO_ownd, getL_own, ap_C, ap_1, ap_2, ap_And, ap_Or, ap_Not, ap_If, ap_aNil, ap_aCons, ap_aStar, ap_Tup, ap_Lst, ap_TupS, ap_LstS, ap_Call, ap_Chain, ap_Cut, ap_oNone, ap_oSome, ap_bV, ap_bAnd, ap_bOr, ap_bNot, ap_bYes, ap_wS, ap_Rng1, ap_Rng2, ap_TupRg1, ap_TupRg2, ap_LstRg1, ap_LstRg2, ap_Enum, ap_Enum2, ap_Zip, ap_mNil, ap_mVal, ap_mOwn, ap_sNx, ap_Seq, seqK_nx, seqK_rt, ap_Asg, ap_Set, ap_Own, ownK_lst, ownK_dct, ap_Ret, ap_sIf, ap_Stk, ap_Drop, ap_App, ap_Ext, ap_PutL, ap_Par, ap_Frz, frzS_own, frzS_val, ap_fn, fnK_rt, fnK_nx, ite_bind, gIx_tup, gIx_lst, itemI0, itemI1, itemI2, itemI3, gCut_tup, gCut_lst, asB_bl, asI_int, asS_tup, asS_lst, asL_lst, gAdd_int, gAdd_tup, gAdd_lst, gSub_int, gMulA_int, gLt_int, gLe_int, gGt_int, gGe_int, fTuple_lst, fTuple_tup, fList_tup, fList_lst, fInt_int, fInt_bl, gIsi_int, gIsi_bl, gIsi_tup, gIsi_lst, gIsi_str, gIsi_non, gIsB_bl, gIsNotB_bl, M.ret_bind, M.stk_bind, M.draw_bind, M.bind_ret, ofO_some, ofO_none, List.getD_cons_zero, List.getD_cons_succ, List.set_cons_zero, List.set_cons_succ, List.length_cons, List.length_nil, List.cons_append, List.nil_append, List.append_nil, List.replicate, Nat.reduceSub, Nat.reduceAdd, Nat.reduceEqDiff, if_true, if_false, ite_true, ite_false, reduceIte, Bool.not_true, Bool.not_false, Bool.false_eq_true, Bool.true_and, Bool.false_and, Bool.and_true, Bool.and_false, len_tup, len_lst, ne_int, eq_int, setAll, Mn.wipe, Tg.go, Tg.goes, Option.bind_some, isTup, isIntT, isBlT, isStrT, isLstT, known, List.isEmpty_nil, ownOf, ap_LcF, ap_turn, FM_map, FM_ret, FM_if, FM_opt, FM_nil, oCons_some, oCons_none, noX_ret, ap_Lc2F, ap_turn2, FL_map, FL_ret, FL_nil, ap_go, ap_Wipe, numbered0, paired_map, fAll_map, fAny_map, List.length_map, cutL_from, cutL_upto, mapV_nil, mapV_cons, Int.cast_ofNat_Int, BEq.rfl, Int.reduceLT, Int.reduceLE, Int.reduceBEq, Int.zero_le_ofNat, decide_true, decide_false, ap_For]
  refine (runs_same (k := 300) (upTo 0 4) fun d _ => ?_).le (by decide)
  simp only [lb4_law, ap_V, ap_O, ap_own, getV_val, getO_val, getO_own, getO_ownd, getL_own, ap_C, ap_1, ap_2, ap_And, ap_Or, ap_Not, ap_If, ap_aNil, ap_aCons, ap_aStar, ap_Tup, ap_Lst, ap_TupS, ap_LstS, ap_Call, ap_Chain, ap_Cut, ap_oNone, ap_oSome, ap_bV, ap_bAnd, ap_bOr, ap_bNot, ap_bYes, ap_wS, ap_Rng1, ap_Rng2, ap_TupRg1, ap_TupRg2, ap_LstRg1, ap_LstRg2, ap_Enum, ap_Enum2, ap_Zip, ap_mNil, ap_mVal, ap_mOwn, ap_sNx, ap_Seq, seqK_nx, seqK_rt, ap_Asg, ap_Set, ap_Own, ownK_lst, ownK_dct, ap_Ret, ap_sIf, ap_Stk, ap_Drop, ap_App, ap_Ext, ap_PutL, ap_Par, ap_Frz, frzS_own, frzS_val, ap_fn, fnK_rt, fnK_nx, ite_bind, gIx_tup, gIx_lst, itemI0, itemI1, itemI2, itemI3, gCut_tup, gCut_lst, asB_bl, asI_int, asS_tup, asS_lst, asL_lst, gAdd_int, gAdd_tup, gAdd_lst, gSub_int, gMulA_int, gLt_int, gLe_int, gGt_int, gGe_int, fTuple_lst, fTuple_tup, fList_tup, fList_lst, fInt_int, fInt_bl, gIsi_int, gIsi_bl, gIsi_tup, gIsi_lst, gIsi_str, gIsi_non, gIsB_bl, gIsNotB_bl, M.ret_bind, M.stk_bind, M.draw_bind, M.bind_ret, ofO_some, ofO_none, List.getD_cons_zero, List.getD_cons_succ, List.set_cons_zero, List.set_cons_succ, List.length_cons, List.length_nil, List.cons_append, List.nil_append, List.append_nil, List.replicate, Nat.reduceSub, Nat.reduceAdd, Nat.reduceEqDiff, if_true, if_false, ite_true, ite_false, reduceIte, Bool.not_true, Bool.not_false, Bool.false_eq_true, Bool.true_and, Bool.false_and, Bool.and_true, Bool.and_false, len_tup, len_lst, ne_int, eq_int, setAll, Mn.wipe, Tg.go, Tg.goes, Option.bind_some, isTup, isIntT, isBlT, isStrT, isLstT, known, List.isEmpty_nil, ownOf, ap_LcF, ap_turn, FM_map, FM_ret, FM_if, FM_opt, FM_nil, oCons_some, oCons_none, noX_ret, ap_Lc2F, ap_turn2, FL_map, FL_ret, FL_nil, ap_go, ap_Wipe, numbered0, paired_map, fAll_map, fAny_map, List.length_map, cutL_from, cutL_upto, mapV_nil, mapV_cons, Int.cast_ofNat_Int, BEq.rfl, Int.reduceLT, Int.reduceLE, Int.reduceBEq, Int.zero_le_ofNat, decide_true, decide_false, ap_For, dr_, M.bind_assoc]
  refine (Runs.draw (k := 249) (by decide) (by decide) fun ce c0 c1 => Runs.draw (k := 248) (by decide) (by decide) fun mo m0 m1 => ?_).le (by decide)
  obtain ⟨m, rfl⟩ := Int.eq_ofNat_of_zero_le m0
  obtain ⟨c, rfl⟩ := Int.eq_ofNat_of_zero_le c0
  have hc := r_cells (many := 12) (cells := 2 + c) (most := m) (by decide) (by omega) (by omega) (by omega)
  rw [show (((2 + c : Nat)) : Int) = 2 + (c : Int) by omega] at hc
  simp only [Int.cast_ofNat_Int] at hc
  refine (hc.bind (j := 24) fun x ⟨r, e, hr, h12, _⟩ => ?_).le (by decide)
  subst e
  have hn : (r.length : Int) ≤ 16777216 ∧ -16777216 ≤ (r.length : Int) := by omega
  simp only [l3_law, ap_V, ap_O, ap_own, getV_val, getO_val, getO_own, getO_ownd, getL_own, ap_C, ap_1, ap_2, ap_And, ap_Or, ap_Not, ap_If, ap_aNil, ap_aCons, ap_aStar, ap_Tup, ap_Lst, ap_TupS, ap_LstS, ap_Call, ap_Chain, ap_Cut, ap_oNone, ap_oSome, ap_bV, ap_bAnd, ap_bOr, ap_bNot, ap_bYes, ap_wS, ap_Rng1, ap_Rng2, ap_TupRg1, ap_TupRg2, ap_LstRg1, ap_LstRg2, ap_Enum, ap_Enum2, ap_Zip, ap_mNil, ap_mVal, ap_mOwn, ap_sNx, ap_Seq, seqK_nx, seqK_rt, ap_Asg, ap_Set, ap_Own, ownK_lst, ownK_dct, ap_Ret, ap_sIf, ap_Stk, ap_Drop, ap_App, ap_Ext, ap_PutL, ap_Par, ap_Frz, frzS_own, frzS_val, ap_fn, fnK_rt, fnK_nx, ite_bind, gIx_tup, gIx_lst, itemI0, itemI1, itemI2, itemI3, gCut_tup, gCut_lst, asB_bl, asI_int, asS_tup, asS_lst, asL_lst, gAdd_int, gAdd_tup, gAdd_lst, gSub_int, gMulA_int, gLt_int, gLe_int, gGt_int, gGe_int, fTuple_lst, fTuple_tup, fList_tup, fList_lst, fInt_int, fInt_bl, gIsi_int, gIsi_bl, gIsi_tup, gIsi_lst, gIsi_str, gIsi_non, gIsB_bl, gIsNotB_bl, M.ret_bind, M.stk_bind, M.draw_bind, M.bind_ret, ofO_some, ofO_none, List.getD_cons_zero, List.getD_cons_succ, List.set_cons_zero, List.set_cons_succ, List.length_cons, List.length_nil, List.cons_append, List.nil_append, List.append_nil, List.replicate, Nat.reduceSub, Nat.reduceAdd, Nat.reduceEqDiff, if_true, if_false, ite_true, ite_false, reduceIte, Bool.not_true, Bool.not_false, Bool.false_eq_true, Bool.true_and, Bool.false_and, Bool.and_true, Bool.and_false, len_tup, len_lst, ne_int, eq_int, setAll, Mn.wipe, Tg.go, Tg.goes, Option.bind_some, isTup, isIntT, isBlT, isStrT, isLstT, known, List.isEmpty_nil, ownOf, ap_LcF, ap_turn, FM_map, FM_ret, FM_if, FM_opt, FM_nil, oCons_some, oCons_none, noX_ret, ap_Lc2F, ap_turn2, FL_map, FL_ret, FL_nil, ap_go, ap_Wipe, numbered0, paired_map, fAll_map, fAny_map, List.length_map, cutL_from, cutL_upto, mapV_nil, mapV_cons, Int.cast_ofNat_Int, BEq.rfl, Int.reduceLT, Int.reduceLE, Int.reduceBEq, Int.zero_le_ofNat, decide_true, decide_false, ap_For, lenR, hn, and_self, Int.toNat_natCast, tup_range, M.bind_assoc]
  refine ((r_lot h12).bind (j := 12) fun x ⟨l, e, hp, hl⟩ => ?_).le (by omega)
  subst e
  refine ((r_lot h12).bind (j := 0) fun x ⟨l', e, hp', hl'⟩ => ?_).le (by omega)
  subst e
  simp only [ap_V, ap_O, ap_own, getV_val, getO_val, getO_own, getO_ownd, getL_own, ap_C, ap_1, ap_2, ap_And, ap_Or, ap_Not, ap_If, ap_aNil, ap_aCons, ap_aStar, ap_Tup, ap_Lst, ap_TupS, ap_LstS, ap_Call, ap_Chain, ap_Cut, ap_oNone, ap_oSome, ap_bV, ap_bAnd, ap_bOr, ap_bNot, ap_bYes, ap_wS, ap_Rng1, ap_Rng2, ap_TupRg1, ap_TupRg2, ap_LstRg1, ap_LstRg2, ap_Enum, ap_Enum2, ap_Zip, ap_mNil, ap_mVal, ap_mOwn, ap_sNx, ap_Seq, seqK_nx, seqK_rt, ap_Asg, ap_Set, ap_Own, ownK_lst, ownK_dct, ap_Ret, ap_sIf, ap_Stk, ap_Drop, ap_App, ap_Ext, ap_PutL, ap_Par, ap_Frz, frzS_own, frzS_val, ap_fn, fnK_rt, fnK_nx, ite_bind, gIx_tup, gIx_lst, itemI0, itemI1, itemI2, itemI3, gCut_tup, gCut_lst, asB_bl, asI_int, asS_tup, asS_lst, asL_lst, gAdd_int, gAdd_tup, gAdd_lst, gSub_int, gMulA_int, gLt_int, gLe_int, gGt_int, gGe_int, fTuple_lst, fTuple_tup, fList_tup, fList_lst, fInt_int, fInt_bl, gIsi_int, gIsi_bl, gIsi_tup, gIsi_lst, gIsi_str, gIsi_non, gIsB_bl, gIsNotB_bl, M.ret_bind, M.stk_bind, M.draw_bind, M.bind_ret, ofO_some, ofO_none, List.getD_cons_zero, List.getD_cons_succ, List.set_cons_zero, List.set_cons_succ, List.length_cons, List.length_nil, List.cons_append, List.nil_append, List.append_nil, List.replicate, Nat.reduceSub, Nat.reduceAdd, Nat.reduceEqDiff, if_true, if_false, ite_true, ite_false, reduceIte, Bool.not_true, Bool.not_false, Bool.false_eq_true, Bool.true_and, Bool.false_and, Bool.and_true, Bool.and_false, len_tup, len_lst, ne_int, eq_int, setAll, Mn.wipe, Tg.go, Tg.goes, Option.bind_some, isTup, isIntT, isBlT, isStrT, isLstT, known, List.isEmpty_nil, ownOf, ap_LcF, ap_turn, FM_map, FM_ret, FM_if, FM_opt, FM_nil, oCons_some, oCons_none, noX_ret, ap_Lc2F, ap_turn2, FL_map, FL_ret, FL_nil, ap_go, ap_Wipe, numbered0, paired_map, fAll_map, fAny_map, List.length_map, cutL_from, cutL_upto, mapV_nil, mapV_cons, Int.cast_ofNat_Int, BEq.rfl, Int.reduceLT, Int.reduceLE, Int.reduceBEq, Int.zero_le_ofNat, decide_true, decide_false, ap_For, -ap_go, forGo_turn, k04_turn ns hr _ (range_lt _) (fun i hi => List.mem_range.mp hi), k04_turn ns hr _ hp hl, k04_turn ns hr _ hp' hl', forK_nx, forGo_nil]
  exact .ret rfl
theorem lawOk : LawOk := by
  intro ns _
  have e0 : (([Mn.D.scr ns].map SV.val ++ List.replicate 7 SV.un).set 1 (.val .st)) = lw ns .un := rfl
  rw [e0]
  refine Runs.wp (k := 4000) ?_ (by decide)
  unfold b_law
  rw [ap_Seq]
  refine ((k04_1 ns).bind (j := 2200) fun r hr => ?_).le (by decide)
  cases (show r = _ from hr)
  rw [seqK_nx, ap_Seq]
  refine ((k04_2 ns).bind (j := 1200) fun r hr => ?_).le (by decide)
  cases (show r = _ from hr)
  rw [seqK_nx, ap_Seq]
  refine ((k04_4 ns).bind (j := 0) fun r hr => ?_).le (by decide)
  cases (show r = _ from hr)
  rw [seqK_nx]
  refine isT_ok ?_
  kernel_rfl
end Hd

set_option maxHeartbeats 0
namespace Hd
open PySem PySem.Spec PyProof.Rows L2 Mn
set_option maxHeartbeats 0
abbrev R : PySem.W.OpenRow := PySem.W.OpenLaw.row PySem.Challenge.rw_leastcells_k04_whole_right
abbrev hk : PySem.W.Hook := He.hookD 4 fa fn
def ob (s : PySem.W.SharedT) : He.AlD := He.obsDG 4 fa fn (HandSHeadRun.getT s)
theorem ob_eq (s : PySem.W.SharedT) : ob s = hk.obs s.abs := He.obsDG_eq (HandSHeadRun.getT_eq s)
def loose0 : List Str := ["CellError", "BadRecord", "BadLot", "BadNumber", "BadRow", "MOST_TICK", "MOST_VALUES", "MOST_READS", "is_integer", "is_between", "are_rising", "is_tick", "is_call", "is_value", "need_record", "is_lot", "need_lot", "need_number", "calls_of", "near_of", "far_of", "early_in", "early_reads", "is_forced_in", "are_odd_in", "need_pair", "is_forced", "odds_in", "all_odds", "need_both"]
def loose1 : List Str := ["can_stand", "ticks_from", "soonest_in", "need_row", "soonest_placing", "early_of", "is_right_in", "is_right", "_law_mixed", "_law_begin", "_law_draw", "_law_of", "_law_calls", "_law_zone", "_law_forced", "_law_odd", "_law_early", "_law_fits", "_law_holds", "_law_around", "_law_cells", "_law_record", "_law_lot", "_law_by_row", "_law_rows", "_law_is_cell", "_law_at", "_law_lots", "_law_record_right"]
def loose : List Str := loose0 ++ loose1
theorem run (w : World) : HandSHeadRun.RunEq R (PySem.W.view R.prog [64]) hk ob 4000 loose w := by
  intro os
  kernel_rfl
end Hd

open PySem PySem.W PySem.Calls PyProof.Rows
theorem PySem.Challenge.cw_leastcells_k04_whole_right_holds : PySem.Challenge.rw_leastcells_k04_whole_right.Holds := by
  w_on; o_law
  refine HandSHeadRun.head_any (r := OpenLaw.row PySem.Challenge.rw_leastcells_k04_whole_right) (q := view (OpenLaw.row PySem.Challenge.rw_leastcells_k04_whole_right).prog [64]) (H := Hd.hk) (ob := Hd.ob) (M := 4000) (loose := Hd.loose) (d := HandSHeadRun.topDef (OpenLaw.row PySem.Challenge.rw_leastcells_k04_whole_right).prog 64) (kwd := []) Hd.ob_eq
    (by kernel_rfl) (fun s => by kernel_rfl) Hd.run (by kernel_rfl) (by kernel_rfl) (by kernel_rfl) (by rfl) (by first | assumption | decide +kernel) (by decide +kernel) ⟨rfl, rfl, rfl, rfl, rfl, by decide +kernel⟩ ?hw ?hc
  case hw => w_witness2
  case hc =>
    refine Mn.walk_own (l := PySem.Challenge.rw_leastcells_k04_whole_right) (n := 63) (k := 10) (x := "_law_script") rfl (by decide) (by kernel_rfl) ⟨rfl, by decide, by decide⟩ ?F
    intro w mg fa h Y G hmg0
    obtain ⟨K, KX, c⟩ := Y
    have hmg : mg ("law" : PySem.Str) = some (.ref fa) := by
      have e : (HandSHeadRun.topDef (OpenLaw.row PySem.Challenge.rw_leastcells_k04_whole_right).prog 64).name = ("law" : PySem.Str) := by kernel_rfl
      rw [← e]
      exact hmg0
    obtain ⟨fd, hb, hF⟩ := Hd.ok_law Hd.lawOk (P := (PySem.Challenge.rw_leastcells_k04_whole_right).prog) (w := w) KX G c hmg
    exact ⟨K, fd, Mn.spLaw K, KX, hb, fun H a ns hl hS => ⟨a, ns, rfl, hS, hl, fun _ => rfl⟩, fun base _ _ => hF base⟩
