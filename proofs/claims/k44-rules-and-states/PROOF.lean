import PyProof.Rows.All
import Wide.All
import OpenK.AllK
import Wide.FinOn
import HandS.ForMost
import KE.SortData
import KE.KDictKeyed
import HandS.Lambda
import HandS.IsInst
import HandS.Exc
import HandS.ExcOwn
import HandS.Flow
import HandS.Replace
import HandS.SortInts
import HandS.Dict
import HandS.SetKeys
import HandS.RaiseMore
import HandS.ExcValue
import HandS.TupAny
import HandS.Deep
import HandS.Conv
import HandS.More
import HandS.CallSlots
import HandS.Defaults
import HandS.Style
import KE.GoesEnumKw
import KE.GoesEnum
import HandS.Iter
import HandS.FStr
import HandS.Strs
import HandS.SortKw
import KE.DatumOrd
import HandS.ExcInit
import HandS.ClsMeth
import HandS.ExcField
import KE.KUnpackStar
import KE.KExcIs
import PySem.Challenge.RW_traceloft_k44_rules_and_states
set_option Elab.async false
set_option linter.all false
/-! Mi: plain data, contents of slots, outcomes, the meaning of each construct as a function of the slots. -/
namespace Mi
open PySem L2

/-- plain data that no one changes any more -/
inductive D where
  | non | bl (b : Bool) | int (i : Int) | str (s : Str)
  | tup (xs : List D) | lst (xs : List D)
  | fn (x : Str)
  | ty (n : String)
  /-- the script -/
  | scr (ns : List Int)
  /-- a dict with text keys that no one changes: a written one of the module (there by its name alone), or a display -/
  | dct (ks : List Str) (xs : List D)
  /-- a dict that no one changes any more: its keys (numbers, texts; or tuples), its values -/
  | dic (ks xs : List D)
  /-- a thing that is known no more -/
  | opq

/-- what a slot holds: plain data, or a list, a dict of this slot alone -/
inductive C where
  | val (d : D)
  | ls (xs : List D)
  | dc (ks xs : List D)
def C.frz : C → D
  | .val d => d
  | .ls xs => .lst xs
  | .dc ks xs => .dic ks xs
abbrev Env := List (Option C)
structure Exc where
  cls : Str
  fs : List (Str × D)
inductive Out (A : Type) where
  | ok (a : A) (r : Env)
  | exn (x : Exc) (r : Env)
  | bad
def Out.bind {A B : Type} (o : Out A) (f : A → Env → Out B) : Out B := match o with
  | .ok a r => f a r
  | .exn x r => .exn x r
  | .bad => .bad
@[simp] theorem Out.bind_ok {A B : Type} (a : A) (r : Env) (f : A → Env → Out B) : (Out.ok a r).bind f = f a r := rfl
@[simp] theorem Out.bind_exn {A B : Type} (x : Exc) (r : Env) (f : A → Env → Out B) : (Out.exn x r : Out A).bind f = .exn x r := rfl
@[simp] theorem Out.bind_bad {A B : Type} (f : A → Env → Out B) : (Out.bad : Out A).bind f = .bad := rfl
/-- a value on its way: a new thing, or what a slot holds -/
inductive Rf where
  | tmp (c : C)
  | slot (i : Nat)
inductive FOut where
  | ok (c : C) (ps : Env)
  | exn (x : Exc) (ps : Env)
  | bad
/-- the program: its constants, its defs -/
structure Pg where
  G : Str → Option D
  F : Str → List C → FOut
  /-- how deep calls may go -/
  lv : Nat := 0
abbrev SE := Pg → Env → Out Rf
abbrev ST := Pg → Env → Out Bool
abbrev SA := Pg → Env → Out (List Rf)
inductive Fl where
  | nx | ret (c : C) | brk | ct
abbrev SS := Pg → Env → Out Fl
/-- storing an item into a target -/
abbrev SG := D → Env → Option Env

def view : Rf → Env → Option D
  | .tmp c, _ => some c.frz
  | .slot i, r => match r[i]? with
    | some (some c) => some c.frz
    | _ => none
def views : List Rf → Env → Option (List D)
  | [], _ => some []
  | a :: as, r => match view a r, views as r with
    | some d, some ds => some (d :: ds)
    | _, _ => none
/-- the content, handed on: what a slot alone had is plain data from then on -/
def take : Rf → Env → Option (C × Env)
  | .tmp c, r => some (c, r)
  | .slot i, r => match r[i]? with
    | some (some (.val d)) => some (.val d, r)
    | some (some c) => some (.val c.frz, r.set i (some (.val c.frz)))
    | _ => none
/-- as plain data -/
def fz (a : Rf) (r : Env) : Option (D × Env) := match take a r with
  | some (c, r') => some (c.frz, r')
  | none => none
def fzs : List Rf → Env → Option (List D × Env)
  | [], r => some ([], r)
  | a :: as, r => match fz a r with
    | some (d, r1) => match fzs as r1 with
      | some (ds, r2) => some (d :: ds, r2)
      | none => none
    | none => none
/-- the content, moved out of a slot that is left -/
def move : Rf → Env → Option (C × Env)
  | .tmp c, r => some (c, r)
  | .slot i, r => match r[i]? with
    | some (some (.val d)) => some (.val d, r)
    | some (some c) => some (c, r.set i none)
    | _ => none

/-! ### expressions -/
def eVar (i : Nat) : SE := fun _ r => match r[i]? with
  | some (some _) => .ok (.slot i) r
  | _ => .bad
def eCst (d : D) : SE := fun _ r => .ok (.tmp (.val d)) r
def eGlob (x : Str) : SE := fun p r => match p.G x with
  | some d => .ok (.tmp (.val d)) r
  | none => .bad
def eNil : SA := fun _ r => .ok [] r
def eCons (f : SE) (g : SA) : SA := fun p r => (f p r).bind fun a r1 => (g p r1).bind fun as r2 => .ok (a :: as) r2
def szOk (n : Nat) : Bool := decide (n ≤ sizeLine)
def eTup (g : SA) : SE := fun p r => (g p r).bind fun as r1 => match fzs as r1 with
  | some (ds, r2) => if szOk ds.length then .ok (.tmp (.val (.tup ds))) r2 else .bad
  | none => .bad
def eLst (g : SA) : SE := fun p r => (g p r).bind fun as r1 => match fzs as r1 with
  | some (ds, r2) => if szOk ds.length then .ok (.tmp (.ls ds)) r2 else .bad
  | none => .bad
/-- {k: e, ..}, the keys written texts -/
def dkOk (ks : List Str) (n : Nat) : Bool := decide (ks.Nodup ∧ ks.length = n ∧ n ≤ 15)
def eDct (ks : List Str) (g : SA) : SE := fun p r => (g p r).bind fun as r1 => match fzs as r1 with
  | some (ds, r2) => if dkOk ks ds.length then .ok (.tmp (.val (.dct ks ds))) r2 else .bad
  | none => .bad
/-- {} -/
def eDNew : SE := fun _ r => .ok (.tmp (.dc [] [])) r
/-- an operation of two values that are looked at alone -/
def eOp2 (op : D → D → Option C) (f g : SE) : SE := fun p r => (f p r).bind fun a r1 => (g p r1).bind fun b r2 =>
  match view a r2, view b r2 with
  | some x, some y => match op x y with
    | some c => .ok (.tmp c) r2
    | none => .bad
  | _, _ => .bad
def eOp1 (op : D → Option C) (f : SE) : SE := fun p r => (f p r).bind fun a r1 =>
  match view a r1 with
  | some x => match op x with
    | some c => .ok (.tmp c) r1
    | none => .bad
  | none => .bad

/-! ### dicts -/
mutual
/-- a key as == sees it -/
def kn1 : D → Option NestedKey
  | .non => some .none
  | .bl b => some (.num (if b then 1 else 0))
  | .int i => some (.num i)
  | .str s => some (.text s)
  | .tup xs => match kns xs with
    | some ks => some (.tup ks)
    | none => none
  | _ => none
def kns : List D → Option (List NestedKey)
  | [] => some []
  | d :: ds => match kn1 d, kns ds with
    | some k, some ks => some (k :: ks)
    | _, _ => none
end
/-- a key of a dict: a number, a text, a tuple -/
def kn : D → Option NestedKey
  | .int i => some (.num i)
  | .str s => some (.text s)
  | .tup xs => match kn1 (.tup xs) with
    | some k => if decide (k.depth ≤ 8) then some k else none
    | none => none
  | _ => none
def isTupK : NestedKey → Bool
  | .tup _ => true
  | _ => false
/-- the keys are of the kind of n -/
def kindOk (n : NestedKey) (ks : List D) : Bool := ks.all fun z => match kn z with
  | some m => isTupK m == isTupK n
  | none => false
def dFind (n : NestedKey) : List D → List D → Option D
  | k :: ks, x :: xs => if kn k = some n then some x else dFind n ks xs
  | _, _ => none
/-- what a dict holds at a key -/
def dGet (ks xs : List D) (k : D) : Option (Option D) := match kn k with
  | some n => if kindOk n ks then some (dFind n ks xs) else none
  | none => none
def dStore (n : NestedKey) (y : D) : List D → List D → List D
  | k :: ks, x :: xs => (if kn k = some n then y else x) :: dStore n y ks xs
  | _, _ => []
/-- d[k] = y -/
def dPut (ks xs : List D) (k y : D) : Option (List D × List D) := match kn k with
  | some n => if kindOk n ks && decide (ks.length < sizeLine) then (match dFind n ks xs with
    | some _ => some (ks, dStore n y ks xs)
    | none => some (ks ++ [k], xs ++ [y])) else none
  | none => none
inductive BOp where
  | add | sub | mul | fdiv | mod | pow
def intV (i : Int) : C := .val (.int i)
def blV (b : Bool) : C := .val (.bl b)
def strV (s : Str) : C := .val (.str s)
def repL {A : Type} (k : Nat) (xs : List A) : List A := (List.replicate k xs).flatten
def repS (s : Str) (k : Nat) : Str := ⟨(repL k s.cps.toList).toArray⟩
def binD : BOp → D → D → Option C
  | .add, .int i, .int j => some (intV (i + j))
  | .add, .str a, .str b => if szOk (a.length + b.length) then some (strV (a ++ b)) else none
  | .add, .lst xs, .lst ys => if szOk (xs.length + ys.length) then some (.ls (xs ++ ys)) else none
  | .add, .tup xs, .tup ys => if szOk (xs.length + ys.length) then some (.val (.tup (xs ++ ys))) else none
  | .sub, .int i, .int j => some (intV (i - j))
  | .mul, .int i, .int j => if decide ((-(2 ^ 64) < i ∧ i < 2 ^ 64) ∨ (-(2 ^ 64) < j ∧ j < 2 ^ 64)) then some (intV (i * j)) else none
  | .mul, .str a, .int k => if decide (0 ≤ k ∧ k ≤ 1000 ∧ a.length ≤ 1000) then some (strV (repS a k.toNat)) else none
  | .mul, .lst xs, .int k => if decide (0 ≤ k ∧ k ≤ 1000 ∧ xs.length ≤ 1000) then some (.ls (repL k.toNat xs)) else none
  | .fdiv, .int i, .int j => if decide (0 < j ∧ j < 1073741824) then some (intV (i / j)) else none
  | .mod, .int i, .int j => if decide (0 < j) then some (intV (i % j)) else none
  | .pow, .int i, .int j => if decide (0 ≤ j ∧ j ≤ 1000000 ∧ i.natAbs < 2 ^ 64) then some (intV (i ^ j.toNat)) else none
  | _, _, _ => none
inductive COp where
  | eq | ne | lt | le | gt | ge | is | isnot | mem | notmem
def strLt (a b : Str) : Bool := decide (a.cps.toList < b.cps.toList)
mutual
/-- the plain data that == compares as a whole -/
def D.py : D → Option PyData
  | .non => some .none
  | .bl b => some (.bool b)
  | .int i => some (.int i)
  | .str s => some (.str s)
  | .tup xs => (D.pys xs).map .tuple
  | .lst xs => (D.pys xs).map .list
  | .fn _ => none
  | .ty _ => none
  | .scr _ => none
  | .dct _ _ => none
  | .dic _ _ => none
  | .opq => none
def D.pys : List D → Option (List PyData)
  | [] => some []
  | d :: ds => match D.py d, D.pys ds with
    | some x, some xs => some (x :: xs)
    | _, _ => none
end
def D.flat : D → Bool
  | .non => true | .bl _ => true | .int _ => true | .str _ => true
  | _ => false
def eqWhole (a b : D) : Option Bool := match D.py a, D.py b with
  | some x, some y => if SeqAt.shaped x && SeqAt.shaped y then some (PyData.eqv x y) else none
  | _, _ => none
def eqD : D → D → Option Bool
  | .int i, .int j => some (decide (i = j))
  | .str a, .str b => some (decide (a = b))
  | .bl a, .bl b => some (decide (a = b))
  | .non, .non => some true
  | .str _, .non => some false
  | .non, .str _ => some false
  | .int _, .non => some false
  | .non, .int _ => some false
  | .int _, .str _ => some false
  | .str _, .int _ => some false
  | a, b => eqWhole a b
/-- equality of flat things (True is 1) -/
def eqF : D → D → Bool
  | .non, .non => true
  | .bl a, .bl b => a == b
  | .bl a, .int j => (if a then 1 else 0) == j
  | .int i, .bl b => i == (if b then 1 else 0)
  | .int i, .int j => i == j
  | .str x, .str y => x == y
  | _, _ => false
def memD (x : D) (xs : List D) : Option Bool := if x.flat && xs.all D.flat then some (xs.any fun y => eqF y x) else none
def inS (a b : Str) : Bool := !(Builtin.Str.occurrences b a 0 b.length 1).isEmpty
def inD : D → D → Option Bool
  | .str a, .str b => some (inS a b)
  | x, .lst xs => memD x xs
  | x, .tup xs => memD x xs
  | x, .dic ks xs => (dGet ks xs x).map Option.isSome
  | _, _ => none
def isN : D → D → Option Bool
  | .non, .non => some true
  | _, .non => some false
  | _, _ => none
def cmpB : COp → D → D → Option Bool
  | .eq, a, b => eqD a b
  | .ne, a, b => (eqD a b).map not
  | .lt, .int i, .int j => some (decide (i < j))
  | .le, .int i, .int j => some (decide (i ≤ j))
  | .gt, .int i, .int j => some (decide (j < i))
  | .ge, .int i, .int j => some (decide (j ≤ i))
  | .lt, .str a, .str b => some (strLt a b)
  | .gt, .str a, .str b => some (strLt b a)
  | .le, .str a, .str b => some (!strLt b a)
  | .ge, .str a, .str b => some (!strLt a b)
  | .is, a, b => isN a b
  | .isnot, a, b => (isN a b).map not
  | .mem, a, b => inD a b
  | .notmem, a, b => (inD a b).map not
  | _, _, _ => none
def cmpD (op : COp) (a b : D) : Option C := (cmpB op a b).map blV
def eBin (op : BOp) (f g : SE) : SE := eOp2 (binD op) f g
def eCmp (op : COp) (f g : SE) : SE := eOp2 (cmpD op) f g
/-- a op b op' c -/
def eChain (op op' : COp) (f g h : SE) : SE := fun p r => (f p r).bind fun a r1 => (g p r1).bind fun b r2 =>
  match view a r2, view b r2 with
  | some x, some y => match cmpB op x y with
    | some true => (h p r2).bind fun c r3 => match view b r3, view c r3 with
      | some y', some z => match cmpB op' y' z with
        | some k => .ok (.tmp (blV k)) r3
        | none => .bad
      | _, _ => .bad
    | some false => .ok (.tmp (blV false)) r2
    | none => .bad
  | _, _ => .bad
def truD : D → Option Bool
  | .non => some false
  | .bl b => some b
  | .int i => some (i != 0)
  | .str s => if szOk s.length then some (s.length != 0) else none
  | .tup xs => some (!xs.isEmpty)
  | .lst xs => some (!xs.isEmpty)
  | _ => none
/-- a test by its value's truth -/
def tVal (f : SE) : ST := fun p r => (f p r).bind fun a r1 => match view a r1 with
  | some x => match truD x with
    | some b => .ok b r1
    | none => .bad
  | none => .bad
def tAnd (f g : ST) : ST := fun p r => (f p r).bind fun a r1 => if a then g p r1 else .ok false r1
def tOr (f g : ST) : ST := fun p r => (f p r).bind fun a r1 => if a then .ok true r1 else g p r1
def tNot (f : ST) : ST := fun p r => (f p r).bind fun a r1 => .ok (!a) r1
/-- and, or of bools as values -/
def isB : D → Option Bool
  | .bl b => some b
  | _ => none
def eAnd (f g : SE) : SE := fun p r => (f p r).bind fun a r1 => match (view a r1).bind isB with
  | some true => g p r1
  | some false => .ok (.tmp (blV false)) r1
  | none => .bad
def eOr (f g : SE) : SE := fun p r => (f p r).bind fun a r1 => match (view a r1).bind isB with
  | some true => .ok (.tmp (blV true)) r1
  | some false => g p r1
  | none => .bad
def notB : D → Option C
  | .bl b => some (blV (!b))
  | _ => none
def eNot (f : SE) : SE := eOp1 notB f
def negI : D → Option C
  | .int i => some (intV (-i))
  | _ => none
def eNeg (f : SE) : SE := eOp1 negI f
def eIf (t : ST) (f g : SE) : SE := fun p r => (t p r).bind fun a r1 => if a then f p r1 else g p r1
def lkD {A : Type} (ks : List Str) (xs : List A) (z : Str) : Option A := (ks.zip xs).lookup z
/-- an item: never a list of its own -/
def ixD : D → D → Option C
  | .dct ks xs, .str z => (lkD ks xs z).map .val
  | .lst xs, .int i => (atI xs i).map .val
  | .tup xs, .int i => (atI xs i).map .val
  | .str s, .int i => if szOk s.length then (atI s.cps.toList i).map fun c => strV ⟨#[c]⟩ else none
  | .dic ks xs, k => (dGet ks xs k).bind fun o => o.map .val
  | _, _ => none
def eSub (f g : SE) : SE := eOp2 ixD f g
/-- slices -/
def cutL {A : Type} (xs : List A) (lo hi : Option Int) : List A := (xs.drop (HT.sIx xs.length 0 lo)).take (HT.sIx xs.length xs.length hi - HT.sIx xs.length 0 lo)
def cutD : D → Option Int → Option Int → Option C
  | .lst xs, lo, hi => some (.ls (cutL xs lo hi))
  | .tup xs, lo, hi => some (.val (.tup (cutL xs lo hi)))
  | .str s, lo, hi => if szOk s.length then some (strV (cutS s lo hi)) else none
  | .scr ns, lo, hi => some (.ls ((cutL ns lo hi).map .int))
  | _, _, _ => none
abbrev SO := Pg → Env → Out (Option Int)
def oNone : SO := fun _ r => .ok none r
def oSome (f : SE) : SO := fun p r => (f p r).bind fun a r1 => match view a r1 with
  | some (.int i) => .ok (some i) r1
  | _ => .bad
def eSlice (f : SE) (lo hi : SO) : SE := fun p r => (f p r).bind fun a r1 => (lo p r1).bind fun l r2 => (hi p r2).bind fun h r3 => match view a r3 with
  | some x => match cutD x l h with
    | some c => .ok (.tmp c) r3
    | none => .bad
  | none => .bad
/-! ### calls -/
/-- the arguments: what a slot alone has is lent -/
def lend : List Rf → Env → Option (List C × Env × List (Option Nat))
  | [], r => some ([], r, [])
  | a :: as, r => match a with
    | .tmp c => match lend as r with
      | some (cs, r', is) => some (c :: cs, r', none :: is)
      | none => none
    | .slot i => match r[i]? with
      | some (some (.val d)) => match lend as r with
        | some (cs, r', is) => some (.val d :: cs, r', none :: is)
        | none => none
      | some (some c) => match lend as (r.set i none) with
        | some (cs, r', is) => some (c :: cs, r', some i :: is)
        | none => none
      | _ => none
/-- and comes back -/
def back : List (Option Nat) → Env → Env → Env
  | some i :: is, c :: ps, r => back is ps (r.set i c)
  | none :: is, _ :: ps, r => back is ps r
  | _, _, r => r
def callF (F : List C → FOut) (as : List Rf) (r : Env) : Out Rf := match lend as r with
  | some (cs, r1, is) => match F cs with
    | .ok c ps => .ok (.tmp c) (back is ps r1)
    | .exn x ps => .exn x (back is ps r1)
    | .bad => .bad
  | none => .bad
def eCall (x : Str) (g : SA) : SE := fun p r => (g p r).bind fun as r1 => callF (p.F x) as r1
/-- the arguments, filled up: none is the next one written, some a default -/
def pick : List (Option D) → List Rf → Option (List Rf)
  | [], [] => some []
  | none :: s, a :: as => (pick s as).map (a :: ·)
  | some d :: s, as => (pick s as).map (.tmp (.val d) :: ·)
  | _, _ => none
def eCallS (x : Str) (src : List (Option D)) (g : SA) : SE := fun p r => (g p r).bind fun as r1 => match pick src as with
  | some bs => callF (p.F x) bs r1
  | none => .bad
/-- with keywords behind -/
def eCallK (x : Str) (src : List (Option D)) (g gk : SA) : SE := fun p r => (g p r).bind fun as r1 => (gk p r1).bind fun bs r2 => match pick src (as ++ bs) with
  | some cs => callF (p.F x) cs r2
  | none => .bad
/-- a call of the def that a slot holds; fv: the defs that may be, with as many parameters -/
def eCallV (fv : List (Str × Nat)) (i n : Nat) (g : SA) : SE := fun p r => match r[i]? with
  | some (some (.val (.fn x))) => if fv.any fun q => decide (q = (x, n)) then (g p r).bind fun as r1 => callF (p.F x) as r1 else .bad
  | _ => .bad
/-! written dicts of the module -/
def eGIx (x : Str) (f : SE) : SE := fun p r => match p.G x with
  | some (.dct ks xs) => (f p r).bind fun a r1 => match view a r1 with
    | some (.str z) => match lkD ks xs z with
      | some d => .ok (.tmp (.val d)) r1
      | none => .bad
    | _ => .bad
  | _ => .bad
def eGIn (neg : Bool) (x : Str) (f : SE) : SE := fun p r => match p.G x with
  | some (.dct ks xs) => (f p r).bind fun a r1 => match view a r1 with
    | some (.str z) => .ok (.tmp (blV (neg != (lkD ks xs z).isSome))) r1
    | _ => .bad
  | _ => .bad
/-- a call of something built in that looks at its arguments alone -/
def eBlt (op : List D → Option C) (g : SA) : SE := fun p r => (g p r).bind fun as r1 => match views as r1 with
  | some ds => match op ds with
    | some c => .ok (.tmp c) r1
    | none => .bad
  | none => .bad
def lenS : List D → Option C
  | [.str s] => if szOk s.length then some (intV s.length) else none
  | [.lst xs] => some (intV xs.length)
  | [.tup xs] => some (intV xs.length)
  | _ => none
def lenD : List D → Option C
  | [.dic ks _] => some (intV ks.length)
  | ds => lenS ds
def allBl : List D → Option (List Bool)
  | [] => some []
  | .bl b :: ds => (allBl ds).map (b :: ·)
  | _ => none
def allInt : List D → Option (List Int)
  | [] => some []
  | .int b :: ds => (allInt ds).map (b :: ·)
  | _ => none
def allStr : List D → Option (List Str)
  | [] => some []
  | .str b :: ds => (allStr ds).map (b :: ·)
  | _ => none
def allD : List D → Option C
  | [.lst xs] => (allBl xs).map fun bs => blV (bs.all id)
  | _ => none
def anyD : List D → Option C
  | [.lst xs] => (allBl xs).map fun bs => blV (bs.any id)
  | _ => none
def sumD : List D → Option C
  | [.lst xs] => (allInt xs).map fun bs => intV bs.sum
  | _ => none
def listMax (n : Int) (ns : List Int) : Int := ns.foldl (fun a b => if a < b then b else a) n
def listMin (n : Int) (ns : List Int) : Int := ns.foldl (fun a b => if b < a then b else a) n
def maxD : List D → Option C
  | [.int i, .int j] => some (intV (if j > i then j else i))
  | [.lst xs] => match allInt xs with
    | some (n :: ns) => some (intV (listMax n ns))
    | _ => none
  | _ => none
def minD : List D → Option C
  | [.int i, .int j] => some (intV (if j < i then j else i))
  | [.lst xs] => match allInt xs with
    | some (n :: ns) => some (intV (listMin n ns))
    | _ => none
  | _ => none
def listS : List D → Option C
  | [.lst xs] => some (.ls xs)
  | [.tup xs] => some (.ls xs)
  | _ => none
/-- max(xs, default=k) -/
def mxI (k : Int) : List Int → Int
  | [] => k
  | n :: ns => listMax n ns
def mxD (k : Int) : D → Option C
  | .lst xs => match allInt xs with
    | some ns => some (intV (mxI k ns))
    | none => none
  | _ => none
def eMx (k : Int) (f : SE) : SE := eOp1 (mxD k) f
def listD : List D → Option C
  | [.dic ks _] => some (.ls ks)
  | ds => listS ds
/-- dict(d) -/
def dictD : List D → Option C
  | [.dct ks xs] => if decide (ks.length = xs.length) then some (.dc (ks.map .str) xs) else none
  | [.dic ks xs] => if kindOk .none ks then some (.dc ks xs) else none
  | _ => none
def tupleD : List D → Option C
  | [.lst xs] => some (.val (.tup xs))
  | [.tup xs] => some (.val (.tup xs))
  | _ => none
def strD : List D → Option C
  | [.int i] => if decide (i.natAbs.log2 < 1920) then some (strV (Str.ofString (toString i))) else none
  | [.str s] => some (strV s)
  | _ => none
def intD : List D → Option C
  | [.str s] => match PySem.intText? s with
    | some n => if decide (s.length ≤ 640) then some (intV n) else none
    | none => none
  | [.int i] => some (intV i)
  | [.bl b] => some (intV (if b then 1 else 0))
  | _ => none
def sortI (ns : List Int) : List Int := ns.mergeSort fun a b => decide (a ≤ b)
/-- plain data of one form, in its order -/
def pyOf (d : D) : PyData := (D.py d).getD .none
def tupNE : PyData → Bool
  | .tuple (_ :: _) => true
  | _ => false
def noTup : PyData → Bool
  | .none => false
  | .tuple _ => false
  | _ => true
def srtOk (ys : List PyData) : Bool := (ys.all fun d => ys.all fun e => PySem.W.alike d e) && (ys.all tupNE || ys.all noTup) && ys.all fun d => decide (d.depth ≤ 60)
def sortG (xs : List D) : List D := xs.mergeSort fun a b => PySem.W.dataLe false pyOf a b
def sortedS : List D → Option C
  | [.lst xs] => match allInt xs with
    | some ns => if decide (ns.length < 64) then some (.ls ((sortI ns).map .int)) else none
    | none => match D.pys xs with
      | some ys => if srtOk ys then some (.ls (sortG xs)) else none
      | none => none
  | [.tup xs] => match D.pys xs with
    | some ys => if srtOk ys then some (.ls (sortG xs)) else none
    | none => none
  | _ => none
def sortedD : List D → Option C
  | [.dic ks _] => match D.pys ks with
    | some ys => if srtOk ys then some (.ls (sortG ks)) else none
    | none => none
  | ds => sortedS ds
def ordD : List D → Option C
  | [.str s] => if decide (s.length = 1) then some (intV (s.cps.getD 0 0 : Nat)) else none
  | _ => none
/-! f-strings -/
def fmtD : D → Option Str
  | .str s => if szOk s.length then some s else none
  | .int i => if decide (i.natAbs.log2 < 1920) then some (Str.ofString (toString i)) else none
  | _ => none
def eFsG : List SE → Str → Pg → Env → Out Str
  | [], acc, _, r => .ok acc r
  | f :: fs, acc, p, r => (f p r).bind fun a r1 => match view a r1 with
    | some d => match fmtD d with
      | some y => if szOk (acc ++ y).length then eFsG fs (acc ++ y) p r1 else .bad
      | none => .bad
    | none => .bad
def eFs (fs : List SE) : SE := fun p r => (eFsG fs Str.empty p r).bind fun s r1 => .ok (.tmp (strV s)) r1
/-- the type of a thing, as isinstance asks it -/
def tyD : D → Option String
  | .non => some "NoneType"
  | .bl _ => some "bool"
  | .int _ => some "int"
  | .str _ => some "str"
  | .tup _ => some "tuple"
  | .lst _ => some "list"
  | _ => none
def isiOne (t c : String) : Bool := t == c || (t == "bool" && c == "int")
/-- isinstance(f, c), c one or several built-in types -/
def isiD (cs : List String) (x : D) : Option C := (tyD x).map fun t => blV (cs.any fun c => isiOne t c)
def eIsi (cs : List String) (f : SE) : SE := eOp1 (isiD cs) f
/-! ### methods of what is built in -/
/-- of a text -/
inductive SM where
  | upper | starts | find | index | join
def mtS : SM → Str → List D → Option C
  | .upper, s, [] => if decide (s.length ≤ 5592405) then some (strV (Txt.upper s)) else none
  | .starts, s, [.str b] => some (blV (Txt.startswith s b))
  | .find, s, [.str b] => some (intV (Txt.find s b))
  | .index, s, [.str b] => match Builtin.Str.occurrences s b 0 s.length 1 with
    | i :: _ => some (intV (i : Nat))
    | [] => none
  | .join, s, [.lst xs] => match allStr xs with
    | some ys => if decide ((ys.map (·.length)).sum + ys.length * s.length ≤ 16777216) then some (strV (Txt.join s ys)) else none
    | none => none
  | _, _, _ => none
def eMt (m : SM) (f : SE) (g : SA) : SE := fun p r => (f p r).bind fun a r1 => match view a r1 with
  | some (.str s) => (g p r1).bind fun as r2 => match views as r2 with
    | some ds => match mtS m s ds with
      | some c => .ok (.tmp c) r2
      | none => .bad
    | none => .bad
  | _ => .bad
/-- d.get(k), d.get(k, x): what is told, if it is no list of its own -/
def dgD : D → List D → Option C
  | .dic ks xs, [k] => (dGet ks xs k).map fun o => .val (o.getD .non)
  | .dic ks xs, [k, x] => (dGet ks xs k).map fun o => .val (o.getD x)
  | .dct ks xs, [.str z] => some (.val ((lkD ks xs z).getD .non))
  | .dct ks xs, [.str z, x] => some (.val ((lkD ks xs z).getD x))
  | _, _ => none
def eDG (f : SE) (g : SA) : SE := fun p r => (f p r).bind fun a r1 => match view a r1 with
  | some (.dic _ _) | some (.dct _ _) => (g p r1).bind fun as r2 => match view a r2, fzs as r2 with
    | some x, some (ds, r3) => match dgD x ds with
      | some c => .ok (.tmp c) r3
      | none => .bad
    | _, _ => .bad
  | _ => .bad
/-- a list that a slot alone has, changed by a method; what the method tells -/
inductive LM where
  | append | extend | clear | reverse | pop
def chL : LM → List D → List D → Option (D × List D)
  | .append, xs, [d] => if decide (xs.length < sizeLine) then some (.non, xs ++ [d]) else none
  | .extend, xs, [.lst ys] => if szOk (xs.length + ys.length) then some (.non, xs ++ ys) else none
  | .clear, _, [] => some (.non, [])
  | .reverse, xs, [] => some (.non, xs.reverse)
  | .pop, xs, [] => match xs[xs.length - 1]? with
    | some y => some (y, xs.dropLast)
    | none => none
  | _, _, _ => none
/-- the arguments are handed on (they go into the list) -/
def eChL (m : LM) (i : Nat) (g : SA) : SE := fun p r => match r[i]? with
  | some (some (.ls _)) => (g p r).bind fun as r1 => match fzs as r1 with
    | some (ds, r2) => match r2[i]? with
      | some (some (.ls xs)) => match chL m xs ds with
        | some (d, ys) => .ok (.tmp (.val d)) (r2.set i (some (.ls ys)))
        | none => .bad
      | _ => .bad
    | none => .bad
  | _ => .bad
/-! ### targets, walks -/
def gName (i : Nat) : SG := fun d r => some (r.set i (some (.val d)))
def gNil : List D → Env → Option Env
  | [], r => some r
  | _, _ => none
def gCons (g : SG) (h : List D → Env → Option Env) : List D → Env → Option Env
  | d :: ds, r => match g d r with
    | some r1 => h ds r1
    | none => none
  | _, _ => none
def gTup (h : List D → Env → Option Env) : SG := fun d r => match d with
  | .tup ds => h ds r
  | _ => none
/-- (a, .., *z) = a tuple: z is a list that no one changes -/
def gTupS (n : Nat) (h : List D → Env → Option Env) : SG := fun d r => match d with
  | .tup ds => if decide (n ≤ ds.length ∧ ds.length ≤ 10000) then h (ds.take n ++ [.lst (ds.drop n)]) r else none
  | _ => none
/-- what is walked -/
abbrev SI := Pg → Env → Out (List D)
def itD : D → Option (List D)
  | .lst xs => some xs
  | .tup xs => some xs
  | .str s => some (s.cps.toList.map fun c => .str ⟨#[c]⟩)
  | _ => none
def iSeq (f : SE) : SI := fun p r => (f p r).bind fun a r1 => match a with
  | .tmp c => match itD c.frz with
    | some xs => .ok xs r1
    | none => .bad
  | .slot i => match r1[i]? with
    | some (some (.val d)) => match itD d with
      | some xs => .ok xs r1
      | none => .bad
    | _ => .bad
def rngL (lo : Int) (n : Nat) : List D := (List.range n).map fun (k : Nat) => D.int (lo + (k : Int))
def rngD : List D → Option (List D)
  | [.int j] => if decide (-(2 ^ 62) ≤ j ∧ j < 2 ^ 62) then some (rngL 0 j.toNat) else none
  | [.int i, .int j] => if decide (-(2 ^ 62) ≤ i ∧ i < 2 ^ 62 ∧ -(2 ^ 62) ≤ j ∧ j < 2 ^ 62) then some (rngL i (j - i).toNat) else none
  | _ => none
def rgB (i j : Int) : Bool := decide (-(2 ^ 62) ≤ i ∧ i < 2 ^ 62 ∧ -(2 ^ 62) ≤ j ∧ j < 2 ^ 62 ∧ (j - i).toNat ≤ 16777216)
def lrngD : List D → Option C
  | [.int j] => if rgB 0 j then some (.ls (rngL 0 j.toNat)) else none
  | [.int i, .int j] => if rgB i j then some (.ls (rngL i (j - i).toNat)) else none
  | _ => none
def iRng (g : SA) : SI := fun p r => (g p r).bind fun as r1 => match views as r1 with
  | some ds => match rngD ds with
    | some xs => .ok xs r1
    | none => .bad
  | none => .bad
/-- enumerate of a text or a tuple, from k on -/
def enD (k : Int) (xs : List D) : List D := xs.zipIdx.map fun q => .tup [.int (k + (q.2 : Int)), q.1]
def enV : List D → Option (List D)
  | [.str s] => some (s.cps.toList.map fun c => .str ⟨#[c]⟩)
  | [.tup xs] => some xs
  | _ => none
def iEn (k : Int) (g : SA) : SI := fun p r => (g p r).bind fun as r1 => match views as r1 with
  | some ds => match enV ds with
    | some xs => .ok (enD k xs) r1
    | none => .bad
  | none => .bad
def Out.mapEnv {A : Type} (f : Env → Env) : Out A → Out A
  | .ok a r => .ok a (f r)
  | .exn x r => .exn x (f r)
  | .bad => .bad
/-! ### a comprehension -/
def wipeE : List Nat → Env → Env
  | [], r => r
  | i :: is, r => (wipeE is r).set i none
def restE : List Nat → Env → Env → Env
  | [], _, r => r
  | i :: is, r0, r => (restE is r0 r).set i (r0[i]?.getD none)
def compL (own : List Nat) (g : SG) (t : ST) (e : SE) (p : Pg) : List D → List D → Env → Out (List D)
  | [], acc, r => .ok acc r
  | d :: ds, acc, r => match g d r with
    | none => .bad
    | some r1 => match t p r1 with
      | .ok true r2 => match e p r2 with
        | .ok a r3 => match fz a r3 with
          | some (y, r4) => if decide (acc.length < sizeLine) then compL own g t e p ds (acc ++ [y]) (wipeE own r4) else .bad
          | none => .bad
        | _ => .bad
      | .ok false r2 => compL own g t e p ds acc (wipeE own r2)
      | _ => .bad
def tTrue : ST := fun _ r => .ok true r
def eComp (own : List Nat) (it : SI) (g : SG) (t : ST) (e : SE) : SE := fun p r => (it p r).bind fun xs r1 => match compL own g t e p xs [] (wipeE own r1) with
  | .ok acc r2 => .ok (.tmp (.ls acc)) (restE own r1 r2)
  | _ => .bad
/-- over what a slot holds: its own list is out of reach meanwhile -/
def eCompV (own : List Nat) (i : Nat) (g : SG) (t : ST) (e : SE) : SE := fun p r => match r[i]? with
  | some (some (.val d)) => match itD d with
    | some xs => match compL own g t e p xs [] (wipeE own r) with
      | .ok acc r2 => .ok (.tmp (.ls acc)) (restE own r r2)
      | _ => .bad
    | none => .bad
  | some (some (.ls xs)) => match compL own g t e p xs [] (wipeE own (r.set i none)) with
    | .ok acc r2 => .ok (.tmp (.ls acc)) ((restE own (r.set i none) r2).set i (some (.ls xs)))
    | _ => .bad
  | _ => .bad
/-! two clauses: the second one's walk is made anew at each turn of the first -/
def compL2 (own own1 : List Nat) (g : SG) (t : ST) (it1 : SI) (g1 : SG) (t1 : ST) (e : SE) (p : Pg) : List D → List D → Env → Out (List D)
  | [], acc, r => .ok acc r
  | d :: ds, acc, r => match g d r with
    | none => .bad
    | some r1 => match t p r1 with
      | .ok true r2 => match it1 p r2 with
        | .ok xs r3 => match compL own1 g1 t1 e p xs acc (wipeE own1 r3) with
          | .ok acc2 r4 => compL2 own own1 g t it1 g1 t1 e p ds acc2 (wipeE own r4)
          | _ => .bad
        | _ => .bad
      | .ok false r2 => compL2 own own1 g t it1 g1 t1 e p ds acc (wipeE own r2)
      | _ => .bad
def eComp2 (own own1 : List Nat) (it : SI) (g : SG) (t : ST) (it1 : SI) (g1 : SG) (t1 : ST) (e : SE) : SE := fun p r => (it p r).bind fun xs r1 => match compL2 own own1 g t it1 g1 t1 e p xs [] (wipeE own r1) with
  | .ok acc r2 => .ok (.tmp (.ls acc)) (restE own r1 r2)
  | _ => .bad
def eComp2V (own own1 : List Nat) (i : Nat) (g : SG) (t : ST) (it1 : SI) (g1 : SG) (t1 : ST) (e : SE) : SE := fun p r => match r[i]? with
  | some (some (.val d)) => match itD d with
    | some xs => match compL2 own own1 g t it1 g1 t1 e p xs [] (wipeE own r) with
      | .ok acc r2 => .ok (.tmp (.ls acc)) (restE own r r2)
      | _ => .bad
    | none => .bad
  | some (some (.ls xs)) => match compL2 own own1 g t it1 g1 t1 e p xs [] (wipeE own (r.set i none)) with
    | .ok acc r2 => .ok (.tmp (.ls acc)) ((restE own (r.set i none) r2).set i (some (.ls xs)))
    | _ => .bad
  | _ => .bad
/-- x.index(..), x a written tuple of texts -/
def idxS (z : Str) : List Str → Option Nat
  | [] => none
  | y :: ys => if y = z then some 0 else (idxS z ys).map (· + 1)
def eTIx (x : Str) (g : SA) : SE := fun p r => match p.G x with
  | some (.tup xs) => (g p r).bind fun as r2 => match views as r2, allStr xs with
    | some [.str z], some ys => match idxS z ys with
      | some j => .ok (.tmp (intV (j : Nat))) r2
      | none => .bad
    | _, _ => .bad
  | _ => .bad
/-! ### statements -/
def sNil : SS := fun _ r => .ok .nx r
def sCons (s t : SS) : SS := fun p r => (s p r).bind fun f r1 => match f with
  | .nx => t p r1
  | f => .ok f r1
def sPass : SS := fun _ r => .ok .nx r
def sBrk : SS := fun _ r => .ok .brk r
def sCont : SS := fun _ r => .ok .ct r
def sExpr (f : SE) : SS := fun p r => (f p r).bind fun _ r1 => .ok .nx r1
def sRet (f : SE) : SS := fun p r => (f p r).bind fun a r1 => match move a r1 with
  | some (c, r2) => .ok (.ret c) r2
  | none => .bad
def sRetN : SS := fun _ r => .ok (.ret (.val .non)) r
def sIf (t : ST) (a b : SS) : SS := fun p r => (t p r).bind fun k r1 => if k then a p r1 else b p r1
def sSet (i : Nat) (f : SE) : SS := fun p r => (f p r).bind fun a r1 => match take a r1 with
  | some (c, r2) => .ok .nx (r2.set i (some c))
  | none => .bad
/-- a, b = e -/
def sUnp (g : SG) (f : SE) : SS := fun p r => (f p r).bind fun a r1 => match fz a r1 with
  | some (d, r2) => match g d r2 with
    | some r3 => .ok .nx r3
    | none => .bad
  | none => .bad
/-- a, *b = e, e a tuple -/
def sUnpS (i j : Nat) (f : SE) : SS := fun p r => (f p r).bind fun a r1 => match fz a r1 with
  | some (.tup (x :: xs), r2) => if decide (xs.length ≤ 10000) then .ok .nx ((r2.set i (some (.val x))).set j (some (.ls xs))) else .bad
  | _ => .bad
/-- x[k] = e, x a slot's own list or dict -/
def sSetIx (i : Nat) (k f : SE) : SS := fun p r => (f p r).bind fun a r1 => match fz a r1 with
  | some (d, r2) => match r2[i]? with
    | some (some (.ls _)) => (k p r2).bind fun b r3 => match view b r3, r3[i]? with
      | some (.int n), some (some (.ls xs)) => match ixN xs.length n with
        | some j => .ok .nx (r3.set i (some (.ls (xs.set j d))))
        | none => .bad
      | _, _ => .bad
    | some (some (.dc _ _)) => (k p r2).bind fun b r3 => match view b r3, r3[i]? with
      | some kd, some (some (.dc ks xs)) => match dPut ks xs kd d with
        | some q => .ok .nx (r3.set i (some (.dc q.1 q.2)))
        | none => .bad
      | _, _ => .bad
    | _ => .bad
  | none => .bad
/-- raise c(e): an own exception with a word and one field -/
def sRaise (c wd fn : Str) (g : SA) : SS := fun p r => if 3 ≤ p.lv then (g p r).bind fun as r1 => match fzs as r1 with
  | some ([d], r2) => .exn ⟨c, [(fn, d), ("word", .str wd)]⟩ r2
  | _ => .bad
  else .bad
/-- what a handler tells: constants, fields of the exception -/
inductive HP where
  | cst (d : D) | fld (f : Str)
  /-- isinstance(e, y): known -/
  | isx (y : Str) (b : Bool)
def hpD (x : Exc) : HP → Option D
  | .cst d => some d
  | .fld f => x.fs.lookup f
  | .isx _ b => if x.fs.isEmpty then none else some (.bl b)
def hpsD (x : Exc) : List HP → Option (List D)
  | [] => some []
  | h :: hs => match hpD x h, hpsD x hs with
    | some d, some ds => some (d :: ds)
    | _, _ => none
/-- except c as n: (slot i is n's) y = (parts) | return (parts) -/
def sTry (b : SS) (c : Str) (i : Nat) (o : Option Nat) (hs : List HP) : SS := fun p r => match b p r with
  | .exn x r1 => if x.cls = c ∧ i < r1.length then match hpsD x hs with
      | some ds => if szOk ds.length then match o with
        | some j => .ok .nx ((r1.set j (some (.val (.tup ds)))).set i none)
        | none => .ok (.ret (.val (.tup ds))) (r1.set i none)
        else .bad
      | none => .bad
    else .bad
  | z => z
def augD : BOp → D → D → Option C
  | .add, .int i, .int j => some (intV (i + j))
  | .add, .str a, .str b => if szOk (a.length + b.length) then some (strV (a ++ b)) else none
  | .sub, .int i, .int j => some (intV (i - j))
  | _, _, _ => none
def sAug (op : BOp) (i : Nat) (f : SE) : SS := fun p r => match r[i]? with
  | some (some (.val x)) => (f p r).bind fun b r1 => match view b r1 with
    | some y => match augD op x y with
      | some c => .ok .nx (r1.set i (some c))
      | none => .bad
    | none => .bad
  | some (some (.ls _)) => match op with
    | .add => (f p r).bind fun b r1 => match view b r1, r1[i]? with
      | some (.lst ys), some (some (.ls xs)) => if szOk (xs.length + ys.length) then .ok .nx (r1.set i (some (.ls (xs ++ ys)))) else .bad
      | _, _ => .bad
    | _ => .bad
  | _ => .bad
def forL (g : SG) (b : SS) (p : Pg) : List D → Env → Out Fl
  | [], r => .ok .nx r
  | d :: ds, r => match g d r with
    | none => .bad
    | some r1 => match b p r1 with
      | .ok .nx r2 => forL g b p ds r2
      | .ok .ct r2 => forL g b p ds r2
      | .ok .brk r2 => .ok .nx r2
      | .ok (.ret c) r2 => .ok (.ret c) r2
      | .exn x r2 => .exn x r2
      | .bad => .bad
def sFor (it : SI) (g : SG) (b : SS) : SS := fun p r => (it p r).bind fun xs r1 => forL g b p xs r1
/-- over what a slot holds: its own list is out of reach meanwhile -/
def sForV (i : Nat) (g : SG) (b : SS) : SS := fun p r => match r[i]? with
  | some (some (.val d)) => match itD d with
    | some xs => forL g b p xs r
    | none => .bad
  | some (some (.ls xs)) => (forL g b p xs (r.set i none)).mapEnv fun r2 => r2.set i (some (.ls xs))
  | _ => .bad
/-- a, b = x, y -/
def sPar (i j : Nat) (g : SA) : SS := fun p r => (g p r).bind fun as r1 => match as with
  | [a, b] => match take a r1 with
    | some (c, r2) => match take b r2 with
      | some (d, r3) => .ok .nx ((r3.set i (some c)).set j (some d))
      | none => .bad
    | none => .bad
  | _ => .bad
/-- a, b, c = x, y, z -/
def sPar3 (i j l : Nat) (g : SA) : SS := fun p r => (g p r).bind fun as r1 => match as with
  | [a, b, c] => match take a r1 with
    | some (x, r2) => match take b r2 with
      | some (y, r3) => match take c r3 with
        | some (z, r4) => .ok .nx (((r4.set i (some x)).set j (some y)).set l (some z))
        | none => .bad
      | none => .bad
    | none => .bad
  | _ => .bad
/-- a = b = x -/
def sSet2 (i j : Nat) (f : SE) : SS := fun p r => (f p r).bind fun a r1 => match fz a r1 with
  | some (d, r2) => .ok .nx ((r2.set i (some (.val d))).set j (some (.val d)))
  | none => .bad
/-- while, at most n turns -/
def whL (t : ST) (b : SS) (p : Pg) : Nat → Env → Out Fl
  | 0, _ => .bad
  | n + 1, r => match t p r with
    | .ok true r1 => match b p r1 with
      | .ok .nx r2 => whL t b p n r2
      | .ok .ct r2 => whL t b p n r2
      | .ok .brk r2 => .ok .nx r2
      | .ok (.ret c) r2 => .ok (.ret c) r2
      | .exn x r2 => .exn x r2
      | .bad => .bad
    | .ok false r1 => .ok .nx r1
    | .exn x r1 => .exn x r1
    | .bad => .bad
@[irreducible] def whN : Nat := 1000000
def sWhile (t : ST) (b : SS) : SS := fun p r => whL t b p whN r
/-! ### a def -/
structure Def where
  /-- for each parameter: is it never stored (then what was lent comes back) -/
  io : List Bool
  /-- how many slots -/
  n : Nat
  body : SS
def mask : List Bool → Env → Env
  | true :: bs, c :: r => c :: mask bs r
  | false :: bs, _ :: r => none :: mask bs r
  | _, _ => []
def runDef (p : Pg) (d : Def) (cs : List C) : FOut :=
  if cs.length = d.io.length then match d.body p (cs.map some ++ List.replicate (d.n - cs.length) none) with
    | .ok .nx r => .ok (.val .non) (mask d.io r)
    | .ok (.ret c) r => .ok c (mask d.io r)
    | .exn x r => .exn x (mask d.io r)
    | _ => .bad
  else .bad
end Mi

set_option Elab.async false
set_option linter.all false
set_option maxRecDepth 100000
/-! Mi, over the hand layer: what a value stands for, who holds what, how a reading follows the meaning. -/
namespace Mi
open PySem L2

/-- the module's names; the program, the world; the tables of code objects -/
structure MT where
  mg : Str → Option Value
  P : Program
  w : World
  T : List (Addr × Str)
instance : CoeFun MT (fun _ => Str → Option Value) := ⟨MT.mg⟩
instance : CoeOut MT (Str → Option Value) := ⟨MT.mg⟩
/-- a dict whose keys are tuples: each key, where its tuple stands, the value -/
def NdO (P : Program) (w : World) (a : Addr) (es : List (NestedKey × Addr × V)) : HO := .ext fun h => es.length ≤ sizeLine ∧ (a == sysModules) = false ∧ (es.map (·.1)).Nodup ∧ ∃ vs : List (NestedKey × Addr × Value),
  Paired (fun (p : NestedKey × Addr × V) (q : NestedKey × Addr × Value) => p.1 = q.1 ∧ p.2.1 = q.2.1 ∧ RelV p.2.2 q.2.2) es vs ∧ ∃ o ds ep, h.get? a = some o ∧ o.ExactDict ∧ o.data = .dict ds ep ∧ ds.toList = vs.map (entryOfKey (nestedKind P w))
theorem ndO_tbl {P : Program} {w : World} {a : Addr} {es : List (NestedKey × Addr × V)} (ps : Array Value) : NdO P w a es ≠ .tbl ps := fun z => by
  unfold NdO at z
  cases z
abbrev Cell := Addr × HO
def Ex (H H' : Hp) : Prop := ∀ a o, H a = some o → H' a = some o
theorem Ex.refl (H : Hp) : Ex H H := fun _ _ h => h
theorem Ex.trans {H H1 H2 : Hp} (a : Ex H H1) (b : Ex H1 H2) : Ex H H2 := fun x o h => b x o (a x o h)
theorem Ex.new {H : Hp} {p : Addr} {o : HO} (h : H p = none) : Ex H (upd H p o) := fun a u e => by
  rw [upd_ne (ne_of_none e h)]
  exact e
theorem Ex.free {H H' : Hp} (e : Ex H H') {p : Addr} (h : H' p = none) : H p = none := by
  cases q : H p with
  | none => rfl
  | some o => rw [e p o q] at h; cases h
theorem Ex.rd {H H' : Hp} {a : Addr} {u : HO} (e : Ex H H') (h : Rd H a u) : Rd H' a u := by
  rcases h with h | ⟨o, h⟩
  · exact .inl (e _ _ h)
  · exact .inr ⟨o, e _ _ h⟩
theorem Ex.sl {K : PySem.W.Frag} {H H' : Hp} {a : Addr} {xs : List V} (e : Ex H H') (h : SqL K H a xs) : SqL K H' a xs := by
  rcases h with h | h
  · exact .inl (e.rd h)
  · exact .inr h
theorem Ex.st {K : PySem.W.Frag} {H H' : Hp} {a : Addr} {xs : List V} (e : Ex H H') (h : SqT K H a xs) : SqT K H' a xs := by
  rcases h with h | h
  · exact .inl (e.rd h)
  · exact .inr h

/-! ### how often a cell is held -/
open Classical in
noncomputable def cnt (c : Cell) : List Cell → Nat
  | [] => 0
  | d :: ds => (if d = c then 1 else 0) + cnt c ds
theorem cnt_nil (c : Cell) : cnt c [] = 0 := rfl
theorem cnt_cons (c d : Cell) (ds : List Cell) : cnt c (d :: ds) = cnt c [d] + cnt c ds := by simp [cnt]
theorem cnt_one (c : Cell) : cnt c [c] = 1 := by simp [cnt]
theorem cnt_ne {c d : Cell} (h : d ≠ c) : cnt c [d] = 0 := by simp [cnt, h]
theorem cnt_append (c : Cell) : ∀ xs ys : List Cell, cnt c (xs ++ ys) = cnt c xs + cnt c ys
  | [], ys => by simp [cnt]
  | x :: xs, ys => by
    rw [List.cons_append, cnt_cons, cnt_append c xs ys, cnt_cons c x xs]
    omega
theorem mem_cnt {c : Cell} : ∀ {xs : List Cell}, c ∈ xs ↔ 0 < cnt c xs
  | [] => by simp [cnt]
  | x :: xs => by
    rw [List.mem_cons, mem_cnt (xs := xs), cnt_cons]
    by_cases h : x = c
    · subst h; rw [cnt_one]; simp; omega
    · rw [cnt_ne h]; simp [Ne.symm h]
theorem cnt_set (c : Cell) {k k' : List Cell} : ∀ {cs : List (List Cell)} {i : Nat}, cs[i]? = some k → cnt c (cs.set i k').flatten + cnt c k = cnt c cs.flatten + cnt c k'
  | [], i, h => by simp at h
  | x :: xs, 0, h => by
    simp at h
    subst h
    simp only [List.set_cons_zero, List.flatten_cons, cnt_append]
    omega
  | x :: xs, i + 1, h => by
    have ih := cnt_set c (k' := k') (cs := xs) (i := i) (by simpa using h)
    simp only [List.set_cons_succ, List.flatten_cons, cnt_append]
    omega

/-- F: what stays for ever; cs: what someone alone holds; all of it stands in H -/
structure Sat (M : MT) (F H : Hp) (cs : List Cell) : Prop where
  ex : Ex F H
  own : ∀ c, 0 < cnt c cs → H c.1 = some c.2
  nd : ∀ c, cnt c cs ≤ 1
  fr : ∀ c, 0 < cnt c cs → F c.1 = none
  nt : ∀ c, 0 < cnt c cs → ∀ ps, c.2 ≠ .tbl ps
  tb : ∀ p ∈ M.T, ∃ ps : Array Value, H p.1 = some (.tbl ps) ∧ F p.1 = none ∧ TriplesOk ps.toList ∧ ∀ (pos : Pos) (cv : Value), codeAmong pos ps.toList = some cv → ∃ c, cv = .ref c ∧ F c = some (LamX.CodeO c p.2)
section
variable {M : MT} {F H : Hp} {cs : List Cell} {p : Addr} {o o' : HO}
theorem Sat.sub {cs' : List Cell} (s : Sat M F H cs) (h : ∀ c, cnt c cs' ≤ cnt c cs) : Sat M F H cs' :=
  ⟨s.ex, fun c q => s.own c (by have := h c; omega), fun c => by have := h c; have := s.nd c; omega, fun c q => s.fr c (by have := h c; omega), fun c q => s.nt c (by have := h c; omega), s.tb⟩
theorem Sat.ne {a : Addr} (s : Sat M F H ((a, o) :: cs)) {c : Cell} (h : 0 < cnt c cs) : c.1 ≠ a := by
  intro e
  have h1 := s.own (a, o) (by rw [cnt_cons, cnt_one]; omega)
  have h2 := s.own c (by rw [cnt_cons]; omega)
  rw [e] at h2
  have e2 : o = c.2 := Option.some.inj (h1.symm.trans h2)
  have e3 : c = (a, o) := by rw [e2, ← e]
  subst e3
  have := s.nd (a, o)
  rw [cnt_cons, cnt_one] at this
  omega
/-- the tables stand where neither p nor what is known for ever is touched -/
theorem Sat.tabs (s : Sat M F H cs) {F' H' : Hp} (hF : ∀ b u, F b = some u → F' b = some u) (hT : ∀ b ps, H b = some (.tbl ps) → H' b = some (.tbl ps) ∧ (F b = none → F' b = none)) :
    ∀ p ∈ M.T, ∃ ps : Array Value, H' p.1 = some (.tbl ps) ∧ F' p.1 = none ∧ TriplesOk ps.toList ∧ ∀ (pos : Pos) (cv : Value), codeAmong pos ps.toList = some cv → ∃ c, cv = .ref c ∧ F' c = some (LamX.CodeO c p.2) := fun q hq => by
  obtain ⟨ps, h1, h2, h3, h4⟩ := s.tb q hq
  refine ⟨ps, (hT _ _ h1).1, (hT _ _ h1).2 h2, h3, fun pos cv hc => ?_⟩
  obtain ⟨c, e1, e2⟩ := h4 pos cv hc
  exact ⟨c, e1, hF _ _ e2⟩
/-- a new thing of one's own -/
theorem Sat.newO (s : Sat M F H cs) (hp : H p = none) (ho : ∀ ps, o ≠ .tbl ps := by intro ps z; cases z) : Sat M F (upd H p o) ((p, o) :: cs) := by
  have ne : ∀ c : Cell, 0 < cnt c cs → c.1 ≠ p := fun c q => ne_of_none (s.own c q) hp
  refine ⟨s.ex.trans (Ex.new hp), fun c q => ?_, fun c => ?_, fun c q => ?_, fun c q => ?_, s.tabs (fun _ _ e => e) fun b ps e => ⟨by rw [upd_ne (ne_of_none e hp)]; exact e, id⟩⟩
  · rw [cnt_cons] at q
    by_cases h : (p, o) = c
    · subst h; exact upd_same
    · rw [cnt_ne h] at q
      rw [upd_ne (ne c (by omega))]
      exact s.own c (by omega)
  · rw [cnt_cons]
    by_cases h : (p, o) = c
    · subst h
      rw [cnt_one]
      have : ¬ 0 < cnt (p, o) cs := fun z => ne _ z rfl
      omega
    · rw [cnt_ne h]; have := s.nd c; omega
  · rw [cnt_cons] at q
    by_cases h : (p, o) = c
    · subst h; exact s.ex.free hp
    · rw [cnt_ne h] at q
      exact s.fr c (by omega)
  · rw [cnt_cons] at q
    by_cases h : (p, o) = c
    · subst h; exact ho
    · rw [cnt_ne h] at q
      exact s.nt c (by omega)
/-- a new thing for ever -/
theorem Sat.newF (s : Sat M F H cs) (hp : H p = none) : Sat M (upd F p o) (upd H p o) cs := by
  have ne : ∀ c : Cell, 0 < cnt c cs → c.1 ≠ p := fun c q => ne_of_none (s.own c q) hp
  refine ⟨fun a u e => ?_, fun c q => ?_, s.nd, fun c q => ?_, s.nt, s.tabs (Ex.new (s.ex.free hp)) fun b ps e => ⟨by rw [upd_ne (ne_of_none e hp)]; exact e, fun n => by rw [upd_ne (ne_of_none e hp)]; exact n⟩⟩
  · by_cases h : a = p
    · subst h; rw [upd_same] at e ⊢; exact e
    · rw [upd_ne h] at e ⊢; exact s.ex a u e
  · rw [upd_ne (ne c q)]; exact s.own c q
  · rw [upd_ne (ne c q)]; exact s.fr c q
/-- one's own thing is no table -/
theorem Sat.no_tbl (s : Sat M F H ((p, o) :: cs)) {b : Addr} {ps : Array Value} (e : H b = some (.tbl ps)) : b ≠ p := by
  rintro rfl
  have h1 := s.own (b, o) (by rw [cnt_cons, cnt_one]; omega)
  rw [e] at h1
  exact s.nt (b, o) (by rw [cnt_cons, cnt_one]; omega) ps (Option.some.inj h1).symm
/-- one's own thing is changed -/
theorem Sat.put (s : Sat M F H ((p, o) :: cs)) (ho : ∀ ps, o' ≠ .tbl ps := by intro ps z; cases z) : Sat M F (upd H p o') ((p, o') :: cs) := by
  have ne : ∀ c : Cell, 0 < cnt c cs → c.1 ≠ p := fun c q => s.ne q
  have fp : F p = none := s.fr (p, o) (by rw [cnt_cons, cnt_one]; omega)
  refine ⟨fun a u e => ?_, fun c q => ?_, fun c => ?_, fun c q => ?_, fun c q => ?_, s.tabs (fun _ _ e => e) fun b ps e => ⟨by rw [upd_ne (s.no_tbl e)]; exact e, id⟩⟩
  · rw [upd_ne (ne_of_none e fp)]; exact s.ex a u e
  · rw [cnt_cons] at q
    by_cases h : (p, o') = c
    · subst h; exact upd_same
    · rw [cnt_ne h] at q
      rw [upd_ne (ne c (by omega))]
      exact s.own c (by rw [cnt_cons]; omega)
  · rw [cnt_cons]
    by_cases h : (p, o') = c
    · subst h
      rw [cnt_one]
      have : ¬ 0 < cnt (p, o') cs := fun z => ne _ z rfl
      omega
    · rw [cnt_ne h]
      have := s.nd c
      rw [cnt_cons] at this
      omega
  · rw [cnt_cons] at q
    by_cases h : (p, o') = c
    · subst h; exact fp
    · rw [cnt_ne h] at q
      exact s.fr c (by rw [cnt_cons]; omega)
  · rw [cnt_cons] at q
    by_cases h : (p, o') = c
    · subst h; exact ho
    · rw [cnt_ne h] at q
      exact s.nt c (by rw [cnt_cons]; omega)
/-- one's own thing is left for ever -/
theorem Sat.ice (s : Sat M F H ((p, o) :: cs)) : Sat M (upd F p o) H cs ∧ Ex F (upd F p o) := by
  have ne : ∀ c : Cell, 0 < cnt c cs → c.1 ≠ p := fun c q => s.ne q
  have fp : F p = none := s.fr (p, o) (by rw [cnt_cons, cnt_one]; omega)
  have hp : H p = some o := s.own (p, o) (by rw [cnt_cons, cnt_one]; omega)
  refine ⟨⟨fun a u e => ?_, fun c q => ?_, fun c => ?_, fun c q => ?_, fun c q => s.nt c (by rw [cnt_cons]; omega), s.tabs (Ex.new fp) fun b ps e => ⟨e, fun n => by rw [upd_ne (s.no_tbl e)]; exact n⟩⟩, Ex.new fp⟩
  · by_cases h : a = p
    · subst h; rw [upd_same] at e; cases e; exact hp
    · rw [upd_ne h] at e; exact s.ex a u e
  · exact s.own c (by rw [cnt_cons]; omega)
  · have := s.nd c; rw [cnt_cons] at this; omega
  · rw [upd_ne (ne c q)]; exact s.fr c (by rw [cnt_cons]; omega)
end

/-! ### what a value stands for -/
def kvOf : List Str → List V → List (Key × V)
  | k :: ks, v :: vs => (.inr k, v) :: kvOf ks vs
  | _, _ => []
def kD : Key → D
  | .inl i => .int i
  | .inr x => .str x
mutual
inductive RD (K : PySem.W.Frag) (mg : MT) (F : Hp) : D → V → Prop
  | non : RD K mg F .non .non
  | bl (b : Bool) : RD K mg F (.bl b) (.bl b)
  | int (i : Int) : RD K mg F (.int i) (.int i)
  | str (s : Str) : RD K mg F (.str s) (.str s)
  | tup {a : Addr} {vs : List V} {ds : List D} (h : SqT K F a vs) (r : RDs K mg F ds vs) : RD K mg F (.tup ds) (.ref a)
  | lst {a : Addr} {vs : List V} {ds : List D} (h : F a = some (.lst vs)) (r : RDs K mg F ds vs) : RD K mg F (.lst ds) (.ref a)
  | fn {x : Str} {a : Addr} (h : mg x = some (.ref a)) : RD K mg F (.fn x) (.ref a)
  | ty (n : String) : RD K mg F (.ty n) (.ty n)
  | scr {a : Addr} {ns : List Int} (h : SqL K F a (ns.map V.int)) : RD K mg F (.scr ns) (.ref a)
  | dct {a : Addr} {ks : List Str} {ds : List D} {vs : List V} (h : F a = some (.dK (kvOf ks vs))) (r : RDs K mg F ds vs) : RD K mg F (.dct ks ds) (.ref a)
  | dic {a : Addr} {o : HO} {ks ds : List D} (h : F a = some o) (r : DR K mg F ks ds a o) : RD K mg F (.dic ks ds) (.ref a)
  | opq (a : Addr) : RD K mg F .opq (.ref a)
inductive RDs (K : PySem.W.Frag) (mg : MT) (F : Hp) : List D → List V → Prop
  | nil : RDs K mg F [] []
  | cons {d : D} {ds : List D} {v : V} {vs : List V} (r : RD K mg F d v) (rs : RDs K mg F ds vs) : RDs K mg F (d :: ds) (v :: vs)
/-- a dict at a, as o tells it: its keys, its values -/
inductive DR (K : PySem.W.Frag) (mg : MT) (F : Hp) : List D → List D → Addr → HO → Prop
  | leaf {a : Addr} {kvs : List (Key × V)} {xs : List D} (r : RDs K mg F xs (kvs.map (·.2))) : DR K mg F (kvs.map fun q => kD q.1) xs a (.dK kvs)
  | tup {a : Addr} {es : List (NestedKey × Addr × V)} {ks xs : List D} (hne : es ≠ []) (hk : ks.map kn = es.map fun e => some e.1) (rk : RDs K mg F ks (es.map fun e => .ref e.2.1)) (r : RDs K mg F xs (es.map (·.2.2))) : DR K mg F ks xs a (NdO mg.P mg.w a es)
end
inductive RC (K : PySem.W.Frag) (mg : MT) (F : Hp) : C → V → List Cell → Prop
  | val {d : D} {v : V} (r : RD K mg F d v) : RC K mg F (.val d) v []
  | ls {a : Addr} {ds : List D} {vs : List V} (r : RDs K mg F ds vs) : RC K mg F (.ls ds) (.ref a) [(a, .lst vs)]
  | dc {a : Addr} {o : HO} {ks ds : List D} (r : DR K mg F ks ds a o) : RC K mg F (.dc ks ds) (.ref a) [(a, o)]
/-- the slots -/
inductive RV (K : PySem.W.Frag) (mg : MT) (F : Hp) : Env → L2.St → List (List Cell) → Prop
  | nil : RV K mg F [] [] []
  | no {o : Option V} {r : Env} {σ : L2.St} {cs : List (List Cell)} (t : RV K mg F r σ cs) : RV K mg F (none :: r) (o :: σ) ([] :: cs)
  | yes {c : C} {v : V} {k : List Cell} {r : Env} {σ : L2.St} {cs : List (List Cell)} (h : RC K mg F c v k) (t : RV K mg F r σ cs) : RV K mg F (some c :: r) (some v :: σ) (k :: cs)
/-- a value on its way -/
def RR (K : PySem.W.Frag) (mg : MT) (F : Hp) (σ : L2.St) : Rf → V → List Cell → Prop
  | .tmp c, v, k => RC K mg F c v k
  | .slot i, v, k => σ[i]? = some (some v) ∧ k = []
inductive RRs (K : PySem.W.Frag) (mg : MT) (F : Hp) (σ : L2.St) : List Rf → List V → List Cell → Prop
  | nil : RRs K mg F σ [] [] []
  | cons {a : Rf} {as : List Rf} {v : V} {vs : List V} {k ks : List Cell} (h : RR K mg F σ a v k) (t : RRs K mg F σ as vs ks) : RRs K mg F σ (a :: as) (v :: vs) (k ++ ks)
/-- what is looked at: plain data, or a list whose items are plain data -/
inductive VW (K : PySem.W.Frag) (mg : MT) (F H : Hp) : D → V → Prop
  | f {d : D} {v : V} (r : RD K mg F d v) : VW K mg F H d v
  | l {a : Addr} {ds : List D} {vs : List V} (h : H a = some (.lst vs)) (r : RDs K mg F ds vs) : VW K mg F H (.lst ds) (.ref a)
  | d {a : Addr} {o : HO} {ks ds : List D} (h : H a = some o) (r : DR K mg F ks ds a o) : VW K mg F H (.dic ks ds) (.ref a)

section
variable {K : PySem.W.Frag} {mg : MT} {F F' H H' : Hp} {σ : L2.St}
mutual
theorem RD.mono (e : Ex F F') : ∀ {d : D} {v : V}, RD K mg F d v → RD K mg F' d v
  | _, _, .non => .non
  | _, _, .bl b => .bl b
  | _, _, .int i => .int i
  | _, _, .str s => .str s
  | _, _, .tup h r => .tup (e.st h) (RDs.mono e r)
  | _, _, .lst h r => .lst (e _ _ h) (RDs.mono e r)
  | _, _, .fn h => .fn h
  | _, _, .ty n => .ty n
  | _, _, .scr h => .scr (e.sl h)
  | _, _, .dct h r => .dct (e _ _ h) (RDs.mono e r)
  | _, _, .dic h r => .dic (e _ _ h) (DR.mono e r)
  | _, _, .opq a => .opq a
theorem RDs.mono (e : Ex F F') : ∀ {ds : List D} {vs : List V}, RDs K mg F ds vs → RDs K mg F' ds vs
  | _, _, .nil => .nil
  | _, _, .cons r rs => .cons (RD.mono e r) (RDs.mono e rs)
theorem DR.mono (e : Ex F F') : ∀ {ks ds : List D} {a : Addr} {o : HO}, DR K mg F ks ds a o → DR K mg F' ks ds a o
  | _, _, _, _, .leaf r => .leaf (RDs.mono e r)
  | _, _, _, _, .tup hne hk rk r => .tup hne hk (RDs.mono e rk) (RDs.mono e r)
end
theorem DR.tbl {ks ds : List D} {a : Addr} {o : HO} (r : DR K mg F ks ds a o) (ps : Array Value) : o ≠ .tbl ps := by
  cases r with
  | leaf r => intro z; cases z
  | tup hne hk rk r => exact ndO_tbl ps
theorem RC.mono (e : Ex F F') {c : C} {v : V} {k : List Cell} (h : RC K mg F c v k) : RC K mg F' c v k := by
  cases h with
  | val r => exact .val (r.mono e)
  | ls r => exact .ls (r.mono e)
  | dc r => exact .dc (r.mono e)
theorem RV.mono (e : Ex F F') {r : Env} {cs : List (List Cell)} (h : RV K mg F r σ cs) : RV K mg F' r σ cs := by
  induction h with
  | nil => exact .nil
  | no t ih => exact .no ih
  | yes h t ih => exact .yes (h.mono e) ih
theorem RR.mono (e : Ex F F') {a : Rf} {v : V} {k : List Cell} (h : RR K mg F σ a v k) : RR K mg F' σ a v k := by
  cases a with
  | tmp c => exact RC.mono e h
  | slot i => exact h
theorem RRs.mono (e : Ex F F') {a : List Rf} {v : List V} {k : List Cell} (h : RRs K mg F σ a v k) : RRs K mg F' σ a v k := by
  induction h with
  | nil => exact .nil
  | cons h t ih => exact .cons (h.mono e) ih
theorem RDs.len : ∀ {ds : List D} {vs : List V}, RDs K mg F ds vs → ds.length = vs.length
  | _, _, .nil => rfl
  | _, _, .cons _ t => by rw [List.length_cons, List.length_cons, RDs.len t]
theorem RDs.app : ∀ {ds es : List D} {vs us : List V}, RDs K mg F ds vs → RDs K mg F es us → RDs K mg F (ds ++ es) (vs ++ us)
  | _, _, _, _, .nil, h => h
  | _, _, _, _, .cons r t, h => .cons r (RDs.app t h)
theorem RDs.get : ∀ {ds : List D} {vs : List V} {i : Nat} {d : D}, RDs K mg F ds vs → ds[i]? = some d → ∃ v, vs[i]? = some v ∧ RD K mg F d v
  | _, _, _, _, .nil, e => by simp at e
  | _, _, 0, _, .cons r _, e => by simp at e; subst e; exact ⟨_, rfl, r⟩
  | _, _, i + 1, d, .cons _ t, e => by
    obtain ⟨u, h1, h2⟩ := RDs.get (i := i) (d := d) t (by simpa using e)
    exact ⟨u, by simpa using h1, h2⟩
theorem RDs.get2 : ∀ {ds : List D} {vs : List V} {i : Nat} {v : V}, RDs K mg F ds vs → vs[i]? = some v → ∃ d, ds[i]? = some d ∧ RD K mg F d v
  | _, _, _, _, .nil, e => by simp at e
  | _, _, 0, _, .cons r _, e => by simp at e; subst e; exact ⟨_, rfl, r⟩
  | _, _, i + 1, d, .cons _ t, e => by
    obtain ⟨u, h1, h2⟩ := RDs.get2 (i := i) (v := d) t (by simpa using e)
    exact ⟨u, by simpa using h1, h2⟩
theorem RDs.set {d : D} {v : V} (r : RD K mg F d v) : ∀ {ds : List D} {vs : List V} (i : Nat), RDs K mg F ds vs → RDs K mg F (ds.set i d) (vs.set i v)
  | _, _, _, .nil => .nil
  | _, _, 0, .cons _ t => .cons r t
  | _, _, i + 1, .cons q t => .cons q (RDs.set r i t)
theorem RDs.take : ∀ {ds : List D} {vs : List V} (n : Nat), RDs K mg F ds vs → RDs K mg F (ds.take n) (vs.take n)
  | _, _, 0, _ => .nil
  | _, _, _ + 1, .nil => .nil
  | _, _, n + 1, .cons r t => .cons r (RDs.take n t)
theorem RDs.drop : ∀ {ds : List D} {vs : List V} (n : Nat), RDs K mg F ds vs → RDs K mg F (ds.drop n) (vs.drop n)
  | _, _, 0, r => r
  | _, _, _ + 1, .nil => .nil
  | _, _, n + 1, .cons _ t => RDs.drop n t
theorem RDs.dropLast : ∀ {ds : List D} {vs : List V}, RDs K mg F ds vs → RDs K mg F ds.dropLast vs.dropLast := fun {ds vs} h => by
  rw [List.dropLast_eq_take, List.dropLast_eq_take, h.len]
  exact h.take _
theorem RDs.rev : ∀ {ds : List D} {vs : List V}, RDs K mg F ds vs → RDs K mg F ds.reverse vs.reverse
  | _, _, .nil => .nil
  | _, _, .cons r t => by
    rw [List.reverse_cons, List.reverse_cons]
    exact (RDs.rev t).app (.cons r .nil)
theorem RDs.rep {ds : List D} {vs : List V} (h : RDs K mg F ds vs) : ∀ k : Nat, RDs K mg F (repL k ds) (List.replicate k vs).flatten
  | 0 => .nil
  | k + 1 => by
    show RDs K mg F (List.replicate (k + 1) ds).flatten _
    rw [List.replicate_succ, List.replicate_succ, List.flatten_cons, List.flatten_cons]
    exact h.app (RDs.rep h k)
theorem RDs.snoc {ds : List D} {vs : List V} {d : D} {v : V} (h : RDs K mg F ds vs) (r : RD K mg F d v) : RDs K mg F (ds ++ [d]) (vs ++ [v]) := h.app (.cons r .nil)

/-! ### slots -/
theorem RV.len {r : Env} {cs : List (List Cell)} (h : RV K mg F r σ cs) : σ.length = r.length ∧ cs.length = r.length := by
  induction h with
  | nil => exact ⟨rfl, rfl⟩
  | no t ih => simp [ih.1, ih.2]
  | yes h t ih => simp [ih.1, ih.2]
theorem RV.get {r : Env} {cs : List (List Cell)} {i : Nat} {c : C} (h : RV K mg F r σ cs) (e : r[i]? = some (some c)) : ∃ v k, σ[i]? = some (some v) ∧ cs[i]? = some k ∧ RC K mg F c v k := by
  induction h generalizing i with
  | nil => simp at e
  | no t ih =>
    cases i with
    | zero => simp at e
    | succ i =>
      obtain ⟨v, k, h1, h2, h3⟩ := ih (by simpa using e)
      exact ⟨v, k, by simpa using h1, by simpa using h2, h3⟩
  | yes h t ih =>
    cases i with
    | zero => simp at e; subst e; exact ⟨_, _, rfl, rfl, h⟩
    | succ i =>
      obtain ⟨v, k, h1, h2, h3⟩ := ih (by simpa using e)
      exact ⟨v, k, by simpa using h1, by simpa using h2, h3⟩
theorem RV.set {r : Env} {cs : List (List Cell)} {c : C} {v : V} {k : List Cell} (h : RV K mg F r σ cs) (i : Nat) (hc : RC K mg F c v k) : RV K mg F (r.set i (some c)) (σ.set i (some v)) (cs.set i k) := by
  induction h generalizing i with
  | nil => exact .nil
  | no t ih =>
    cases i with
    | zero => exact .yes hc t
    | succ i => exact .no (ih i)
  | yes h t ih =>
    cases i with
    | zero => exact .yes hc t
    | succ i => exact .yes h (ih i)
/-- a slot is forgotten, whatever stands in it -/
theorem RV.wipe {r : Env} {cs : List (List Cell)} (h : RV K mg F r σ cs) (i : Nat) (o : Option V) : RV K mg F (r.set i none) (σ.set i o) (cs.set i []) := by
  induction h generalizing i with
  | nil => exact .nil
  | no t ih =>
    cases i with
    | zero => exact .no t
    | succ i => exact .no (ih i)
  | yes h t ih =>
    cases i with
    | zero => exact .no t
    | succ i => exact .yes h (ih i)
theorem set_self {A : Type} {xs : List A} {i : Nat} {x : A} (h : xs[i]? = some x) : xs.set i x = xs := by
  apply List.ext_getElem?
  intro j
  by_cases e : i = j
  · subst e
    rw [List.getElem?_set_self (List.getElem?_eq_some_iff.mp h).1, h]
  · rw [List.getElem?_set_ne e]
theorem RV.hide {r : Env} {cs : List (List Cell)} (h : RV K mg F r σ cs) (i : Nat) : RV K mg F (r.set i none) σ (cs.set i []) := by
  by_cases hi : i < σ.length
  · have := h.wipe i (σ[i])
    rwa [set_self (List.getElem?_eq_getElem hi)] at this
  · have := h.wipe i none
    rwa [List.set_eq_of_length_le (l := σ) (by omega)] at this
/-- the content of a slot, another one for the same value -/
theorem RV.put {r : Env} {cs : List (List Cell)} {i : Nat} {c : C} {v : V} {k : List Cell} (h : RV K mg F r σ cs) (hs : σ[i]? = some (some v)) (hc : RC K mg F c v k) : RV K mg F (r.set i (some c)) σ (cs.set i k) := by
  have := h.set i hc
  rwa [set_self hs] at this
theorem RV.put0 {r : Env} {cs : List (List Cell)} {i : Nat} {oc : Option C} {v : V} {k : List Cell} (h : RV K mg F r σ cs) (hs : σ[i]? = some (some v)) (hc : ∀ c, oc = some c → RC K mg F c v k) (hn : oc = none → k = []) : RV K mg F (r.set i oc) σ (cs.set i k) := by
  cases oc with
  | none => rw [hn rfl]; exact h.hide i
  | some c => exact h.put hs (hc c rfl)

/-! ### as plain data -/
theorem RC.ice {c : C} {v : V} {k R : List Cell} (h : RC K mg F c v k) (s : Sat mg F H (k ++ R)) : ∃ F', Ex F F' ∧ RD K mg F' c.frz v ∧ Sat mg F' H R := by
  cases h with
  | val r => exact ⟨F, Ex.refl F, r, s⟩
  | ls r =>
    obtain ⟨s1, e⟩ := Sat.ice s
    exact ⟨_, e, .lst upd_same (r.mono e), s1⟩
  | dc r =>
    obtain ⟨s1, e⟩ := Sat.ice s
    exact ⟨_, e, .dic upd_same (r.mono e), s1⟩
theorem RC.view {c : C} {v : V} {k R : List Cell} (h : RC K mg F c v k) (s : Sat mg F H R) (hk : ∀ c, cnt c k ≤ cnt c R) : VW K mg F H c.frz v := by
  cases h with
  | val r => exact .f r
  | @ls a ds vs r =>
    refine .l ?_ r
    have := hk (a, .lst vs)
    rw [cnt_one] at this
    exact s.own (a, .lst vs) (by omega)
  | @dc a o ks ds r =>
    refine .d ?_ r
    have := hk (a, o)
    rw [cnt_one] at this
    exact s.own (a, o) (by omega)
theorem cnt_slot {cs : List (List Cell)} {i : Nat} {k : List Cell} (h : cs[i]? = some k) (c : Cell) : cnt c k ≤ cnt c cs.flatten := by
  have := cnt_set c (k' := []) h
  rw [cnt_nil] at this
  omega
theorem view_ok {a : Rf} {v : V} {k R : List Cell} {r : Env} {cs : List (List Cell)} {d : D} (ha : RR K mg F σ a v k) (hr : RV K mg F r σ cs) (s : Sat mg F H R) (hk : ∀ c, cnt c k + cnt c cs.flatten ≤ cnt c R) (e : view a r = some d) : VW K mg F H d v := by
  cases a with
  | tmp c =>
    cases e
    exact RC.view ha s fun c => by have := hk c; omega
  | slot i =>
    obtain ⟨hs, hk0⟩ := ha
    simp only [view] at e
    split at e
    · rename_i c hc
      cases e
      obtain ⟨v', k', h1, h2, h3⟩ := hr.get hc
      rw [hs] at h1
      cases h1
      exact h3.view s fun c => by have := hk c; have := cnt_slot h2 c; omega
    · cases e
theorem views_ok {as : List Rf} {vs : List V} {k R : List Cell} {r : Env} {cs : List (List Cell)} {ds : List D} (ha : RRs K mg F σ as vs k) (hr : RV K mg F r σ cs) (s : Sat mg F H R) (hk : ∀ c, cnt c k + cnt c cs.flatten ≤ cnt c R) (e : views as r = some ds) :
    ∃ (_ : ds.length = vs.length), ∀ (i : Nat) (d : D) (v : V), ds[i]? = some d → vs[i]? = some v → VW K mg F H d v := by
  induction ha generalizing ds with
  | nil => cases e; exact ⟨rfl, fun i d v e => by simp at e⟩
  | cons h t ih =>
    rename_i a as v vs k ks
    unfold views at e
    split at e
    · rename_i d ds' h1 h2
      cases e
      obtain ⟨l, q⟩ := ih (fun c => by have := hk c; rw [cnt_append] at this; omega) h2
      refine ⟨by simp [l], fun i d' v' e1 e2 => ?_⟩
      cases i with
      | zero =>
        simp at e1 e2
        subst e1; subst e2
        exact view_ok h hr s (fun c => by have := hk c; rw [cnt_append] at this; omega) h1
      | succ i => exact q i d' v' (by simpa using e1) (by simpa using e2)
    · cases e
theorem take_ok {a : Rf} {v : V} {k R : List Cell} {r r' : Env} {cs : List (List Cell)} {c : C} (ha : RR K mg F σ a v k) (hr : RV K mg F r σ cs) (s : Sat mg F H (k ++ (cs.flatten ++ R))) (e : take a r = some (c, r')) :
    ∃ F' k' cs', Ex F F' ∧ RC K mg F' c v k' ∧ RV K mg F' r' σ cs' ∧ Sat mg F' H (k' ++ (cs'.flatten ++ R)) := by
  cases a with
  | tmp c0 =>
    cases e
    exact ⟨F, k, cs, Ex.refl F, ha, hr, s⟩
  | slot i =>
    obtain ⟨hs, rfl⟩ := ha
    simp only [take] at e
    split at e
    · rename_i d hc
      cases e
      obtain ⟨v', k', h1, h2, h3⟩ := hr.get hc
      rw [hs] at h1
      cases h1
      cases h3 with
      | val q => exact ⟨F, [], cs, Ex.refl F, .val q, hr, s⟩
    · rename_i c0 hnv hc
      cases e
      obtain ⟨v', k', h1, h2, h3⟩ := hr.get hc
      rw [hs] at h1
      cases h1
      obtain ⟨F', ex, rd, s'⟩ := h3.ice (R := (cs.set i []).flatten ++ R) (s.sub fun c => by
        have := cnt_set c (k' := []) h2
        simp only [cnt_append, cnt_nil] at this ⊢
        omega)
      exact ⟨F', [], cs.set i [], ex, .val rd, (hr.mono ex).put hs (.val rd), s'⟩
    · cases e
theorem fz_ok {a : Rf} {v : V} {k R : List Cell} {r r' : Env} {cs : List (List Cell)} {d : D} (ha : RR K mg F σ a v k) (hr : RV K mg F r σ cs) (s : Sat mg F H (k ++ (cs.flatten ++ R))) (e : fz a r = some (d, r')) :
    ∃ F' cs', Ex F F' ∧ RD K mg F' d v ∧ RV K mg F' r' σ cs' ∧ Sat mg F' H (cs'.flatten ++ R) := by
  unfold fz at e
  split at e
  · rename_i c r1 h1
    cases e
    obtain ⟨F1, k1, cs1, e1, c1, v1, s1⟩ := take_ok ha hr s h1
    obtain ⟨F2, e2, rd, s2⟩ := c1.ice s1
    exact ⟨F2, cs1, e1.trans e2, rd, v1.mono e2, s2⟩
  · cases e
theorem fzs_ok {as : List Rf} {vs : List V} {k R : List Cell} {r r' : Env} {cs : List (List Cell)} {ds : List D} (ha : RRs K mg F σ as vs k) (hr : RV K mg F r σ cs) (s : Sat mg F H (k ++ (cs.flatten ++ R))) (e : fzs as r = some (ds, r')) :
    ∃ F' cs', Ex F F' ∧ RDs K mg F' ds vs ∧ RV K mg F' r' σ cs' ∧ Sat mg F' H (cs'.flatten ++ R) := by
  induction as generalizing vs k r r' cs ds R F with
  | nil =>
    cases ha
    cases e
    exact ⟨F, cs, Ex.refl F, .nil, hr, s⟩
  | cons a as ih =>
    cases ha with
    | @cons _ _ v vs k ks h t =>
      unfold fzs at e
      split at e
      · rename_i d r1 h1
        split at e
        · rename_i ds' r2 h2
          cases e
          obtain ⟨F1, cs1, e1, rd, v1, s1⟩ := fz_ok (R := ks ++ R) h hr (s.sub fun c => by simp only [cnt_append]; omega) h1
          obtain ⟨F2, cs2, e2, rds, v2, s2⟩ := ih (R := R) (t.mono e1) v1 (s1.sub fun c => by simp only [cnt_append]; omega) h2
          exact ⟨F2, cs2, e1.trans e2, .cons (rd.mono e2) rds, v2, s2⟩
        · cases e
      · cases e
theorem move_ok {a : Rf} {v : V} {k R : List Cell} {r r' : Env} {cs : List (List Cell)} {c : C} (ha : RR K mg F σ a v k) (hr : RV K mg F r σ cs) (s : Sat mg F H (k ++ (cs.flatten ++ R))) (e : move a r = some (c, r')) :
    ∃ k' cs', RC K mg F c v k' ∧ RV K mg F r' σ cs' ∧ Sat mg F H (k' ++ (cs'.flatten ++ R)) := by
  cases a with
  | tmp c0 =>
    cases e
    exact ⟨k, cs, ha, hr, s⟩
  | slot i =>
    obtain ⟨hs, rfl⟩ := ha
    simp only [move] at e
    split at e
    · rename_i d hc
      cases e
      obtain ⟨v', k', h1, h2, h3⟩ := hr.get hc
      rw [hs] at h1
      cases h1
      cases h3 with
      | val q => exact ⟨[], cs, .val q, hr, s⟩
    · rename_i c0 hnv hc
      cases e
      obtain ⟨v', k', h1, h2, h3⟩ := hr.get hc
      rw [hs] at h1
      cases h1
      exact ⟨k', cs.set i [], h3, hr.hide i, s.sub fun c => by
        have := cnt_set c (k' := []) h2
        simp only [cnt_append, cnt_nil] at this ⊢
        omega⟩
    · cases e
end
end Mi

set_option Elab.async false
set_option linter.all false
set_option maxRecDepth 100000
set_option maxHeartbeats 1000000
/-! Mi: readings that follow meanings; the operations on values. -/
namespace Mi
open PySem L2

/-- the fields of an exception -/
inductive RFs (K : PySem.W.Frag) (mg : MT) (F : Hp) : List (Str × D) → List (Str × V) → Prop
  | nil : RFs K mg F [] []
  | cons {x : Str} {d : D} {v : V} {fs : List (Str × D)} {vs : List (Str × V)} (r : RD K mg F d v) (t : RFs K mg F fs vs) : RFs K mg F ((x, d) :: fs) ((x, v) :: vs)
/-- an exception on its way: its class, its own dict -/
inductive RX (K : PySem.W.Frag) (mg : MT) (F : Hp) : Exc → Value → Option Addr → List Cell → Prop
  | dict {x : Exc} {C a : Addr} {vs : List (Str × V)} (hm : mg x.cls = some (.ref C)) (r : RFs K mg F x.fs vs) : RX K mg F x (.ref C) (some a) [(a, .xd vs)]
  | bare {x : Exc} {C : Addr} (hm : mg x.cls = some (.ref C)) (e : x.fs = []) : RX K mg F x (.ref C) none []
theorem RFs.mono {K : PySem.W.Frag} {mg : MT} {F F' : Hp} (e : Ex F F') : ∀ {fs : List (Str × D)} {vs : List (Str × V)}, RFs K mg F fs vs → RFs K mg F' fs vs
  | _, _, .nil => .nil
  | _, _, .cons r t => .cons (r.mono e) (RFs.mono e t)
theorem RX.mono {K : PySem.W.Frag} {mg : MT} {F F' : Hp} (e : Ex F F') {x : Exc} {c : Value} {d : Option Addr} {k : List Cell} (h : RX K mg F x c d k) : RX K mg F' x c d k := by
  cases h with
  | dict hm r => exact .dict hm (r.mono e)
  | bare hm z => exact .bare hm z

section
variable (K : PySem.W.Frag) (mg : MT) (W : WX) (σ : L2.St) (F : Hp) (R : List Cell)
/-- what is left to be wished where an exception leaves -/
def PoX (x : Exc) (r : Env) : Prop := ∀ F' H' cls d k cs, Ex F F' → RX K mg F' x cls d k → RV K mg F' r σ cs → Sat mg F' H' (k ++ (cs.flatten ++ R)) → W cls d σ H'
def PoE (Q : VK) : Out Rf → Prop
  | .ok a r => ∀ F' H' v k cs, Ex F F' → RR K mg F' σ a v k → RV K mg F' r σ cs → Sat mg F' H' (k ++ (cs.flatten ++ R)) → Q v H'
  | .exn x r => PoX K mg W σ F R x r
  | .bad => False
def PoT (Q : Bool → Hp → Prop) : Out Bool → Prop
  | .ok a r => ∀ F' H' cs, Ex F F' → RV K mg F' r σ cs → Sat mg F' H' (cs.flatten ++ R) → Q a H'
  | .exn x r => PoX K mg W σ F R x r
  | .bad => False
def PoO (Q : Option Int → Hp → Prop) : Out (Option Int) → Prop
  | .ok a r => ∀ F' H' cs, Ex F F' → RV K mg F' r σ cs → Sat mg F' H' (cs.flatten ++ R) → Q a H'
  | .exn x r => PoX K mg W σ F R x r
  | .bad => False
def PoA (Q : List V → Hp → Prop) : Out (List Rf) → Prop
  | .ok as r => ∀ F' H' vs k cs, Ex F F' → RRs K mg F' σ as vs k → RV K mg F' r σ cs → Sat mg F' H' (k ++ (cs.flatten ++ R)) → Q vs H'
  | .exn x r => PoX K mg W σ F R x r
  | .bad => False
end
def SnE (K : PySem.W.Frag) (mg : MT) (W : WX) (t : TE) (f : Env → Out Rf) : Prop :=
  ∀ r σ F H cs R Q, RV K mg F r σ cs → Sat mg F H (cs.flatten ++ R) → PoE K mg W σ F R Q (f r) → t σ H Q
def SnT (K : PySem.W.Frag) (mg : MT) (W : WX) (t : TT) (f : Env → Out Bool) : Prop :=
  ∀ r σ F H cs R Q, RV K mg F r σ cs → Sat mg F H (cs.flatten ++ R) → PoT K mg W σ F R Q (f r) → t σ H Q
def SnO (K : PySem.W.Frag) (mg : MT) (W : WX) (t : TO) (f : Env → Out (Option Int)) : Prop :=
  ∀ r σ F H cs R Q, RV K mg F r σ cs → Sat mg F H (cs.flatten ++ R) → PoO K mg W σ F R Q (f r) → t σ H Q
def SnA (K : PySem.W.Frag) (mg : MT) (W : WX) (t : TA) (f : Env → Out (List Rf)) : Prop :=
  ∀ r σ F H cs R Q, RV K mg F r σ cs → Sat mg F H (cs.flatten ++ R) → PoA K mg W σ F R Q (f r) → t σ H Q
/-- where code runs: the contexts, the written part, the module's names, what is wished of exceptions -/
structure Jd where
  G : Cx → Prop
  K : PySem.W.Frag
  mg : MT
  W : WX
def OkE (Z : Jd) (e : Expr) (f : Env → Out Rf) : Prop := ∃ t, (∀ X, Z.G X → PE X e t) ∧ SnE Z.K Z.mg Z.W t f
def OkT (Z : Jd) (e : Expr) (f : Env → Out Bool) : Prop := ∃ t, (∀ X, Z.G X → PT X e t) ∧ SnT Z.K Z.mg Z.W t f
def OkO (Z : Jd) (e : Option Expr) (f : Env → Out (Option Int)) : Prop := ∃ t, (∀ X, Z.G X → PO X e t) ∧ SnO Z.K Z.mg Z.W t f
def OkA (Z : Jd) (es : List Expr) (f : Env → Out (List Rf)) : Prop := ∃ t, (∀ X, Z.G X → PA X es t) ∧ SnA Z.K Z.mg Z.W t f

theorem PoX.back {K : PySem.W.Frag} {mg : MT} {W : WX} {σ : L2.St} {F F' : Hp} {R R' : List Cell} {x : Exc} {r : Env} (e : Ex F F') (h : PoX K mg W σ F R x r) (hR : ∀ c, cnt c R ≤ cnt c R') : PoX K mg W σ F' R' x r :=
  fun F2 H2 cls d k cs e2 rx rv s => h F2 H2 cls d k cs (e.trans e2) rx rv (s.sub fun c => by have := hR c; simp only [cnt_append]; omega)

/-! ### a new value -/
def NewC (K : PySem.W.Frag) (mg : MT) (F H : Hp) (c : C) (Q : VK) : Prop := ∀ F' H' v k, Ex F F' → RC K mg F' c v k → (∀ cs, Sat mg F H cs → Sat mg F' H' (k ++ cs)) → Q v H'
section
variable {K : PySem.W.Frag} {mg : MT} {F H : Hp} {Q : VK}
theorem NewC.flat {d : D} {v : V} (h : NewC K mg F H (.val d) Q) (r : RD K mg F d v) : Q v H := h F H v [] (Ex.refl F) (.val r) fun _ s => s
theorem NewC.lst {ds : List D} {vs : List V} {p : Addr} (h : NewC K mg F H (.ls ds) Q) (hp : H p = none) (r : RDs K mg F ds vs) : Q (.ref p) (upd H p (.lst vs)) :=
  h F _ _ _ (Ex.refl F) (.ls r) fun _ s => s.newO hp
theorem NewC.dic {ks ds : List D} {o : HO} {p : Addr} (h : NewC K mg F H (.dc ks ds) Q) (hp : H p = none) (r : DR K mg F ks ds p o) : Q (.ref p) (upd H p o) :=
  h F _ _ _ (Ex.refl F) (.dc r) fun _ s => s.newO hp r.tbl
theorem NewC.tup {ds : List D} {vs : List V} {p : Addr} (h : NewC K mg F H (.val (.tup ds)) Q) (ex : Ex F H) (hp : H p = none) (r : RDs K mg F ds vs) : Q (.ref p) (upd H p (.tup vs)) :=
  h (upd F p (.tup vs)) _ _ _ (Ex.new (ex.free hp)) (.val (.tup (.inl (.inl upd_same)) (r.mono (Ex.new (ex.free hp))))) fun _ s => s.newF hp
end
/-- an operation's reading follows its meaning -/
def OpS (K : PySem.W.Frag) (mg : MT) (r : R2) (op : D → D → Option C) : Prop :=
  ∀ F H x y v u c Q, VW K mg F H x v → VW K mg F H y u → Ex F H → op x y = some c → NewC K mg F H c Q → r v u H Q
def UnS (K : PySem.W.Frag) (mg : MT) (r : V → Hp → VK → Prop) (op : D → Option C) : Prop :=
  ∀ F H x v c Q, VW K mg F H x v → Ex F H → op x = some c → NewC K mg F H c Q → r v H Q
/-- .. a call's -/
def CaS (K : PySem.W.Frag) (mg : MT) (r : List V → Hp → VK → Prop) (op : List D → Option C) : Prop :=
  ∀ F H ds vs c Q, ds.length = vs.length → (∀ (i : Nat) (d : D) (v : V), ds[i]? = some d → vs[i]? = some v → VW K mg F H d v) → Ex F H → op ds = some c → NewC K mg F H c Q → r vs H Q

section
variable {Z : Jd} {a b e : Expr} {p : Pg}
/-- an operation of two values that are looked at -/
theorem ok_op2 {r : R2} {op : D → D → Option C} {f g : SE} (ho : OpS Z.K Z.mg r op) (hp : ∀ X, Z.G X → ∀ ta tb, PE X a ta → PE X b tb → PE X e (tOp r ta tb)) (ha : OkE Z a (f p)) (hb : OkE Z b (g p)) : OkE Z e (eOp2 op f g p) := by
  obtain ⟨ta, pa, sa⟩ := ha
  obtain ⟨tb, pb, sb⟩ := hb
  refine ⟨_, fun X g => hp X g ta tb (pa X g) (pb X g), fun r0 σ F H cs R Q rv s po => ?_⟩
  unfold eOp2 at po
  refine sa r0 σ F H cs R _ rv s ?_
  cases ea : f p r0 with
  | bad => rw [ea] at po; exact po
  | exn x r1 => rw [ea] at po; exact po
  | ok a1 r1 =>
    rw [ea] at po
    simp only [Out.bind_ok] at po
    intro F1 H1 v1 k1 cs1 e1 ra1 rv1 s1
    refine sb r1 σ F1 H1 cs1 (k1 ++ R) _ rv1 (s1.sub fun c => by simp only [cnt_append]; omega) ?_
    cases eb : g p r1 with
    | bad => rw [eb] at po; exact po
    | exn x r2 => rw [eb] at po; exact PoX.back e1 po fun c => by simp only [cnt_append]; omega
    | ok b1 r2 =>
      rw [eb] at po
      simp only [Out.bind_ok] at po
      intro F2 H2 v2 k2 cs2 e2 rb2 rv2 s2
      split at po
      · rename_i x y hx hy
        split at po
        · rename_i c hc
          have w1 := view_ok (ra1.mono e2) rv2 s2 (fun c => by simp only [cnt_append]; omega) hx
          have w2 := view_ok rb2 rv2 s2 (fun c => by simp only [cnt_append]; omega) hy
          refine ho F2 H2 x y v1 v2 c Q w1 w2 s2.ex hc fun F3 H3 v3 k3 e3 rc3 s3 => ?_
          exact po F3 H3 v3 k3 cs2 ((e1.trans e2).trans e3) rc3 (rv2.mono e3) (s3 _ (s2.sub fun c => by simp only [cnt_append]; omega))
        · exact po.elim
      · exact po.elim
theorem ok_op1 {r : V → Hp → VK → Prop} {op : D → Option C} {f : SE} (ho : UnS Z.K Z.mg r op) (hp : ∀ X, Z.G X → ∀ ta, PE X a ta → PE X e (tUn r ta)) (ha : OkE Z a (f p)) : OkE Z e (eOp1 op f p) := by
  obtain ⟨ta, pa, sa⟩ := ha
  refine ⟨_, fun X g => hp X g ta (pa X g), fun r0 σ F H cs R Q rv s po => ?_⟩
  unfold eOp1 at po
  refine sa r0 σ F H cs R _ rv s ?_
  cases ea : f p r0 with
  | bad => rw [ea] at po; exact po
  | exn x r1 => rw [ea] at po; exact po
  | ok a1 r1 =>
    rw [ea] at po
    simp only [Out.bind_ok] at po
    intro F1 H1 v1 k1 cs1 e1 ra1 rv1 s1
    split at po
    · rename_i x hx
      split at po
      · rename_i c hc
        have w1 := view_ok ra1 rv1 s1 (fun c => by simp only [cnt_append]; omega) hx
        refine ho F1 H1 x v1 c Q w1 s1.ex hc fun F3 H3 v3 k3 e3 rc3 s3 => ?_
        exact po F3 H3 v3 k3 cs1 (e1.trans e3) rc3 (rv1.mono e3) (s3 _ (s1.sub fun c => by simp only [cnt_append]; omega))
      · exact po.elim
    · exact po.elim
theorem ok_nil : OkA Z [] (eNil p) := ⟨tNil, fun _ _ => pa_nil, fun r σ F H cs R Q rv s po => po F H [] [] cs (Ex.refl F) .nil rv s⟩
theorem ok_cons {es : List Expr} {f : SE} {g : SA} (hs : ∀ env, starEach (e :: es) env = (false, eval e env) :: starEach es env) (ha : OkE Z e (f p)) (hb : OkA Z es (g p)) : OkA Z (e :: es) (eCons f g p) := by
  obtain ⟨ta, pa, sa⟩ := ha
  obtain ⟨tb, pb, sb⟩ := hb
  refine ⟨_, fun X g => pa_cons (pa X g) (pb X g) (hs _), fun r0 σ F H cs R Q rv s po => ?_⟩
  unfold eCons at po
  refine sa r0 σ F H cs R _ rv s ?_
  cases ea : f p r0 with
  | bad => rw [ea] at po; exact po
  | exn x r1 => rw [ea] at po; exact po
  | ok a1 r1 =>
    rw [ea] at po
    simp only [Out.bind_ok] at po
    intro F1 H1 v1 k1 cs1 e1 ra1 rv1 s1
    refine sb r1 σ F1 H1 cs1 (k1 ++ R) _ rv1 (s1.sub fun c => by simp only [cnt_append]; omega) ?_
    cases eb : g p r1 with
    | bad => rw [eb] at po; exact po
    | exn x r2 => rw [eb] at po; exact PoX.back e1 po fun c => by simp only [cnt_append]; omega
    | ok b1 r2 =>
      rw [eb] at po
      simp only [Out.bind_ok] at po
      intro F2 H2 v2 k2 cs2 e2 rb2 rv2 s2
      exact po F2 H2 _ _ cs2 (e1.trans e2) (.cons (ra1.mono e2) rb2) rv2 (s2.sub fun c => by simp only [cnt_append]; omega)
/-- a call that looks at its arguments alone -/
theorem ok_blt {es : List Expr} {r : List V → Hp → VK → Prop} {op : List D → Option C} {g : SA} (ho : CaS Z.K Z.mg r op) (hp : ∀ X, Z.G X → ∀ t, PA X es t → PE X e (tCB r t)) (ha : OkA Z es (g p)) : OkE Z e (eBlt op g p) := by
  obtain ⟨ta, pa, sa⟩ := ha
  refine ⟨_, fun X g => hp X g ta (pa X g), fun r0 σ F H cs R Q rv s po => ?_⟩
  unfold eBlt at po
  refine sa r0 σ F H cs R _ rv s ?_
  cases ea : g p r0 with
  | bad => rw [ea] at po; exact po
  | exn x r1 => rw [ea] at po; exact po
  | ok a1 r1 =>
    rw [ea] at po
    simp only [Out.bind_ok] at po
    intro F1 H1 v1 k1 cs1 e1 ra1 rv1 s1
    split at po
    · rename_i ds hx
      split at po
      · rename_i c hc
        obtain ⟨l, w1⟩ := views_ok ra1 rv1 s1 (fun c => by simp only [cnt_append]; omega) hx
        refine ho F1 H1 ds v1 c Q l w1 s1.ex hc fun F3 H3 v3 k3 e3 rc3 s3 => ?_
        exact po F3 H3 v3 k3 cs1 (e1.trans e3) rc3 (rv1.mono e3) (s3 _ (s1.sub fun c => by simp only [cnt_append]; omega))
      · exact po.elim
    · exact po.elim
/-- constants -/
theorem ok_val {d : D} {v : V} (hp : ∀ X, Z.G X → PE X e (tC v)) (r : ∀ F, RD Z.K Z.mg F d v) : OkE Z e (eCst d p) :=
  ⟨_, hp, fun r0 σ F H cs R Q rv s po => po F H v [] cs (Ex.refl F) (.val (r F)) rv s⟩
theorem ok_glob {x : Str} {v : V} (hp : ∀ X, Z.G X → PE X e (tC v)) (r : ∀ d, p.G x = some d → ∀ F, RD Z.K Z.mg F d v) : OkE Z e (eGlob x p) := by
  refine ⟨_, hp, fun r0 σ F H cs R Q rv s po => ?_⟩
  unfold eGlob at po
  split at po
  · rename_i d hd
    exact po F H v [] cs (Ex.refl F) (.val (r d hd F)) rv s
  · exact po.elim
theorem ok_var {i : Nat} (hp : ∀ X, Z.G X → PE X e (tVar i)) : OkE Z e (eVar i p) := by
  refine ⟨_, hp, fun r0 σ F H cs R Q rv s po => ?_⟩
  unfold eVar at po
  split at po
  · rename_i c hc
    obtain ⟨v, k, h1, h2, h3⟩ := rv.get hc
    exact ⟨v, h1, po F H v [] cs (Ex.refl F) ⟨h1, rfl⟩ rv s⟩
  · exact po.elim
theorem szOk_le {n : Nat} (h : szOk n = true) : n ≤ sizeLine := of_decide_eq_true h
theorem ok_tup {es : List Expr} {g : SA} (hp : ∀ X, Z.G X → ∀ t, PA X es t → PE X e (tTup t)) (ha : OkA Z es (g p)) : OkE Z e (eTup g p) := by
  obtain ⟨ta, pa, sa⟩ := ha
  refine ⟨_, fun X g => hp X g ta (pa X g), fun r0 σ F H cs R Q rv s po => ?_⟩
  unfold eTup at po
  refine sa r0 σ F H cs R _ rv s ?_
  cases ea : g p r0 with
  | bad => rw [ea] at po; exact po
  | exn x r1 => rw [ea] at po; exact po
  | ok a1 r1 =>
    rw [ea] at po
    simp only [Out.bind_ok] at po
    intro F1 H1 v1 k1 cs1 e1 ra1 rv1 s1
    split at po
    · rename_i ds r2 hx
      split at po
      · rename_i hz
        obtain ⟨F2, cs2, e2, rd, rv2, s2⟩ := fzs_ok ra1 rv1 s1 hx
        refine ⟨by rw [← rd.len]; exact szOk_le hz, fun q hq => ?_⟩
        have fq := s2.ex.free hq
        exact po (upd F2 q (.tup v1)) _ _ [] cs2 ((e1.trans e2).trans (Ex.new fq)) (.val (.tup (.inl (.inl upd_same)) (rd.mono (Ex.new fq)))) (rv2.mono (Ex.new fq)) (s2.newF hq)
      · exact po.elim
    · exact po.elim
theorem ok_lst {es : List Expr} {g : SA} (hp : ∀ X, Z.G X → ∀ t, PA X es t → PE X e (tLst t)) (ha : OkA Z es (g p)) : OkE Z e (eLst g p) := by
  obtain ⟨ta, pa, sa⟩ := ha
  refine ⟨_, fun X g => hp X g ta (pa X g), fun r0 σ F H cs R Q rv s po => ?_⟩
  unfold eLst at po
  refine sa r0 σ F H cs R _ rv s ?_
  cases ea : g p r0 with
  | bad => rw [ea] at po; exact po
  | exn x r1 => rw [ea] at po; exact po
  | ok a1 r1 =>
    rw [ea] at po
    simp only [Out.bind_ok] at po
    intro F1 H1 v1 k1 cs1 e1 ra1 rv1 s1
    split at po
    · rename_i ds r2 hx
      split at po
      · rename_i hz
        obtain ⟨F2, cs2, e2, rd, rv2, s2⟩ := fzs_ok ra1 rv1 s1 hx
        refine ⟨by rw [← rd.len]; exact szOk_le hz, fun q hq => ?_⟩
        exact po F2 _ _ _ cs2 (e1.trans e2) (.ls rd) rv2 (s2.newO hq)
      · exact po.elim
    · exact po.elim
end
end Mi

set_option Elab.async false
set_option linter.all false
set_option maxRecDepth 100000
set_option maxHeartbeats 1000000
/-! Mi: the operations. -/
namespace Mi
open PySem L2
section
variable {K : PySem.W.Frag} {mg : MT} {F H : Hp} {v : V}
theorem VW.int {i : Int} (h : VW K mg F H (.int i) v) : v = .int i := by
  cases h with
  | f r => cases r; rfl
theorem VW.str {s : Str} (h : VW K mg F H (.str s) v) : v = .str s := by
  cases h with
  | f r => cases r; rfl
theorem VW.bl {b : Bool} (h : VW K mg F H (.bl b) v) : v = .bl b := by
  cases h with
  | f r => cases r; rfl
theorem VW.non (h : VW K mg F H .non v) : v = .non := by
  cases h with
  | f r => cases r; rfl
theorem VW.tup {ds : List D} (ex : Ex F H) (h : VW K mg F H (.tup ds) v) : ∃ a vs, v = .ref a ∧ SqT K H a vs ∧ SqT K F a vs ∧ RDs K mg F ds vs := by
  cases h with
  | f r =>
    cases r with
    | tup h r => exact ⟨_, _, rfl, ex.st h, h, r⟩
theorem VW.lst {ds : List D} (ex : Ex F H) (h : VW K mg F H (.lst ds) v) : ∃ a vs, v = .ref a ∧ H a = some (.lst vs) ∧ RDs K mg F ds vs := by
  cases h with
  | f r =>
    cases r with
    | lst h r => exact ⟨_, _, rfl, ex _ _ h, r⟩
  | l h r => exact ⟨_, _, rfl, h, r⟩
theorem VW.dct {ks : List Str} {ds : List D} (ex : Ex F H) (h : VW K mg F H (.dct ks ds) v) : ∃ a vs, v = .ref a ∧ H a = some (.dK (kvOf ks vs)) ∧ RDs K mg F ds vs := by
  cases h with
  | f r =>
    cases r with
    | dct h r => exact ⟨_, _, rfl, ex _ _ h, r⟩
theorem VW.dic {ks ds : List D} (ex : Ex F H) (h : VW K mg F H (.dic ks ds) v) : ∃ a o, v = .ref a ∧ H a = some o ∧ DR K mg F ks ds a o := by
  cases h with
  | f r =>
    cases r with
    | dic h r => exact ⟨_, _, rfl, ex _ _ h, r⟩
  | d h r => exact ⟨_, _, rfl, h, r⟩
theorem VW.scr {ns : List Int} (ex : Ex F H) (h : VW K mg F H (.scr ns) v) : ∃ a, v = .ref a ∧ SqL K H a (ns.map V.int) := by
  cases h with
  | f r =>
    cases r with
    | scr h => exact ⟨_, rfl, ex.sl h⟩
mutual
theorem RD.py (ex : Ex F H) : ∀ {d : D} {v : V} {x : PyData}, RD K mg F d v → D.py d = some x → Dp K H v x
  | _, _, _, .non, e => by cases e; exact .non
  | _, _, _, .bl b, e => by cases e; exact .bl b
  | _, _, _, .int i, e => by cases e; exact .int i
  | _, _, _, .str s, e => by cases e; exact .str s
  | _, _, _, .tup (ds := ds) h r, e => by
    unfold D.py at e
    cases e1 : D.pys ds with
    | none => rw [e1] at e; cases e
    | some xs =>
      rw [e1] at e
      cases e
      exact .tup (ex.st h) (RDs.py ex r e1)
  | _, _, _, .lst (ds := ds) h r, e => by
    unfold D.py at e
    cases e1 : D.pys ds with
    | none => rw [e1] at e; cases e
    | some xs =>
      rw [e1] at e
      cases e
      exact .lst (SqL.of (ex _ _ h)) (RDs.py ex r e1)
  | _, _, _, .fn h, e => by cases e
  | _, _, _, .ty n, e => by cases e
  | _, _, _, .scr h, e => by cases e
  | _, _, _, .dic h r, e => by cases e
  | _, _, _, .opq a, e => by cases e
theorem RDs.py (ex : Ex F H) : ∀ {ds : List D} {vs : List V} {xs : List PyData}, RDs K mg F ds vs → D.pys ds = some xs → DpAll K H vs xs
  | _, _, _, .nil, e => by cases e; exact .nil
  | _, _, _, .cons (d := d) (ds := ds) r t, e => by
    unfold D.pys at e
    cases e1 : D.py d with
    | none => rw [e1] at e; cases e
    | some x =>
      cases e2 : D.pys ds with
      | none => rw [e1, e2] at e; cases e
      | some xs =>
        rw [e1, e2] at e
        cases e
        exact .cons (RD.py ex r e1) (RDs.py ex t e2)
end
theorem VW.py (ex : Ex F H) {d : D} {x : PyData} (h : VW K mg F H d v) (e : D.py d = some x) : Dp K H v x := by
  cases h with
  | f r => exact r.py ex e
  | @l a ds vs h r =>
    unfold D.py at e
    cases e1 : D.pys ds with
    | none => rw [e1] at e; cases e
    | some xs =>
      rw [e1] at e
      cases e
      exact .lst (SqL.of h) (r.py ex e1)
  | d h r => cases e
theorem RDs.ints : ∀ {ds : List D} {vs : List V} {ns : List Int}, RDs K mg F ds vs → allInt ds = some ns → vs = ns.map V.int
  | _, _, _, .nil, e => by cases e; rfl
  | _, _, _, .cons (d := d) (ds := ds) r t, e => by
    cases d <;> simp only [allInt] at e <;> try cases e
    cases e1 : allInt ds with
    | none => rw [e1] at e; cases e
    | some xs =>
      rw [e1] at e
      cases e
      cases r
      rw [List.map_cons, RDs.ints t e1]
theorem RDs.bls : ∀ {ds : List D} {vs : List V} {ns : List Bool}, RDs K mg F ds vs → allBl ds = some ns → vs = ns.map V.bl
  | _, _, _, .nil, e => by cases e; rfl
  | _, _, _, .cons (d := d) (ds := ds) r t, e => by
    cases d <;> simp only [allBl] at e <;> try cases e
    cases e1 : allBl ds with
    | none => rw [e1] at e; cases e
    | some xs =>
      rw [e1] at e
      cases e
      cases r
      rw [List.map_cons, RDs.bls t e1]
theorem RDs.strs : ∀ {ds : List D} {vs : List V} {ns : List Str}, RDs K mg F ds vs → allStr ds = some ns → vs = ns.map V.str
  | _, _, _, .nil, e => by cases e; rfl
  | _, _, _, .cons (d := d) (ds := ds) r t, e => by
    cases d <;> simp only [allStr] at e <;> try cases e
    cases e1 : allStr ds with
    | none => rw [e1] at e; cases e
    | some xs =>
      rw [e1] at e
      cases e
      cases r
      rw [List.map_cons, RDs.strs t e1]
theorem RDs.of_ints : ∀ ns : List Int, RDs K mg F (ns.map D.int) (ns.map V.int)
  | [] => .nil
  | n :: ns => .cons (.int n) (RDs.of_ints ns)
theorem RD.flat {d : D} {v : V} (r : RD K mg F d v) (h : d.flat = true) : flatV v = true := by
  cases r <;> first | rfl | (simp [D.flat] at h)
theorem VW.flat {d : D} {v : V} (r : VW K mg F H d v) (h : d.flat = true) : RD K mg F d v := by
  cases r with
  | f r => exact r
  | l _ _ => simp [D.flat] at h
  | d _ _ => simp [D.flat] at h
theorem RDs.flat : ∀ {ds : List D} {vs : List V}, RDs K mg F ds vs → ds.all D.flat = true → vs.all flatV = true
  | _, _, .nil, _ => rfl
  | _, _, .cons r t, h => by
    rw [List.all_cons, Bool.and_eq_true] at h
    rw [List.all_cons, r.flat h.1, RDs.flat t h.2]
    rfl
theorem eqF_of {d e : D} {v u : V} (r : RD K mg F d v) (q : RD K mg F e u) (hd : d.flat = true) (he : e.flat = true) : eqV v u = eqF d e := by
  cases r <;> cases q <;> first | rfl | (simp [D.flat] at hd he; done)
theorem inV_of {x : D} {v : V} (rx : RD K mg F x v) (hx : x.flat = true) : ∀ {ds : List D} {vs : List V}, RDs K mg F ds vs → ds.all D.flat = true → inV v vs = ds.any fun y => eqF y x
  | _, _, .nil, _ => rfl
  | _, _, .cons r t, h => by
    rw [List.all_cons, Bool.and_eq_true] at h
    unfold inV
    rw [List.any_cons, List.any_cons, eqF_of r rx h.1 hx]
    congr 1
    exact inV_of rx hx t h.2
end

/-! ### + - * // % ** -/
def rAddAll : R2 := fun x y H Q => (((rI0 fun i j => .int (i + j)) x y H Q ∨ ∃ i j, x = .str i ∧ y = .str j ∧ i.length + j.length ≤ sizeLine ∧ Q (.str (i ++ j)) H) ∨ rCat x y H Q)
theorem op_addAll {X : Cx} : OpR X (binaryOp .Add) rAddAll := (op_add.or op_add_str).or op_cat
/-- tuples, the left one may be empty -/
theorem op_mulStr {X : Cx} : OpR X (binaryOp .Mult) (fun x y H Q => ∃ a k, x = .str a ∧ y = .int k ∧ 0 ≤ k ∧ k ≤ 1000 ∧ a.length ≤ 1000 ∧ Q (.str (repS a k.toNat)) H) := by
  intro pins s σ H x y v u Q I rx ry h
  obtain ⟨a, k, rfl, rfl, h0, h1, h2, q⟩ := h
  obtain ⟨t, rfl⟩ := rx
  obtain ⟨t', rfl⟩ := ry
  have foldlRep : ∀ (n : Nat) (acc : Array Nat), (List.replicate n a.cps).foldl (· ++ ·) acc = acc ++ (repL n a.cps.toList).toArray := by
    intro n
    induction n with
    | zero => intro acc; simp [repL]
    | succ n ih =>
      intro acc
      rw [List.replicate_succ, List.foldl_cons, ih]
      unfold repL
      rw [List.replicate_succ, List.flatten_cons]
      apply Array.toList_inj.mp
      simp
  refine PySem.P.mul_str ?_ (fun hn _ => ?_) (fun hn _ => ?_) ?_
  · have e1 : decide (k < -(2 ^ 63 : Int)) = false := decide_eq_false (by omega)
    have e2 : decide (k ≥ 2 ^ 63) = false := decide_eq_false (by omega)
    rw [e1, e2]; rfl
  · have : (2 ^ 63 - 1 : Int) / k ≥ (2 ^ 63 - 1) / 1000 := by
      have hk : (0 : Int) < k := by omega
      have h3 : (2 ^ 63 - 1 : Int) / 1000 * k ≤ 2 ^ 63 - 1 := by
        have : (2 ^ 63 - 1 : Int) / 1000 * k ≤ (2 ^ 63 - 1 : Int) / 1000 * 1000 := Int.mul_le_mul_of_nonneg_left h1 (by decide)
        have h5 : (2 ^ 63 - 1 : Int) / 1000 * 1000 ≤ 2 ^ 63 - 1 := by decide
        omega
      exact (Int.le_ediv_iff_mul_le hk).mpr h3
    have h4 : (2 ^ 63 - 1 : Int) / 1000 ≥ 1000 := by decide
    omega
  · have h3 : a.length * k.toNat ≤ 1000 * 1000 := Nat.mul_le_mul h2 (by omega)
    have hs : sizeLine = 16777216 := sizeLine_eq
    unfold Builtin.Str.tooLong
    exact decide_eq_false (by omega)
  · by_cases hn : k < 1
    · rw [if_pos hn]
      have e : k.toNat = 0 := by omega
      rw [e] at q
      refine ⟨by decide, .str _, H, I.tok _, ⟨_, rfl⟩, ?_⟩
      have e2 : repS a 0 = Str.empty := by unfold repS repL Str.empty; rfl
      rw [e2] at q
      exact q
    · rw [if_neg hn]
      have e3 : (⟨(List.replicate k.toNat a.cps).foldl (· ++ ·) #[]⟩ : Str) = repS a k.toNat := by
        unfold repS
        rw [foldlRep]
        simp
      have hlen : (repS a k.toNat).length ≤ sizeLine := by
        have h3 : a.length * k.toNat ≤ 1000 * 1000 := Nat.mul_le_mul h2 (by omega)
        have hs : sizeLine = 16777216 := sizeLine_eq
        have e4 : (repS a k.toNat).length = k.toNat * a.length := by
          unfold repS repL Str.length
          simp
        rw [e4, Nat.mul_comm]
        omega
      by_cases hc : (k == 1 || a.length == 0) = true
      · rw [if_pos hc]
        refine ⟨.str a, H, I, ⟨t, rfl⟩, ?_⟩
        have e5 : repS a k.toNat = a := by
          rw [Bool.or_eq_true] at hc
          rcases hc with hc | hc
          · have : k = 1 := by simpa using hc
            subst this
            unfold repS repL
            simp
          · have : a.cps.size = 0 := by simpa [Str.length] using hc
            have e6 : a.cps = #[] := Array.eq_empty_of_size_eq_zero this
            unfold repS repL
            obtain ⟨c⟩ := a
            simp at e6
            subst e6
            simp
        rw [e5] at q
        exact q
      · rw [if_neg hc]
        rw [e3]
        exact ⟨hlen, .str _, H, I.tok _, ⟨_, rfl⟩, q⟩
end Mi

set_option Elab.async false
set_option linter.all false
set_option maxRecDepth 100000
set_option maxHeartbeats 1000000
/-! Mi: dicts, keys of any form; what the machine does with them. -/
namespace Mi
open PySem L2 PyProof.Rows
mutual
/-- a value is a key, by the abstract heap -/
inductive NIs (K : PySem.W.Frag) (H : Hp) : NestedKey → V → Prop
  | non : NIs K H .none .non
  | bl (b : Bool) : NIs K H (.num (if b then 1 else 0)) (.bl b)
  | num (i : Int) : NIs K H (.num i) (.int i)
  | text (x : Str) : NIs K H (.text x) (.str x)
  | tup {a : Addr} {vs : List V} {ks : List NestedKey} (h : SqT K H a vs) (r : NAll K H ks vs) : NIs K H (.tup ks) (.ref a)
inductive NAll (K : PySem.W.Frag) (H : Hp) : List NestedKey → List V → Prop
  | nil : NAll K H [] []
  | cons {k : NestedKey} {v : V} {ks : List NestedKey} {vs : List V} (r : NIs K H k v) (rs : NAll K H ks vs) : NAll K H (k :: ks) (v :: vs)
end
section
variable {K : PySem.W.Frag} {mg : MT} {F H : Hp}
mutual
theorem RD.nis (ex : Ex F H) : ∀ {d : D} {v : V} {n : NestedKey}, RD K mg F d v → kn1 d = some n → NIs K H n v
  | _, _, _, .non, e => by cases e; exact .non
  | _, _, _, .bl b, e => by cases e; exact .bl b
  | _, _, _, .int i, e => by cases e; exact .num i
  | _, _, _, .str s, e => by cases e; exact .text s
  | _, _, _, .tup (ds := ds) h r, e => by
    unfold kn1 at e
    cases e1 : kns ds with
    | none => rw [e1] at e; cases e
    | some ks =>
      rw [e1] at e
      cases e
      exact .tup (ex.st h) (RDs.nis ex r e1)
  | _, _, _, .lst h r, e => by cases e
  | _, _, _, .fn h, e => by cases e
  | _, _, _, .ty n, e => by cases e
  | _, _, _, .scr h, e => by cases e
  | _, _, _, .dct h r, e => by cases e
  | _, _, _, .dic h r, e => by cases e
  | _, _, _, .opq a, e => by cases e
theorem RDs.nis (ex : Ex F H) : ∀ {ds : List D} {vs : List V} {ks : List NestedKey}, RDs K mg F ds vs → kns ds = some ks → NAll K H ks vs
  | _, _, _, .nil, e => by cases e; exact .nil
  | _, _, _, .cons (d := d) (ds := ds) r t, e => by
    unfold kns at e
    cases e1 : kn1 d with
    | none => rw [e1] at e; cases e
    | some k =>
      cases e2 : kns ds with
      | none => rw [e1, e2] at e; cases e
      | some ks =>
        rw [e1, e2] at e
        cases e
        exact .cons (RD.nis ex r e1) (RDs.nis ex t e2)
end
end
mutual
theorem NIs.is {X : Cx} {pins : List (Addr × Obj)} {σ : L2.St} {H : Hp} {s : Shared} (I : Inv X pins σ H s) : ∀ {n : NestedKey} {v : V} {u : Value}, NIs X.K H n v → RelV v u → NestedIs s.heap n u
  | _, _, _, .non, r => by cases r; exact .none
  | _, _, _, .bl b, r => by cases r; exact .bool rfl
  | _, _, _, .num i, r => by obtain ⟨t, rfl⟩ := r; exact .int i t
  | _, _, _, .text x, r => by obtain ⟨t, rfl⟩ := r; exact .text x t
  | _, _, _, .tup h q, r => by
    cases r
    obtain ⟨its, rv, ⟨o, e1, e2, m, e3⟩, _⟩ := I.tuple h
    exact .tup e1 e2 e3 (by simpa using NAll.is I q rv)
theorem NAll.is {X : Cx} {pins : List (Addr × Obj)} {σ : L2.St} {H : Hp} {s : Shared} (I : Inv X pins σ H s) : ∀ {ns : List NestedKey} {vs : List V} {us : List Value}, NAll X.K H ns vs → Vals vs us → NestedAll s.heap ns us
  | _, _, _, .nil, .nil => .nil
  | _, _, _, .cons q qs, .cons r rs => .cons (NIs.is I q r) (NAll.is I qs rs)
end
abbrev Ent3 := NestedKey × Addr × V
def eFind (es : List Ent3) (n : NestedKey) : Option V := (es.find? fun e => decide (e.1 = n)).map (·.2.2)
def ePut (es : List Ent3) (n : NestedKey) (b : Addr) (v : V) : List Ent3 := if (eFind es n).isSome then es.map fun e => if e.1 = n then (e.1, e.2.1, v) else e else es ++ [(n, b, v)]
/-- the dict at a has tuples as keys (or nothing at all) -/
def NRep (K : PySem.W.Frag) (P : Program) (w : World) (H : Hp) (a : Addr) (es : List Ent3) : Prop :=
  (H a = some (NdO P w a es) ∧ ∀ e ∈ es, NIs K H e.1 (.ref e.2.1) ∧ e.1.depth ≤ 8) ∨ (es = [] ∧ H a = some (.dK []))
abbrev P3 (p : Ent3) (q : NestedKey × Addr × Value) : Prop := p.1 = q.1 ∧ p.2.1 = q.2.1 ∧ RelV p.2.2 q.2.2
theorem p3_find {n : NestedKey} : ∀ {es : List Ent3} {vs : List (NestedKey × Addr × Value)}, Paired P3 es vs → RelO (eFind es n) ((atKey vs n).map (·.2))
  | _, _, .nil => True.intro
  | _, _, .cons (a := e) (l₁ := es) (b := q) (l₂ := vs) r t => by
    have ih := p3_find (n := n) t
    unfold eFind atKey at ih ⊢
    by_cases h : e.1 = n
    · have h' : q.1 = n := r.1.symm.trans h
      simp only [List.find?_cons, h, h', decide_true, Option.map_some]
      exact r.2.2
    · have h' : ¬ q.1 = n := fun z => h (r.1.trans z)
      simp only [List.find?_cons, h, h', decide_false]
      exact ih
theorem p3_put {n : NestedKey} {b : Addr} {v : V} {u : Value} (ru : RelV v u) {es : List Ent3} {vs : List (NestedKey × Addr × Value)} (r : Paired P3 es vs) : Paired P3 (ePut es n b v) (storedH vs n b u) := by
  have hf := (p3_find (n := n) r).isSome_eq
  rw [Option.isSome_map] at hf
  unfold ePut storedH
  rw [hf]
  split
  · induction r with
    | nil => exact .nil
    | @cons e q es vs r t ih =>
      clear ih hf
      have go : ∀ {es : List Ent3} {vs : List (NestedKey × Addr × Value)}, Paired P3 es vs → Paired P3 (es.map fun e => if e.1 = n then (e.1, e.2.1, v) else e) (vs.map (putAt n u)) := by
        intro es vs r
        induction r with
        | nil => exact .nil
        | @cons e q es vs r t ih =>
          refine .cons ?_ ih
          show P3 (if e.1 = n then (e.1, e.2.1, v) else e) _
          unfold putAt
          by_cases h : e.1 = n
          · have h' : q.1 = n := r.1.symm.trans h
            rw [if_pos h, if_pos h']
            exact ⟨r.1, r.2.1, ru⟩
          · have h' : ¬ q.1 = n := fun z => h (r.1.trans z)
            rw [if_neg h, if_neg h']
            exact r
      exact go (.cons r t)
  · exact Paired.snoc r ⟨rfl, rfl, ru⟩
theorem p3_keys : ∀ {es : List Ent3} {vs : List (NestedKey × Addr × Value)}, Paired P3 es vs → es.map (·.1) = vs.map (·.1)
  | _, _, .nil => rfl
  | _, _, .cons r t => by rw [List.map_cons, List.map_cons, r.1, p3_keys t]
theorem ePut_len (es : List Ent3) (n : NestedKey) (b : Addr) (v : V) : (ePut es n b v).length ≤ es.length + 1 := by
  unfold ePut
  split
  · rw [List.length_map]; omega
  · rw [List.length_append]; simp
section
variable {X : Cx} {pins : List (Addr × Obj)} {σ : L2.St} {H : Hp} {s : Shared} {a b : Addr} {es : List Ent3} {n : NestedKey} {y v : V} {u r : Value} {A : Around} {E : Value → Shared → Prop}
theorem nrep_at (I : Inv X pins σ H s) (h : NRep X.K X.prog X.w H a es) : ∃ vs, Paired P3 es vs ∧ s.heap.DictOfH (nestedKind X.prog X.w) a vs ∧ (a == sysModules) = false ∧ es.length ≤ sizeLine ∧ vs.length ≤ sizeLine := by
  rcases h with ⟨e, hk⟩ | ⟨rfl, e⟩
  · obtain ⟨⟨z, hs, hn, vs, rel, o, ds, ep, h1, h2, h3, h4⟩, _, _⟩ := I.hok a _ e
    refine ⟨vs, rel, ⟨o, ds, ep, h1, h2, h3, h4, fun x hx => ?_, by rw [← p3_keys rel]; exact hn⟩, hs, z, by rw [← Paired.length rel]; exact z⟩
    have : ∀ {es : List Ent3} {vs : List (NestedKey × Addr × Value)}, Paired P3 es vs → ∀ x ∈ vs, ∃ e ∈ es, e.1 = x.1 ∧ e.2.1 = x.2.1 := by
      intro es vs r
      induction r with
      | nil => intro x hx; cases hx
      | @cons e q es vs r t ih =>
        intro x hx
        rcases List.mem_cons.mp hx with rfl | hx
        · exact ⟨e, List.mem_cons_self .., r.1, r.2.1⟩
        · obtain ⟨e', h1, h2⟩ := ih x hx
          exact ⟨e', List.mem_cons_of_mem _ h1, h2⟩
    obtain ⟨e', m, k1, k2⟩ := this rel x hx
    obtain ⟨q1, q2⟩ := hk e' m
    rw [k1, k2] at q1
    rw [k1] at q2
    exact ⟨q1.is I rfl, q2⟩
  · obtain ⟨z, hs, vs, rel, o, ds, ep, h1, h2, h3, h4, h5, _⟩ := dk_of I.hok e
    cases rel
    have h6 : ds.toList = [] := by
      revert h5
      cases ds.toList with
      | nil => intro _; rfl
      | cons x l => intro h5; cases h5
    refine ⟨[], .nil, ⟨o, ds, ep, h1, h2, h3, h6, ?_, List.nodup_nil⟩, hs, Nat.zero_le _, Nat.zero_le _⟩
    intro x hx
    cases hx
abbrev room9 (A : Around) : Prop := A.units + 9 < cLine
theorem room_in (hu : room9 A) : (nestedKind X.prog X.w).room A.in1 := by
  show A.in1.units + 8 < cLine
  rw [Around.in1_units]
  have : A.units + 9 < cLine := hu
  omega
theorem n_getItem {Q : Value → Shared → Prop} (hu : room9 A) (I : Inv X pins σ H s) (g : NRep X.K X.prog X.w H a es) (hk : NIs X.K H n (.ref b)) (hd : n.depth ≤ 8) (hv : eFind es n = some v) (h : ∀ w' s', Inv X pins σ H s' → RelV v w' → Q w' s') :
    wpAny (model X.prog X.w) A (getItem (.ref a) (.ref b)) Q E s := by
  obtain ⟨vs, rel, dd, hs, z, z'⟩ := nrep_at I g
  obtain ⟨w', hw, rw'⟩ := RelO.some_of (v := v) (o := (atKey vs n).map (·.2)) (by rw [← hv]; exact p3_find rel)
  obtain ⟨p, hp, hp2⟩ := Option.map_eq_some_iff.mp hw
  refine wpAny_getItem_heap (room_in hu) ⟨hk.is I rfl, hd⟩ dd hp ?_
  rw [hp2]
  exact h w' _ (I.tok _) rw'
theorem n_in {Q : Value → Shared → Prop} (hu : room9 A) (I : Inv X pins σ H s) (g : NRep X.K X.prog X.w H a es) (hk : NIs X.K H n (.ref b)) (hd : n.depth ≤ 8) (h : ∀ s', Inv X pins σ H s' → Q (.bool (eFind es n).isSome) s') :
    wpAny (model X.prog X.w) A (compareOp .In (.ref b) (.ref a)) Q E s := by
  obtain ⟨vs, rel, dd, hs, z, z'⟩ := nrep_at I g
  refine wpAny_in_heap (room_in hu) ⟨hk.is I rfl, hd⟩ hs dd ?_
  have q := (p3_find (n := n) rel).isSome_eq
  rw [Option.isSome_map] at q
  rw [← q]
  exact h _ (I.tok _)
theorem n_notIn {Q : Value → Shared → Prop} (hu : room9 A) (I : Inv X pins σ H s) (g : NRep X.K X.prog X.w H a es) (hk : NIs X.K H n (.ref b)) (hd : n.depth ≤ 8) (h : ∀ s', Inv X pins σ H s' → Q (.bool (!(eFind es n).isSome)) s') :
    wpAny (model X.prog X.w) A (compareOp .NotIn (.ref b) (.ref a)) Q E s := by
  obtain ⟨vs, rel, dd, hs, z, z'⟩ := nrep_at I g
  refine wpAny_notIn_heap (room_in hu) ⟨hk.is I rfl, hd⟩ hs dd ?_
  have q := (p3_find (n := n) rel).isSome_eq
  rw [Option.isSome_map] at q
  rw [← q]
  exact h _ (I.tok _)
theorem ndO_ok {P : Program} {w : World} {H : Hp} {h : Heap} {a : Addr} {es : List Ent3} {vs : List (NestedKey × Addr × Value)} (z : es.length ≤ sizeLine) (hs : (a == sysModules) = false) (rel : Paired P3 es vs) (dd : h.DictOfH (nestedKind P w) a vs) : ObjOk P w H h a (NdO P w a es) := by
  obtain ⟨o, ds, ep, h1, h2, h3, h4, _, h5⟩ := dd
  refine ⟨⟨z, hs, by rw [p3_keys rel]; exact h5, vs, rel, o, ds, ep, h1, h2, h3, h4⟩, ⟨o, h1⟩, fun g1 g2 ⟨z, hs, hn, vs, rel, o, ds, ep, k1, k2⟩ st => ⟨z, hs, hn, vs, rel, o, ds, ep, st o k1, k2⟩⟩
theorem nrep_mut (g : NRep X.K X.prog X.w H a es) : Mut (H a) := by
  rcases g with ⟨e, _⟩ | ⟨_, e⟩
  · rw [e]; exact True.intro
  · rw [e]; exact True.intro
theorem n_setItem {Q : Unit → Shared → Prop} (hu : room9 A) (I : Inv X pins σ H s) (g : NRep X.K X.prog X.w H a es) (hk : NIs X.K H n (.ref b)) (hd : n.depth ≤ 8) (hl : es.length < sizeLine) (rv : RelV v r) (h : ∀ s', Inv X pins σ (upd H a (NdO X.prog X.w a (ePut es n b v))) s' → Q () s') :
    wpAny (model X.prog X.w) A (setItem (.ref a) (.ref b) r) Q E s := by
  obtain ⟨vs, rel, dd, hs, z, z'⟩ := nrep_at I g
  refine wpAny_setItem_heap (hsz := z') (room_in hu) ⟨hk.is I rfl, hd⟩ dd fun h' dd' hb => h _ ?_
  have hlen := ePut_len es n b v
  have he : ∃ q, h'.get? a = some q := let ⟨q, _, _, hq, _⟩ := dd'; ⟨q, hq⟩
  exact d_write I (nrep_mut g) hb he (ndO_ok (by omega) hs (p3_put rv rel) dd')
end
/-- what the dict at a holds at the key y -/
inductive EGet (K : PySem.W.Frag) (P : Program) (w : World) (H : Hp) (a : Addr) (y : V) (r : Option V) : Prop
  | l {kvs : List (Key × V)} {k : Key} (h : H a = some (.dK kvs)) (hy : y = kV k) (hr : r = valV kvs k)
  | n {es : List Ent3} {n : NestedKey} {b : Addr} (h : NRep K P w H a es) (hy : y = .ref b) (hk : NIs K H n (.ref b)) (hd : n.depth ≤ 8) (hr : r = eFind es n)
/-- what stands at a behind a[y] = v -/
inductive EPut (K : PySem.W.Frag) (P : Program) (w : World) (H : Hp) (a : Addr) (y v : V) (o : HO) : Prop
  | l {kvs : List (Key × V)} {k : Key} (h : H a = some (.dK kvs)) (hy : y = kV k) (hl : kvs.length < sizeLine) (ho : o = .dK (putK kvs k v))
  | n {es : List Ent3} {n : NestedKey} {b : Addr} (h : NRep K P w H a es) (hy : y = .ref b) (hk : NIs K H n (.ref b)) (hd : n.depth ≤ 8) (hl : es.length < sizeLine) (ho : o = NdO P w a (ePut es n b v))
section
variable {X : Cx} {pins : List (Addr × Obj)} {σ : L2.St} {H : Hp} {s : Shared} {a : Addr} {y v : V} {u r : Value} {o : Option V} {A : Around} {E : Value → Shared → Prop}
theorem EGet.typeIs (I : Inv X pins σ H s) (g : EGet X.K X.prog X.w H a y o) : s.TypeIs (.ref a) "dict" := by
  cases g with
  | l h hy hr => obtain ⟨_, _, vs, _, dd⟩ := dk_of I.hok h; exact dd.typeIs
  | n h hy hk hd hr => obtain ⟨vs, _, dd, _⟩ := nrep_at I h; exact dd.typeIs
theorem x_getItem {Q : Value → Shared → Prop} (hu : room9 A) (I : Inv X pins σ H s) (g : EGet X.K X.prog X.w H a y (some v)) (ry : RelV y u) (h : ∀ w' s', Inv X pins σ H s' → RelV v w' → Q w' s') :
    wpAny (model X.prog X.w) A (getItem (.ref a) u) Q E s := by
  have hu' : A.units + 9 < cLine := hu
  cases g with
  | l e hy hr => exact d_getItem (by omega) I (.inl ⟨_, _, .inl e, hy, hr⟩) ry h
  | n e hy hk hd hr =>
    subst hy
    cases ry
    exact n_getItem hu I e hk hd hr.symm h
theorem x_in {Q : Value → Shared → Prop} (hu : room9 A) (I : Inv X pins σ H s) (g : EGet X.K X.prog X.w H a y o) (ry : RelV y u) (h : ∀ s', Inv X pins σ H s' → Q (.bool o.isSome) s') :
    wpAny (model X.prog X.w) A (compareOp .In u (.ref a)) Q E s := by
  have hu' : A.units + 9 < cLine := hu
  cases g with
  | l e hy hr => exact d_in (by omega) I (.inl ⟨_, _, .inl e, hy, hr⟩) ry h
  | n e hy hk hd hr =>
    subst hy
    cases ry
    exact n_in hu I e hk hd (by rw [← hr]; exact h)
theorem x_notIn {Q : Value → Shared → Prop} (hu : room9 A) (I : Inv X pins σ H s) (g : EGet X.K X.prog X.w H a y o) (ry : RelV y u) (h : ∀ s', Inv X pins σ H s' → Q (.bool (!o.isSome)) s') :
    wpAny (model X.prog X.w) A (compareOp .NotIn u (.ref a)) Q E s := by
  have hu' : A.units + 9 < cLine := hu
  cases g with
  | l e hy hr => exact d_notIn (by omega) I (.inl ⟨_, _, .inl e, hy, hr⟩) ry h
  | n e hy hk hd hr =>
    subst hy
    cases ry
    exact n_notIn hu I e hk hd (by rw [← hr]; exact h)
theorem x_setItem {ob : HO} {Q : Unit → Shared → Prop} (hu : room9 A) (I : Inv X pins σ H s) (g : EPut X.K X.prog X.w H a y v ob) (ry : RelV y u) (rv : RelV v r) (h : ∀ s', Inv X pins σ (upd H a ob) s' → Q () s') :
    wpAny (model X.prog X.w) A (setItem (.ref a) u r) Q E s := by
  have hu' : A.units + 9 < cLine := hu
  cases g with
  | l e hy hl ho => exact d_setItem (by omega) I (.inl ⟨_, _, e, hy, hl, by rw [ho]⟩) ry rv h
  | n e hy hk hd hl ho =>
    subst hy
    cases ry
    exact n_setItem hu I e hk hd hl rv (by rw [← ho]; exact h)
theorem x_get2 {d : V} {Q : Value → Shared → Prop} (hu : room9 A) (I : Inv X pins σ H s) (g : EGet X.K X.prog X.w H a y o) (ry : RelV y u) (rd : RelV d r) (h : ∀ w' s', Inv X pins σ H s' → RelV (o.getD d) w' → Q w' s') :
    wpAny (model X.prog X.w) A (call (.builtin "dict.get") [.ref a, u, r]) Q E s := by
  have hu' : A.units + 9 < cLine := hu
  cases g with
  | l e hy hr => exact d_get2 (by omega) I (.inl ⟨_, _, .inl e, hy, hr⟩) ry rd h
  | n e hy hk hd hr =>
    subst hy
    cases ry
    obtain ⟨vs, rel, dd, hs, z, z'⟩ := nrep_at I e
    refine getOr_keyed (room_in hu) ⟨hk.is I rfl, hd⟩ hs ⟨vs, dd, rfl⟩ ?_
    rw [valueAt_pairsH]
    refine h _ _ (I.tok _) ?_
    rw [hr]
    exact (p3_find rel).getD rd
theorem x_get1 {Q : Value → Shared → Prop} (hu : room9 A) (I : Inv X pins σ H s) (g : EGet X.K X.prog X.w H a y o) (ry : RelV y u) (h : ∀ w' s', Inv X pins σ H s' → RelV (o.getD .non) w' → Q w' s') :
    wpAny (model X.prog X.w) A (call (.builtin "dict.get") [.ref a, u]) Q E s := by
  have hu' : A.units + 9 < cLine := hu
  cases g with
  | l e hy hr => exact d_get1 (by omega) I (.inl ⟨_, _, .inl e, hy, hr⟩) ry h
  | n e hy hk hd hr =>
    subst hy
    cases ry
    obtain ⟨vs, rel, dd, hs, z, z'⟩ := nrep_at I e
    refine get_keyed (room_in hu) ⟨hk.is I rfl, hd⟩ hs ⟨vs, dd, rfl⟩ ?_
    rw [valueAt_pairsH]
    refine h _ _ (I.tok _) ?_
    rw [hr]
    exact (p3_find rel).getD rfl
end
/-! ### by the meaning -/
section
variable {K : PySem.W.Frag} {mg : MT} {F H : Hp}
inductive RO (K : PySem.W.Frag) (mg : MT) (F : Hp) : Option D → Option V → Prop
  | none : RO K mg F none none
  | some {d : D} {v : V} (r : RD K mg F d v) : RO K mg F (some d) (some v)
theorem kn_kD (k : Key) : kn (kD k) = some (match k with | .inl i => .num i | .inr x => .text x) := by cases k <;> rfl
theorem find_leaf {k : Key} {n : NestedKey} (hn : kn (kD k) = some n) : ∀ {kvs : List (Key × V)} {xs : List D}, RDs K mg F xs (kvs.map (·.2)) → RO K mg F (dFind n (kvs.map fun q => kD q.1) xs) (valV kvs k)
  | [], _, .nil => .none
  | q :: kvs, _, .cons (d := d) (ds := ds) r t => by
    rw [List.map_cons]
    show RO K mg F (if kn (kD q.1) = some n then some d else dFind n (kvs.map fun q => kD q.1) ds) (valV (q :: kvs) k)
    by_cases h : q.1 = k
    · rw [h, if_pos hn, valV_pos h]
      exact .some r
    · rw [if_neg (fun z => h ?_), valV_neg h]
      · exact find_leaf hn t
      · rw [← hn, kn_kD, kn_kD] at z
        revert z
        cases q.1 <;> cases k <;> intro z <;> simp at z <;> rw [z]
theorem find_tup {n : NestedKey} : ∀ {es : List Ent3} {ks xs : List D}, ks.map kn = es.map (fun e => some e.1) → RDs K mg F xs (es.map (·.2.2)) → RO K mg F (dFind n ks xs) (eFind es n)
  | [], [], _, _, .nil => .none
  | [], _ :: _, _, h, _ => by cases h
  | _ :: _, [], _, h, _ => by cases h
  | e :: es, k :: ks, _, h, .cons (d := d) (ds := ds) r t => by
    obtain ⟨h1, h2⟩ := List.cons.inj h
    have h1 : kn k = some e.1 := h1
    show RO K mg F (if kn k = some n then some d else dFind n ks ds) _
    have ih := find_tup (n := n) h2 t
    unfold eFind at ih ⊢
    by_cases hk : e.1 = n
    · rw [h1, if_pos (by rw [hk])]
      simp only [List.find?_cons, hk, decide_true, Option.map_some]
      exact .some r
    · rw [h1, if_neg (fun z => hk (Option.some.inj z))]
      simp only [List.find?_cons, hk, decide_false]
      exact ih
theorem kn_tup {xs : List D} {n : NestedKey} (h : kn (.tup xs) = some n) : kn1 (.tup xs) = some n ∧ n.depth ≤ 8 ∧ isTupK n = true := by
  have h : (match kn1 (.tup xs) with | some k => if decide (k.depth ≤ 8) then some k else none | none => none) = some n := h
  cases e : kn1 (.tup xs) with
  | none => rw [e] at h; cases h
  | some m =>
    rw [e] at h
    dsimp only at h
    split at h
    · rename_i hd
      cases h
      refine ⟨rfl, of_decide_eq_true hd, ?_⟩
      unfold kn1 at e
      split at e
      · cases e; rfl
      · cases e
    · cases h
/-- the keys of a dict with tuples as keys -/
theorem tup_keys (ex : Ex F H) : ∀ {es : List Ent3} {ks : List D}, ks.map kn = es.map (fun e => some e.1) → RDs K mg F ks (es.map fun e => .ref e.2.1) → ∀ e ∈ es, NIs K H e.1 (.ref e.2.1) ∧ e.1.depth ≤ 8 ∧ isTupK e.1 = true
  | [], _, _, _, e, he => by cases he
  | _ :: _, [], h, _, _, _ => by cases h
  | e :: es, k :: ks, h, .cons r t, e', he => by
    obtain ⟨h1, h2⟩ := List.cons.inj h
    have h1 : kn k = some e.1 := h1
    rcases List.mem_cons.mp he with rfl | he
    · cases r with
      | tup h r =>
        obtain ⟨q1, q2, q3⟩ := kn_tup h1
        exact ⟨(RD.tup h r).nis ex q1, q2, q3⟩
      | lst h r => cases h1
      | fn h => cases h1
      | scr h => cases h1
      | dct h r => cases h1
      | dic h r => cases h1
      | opq => cases h1
    · exact tup_keys ex h2 t e' he
theorem kind_leaf {n : NestedKey} {kvs : List (Key × V)} (h : kindOk n (kvs.map fun q => kD q.1) = true) (hn : isTupK n = true) : kvs = [] := by
  cases kvs with
  | nil => rfl
  | cons q kvs =>
    unfold kindOk at h
    rw [List.map_cons, List.all_cons, Bool.and_eq_true] at h
    have h1 := h.1
    rw [kn_kD] at h1
    obtain ⟨q1, q2⟩ := q
    cases q1 with
    | inl i => have := eq_of_beq h1; rw [hn] at this; cases this
    | inr x => have := eq_of_beq h1; rw [hn] at this; cases this
theorem VW.rd_key {k : D} {y : V} {n : NestedKey} (h : VW K mg F H k y) (hn : kn k = some n) : RD K mg F k y := by
  cases h with
  | f r => exact r
  | l _ _ => cases hn
  | d _ _ => cases hn
/-- the key: a number, a text; or a tuple -/
theorem key_forms (ex : Ex F H) {k : D} {y : V} {n : NestedKey} (h : VW K mg F H k y) (hn : kn k = some n) : (∃ kk, k = kD kk ∧ y = kV kk ∧ isTupK n = false) ∨ ∃ b, y = .ref b ∧ NIs K H n (.ref b) ∧ n.depth ≤ 8 ∧ isTupK n = true := by
  have r := h.rd_key hn
  cases r with
  | int i => cases hn; exact .inl ⟨.inl i, rfl, rfl, rfl⟩
  | str x => cases hn; exact .inl ⟨.inr x, rfl, rfl, rfl⟩
  | tup h' r =>
    obtain ⟨q1, q2, q3⟩ := kn_tup hn
    exact .inr ⟨_, rfl, (RD.tup h' r).nis ex q1, q2, q3⟩
  | non => cases hn
  | bl b => cases hn
  | lst h r => cases hn
  | fn h => cases hn
  | ty n => cases hn
  | scr h => cases hn
  | dct h r => cases hn
  | dic h r => cases hn
  | opq => cases hn
theorem kind_tup {n : NestedKey} {ks : List D} {es : List Ent3} (hne : es ≠ []) (hk : ks.map kn = es.map fun e => some e.1) (ht : ∀ e ∈ es, isTupK e.1 = true) (h : kindOk n ks = true) : isTupK n = true := by
  cases es with
  | nil => exact (hne rfl).elim
  | cons e es =>
    cases ks with
    | nil => cases hk
    | cons k ks =>
      obtain ⟨h1, h2⟩ := List.cons.inj hk
      have h1 : kn k = some e.1 := h1
      unfold kindOk at h
      rw [List.all_cons, Bool.and_eq_true] at h
      have := h.1
      rw [h1] at this
      have := eq_of_beq this
      rw [← this]
      exact ht e (List.mem_cons_self ..)
theorem dr_get (ex : Ex F H) {a : Addr} {o : HO} {ks xs : List D} {k : D} {y : V} {r : Option D} (d : DR K mg F ks xs a o) (ha : H a = some o) (hk : VW K mg F H k y) (e : dGet ks xs k = some r) : ∃ r', EGet K mg.P mg.w H a y r' ∧ RO K mg F r r' := by
  unfold dGet at e
  cases hn : kn k with
  | none => rw [hn] at e; cases e
  | some n =>
    rw [hn] at e
    dsimp only at e
    split at e
    · rename_i hok
      cases e
      rcases key_forms ex hk hn with ⟨kk, rfl, rfl, h0⟩ | ⟨b, rfl, h1, h2, h3⟩
      · cases d with
        | leaf r => exact ⟨_, .l ha rfl rfl, find_leaf hn r⟩
        | tup hne hq rk r =>
          have := kind_tup hne hq (fun e he => (tup_keys ex hq rk e he).2.2) hok
          rw [h0] at this
          cases this
      · cases d with
        | leaf r =>
          cases kind_leaf hok h3
          cases r
          exact ⟨none, .n (es := []) (.inr ⟨rfl, ha⟩) rfl h1 h2 rfl, .none⟩
        | tup hne hq rk r => exact ⟨_, .n (.inl ⟨ha, fun e he => ⟨(tup_keys ex hq rk e he).1, (tup_keys ex hq rk e he).2.1⟩⟩) rfl h1 h2 rfl, find_tup hq r⟩
    · cases e
theorem store_leaf {k : Key} {n : NestedKey} {x : D} {v : V} (hn : kn (kD k) = some n) (rv : RD K mg F x v) : ∀ {kvs : List (Key × V)} {xs : List D}, RDs K mg F xs (kvs.map (·.2)) →
    RDs K mg F (dStore n x (kvs.map fun q => kD q.1) xs) ((kvs.map fun kv => if kv.1 = k then (kv.1, v) else kv).map (·.2))
  | [], _, .nil => .nil
  | q :: kvs, _, .cons (d := d) (ds := ds) r t => by
    rw [List.map_cons, List.map_cons, List.map_cons]
    show RDs K mg F ((if kn (kD q.1) = some n then x else d) :: dStore n x (kvs.map fun q => kD q.1) ds) _
    refine .cons ?_ (store_leaf hn rv t)
    by_cases h : q.1 = k
    · rw [h, if_pos hn, if_pos rfl]
      exact rv
    · rw [if_neg (fun z => h ?_), if_neg h]
      · exact r
      · rw [← hn, kn_kD, kn_kD] at z
        revert z
        cases q.1 <;> cases k <;> intro z <;> simp at z <;> rw [z]
theorem store_keys (k : Key) (v : V) (kvs : List (Key × V)) : ((kvs.map fun kv => if kv.1 = k then (kv.1, v) else kv).map fun q => kD q.1) = kvs.map fun q => kD q.1 := by
  rw [List.map_map]
  refine List.map_congr_left fun q _ => ?_
  show kD (if q.1 = k then (q.1, v) else q).1 = _
  split <;> rfl
theorem store_tup {n : NestedKey} {x : D} {v : V} (rv : RD K mg F x v) : ∀ {es : List Ent3} {ks xs : List D}, ks.map kn = es.map (fun e => some e.1) → RDs K mg F xs (es.map (·.2.2)) →
    RDs K mg F (dStore n x ks xs) ((es.map fun e => if e.1 = n then (e.1, e.2.1, v) else e).map (·.2.2))
  | [], [], _, _, .nil => .nil
  | [], _ :: _, _, h, _ => by cases h
  | _ :: _, [], _, h, _ => by cases h
  | e :: es, k :: ks, _, h, .cons (d := d) (ds := ds) r t => by
    obtain ⟨h1, h2⟩ := List.cons.inj h
    have h1 : kn k = some e.1 := h1
    rw [List.map_cons, List.map_cons]
    show RDs K mg F ((if kn k = some n then x else d) :: dStore n x ks ds) _
    refine .cons ?_ (store_tup rv h2 t)
    by_cases hk : e.1 = n
    · rw [h1, if_pos (by rw [hk]), if_pos hk]
      exact rv
    · rw [h1, if_neg (fun z => hk (Option.some.inj z)), if_neg hk]
      exact r
theorem RO.none_of {r : Option V} (h : RO K mg F Option.none r) : r = Option.none := by cases h; rfl
theorem RO.some_of {d : D} {r : Option V} (h : RO K mg F (Option.some d) r) : ∃ v, r = Option.some v ∧ RD K mg F d v := by cases h with | some r => exact ⟨_, rfl, r⟩
theorem dr_len {ks xs : List D} {a : Addr} {o : HO} (d : DR K mg F ks xs a o) : ks.length = xs.length := by
  cases d with
  | leaf r => have := r.len; simp at this; simp [this]
  | tup hne hq rk r =>
    have h1 := r.len
    have h2 := rk.len
    simp at h1 h2
    omega
theorem dr_put (ex : Ex F H) {a : Addr} {o : HO} {ks xs ks' xs' : List D} {k x : D} {y v : V} (d : DR K mg F ks xs a o) (ha : H a = some o) (hk : VW K mg F H k y) (rv : RD K mg F x v) (e : dPut ks xs k x = some (ks', xs')) : ∃ o', EPut K mg.P mg.w H a y v o' ∧ DR K mg F ks' xs' a o' := by
  unfold dPut at e
  cases hn : kn k with
  | none => rw [hn] at e; cases e
  | some n =>
    rw [hn] at e
    dsimp only at e
    split at e
    · rename_i hok
      rw [Bool.and_eq_true] at hok
      obtain ⟨hok, hz⟩ := hok
      have hz := of_decide_eq_true hz
      have rk0 := hk.rd_key hn
      rcases key_forms ex hk hn with ⟨kk, rfl, rfl, h0⟩ | ⟨b, rfl, h1, h2, h3⟩
      · cases d with
        | @leaf _ kvs _ r =>
          have f := find_leaf hn r
          rw [List.length_map] at hz
          cases hf : dFind n (kvs.map fun q => kD q.1) xs with
          | none =>
            rw [hf] at e f
            cases e
            refine ⟨_, .l ha rfl hz rfl, ?_⟩
            rw [putK_new v f.none_of]
            have := DR.leaf (a := a) (kvs := kvs ++ [(kk, v)]) (xs := xs ++ [x]) (by rw [List.map_append]; exact r.snoc rv)
            rw [List.map_append] at this
            exact this
          | some d0 =>
            rw [hf] at e f
            cases e
            obtain ⟨v0, f1, f2⟩ := f.some_of
            refine ⟨_, .l ha rfl hz rfl, ?_⟩
            have hp : putK kvs kk v = kvs.map fun kv => if kv.1 = kk then (kv.1, v) else kv := by
              unfold putK
              rw [valV_any, f1]
              rfl
            rw [hp]
            have := DR.leaf (a := a) (store_leaf hn rv r)
            rw [store_keys] at this
            exact this
        | tup hne hq rk r =>
          have := kind_tup hne hq (fun e he => (tup_keys ex hq rk e he).2.2) hok
          rw [h0] at this
          cases this
      · cases d with
        | leaf r =>
          cases kind_leaf hok h3
          cases r
          cases e
          refine ⟨_, .n (es := []) (.inr ⟨rfl, ha⟩) rfl h1 h2 (by show 0 < 16777216; decide) rfl, ?_⟩
          exact .tup (es := [(n, b, v)]) (by simp) (by simp [hn]) (.cons rk0 .nil) (.cons rv .nil)
        | @tup _ es _ _ hne hq rk r =>
          have f := find_tup (n := n) hq r
          have hlen : ks.length = es.length := by have := congrArg List.length hq; simpa using this
          have nr : NRep K mg.P mg.w H a es := .inl ⟨ha, fun e he => ⟨(tup_keys ex hq rk e he).1, (tup_keys ex hq rk e he).2.1⟩⟩
          cases hf : dFind n ks xs with
          | none =>
            rw [hf] at e f
            cases e
            refine ⟨_, .n nr rfl h1 h2 (by omega) rfl, ?_⟩
            have hp : ePut es n b v = es ++ [(n, b, v)] := by unfold ePut; rw [f.none_of]; rfl
            rw [hp]
            exact .tup (by simp) (by rw [List.map_append, List.map_append, hq]; simp [hn]) (by rw [List.map_append]; exact rk.snoc rk0) (by rw [List.map_append]; exact r.snoc rv)
          | some d0 =>
            rw [hf] at e f
            cases e
            obtain ⟨v0, f1, f2⟩ := f.some_of
            refine ⟨_, .n nr rfl h1 h2 (by omega) rfl, ?_⟩
            have hp : ePut es n b v = es.map fun e => if e.1 = n then (e.1, e.2.1, v) else e := by unfold ePut; rw [f1]; rfl
            rw [hp]
            have e1 : (es.map fun e => if e.1 = n then (e.1, e.2.1, v) else e).map (fun e => some e.1) = es.map fun e => some e.1 := by
              rw [List.map_map]
              refine List.map_congr_left fun q _ => ?_
              show some (if q.1 = n then (q.1, q.2.1, v) else q).1 = _
              split <;> rfl
            have e2 : (es.map fun e => if e.1 = n then (e.1, e.2.1, v) else e).map (fun e => V.ref e.2.1) = es.map fun e => V.ref e.2.1 := by
              rw [List.map_map]
              refine List.map_congr_left fun q _ => ?_
              show V.ref (if q.1 = n then (q.1, q.2.1, v) else q).2.1 = _
              split <;> rfl
            exact .tup (fun z => hne (List.map_eq_nil_iff.mp z)) (by rw [e1]; exact hq) (by rw [e2]; exact rk) (store_tup rv hq r)
    · cases e
end
end Mi

set_option Elab.async false
set_option linter.all false
set_option maxRecDepth 100000
set_option maxHeartbeats 1000000
/-! Mi: the operations' readings follow their meanings. -/
namespace Mi
open PySem L2
section
variable {K : PySem.W.Frag} {mg : MT}
theorem ite_some {A : Type} {b : Bool} {x y : A} (h : (if b = true then some x else none) = some y) : b = true ∧ x = y := by
  cases b with
  | true => exact ⟨rfl, Option.some.inj h⟩
  | false => cases h
def rAddA (K : PySem.W.Frag) : R2 := fun x y H Q => rAddAll x y H Q ∨ rCatA K x y H Q
theorem op_addA {X : Cx} : OpR X (binaryOp .Add) (rAddA X.K) := op_addAll.or op_catA
theorem ops_add : OpS K mg (rAddA K) (binD .add) := by
  intro F H x y v u c Q hx hy ex hc new
  cases x <;> cases y <;> first | (simp [binD] at hc; done) | skip
  all_goals simp only [binD] at hc
  · cases hc
    cases hx.int; cases hy.int
    exact .inl (.inl (.inl ⟨_, _, rfl, rfl, new.flat (.int _)⟩))
  · obtain ⟨hz, rfl⟩ := ite_some hc
    cases hx.str; cases hy.str
    exact .inl (.inl (.inr ⟨_, _, rfl, rfl, szOk_le hz, new.flat (.str _)⟩))
  · obtain ⟨hz, rfl⟩ := ite_some hc
    obtain ⟨a, vs, rfl, h1, f1, r1⟩ := hx.tup ex
    obtain ⟨b, us, rfl, h2, f2, r2⟩ := hy.tup ex
    have hz := szOk_le hz
    rw [r1.len, r2.len] at hz
    refine .inr ⟨a, b, vs, us, rfl, rfl, h1, h2, hz, fun e => ?_, fun _ e => ?_, fun _ _ q hq => ?_⟩
    · subst e
      cases r1
      exact new.flat (.tup f2 r2)
    · subst e
      cases r2
      rw [List.append_nil] at new
      exact new.flat (.tup f1 r1)
    · exact new.tup ex hq (r1.app r2)
  · obtain ⟨hz, rfl⟩ := ite_some hc
    obtain ⟨a, vs, rfl, h1, r1⟩ := hx.lst ex
    obtain ⟨b, us, rfl, h2, r2⟩ := hy.lst ex
    have hz := szOk_le hz
    rw [r1.len, r2.len] at hz
    exact .inl (.inr ⟨a, b, vs, us, rfl, rfl, h1, h2, hz, fun q hq => new.lst hq (r1.app r2)⟩)
theorem ops_sub : OpS K mg (rI0 fun i j => .int (i - j)) (binD .sub) := by
  intro F H x y v u c Q hx hy ex hc new
  cases x <;> cases y <;> first | (simp [binD] at hc; done) | skip
  cases hc
  cases hx.int; cases hy.int
  exact ⟨_, _, rfl, rfl, new.flat (.int _)⟩
def rMulA : R2 := fun x y H Q => (rI CMul (fun i j => .int (i * j)) x y H Q ∨ ∃ a k, x = .str a ∧ y = .int k ∧ 0 ≤ k ∧ k ≤ 1000 ∧ a.length ≤ 1000 ∧ Q (.str (repS a k.toNat)) H) ∨ rRep x y H Q
theorem op_mulA {X : Cx} : OpR X (binaryOp .Mult) rMulA := (op_mul.or op_mulStr).or op_rep
theorem ops_mul : OpS K mg rMulA (binD .mul) := by
  intro F H x y v u c Q hx hy ex hc new
  cases x <;> cases y <;> first | (simp [binD] at hc; done) | skip
  all_goals simp only [binD] at hc
  · obtain ⟨hz, rfl⟩ := ite_some hc
    cases hx.int; cases hy.int
    have hz' := of_decide_eq_true hz
    exact .inl (.inl ⟨_, _, rfl, rfl, hz', new.flat (.int _)⟩)
  · obtain ⟨hz, rfl⟩ := ite_some hc
    cases hx.str; cases hy.int
    obtain ⟨h0, h1, h2⟩ := of_decide_eq_true hz
    exact .inl (.inr ⟨_, _, rfl, rfl, h0, h1, h2, new.flat (.str _)⟩)
  · obtain ⟨hz, rfl⟩ := ite_some hc
    obtain ⟨a, vs, rfl, h1, r1⟩ := hx.lst ex
    cases hy.int
    obtain ⟨q0, q1, q2⟩ := of_decide_eq_true hz
    rw [r1.len] at q2
    have hs : sizeLine = 16777216 := sizeLine_eq
    rename_i k
    have h3 : vs.length * k.toNat ≤ 1000 * 1000 := Nat.mul_le_mul q2 (by omega)
    exact .inr ⟨a, k, vs, rfl, rfl, h1, by omega, by omega, by omega, fun q hq => new.lst hq (r1.rep _)⟩
theorem ops_fdiv : OpS K mg (rI CDiv fun i j => .int (i / j)) (binD .fdiv) := by
  intro F H x y v u c Q hx hy ex hc new
  cases x <;> cases y <;> first | (simp [binD] at hc; done) | skip
  simp only [binD] at hc
  obtain ⟨hz, rfl⟩ := ite_some hc
  cases hx.int; cases hy.int
  have hz' := of_decide_eq_true hz
  exact ⟨_, _, rfl, rfl, hz', new.flat (.int _)⟩
theorem ops_mod : OpS K mg (rI (fun _ j => 0 < j) fun i j => .int (i % j)) (binD .mod) := by
  intro F H x y v u c Q hx hy ex hc new
  cases x <;> cases y <;> first | (simp [binD] at hc; done) | skip
  simp only [binD] at hc
  obtain ⟨hz, rfl⟩ := ite_some hc
  cases hx.int; cases hy.int
  have hz' := of_decide_eq_true hz
  exact ⟨_, _, rfl, rfl, hz', new.flat (.int _)⟩
theorem ops_pow : OpS K mg (rI CPow fun i j => .int (i ^ j.toNat)) (binD .pow) := by
  intro F H x y v u c Q hx hy ex hc new
  cases x <;> cases y <;> first | (simp [binD] at hc; done) | skip
  simp only [binD] at hc
  obtain ⟨hz, rfl⟩ := ite_some hc
  cases hx.int; cases hy.int
  have hz' := of_decide_eq_true hz
  exact ⟨_, _, rfl, rfl, hz', new.flat (.int _)⟩
/-! ### comparisons -/
def CmS (K : PySem.W.Frag) (mg : MT) (r : R2) (op : D → D → Option Bool) : Prop :=
  ∀ F H x y v u b Q, VW K mg F H x v → VW K mg F H y u → Ex F H → op x y = some b → Q (.bl b) H → r v u H Q
theorem CmS.op {r : R2} {op : COp} (h : CmS K mg r (cmpB op)) : OpS K mg r (cmpD op) := by
  intro F H x y v u c Q hx hy ex hc new
  unfold cmpD at hc
  cases e : cmpB op x y with
  | none => rw [e] at hc; cases hc
  | some b =>
    rw [e] at hc
    cases hc
    exact h F H x y v u b Q hx hy ex e (new.flat (.bl b))
def rEqA (K : PySem.W.Frag) : R2 := fun x y H Q => rEq x y H Q ∨ rEqD K x y H Q
def rNeA (K : PySem.W.Frag) : R2 := fun x y H Q => rNe x y H Q ∨ rNeD K x y H Q
theorem op_eqA {X : Cx} (hu : X.A.units + 64 < cLine) : OpR X (compareOp .Eq) (rEqA X.K) := op_eq.or (op_eqD hu)
theorem op_neA {X : Cx} (hu : X.A.units + 64 < cLine) : OpR X (compareOp .NotEq) (rNeA X.K) := op_ne.or (op_neD hu)
theorem eqWhole_ok {F H : Hp} {x y : D} {v u : V} {b : Bool} (hx : VW K mg F H x v) (hy : VW K mg F H y u) (ex : Ex F H) (e : eqWhole x y = some b) :
    ∃ d e, Dp K H v d ∧ Dp K H u e ∧ SeqAt.shaped d = true ∧ SeqAt.shaped e = true ∧ PyData.eqv d e = b := by
  unfold eqWhole at e
  cases e1 : D.py x with
  | none => rw [e1] at e; cases e
  | some a =>
    cases e2 : D.py y with
    | none => rw [e1, e2] at e; cases e
    | some c =>
      rw [e1, e2] at e
      simp only at e
      obtain ⟨hz, rfl⟩ := ite_some e
      rw [Bool.and_eq_true] at hz
      exact ⟨a, c, hx.py ex e1, hy.py ex e2, hz.1, hz.2, rfl⟩
theorem eqD_ok {F H : Hp} {x y : D} {v u : V} {b : Bool} (hx : VW K mg F H x v) (hy : VW K mg F H y u) (ex : Ex F H) (e : eqD x y = some b) :
    (scal v u = true ∧ decide (v = u) = b) ∨ ∃ d e, Dp K H v d ∧ Dp K H u e ∧ SeqAt.shaped d = true ∧ SeqAt.shaped e = true ∧ PyData.eqv d e = b := by
  unfold eqD at e
  split at e
  · cases e; cases hx.int; cases hy.int
    exact .inl ⟨rfl, by simp⟩
  · cases e; cases hx.str; cases hy.str
    exact .inl ⟨rfl, by simp⟩
  · cases e; cases hx.bl; cases hy.bl
    exact .inl ⟨rfl, by simp⟩
  · cases e; cases hx.non; cases hy.non
    exact .inl ⟨rfl, by simp⟩
  · cases e; cases hx.str; cases hy.non
    exact .inl ⟨rfl, by simp⟩
  · cases e; cases hx.non; cases hy.str
    exact .inl ⟨rfl, by simp⟩
  · cases e; cases hx.int; cases hy.non
    exact .inl ⟨rfl, by simp⟩
  · cases e; cases hx.non; cases hy.int
    exact .inl ⟨rfl, by simp⟩
  · cases e; cases hx.int; cases hy.str
    exact .inl ⟨rfl, by simp⟩
  · cases e; cases hx.str; cases hy.int
    exact .inl ⟨rfl, by simp⟩
  · exact .inr (eqWhole_ok hx hy ex e)
theorem cms_eq : CmS K mg (rEqA K) (cmpB .eq) := by
  intro F H x y v u b Q hx hy ex hc q
  rcases eqD_ok hx hy ex hc with ⟨h1, rfl⟩ | ⟨d, e, h1, h2, h3, h4, rfl⟩
  · exact .inl ⟨h1, q⟩
  · exact .inr ⟨d, e, h1, h2, h3, h4, q⟩
theorem cms_ne : CmS K mg (rNeA K) (cmpB .ne) := by
  intro F H x y v u b Q hx hy ex hc q
  have hc' : (eqD x y).map not = some b := hc
  cases e : eqD x y with
  | none => rw [e] at hc'; cases hc'
  | some k =>
    rw [e] at hc'
    cases hc'
    rcases eqD_ok hx hy ex e with ⟨h1, rfl⟩ | ⟨d, e, h1, h2, h3, h4, rfl⟩
    · exact .inl ⟨h1, q⟩
    · exact .inr ⟨d, _, h1, h2, h3, h4, q⟩
def rCmpI (p : Int → Int → Bool) (s : Str → Str → Bool) : R2 := fun x y H Q => rI0 (fun i j => .bl (p i j)) x y H Q ∨ ∃ i j, x = .str i ∧ y = .str j ∧ Q (.bl (s i j)) H
theorem op_ltA {X : Cx} : OpR X (compareOp .Lt) (rCmpI (fun i j => decide (i < j)) strLt) := op_lt.or op_lt_str
theorem cms_cmp {op : COp} {p : Int → Int → Bool} {s : Str → Str → Bool} (h : ∀ x y b, cmpB op x y = some b → (∃ i j, x = .int i ∧ y = .int j ∧ b = p i j) ∨ ∃ i j, x = .str i ∧ y = .str j ∧ b = s i j) : CmS K mg (rCmpI p s) (cmpB op) := by
  intro F H x y v u b Q hx hy ex hc q
  rcases h x y b hc with ⟨i, j, rfl, rfl, rfl⟩ | ⟨i, j, rfl, rfl, rfl⟩
  · cases hx.int; cases hy.int
    exact .inl ⟨_, _, rfl, rfl, q⟩
  · cases hx.str; cases hy.str
    exact .inr ⟨_, _, rfl, rfl, q⟩
theorem cms_lt : CmS K mg (rCmpI (fun i j => decide (i < j)) strLt) (cmpB .lt) := cms_cmp fun x y b h => by
  cases x <;> cases y <;> first | (simp [cmpB] at h; done) | skip
  · cases h; exact .inl ⟨_, _, rfl, rfl, rfl⟩
  · cases h; exact .inr ⟨_, _, rfl, rfl, rfl⟩
theorem cms_le : CmS K mg (rCmpI (fun i j => decide (i ≤ j)) fun a b => !strLt b a) (cmpB .le) := cms_cmp fun x y b h => by
  cases x <;> cases y <;> first | (simp [cmpB] at h; done) | skip
  · cases h; exact .inl ⟨_, _, rfl, rfl, rfl⟩
  · cases h; exact .inr ⟨_, _, rfl, rfl, rfl⟩
theorem cms_gt : CmS K mg (rCmpI (fun i j => decide (j < i)) fun a b => strLt b a) (cmpB .gt) := cms_cmp fun x y b h => by
  cases x <;> cases y <;> first | (simp [cmpB] at h; done) | skip
  · cases h; exact .inl ⟨_, _, rfl, rfl, rfl⟩
  · cases h; exact .inr ⟨_, _, rfl, rfl, rfl⟩
theorem cms_ge : CmS K mg (rCmpI (fun i j => decide (j ≤ i)) fun a b => !strLt a b) (cmpB .ge) := cms_cmp fun x y b h => by
  cases x <;> cases y <;> first | (simp [cmpB] at h; done) | skip
  · cases h; exact .inl ⟨_, _, rfl, rfl, rfl⟩
  · cases h; exact .inr ⟨_, _, rfl, rfl, rfl⟩
theorem op_gtA {X : Cx} : OpR X (compareOp .Gt) (rCmpI (fun i j => decide (j < i)) fun a b => strLt b a) := op_gt.or op_gt_str
theorem str_le_iff (a b : Str) : decide (a.cps.toList ≤ b.cps.toList) = !strLt b a := by
  unfold strLt
  by_cases h : b.cps.toList < a.cps.toList
  · rw [decide_eq_true h, decide_eq_false (fun q => absurd h (List.not_lt.mpr q))]; rfl
  · rw [decide_eq_false h, decide_eq_true (List.not_lt.mp h)]; rfl
/-- where code runs is where its dicts were made -/
structure Here (X : Cx) (M : MT) : Prop where
  P : M.P = X.prog
  w : M.w = X.w
  u : X.A.units + 64 < cLine
theorem Here.room {X : Cx} {M : MT} (h : Here X M) : room9 X.A := by
  show X.A.units + 9 < cLine
  have := h.u
  omega
def rXIn (K : PySem.W.Frag) (M : MT) : R2 := fun x y H Q => ∃ a o, y = .ref a ∧ EGet K M.P M.w H a x o ∧ Q (.bl o.isSome) H
def rXNotIn (K : PySem.W.Frag) (M : MT) : R2 := fun x y H Q => ∃ a o, y = .ref a ∧ EGet K M.P M.w H a x o ∧ Q (.bl (!o.isSome)) H
theorem op_inX {X : Cx} {M : MT} (hh : Here X M) : OpR X (compareOp .In) (rXIn X.K M) := by
  intro pins s σ H x y v u Q I rx ry h
  obtain ⟨a, o, rfl, g, q⟩ := h
  cases ry
  rw [hh.P, hh.w] at g
  exact x_in hh.room I g rx fun s' I' => ⟨.bl o.isSome, H, I', rfl, q⟩
theorem op_notInX {X : Cx} {M : MT} (hh : Here X M) : OpR X (compareOp .NotIn) (rXNotIn X.K M) := by
  intro pins s σ H x y v u Q I rx ry h
  obtain ⟨a, o, rfl, g, q⟩ := h
  cases ry
  rw [hh.P, hh.w] at g
  exact x_notIn hh.room I g rx fun s' I' => ⟨.bl (!o.isSome), H, I', rfl, q⟩
def rInA (K : PySem.W.Frag) (M : MT) : R2 := fun x y H Q => ((∃ i j, x = .str i ∧ y = .str j ∧ Q (.bl (!(Builtin.Str.occurrences j i 0 j.length 1).isEmpty)) H) ∨ rIn K false x y H Q) ∨ rXIn K M x y H Q
def rNotInA (K : PySem.W.Frag) (M : MT) : R2 := fun x y H Q => ((∃ i j, x = .str i ∧ y = .str j ∧ Q (.bl (!(!(Builtin.Str.occurrences j i 0 j.length 1).isEmpty))) H) ∨ rIn K true x y H Q) ∨ rXNotIn K M x y H Q
theorem op_inA {X : Cx} {M : MT} (hh : Here X M) : OpR X (compareOp .In) (rInA X.K M) := (op_in_str.or op_in_seq).or (op_inX hh)
theorem op_notInA {X : Cx} {M : MT} (hh : Here X M) : OpR X (compareOp .NotIn) (rNotInA X.K M) := (op_notin_str.or op_notIn_seq).or (op_notInX hh)
theorem inD_ok {F H : Hp} {x y : D} {v u : V} {b : Bool} (hx : VW K mg F H x v) (hy : VW K mg F H y u) (ex : Ex F H) (e : inD x y = some b) :
    ((∃ i j, v = .str i ∧ u = .str j ∧ b = !(Builtin.Str.occurrences j i 0 j.length 1).isEmpty) ∨ ∃ p xs, u = .ref p ∧ (SqL K H p xs ∨ SqT K H p xs) ∧ flatV v = true ∧ xs.all flatV = true ∧ b = inV v xs) ∨
    ∃ a o, u = .ref a ∧ EGet K mg.P mg.w H a v o ∧ b = o.isSome := by
  unfold inD at e
  split at e
  · cases e; cases hx.str; cases hy.str
    exact .inl (.inl ⟨_, _, rfl, rfl, rfl⟩)
  · obtain ⟨a, vs, rfl, h1, r1⟩ := hy.lst ex
    unfold memD at e
    obtain ⟨hz, rfl⟩ := ite_some e
    rw [Bool.and_eq_true] at hz
    have rx := hx.flat hz.1
    refine .inl ?_
    exact .inr ⟨a, vs, rfl, .inl (SqL.of h1), rx.flat hz.1, r1.flat hz.2, (inV_of rx hz.1 r1 hz.2).symm⟩
  · obtain ⟨a, vs, rfl, h1, _, r1⟩ := hy.tup ex
    unfold memD at e
    obtain ⟨hz, rfl⟩ := ite_some e
    rw [Bool.and_eq_true] at hz
    have rx := hx.flat hz.1
    exact .inl (.inr ⟨a, vs, rfl, .inr h1, rx.flat hz.1, r1.flat hz.2, (inV_of rx hz.1 r1 hz.2).symm⟩)
  · rename_i ks xs
    obtain ⟨a, o, rfl, h1, r1⟩ := hy.dic ex
    cases eg : dGet ks xs x with
    | none => rw [eg] at e; cases e
    | some r =>
      rw [eg] at e
      cases e
      obtain ⟨r', g, q⟩ := dr_get ex r1 h1 hx eg
      refine .inr ⟨a, r', rfl, g, ?_⟩
      cases q <;> rfl
  · cases e
theorem cms_in : CmS K mg (rInA K mg) (cmpB .mem) := by
  intro F H x y v u b Q hx hy ex hc q
  rcases inD_ok hx hy ex hc with (⟨i, j, rfl, rfl, rfl⟩ | ⟨p, xs, rfl, h1, h2, h3, rfl⟩) | ⟨a, o, rfl, g, rfl⟩
  · exact .inl (.inl ⟨i, j, rfl, rfl, q⟩)
  · exact .inl (.inr ⟨p, xs, rfl, h1, h2, h3, q⟩)
  · exact .inr ⟨a, o, rfl, g, q⟩
theorem cms_notin : CmS K mg (rNotInA K mg) (cmpB .notmem) := by
  intro F H x y v u b Q hx hy ex hc q
  have hc' : (inD x y).map not = some b := hc
  cases e : inD x y with
  | none => rw [e] at hc'; cases hc'
  | some k =>
    rw [e] at hc'
    cases hc'
    rcases inD_ok hx hy ex e with (⟨i, j, rfl, rfl, rfl⟩ | ⟨p, xs, rfl, h1, h2, h3, rfl⟩) | ⟨a, o, rfl, g, rfl⟩
    · exact .inl (.inl ⟨i, j, rfl, rfl, q⟩)
    · exact .inl (.inr ⟨p, xs, rfl, h1, h2, h3, q⟩)
    · exact .inr ⟨a, o, rfl, g, q⟩
theorem isN_ok {F H : Hp} {x y : D} {v u : V} {b : Bool} (hx : VW K mg F H x v) (hy : VW K mg F H y u) (e : isN x y = some b) : u = .non ∧ decide (v = .non) = b := by
  unfold isN at e
  split at e
  · cases e; cases hx.non; cases hy.non
    exact ⟨rfl, by simp⟩
  · rename_i hne
    cases e
    cases hy.non
    refine ⟨rfl, decide_eq_false fun z => ?_⟩
    subst z
    cases hx with
    | f r => cases r; exact hne rfl
  · cases e
theorem cms_is : CmS K mg (fun x y H Q => y = .non ∧ Q (.bl (decide (x = .non))) H) (cmpB .is) := by
  intro F H x y v u b Q hx hy ex hc q
  obtain ⟨h1, rfl⟩ := isN_ok hx hy hc
  exact ⟨h1, q⟩
theorem cms_isnot : CmS K mg (fun x y H Q => y = .non ∧ Q (.bl (!decide (x = .non))) H) (cmpB .isnot) := by
  intro F H x y v u b Q hx hy ex hc q
  have hc' : (isN x y).map not = some b := hc
  cases e : isN x y with
  | none => rw [e] at hc'; cases hc'
  | some k =>
    rw [e] at hc'
    cases hc'
    obtain ⟨h1, rfl⟩ := isN_ok hx hy e
    exact ⟨h1, q⟩
/-! ### items -/
theorem atI_rd {F : Hp} {ds : List D} {vs : List V} {i : Int} {d : D} (r : RDs K mg F ds vs) (h : atI ds i = some d) : ∃ v, atI vs i = some v ∧ RD K mg F d v := by
  unfold atI at h ⊢
  rw [r.len] at h
  cases e : ixN vs.length i with
  | none => rw [e] at h; cases h
  | some j =>
    rw [e] at h
    exact r.get h
/-- d[y], d with int and text keys -/
def rIxR : R2 := fun x y H Q => ∃ a kvs k v, x = .ref a ∧ y = kV k ∧ H a = some (.dK kvs) ∧ valV kvs k = some v ∧ Q v H
theorem ix_rec {X : Cx} : IxR X rIxR := by
  intro value slice pins s σ H x y v u Q I rx ry h hs
  obtain ⟨a, kvs, k, r, rfl, rfl, e, l, q⟩ := h
  obtain rfl : v = Value.ref a := rx
  obtain ⟨_, _, vs, rel, dd⟩ := dk_of I.hok e
  obtain ⟨w, hw, rw'⟩ := RelO.some_of (v := r) (o := valueAt vs k) (by rw [← l]; exact rel.val k)
  exact PyProof.Rows.tail_any dd.mapOf.typeIs PySem.F.slot_dict_getitem.lookup (wpAny_getItem_of (kV_is ry) dd.mapOf hw ⟨r, H, I.tok _, rw', q⟩) hs
def rIxX (K : PySem.W.Frag) (M : MT) : R2 := fun x y H Q => ∃ a v, x = .ref a ∧ EGet K M.P M.w H a y (some v) ∧ Q v H
theorem ix_dic {X : Cx} {M : MT} (hh : Here X M) : IxR X (rIxX X.K M) := by
  intro value slice pins s σ H x y v u Q I rx ry h hs
  obtain ⟨a, z, rfl, g, q⟩ := h
  obtain rfl : v = Value.ref a := rx
  rw [hh.P, hh.w] at g
  exact PyProof.Rows.tail_any (g.typeIs I) PySem.F.slot_dict_getitem.lookup (x_getItem hh.room I g ry fun w' s' I' rw' => ⟨z, H, I', rw', q⟩) hs
def rIx2 (K : PySem.W.Frag) (M : MT) : R2 := fun x y H Q => (rIx K x y H Q ∨ rIxR x y H Q) ∨ rIxX K M x y H Q
theorem ix_all2 {X : Cx} {M : MT} (hh : Here X M) : IxR X (rIx2 X.K M) := (ix_seq.or ix_rec).or (ix_dic hh)
theorem kv_val {F : Hp} {z : Str} {d : D} : ∀ {ks : List Str} {ds : List D} {vs : List V}, RDs K mg F ds vs → lkD ks ds z = some d → ∃ v, valV (kvOf ks vs) (.inr z) = some v ∧ RD K mg F d v
  | [], _, _, _, h => by cases h
  | k :: ks, _, _, .nil, h => by cases h
  | k :: ks, _, _, .cons (v := v) (vs := vs) r rs, h => by
    unfold lkD at h
    rw [List.zip_cons_cons, List.lookup_cons] at h
    cases hz : z == k with
    | true =>
      rw [hz] at h
      cases h
      exact ⟨v, valV_pos (by rw [eq_of_beq hz]), r⟩
    | false =>
      rw [hz] at h
      obtain ⟨u, h1, h2⟩ := kv_val rs h
      refine ⟨u, ?_, h2⟩
      rw [← h1]
      exact valV_neg (fun q => by
        have q' : k = z := Sum.inr.inj q
        rw [q'] at hz
        simp at hz)
theorem ops_ix1 {F H : Hp} {x y : D} {v u : V} {c : C} {Q : VK} (hx : VW K mg F H x v) (hy : VW K mg F H y u) (ex : Ex F H) (hnd : ∀ ks xs, x ≠ .dic ks xs) (hc : ixD x y = some c) (new : NewC K mg F H c Q) : rIx K v u H Q ∨ rIxR v u H Q := by
  cases x <;> cases y <;> first | (simp [ixD] at hc; done) | (exact (hnd _ _ rfl).elim) | skip
  all_goals simp only [ixD] at hc
  · obtain ⟨hz, hc⟩ : szOk _ = true ∧ _ := by
      split at hc
      · rename_i hz; exact ⟨hz, hc⟩
      · cases hc
    cases hx.str; cases hy.int
    cases e : atI (Array.toList _) _ with
    | none => rw [e] at hc; cases hc
    | some k =>
      rw [e] at hc
      cases hc
      exact .inl (.inr (.inr ⟨_, _, k, rfl, rfl, szOk_le hz, e, new.flat (.str _)⟩))
  · obtain ⟨a, vs, rfl, h1, _, r1⟩ := hx.tup ex
    cases hy.int
    cases e : atI _ _ with
    | none => rw [e] at hc; cases hc
    | some d =>
      rw [e] at hc
      cases hc
      obtain ⟨w, h2, r2⟩ := atI_rd r1 e
      exact .inl (.inr (.inl ⟨a, vs, _, w, rfl, rfl, h1, h2, new.flat r2⟩))
  · obtain ⟨a, vs, rfl, h1, r1⟩ := hx.lst ex
    cases hy.int
    cases e : atI _ _ with
    | none => rw [e] at hc; cases hc
    | some d =>
      rw [e] at hc
      cases hc
      obtain ⟨w, h2, r2⟩ := atI_rd r1 e
      exact .inl (.inl ⟨a, vs, _, w, rfl, rfl, SqL.of h1, h2, new.flat r2⟩)
  · obtain ⟨a, vs, rfl, h1, r1⟩ := hx.dct ex
    cases hy.str
    cases e : lkD _ _ _ with
    | none => rw [e] at hc; cases hc
    | some d =>
      rw [e] at hc
      cases hc
      obtain ⟨w, h2, r2⟩ := kv_val r1 e
      exact .inr ⟨a, _, .inr _, w, rfl, rfl, h1, h2, new.flat r2⟩
theorem ops_ix : OpS K mg (rIx2 K mg) ixD := by
  intro F H x y v u c Q hx hy ex hc new
  by_cases hd : ∃ ks xs, x = .dic ks xs
  · obtain ⟨ks, xs, rfl⟩ := hd
    have hc : (dGet ks xs y).bind (fun o => o.map C.val) = some c := by
      cases y <;> exact hc
    cases eg : dGet ks xs y with
    | none => rw [eg] at hc; cases hc
    | some r =>
      rw [eg] at hc
      cases r with
      | none => cases hc
      | some d =>
        cases hc
        obtain ⟨a, o, rfl, h1, r1⟩ := hx.dic ex
        obtain ⟨r', g, q⟩ := dr_get ex r1 h1 hy eg
        obtain ⟨z, rfl, rz⟩ := q.some_of
        exact .inr ⟨a, z, rfl, g, new.flat rz⟩
  · exact .inl (ops_ix1 hx hy ex (fun ks xs e => hd ⟨ks, xs, e⟩) hc new)
/-! ### slices -/
def rSlAll (K : PySem.W.Frag) : V → Option Int → Option Int → Hp → VK → Prop := fun x lo hi H Q => (rSlL K x lo hi H Q ∨ rSlA K x lo hi H Q) ∨ rSlS x lo hi H Q
theorem sl_all {X : Cx} : SlR X (rSlAll X.K) := (sl_list.or sl_tupA).or sl_str
theorem cut_rd {F : Hp} {ds : List D} {vs : List V} (r : RDs K mg F ds vs) (lo hi : Option Int) : RDs K mg F (cutL ds lo hi) (cutV vs lo hi) := by
  unfold cutL cutV
  rw [r.len]
  exact (r.drop _).take _
theorem cut_ints (ns : List Int) (lo hi : Option Int) : cutV (ns.map V.int) lo hi = (cutL ns lo hi).map V.int := by
  unfold cutL cutV
  rw [List.length_map, List.map_take, List.map_drop]
theorem cut_ok {F H : Hp} {x : D} {v : V} {lo hi : Option Int} {c : C} {Q : VK} (hx : VW K mg F H x v) (ex : Ex F H) (e : cutD x lo hi = some c) (new : NewC K mg F H c Q) : rSlAll K v lo hi H Q := by
  cases x <;> first | (simp [cutD] at e; done) | skip
  all_goals simp only [cutD] at e
  · obtain ⟨hz, rfl⟩ := ite_some e
    cases hx.str
    exact .inr ⟨_, rfl, szOk_le hz, new.flat (.str _)⟩
  · cases e
    obtain ⟨a, vs, rfl, h1, f1, r1⟩ := hx.tup ex
    refine .inl (.inr ⟨a, vs, rfl, h1, fun hw => ?_, fun _ q hq => new.tup ex hq (cut_rd r1 lo hi)⟩)
    rename_i xs
    have e : cutL xs lo hi = xs := by
      unfold cutL
      rw [r1.len, hw.1, hw.2, List.drop_zero, Nat.sub_zero, ← r1.len, List.take_length]
    rw [e] at new
    exact new.flat (.tup f1 r1)
  · cases e
    obtain ⟨a, vs, rfl, h1, r1⟩ := hx.lst ex
    exact .inl (.inl ⟨a, vs, rfl, SqL.of h1, fun q hq => new.lst hq (cut_rd r1 lo hi)⟩)
  · cases e
    obtain ⟨a, rfl, h1⟩ := hx.scr ex
    refine .inl (.inl ⟨a, _, rfl, h1, fun q hq => ?_⟩)
    rw [cut_ints]
    exact new.lst hq (RDs.of_ints _)
/-! ### truth -/
theorem tru_rd {F H : Hp} {x : D} {v : V} {b : Bool} (hx : VW K mg F H x v) (ex : Ex F H) (e : truD x = some b) : TruV K v H b := by
  cases x <;> first | (simp [truD] at e; done) | skip
  all_goals simp only [truD] at e
  · cases e; cases hx.non; rfl
  · cases e; cases hx.bl; rfl
  · cases e; cases hx.int; rfl
  · obtain ⟨hz, rfl⟩ := ite_some e
    cases hx.str
    refine ⟨szOk_le hz, ?_⟩
    rename_i s
    show (s.length != 0) = ((s.length : Int) != 0)
    by_cases h : s.length = 0
    · rw [h]; rfl
    · have h2 : (s.length : Int) ≠ 0 := by omega
      rw [bne_iff_ne.mpr h, bne_iff_ne.mpr h2]
  · cases e
    obtain ⟨a, vs, rfl, h1, _, r1⟩ := hx.tup ex
    refine .inr (.inl ⟨vs, h1, ?_⟩)
    cases r1 <;> rfl
  · cases e
    obtain ⟨a, vs, rfl, h1, r1⟩ := hx.lst ex
    refine .inl ⟨vs, SqL.of h1, ?_⟩
    cases r1 <;> rfl
/-! ### calls -/
theorem one_of {F H : Hp} {x : D} {vs : List V} (l : [x].length = vs.length) (w : ∀ (i : Nat) (d : D) (v : V), [x][i]? = some d → vs[i]? = some v → VW K mg F H d v) : ∃ v, vs = [v] ∧ VW K mg F H x v := by
  match vs, l with
  | [v], _ => exact ⟨v, rfl, w 0 x v rfl rfl⟩
theorem two_of {F H : Hp} {x y : D} {vs : List V} (l : [x, y].length = vs.length) (w : ∀ (i : Nat) (d : D) (v : V), [x, y][i]? = some d → vs[i]? = some v → VW K mg F H d v) : ∃ v u, vs = [v, u] ∧ VW K mg F H x v ∧ VW K mg F H y u := by
  match vs, l with
  | [v, u], _ => exact ⟨v, u, rfl, w 0 x v rfl rfl, w 1 y u rfl rfl⟩
theorem cas_len : CaS K mg (fun xs H Q => ∃ x n, xs = [x] ∧ LenV K x H n ∧ Q (.int n) H) lenS := by
  intro F H ds vs c Q l w ex hc new
  unfold lenS at hc
  split at hc
  · obtain ⟨v, rfl, hv⟩ := one_of l w
    obtain ⟨hz, rfl⟩ := ite_some hc
    cases hv.str
    exact ⟨_, _, rfl, ⟨szOk_le hz, rfl⟩, new.flat (.int _)⟩
  · obtain ⟨v, rfl, hv⟩ := one_of l w
    cases hc
    obtain ⟨a, vs, rfl, h1, r1⟩ := hv.lst ex
    exact ⟨_, _, rfl, .inl ⟨vs, SqL.of h1, rfl⟩, by rw [← r1.len]; exact new.flat (.int _)⟩
  · obtain ⟨v, rfl, hv⟩ := one_of l w
    cases hc
    obtain ⟨a, vs, rfl, h1, _, r1⟩ := hv.tup ex
    exact ⟨_, _, rfl, .inr ⟨vs, h1, rfl⟩, by rw [← r1.len]; exact new.flat (.int _)⟩
  · cases hc
theorem cas_all : CaS K mg (rAll K) allD := by
  intro F H ds vs c Q l w ex hc new
  unfold allD at hc
  split at hc
  · rename_i xs
    obtain ⟨v, rfl, hv⟩ := one_of l w
    obtain ⟨a, vs, rfl, h1, r1⟩ := hv.lst ex
    cases e : allBl xs with
    | none => rw [e] at hc; cases hc
    | some bs =>
      rw [e] at hc
      cases hc
      have := r1.bls e
      subst this
      exact ⟨a, bs, rfl, SqL.of h1, new.flat (.bl _)⟩
  · cases hc
theorem cas_any : CaS K mg (rAny K) anyD := by
  intro F H ds vs c Q l w ex hc new
  unfold anyD at hc
  split at hc
  · rename_i xs
    obtain ⟨v, rfl, hv⟩ := one_of l w
    obtain ⟨a, vs, rfl, h1, r1⟩ := hv.lst ex
    cases e : allBl xs with
    | none => rw [e] at hc; cases hc
    | some bs =>
      rw [e] at hc
      cases hc
      have := r1.bls e
      subst this
      exact ⟨a, bs, rfl, SqL.of h1, new.flat (.bl _)⟩
  · cases hc
theorem cas_sum : CaS K mg (rSum K) sumD := by
  intro F H ds vs c Q l w ex hc new
  unfold sumD at hc
  split at hc
  · rename_i xs
    obtain ⟨v, rfl, hv⟩ := one_of l w
    obtain ⟨a, vs, rfl, h1, r1⟩ := hv.lst ex
    cases e : allInt xs with
    | none => rw [e] at hc; cases hc
    | some bs =>
      rw [e] at hc
      cases hc
      have := r1.ints e
      subst this
      exact ⟨a, bs, rfl, SqL.of h1, new.flat (.int _)⟩
  · cases hc
theorem listMax_mem : ∀ (ns : List Int) (n : Int), listMax n ns ∈ n :: ns ∧ ∀ y ∈ n :: ns, y ≤ listMax n ns
  | [], n => by simp [listMax]
  | m :: ns, n => by
    obtain ⟨h1, h2⟩ := listMax_mem ns (if n < m then m else n)
    have e : listMax n (m :: ns) = listMax (if n < m then m else n) ns := rfl
    rw [e]
    have h3 := h2 _ List.mem_cons_self
    refine ⟨?_, fun y hy => ?_⟩
    · rcases List.mem_cons.mp h1 with h | h
      · rw [h]; split <;> simp
      · exact List.mem_cons_of_mem _ (List.mem_cons_of_mem _ h)
    · rcases List.mem_cons.mp hy with rfl | hy
      · refine Int.le_trans ?_ h3
        split <;> omega
      · rcases List.mem_cons.mp hy with rfl | hy
        · refine Int.le_trans ?_ h3
          split <;> omega
        · exact h2 y (List.mem_cons_of_mem _ hy)
theorem listMin_mem : ∀ (ns : List Int) (n : Int), listMin n ns ∈ n :: ns ∧ ∀ y ∈ n :: ns, listMin n ns ≤ y
  | [], n => by simp [listMin]
  | m :: ns, n => by
    obtain ⟨h1, h2⟩ := listMin_mem ns (if m < n then m else n)
    have e : listMin n (m :: ns) = listMin (if m < n then m else n) ns := rfl
    rw [e]
    have h3 := h2 _ List.mem_cons_self
    refine ⟨?_, fun y hy => ?_⟩
    · rcases List.mem_cons.mp h1 with h | h
      · rw [h]; split <;> simp
      · exact List.mem_cons_of_mem _ (List.mem_cons_of_mem _ h)
    · rcases List.mem_cons.mp hy with rfl | hy
      · refine Int.le_trans h3 ?_
        split <;> omega
      · rcases List.mem_cons.mp hy with rfl | hy
        · refine Int.le_trans h3 ?_
          split <;> omega
        · exact h2 y (List.mem_cons_of_mem _ hy)
def rMaxA (K : PySem.W.Frag) : List V → Hp → VK → Prop := fun xs H Q => (∃ i j, xs = [.int i, .int j] ∧ Q (.int (if j > i then j else i)) H) ∨ rMax K xs H Q
def rMinA (K : PySem.W.Frag) : List V → Hp → VK → Prop := fun xs H Q => (∃ i j, xs = [.int i, .int j] ∧ Q (.int (if j < i then j else i)) H) ∨ rMin K xs H Q
theorem cr_maxA {X : Cx} (hc : X.calm = true) : CallR X (.builtin "max") (rMaxA X.K) := (call_max2 hc).or (cr_max hc)
theorem cr_minA {X : Cx} (hc : X.calm = true) : CallR X (.builtin "min") (rMinA X.K) := (call_min2 hc).or (cr_min hc)
theorem cas_max : CaS K mg (rMaxA K) maxD := by
  intro F H ds vs c Q l w ex hc new
  unfold maxD at hc
  split at hc
  · obtain ⟨v, u, rfl, hv, hu⟩ := two_of l w
    cases hc
    cases hv.int; cases hu.int
    exact .inl ⟨_, _, rfl, new.flat (.int _)⟩
  · rename_i xs
    obtain ⟨v, rfl, hv⟩ := one_of l w
    obtain ⟨a, vs, rfl, h1, r1⟩ := hv.lst ex
    split at hc
    · rename_i n ns e
      cases hc
      have := r1.ints e
      subst this
      obtain ⟨m1, m2⟩ := listMax_mem ns n
      refine .inr ⟨a, n :: ns, rfl, SqL.of h1, by simp, fun m hm hle => ?_⟩
      have e2 : m = listMax n ns := Int.le_antisymm (m2 m hm) (hle _ m1)
      rw [e2]
      exact new.flat (.int _)
    · cases hc
  · cases hc
theorem cas_min : CaS K mg (rMinA K) minD := by
  intro F H ds vs c Q l w ex hc new
  unfold minD at hc
  split at hc
  · obtain ⟨v, u, rfl, hv, hu⟩ := two_of l w
    cases hc
    cases hv.int; cases hu.int
    exact .inl ⟨_, _, rfl, new.flat (.int _)⟩
  · rename_i xs
    obtain ⟨v, rfl, hv⟩ := one_of l w
    obtain ⟨a, vs, rfl, h1, r1⟩ := hv.lst ex
    split at hc
    · rename_i n ns e
      cases hc
      have := r1.ints e
      subst this
      obtain ⟨m1, m2⟩ := listMin_mem ns n
      refine .inr ⟨a, n :: ns, rfl, SqL.of h1, by simp, fun m hm hle => ?_⟩
      have e2 : m = listMin n ns := Int.le_antisymm (hle _ m1) (m2 m hm)
      rw [e2]
      exact new.flat (.int _)
    · cases hc
  · cases hc
theorem cas_list : CaS K mg (fun xs H Q => ∃ p ys, xs = [.ref p] ∧ (SqL K H p ys ∨ SqT K H p ys) ∧ ∀ l, H l = none → Q (.ref l) (upd H l (.lst ys))) listS := by
  intro F H ds vs c Q l w ex hc new
  unfold listS at hc
  split at hc
  · obtain ⟨v, rfl, hv⟩ := one_of l w
    obtain ⟨a, vs, rfl, h1, r1⟩ := hv.lst ex
    cases hc
    exact ⟨a, vs, rfl, .inl (SqL.of h1), fun q hq => new.lst hq r1⟩
  · obtain ⟨v, rfl, hv⟩ := one_of l w
    obtain ⟨a, vs, rfl, h1, _, r1⟩ := hv.tup ex
    cases hc
    exact ⟨a, vs, rfl, .inr h1, fun q hq => new.lst hq r1⟩
  · cases hc
theorem cas_tuple : CaS K mg (fun xs H Q => ∃ p ys, xs = [.ref p] ∧ ((SqL K H p ys ∧ ∀ l, H l = none → Q (.ref l) (upd H l (.tup ys))) ∨ (SqT K H p ys ∧ Q (.ref p) H))) tupleD := by
  intro F H ds vs c Q l w ex hc new
  unfold tupleD at hc
  split at hc
  · obtain ⟨v, rfl, hv⟩ := one_of l w
    obtain ⟨a, vs, rfl, h1, r1⟩ := hv.lst ex
    cases hc
    exact ⟨a, vs, rfl, .inl ⟨SqL.of h1, fun q hq => new.tup ex hq r1⟩⟩
  · obtain ⟨v, rfl, hv⟩ := one_of l w
    obtain ⟨a, vs, rfl, h1, f1, r1⟩ := hv.tup ex
    cases hc
    exact ⟨a, vs, rfl, .inr ⟨h1, new.flat (.tup f1 r1)⟩⟩
  · cases hc
theorem sorted_one {ns ms : List Int} (p : ns.Perm ms) (h1 : ns.Pairwise (· ≤ ·)) (h2 : ms.Pairwise (· ≤ ·)) : ns = ms := p.eq_of_pairwise (fun a b _ _ => Int.le_antisymm) h1 h2
theorem sortI_perm (ns : List Int) : (sortI ns).Perm ns := List.mergeSort_perm _ _
theorem sortI_sorted (ns : List Int) : (sortI ns).Pairwise (· ≤ ·) := by
  have := List.pairwise_mergeSort (le := fun a b : Int => decide (a ≤ b)) (fun a b c h1 h2 => by simp at h1 h2 ⊢; omega) (fun a b => by simp; omega) ns
  exact this.imp fun h => of_decide_eq_true h
/-- sorted(xs), xs a list of plain data that are alike -/
def rSortedG (K : PySem.W.Frag) : List V → Hp → VK → Prop := fun vs H Q => ∃ (a : Addr) (bs : List (V × PyData)), vs = [V.ref a] ∧ SqL K H a (bs.map (·.1)) ∧ (∀ b ∈ bs, Dp K H b.1 b.2) ∧ PySem.W.AllAlike (bs.map (·.2)) ∧ PySem.W.Sortable (bs.map (·.2)) ∧ (∀ b ∈ bs, b.2.depth ≤ 60) ∧
  ∀ p, H p = none → Q (.ref p) (upd H p (.lst ((bs.mergeSort (PySem.W.dataLe false (·.2))).map (·.1))))
theorem each_of_vals {bs : List (V × PyData)} : ∀ {us : List Value}, Vals (bs.map (·.1)) us → PySem.W.EachIs (fun u (b : V × PyData) => RelV b.1 u) us bs := by
  induction bs with
  | nil => intro us h; cases h; exact .nil
  | cons b bs ih => intro us h; cases h with
    | cons h t => exact .cons h (ih t)
theorem vals_of_each {bs : List (V × PyData)} : ∀ {us : List Value}, PySem.W.EachIs (fun u (b : V × PyData) => RelV b.1 u) us bs → Vals (bs.map (·.1)) us := by
  induction bs with
  | nil => intro us h; cases h; exact .nil
  | cons b bs ih => intro us h; cases h with
    | cons h t => exact .cons h (ih t)
theorem each_reads {X : Cx} {pins : List (Addr × Obj)} {σ : L2.St} {H : Hp} {s : Shared} (I : Inv X pins σ H s) : ∀ {bs : List (V × PyData)} {us : List Value}, (∀ b ∈ bs, Dp X.K H b.1 b.2) → PySem.W.EachIs (fun u (b : V × PyData) => RelV b.1 u) us bs → PySem.W.EachIs (fun u (b : V × PyData) => ∃ as, Reads s.heap u b.2 as) us bs
  | [], _, _, .nil => .nil
  | b :: bs, _, h, .cons r t => .cons (Dp.reads I _ _ _ (h b (List.mem_cons_self ..)) r) (each_reads I (fun z hz => h z (List.mem_cons_of_mem _ hz)) t)
theorem cr_sortedG {X : Cx} (hu : X.A.units + 64 < cLine) : CallR X (.builtin "sorted") (rSortedG X.K) := by
  intro pins s σ H vs us Q I r h
  obtain ⟨a, bs, rfl, hs, hd, hal, hk, hdp, q⟩ := h
  obtain ⟨its, rv, hl, hz⟩ := I.list hs
  rw [Vals.ref1 r]
  have e := each_of_vals rv
  have hL : bs.length ≤ sizeLine := by rw [List.length_map] at hz; exact hz
  refine PySem.W.sorted_data hl.isList e (enc := fun b => b.2) (each_reads I hd e) hal hk hL (fun b hb => by have := hdp b hb; omega) fun out h1 h2 => ?_
  obtain ⟨ep, he'⟩ := PyProof.Rows.sortedAll_at s.heap its out.toArray
  refine ⟨.ref _, upd H (s.heap.objs.size + 1) (.lst ((bs.mergeSort (PySem.W.dataLe false (·.2))).map (·.1))), I.laid (t' := s.toks) (fun _ _ => PyProof.Rows.sortedAll_old) (Nat.le_succ _) ⟨?_, out, ep, vals_of_each h2, he'⟩, rfl, q _ (I.hok.fresh (Nat.le_succ _))⟩
  rw [List.length_map, List.length_mergeSort]
  exact hL
/-- sorted(xs), xs a tuple of plain data that are alike -/
def rSortedT (K : PySem.W.Frag) : List V → Hp → VK → Prop := fun vs H Q => ∃ (a : Addr) (bs : List (V × PyData)), vs = [V.ref a] ∧ SqT K H a (bs.map (·.1)) ∧ (∀ b ∈ bs, Dp K H b.1 b.2) ∧ PySem.W.AllAlike (bs.map (·.2)) ∧ PySem.W.Sortable (bs.map (·.2)) ∧ (∀ b ∈ bs, b.2.depth ≤ 60) ∧
  ∀ p, H p = none → Q (.ref p) (upd H p (.lst ((bs.mergeSort (PySem.W.dataLe false (·.2))).map (·.1))))
theorem cr_sortedT {X : Cx} (hu : X.A.units + 64 < cLine) : CallR X (.builtin "sorted") (rSortedT X.K) := by
  intro pins s σ H vs us Q I r h
  obtain ⟨a, bs, rfl, hs, hd, hal, hk, hdp, q⟩ := h
  obtain ⟨its, rv, ht, hz⟩ := I.tuple hs
  rw [Vals.ref1 r]
  have e := each_of_vals rv
  have hL : bs.length ≤ sizeLine := by rw [List.length_map] at hz; exact hz
  have hL' : its.length ≤ sizeLine := by rw [e.length]; exact hL
  have er := each_reads I hd e
  obtain ⟨o, ho, hc, n, hda⟩ := ht
  refine Calls.call_function_entry PyProof.Rows.kind_sorted PyProof.Rows.plain_sorted PyProof.Rows.entry_sorted (PyProof.Rows.args_sorted1 _) ?_
  unfold Builtin.«sorted»
  refine wpAny_bind (wpAny_pure ?_)
  refine wpAny_bind (wpAny_collect_seq a (.inr rfl) ho hc hda (fun h' kh => ?_) (by rw [List.size_toArray]; exact hL'))
  rw [show its.toArray.toList = its from rfl]
  refine wpAny_bind (wpAny_newList ?_ hL')
  have hat : (h'.push (PyProof.Rows.seqObj "list" its.toArray 0)).get? h'.objs.size = some (PyProof.Rows.seqObj "list" its.toArray 0) := Heap.get?_push_size _ rfl
  have hne : ∀ b u, s.heap.get? b = some u → b ≠ h'.objs.size := fun b u hb => Nat.ne_of_lt (Heap.lt_size (kh b u hb))
  have hgo : s.heap.get? h'.objs.size = none := by
    cases z : s.heap.get? h'.objs.size with
    | none => rfl
    | some u => exact absurd rfl (hne _ u z)
  have hn : H h'.objs.size = none := I.hok.gone hgo
  have er' : PySem.W.EachIs (fun v (b : V × PyData) => ∃ as, Reads (PySem.W.sortingHeap (h'.push (PyProof.Rows.seqObj "list" its.toArray 0)) h'.objs.size its) v b.2 as) its bs :=
    er.mono fun _ _ ⟨as, z⟩ => ⟨as, PyProof.Rows.Reads.keeps (fun b u hb => PySem.W.sortingHeap_old (hne b u hb) (Heap.get?_push_of_some _ (kh b u hb))) z⟩
  have S := PySem.W.SortsAt.data (prog := X.prog) (w := X.w) (A := X.A.in1.in1) (s := { s with heap := PySem.W.sortingHeap (h'.push (PyProof.Rows.seqObj "list" its.toArray 0)) h'.objs.size its }) (PySem.W.each_map (R := fun v d => ∃ as, Reads _ v d as) (fun b : V × PyData => b.2) er') hal hk (PySem.W.bound_map fun b hb => by have := hdp b hb; show X.A.units + 1 + 1 + b.2.depth < cLine; omega)
  refine wpAny_bind (wpAny_holding (wpAny_call_entry PyProof.Rows.slot_list_sort ⟨_, hat, rfl⟩ PyProof.Rows.entry_list_sort (PySem.W.list_sort_vals hat S hL' ⟨_, rfl, ?_⟩) (PyProof.Rows.args_list_sort _)))
  obtain ⟨ep, he'⟩ := PyProof.Rows.sortedHeap_at (out := (PySem.W.sortVals (PySem.W.dataKind _ (bs.map fun b : V × PyData => b.2)) false its its).toArray) hat
  refine wpAny_pure ⟨_, rfl, .ref _, upd H h'.objs.size (.lst ((bs.mergeSort (PySem.W.dataLe false (·.2))).map (·.1))), I.laidN (t' := s.toks) (fun b u hb => ?_) hgo hn ⟨?_, _, ep, vals_of_each (PySem.W.sortVals_data false e er' hal), he'⟩, rfl, q _ hn⟩
  · rw [PyProof.Rows.sortedHeap_old (hne b u hb) (Heap.lt_size (Heap.get?_push_of_some _ (kh b u hb)))]
    exact Heap.get?_push_of_some _ (kh b u hb)
  · rw [List.length_map, List.length_mergeSort]
    exact hL
theorem rds_kv {K : PySem.W.Frag} {mg : MT} {F H : Hp} (ex : Ex F H) : ∀ {xs : List D} {vs : List V} {ys : List PyData}, RDs K mg F xs vs → D.pys xs = some ys →
    ∃ ts : List (V × D), ts.map (·.1) = vs ∧ ts.map (·.2) = xs ∧ (ts.map fun t => pyOf t.2) = ys ∧ ∀ t ∈ ts, RD K mg F t.2 t.1 ∧ Dp K H t.1 (pyOf t.2)
  | [], _, ys, .nil, h => by
    cases h
    exact ⟨[], rfl, rfl, rfl, fun t ht => by cases ht⟩
  | x :: xs, _, ys, .cons (v := v) r rs, h => by
    unfold D.pys at h
    split at h
    · rename_i y zs h1 h2
      cases h
      obtain ⟨ts, e1, e2, e3, e4⟩ := rds_kv ex rs h2
      have hp : pyOf x = y := by unfold pyOf; rw [h1]; rfl
      refine ⟨(v, x) :: ts, by rw [List.map_cons, e1], by rw [List.map_cons, e2], by rw [List.map_cons, e3, hp], fun t ht => ?_⟩
      rcases List.mem_cons.mp ht with rfl | ht
      · exact ⟨r, by rw [hp]; exact r.py ex h1⟩
      · exact e4 t ht
    · cases h
theorem rds_of {K : PySem.W.Frag} {mg : MT} {F : Hp} : ∀ {ts : List (V × D)}, (∀ t ∈ ts, RD K mg F t.2 t.1) → RDs K mg F (ts.map (·.2)) (ts.map (·.1))
  | [], _ => .nil
  | t :: ts, h => .cons (h t (List.mem_cons_self ..)) (rds_of fun z hz => h z (List.mem_cons_of_mem _ hz))
theorem srt_facts {ys : List PyData} (h : srtOk ys = true) : PySem.W.AllAlike ys ∧ PySem.W.Sortable ys ∧ ∀ d ∈ ys, d.depth ≤ 60 := by
  unfold srtOk at h
  rw [Bool.and_eq_true, Bool.and_eq_true, Bool.or_eq_true, List.all_eq_true, List.all_eq_true, List.all_eq_true, List.all_eq_true] at h
  obtain ⟨⟨h1, h2⟩, h3⟩ := h
  refine ⟨fun d hd e he => List.all_eq_true.mp (h1 d hd) e he, ?_, fun d hd => of_decide_eq_true (h3 d hd)⟩
  rcases h2 with h2 | h2
  · refine .inl fun d hd => ?_
    have := h2 d hd
    unfold tupNE at this
    split at this
    · exact ⟨_, _, rfl⟩
    · cases this
  · refine .inr fun d hd => ?_
    have := h2 d hd
    unfold noTup at this
    split at this
    · cases this
    · cases this
    · rename_i q1 q2
      exact ⟨q1, q2⟩
theorem srt_res (ts : List (V × D)) : ((ts.map fun t => (t.1, pyOf t.2)).mergeSort (PySem.W.dataLe false (·.2))).map (·.1) = (ts.mergeSort fun x y => PySem.W.dataLe false pyOf x.2 y.2).map (·.1) ∧ sortG (ts.map (·.2)) = (ts.mergeSort fun x y => PySem.W.dataLe false pyOf x.2 y.2).map (·.2) := by
  constructor
  · rw [← List.map_mergeSort (r := fun x y : V × D => PySem.W.dataLe false pyOf x.2 y.2) (f := fun t : V × D => (t.1, pyOf t.2)) fun _ _ _ _ => rfl, List.map_map]
    rfl
  · exact (List.map_mergeSort (r := fun x y : V × D => PySem.W.dataLe false pyOf x.2 y.2) (f := fun t : V × D => t.2) fun _ _ _ _ => rfl).symm
theorem cas_sorted : CaS K mg (fun vs H Q => (rSorted K vs H Q ∨ rSortedG K vs H Q) ∨ rSortedT K vs H Q) sortedS := by
  intro F H ds vs c Q l w ex hc new
  unfold sortedS at hc
  split at hc
  · rename_i xs
    obtain ⟨v, rfl, hv⟩ := one_of l w
    obtain ⟨a, vs, rfl, h1, r1⟩ := hv.lst ex
    split at hc
    · rename_i ns e
      obtain ⟨hz, rfl⟩ := ite_some hc
      have := r1.ints e
      subst this
      refine .inl (.inl ⟨a, ns, rfl, SqL.of h1, of_decide_eq_true hz, fun ns' q p1 p2 hq => ?_⟩)
      have e2 : ns' = sortI ns := sorted_one (p1.trans (sortI_perm ns).symm) p2 (sortI_sorted ns)
      rw [e2]
      exact new.lst hq (RDs.of_ints _)
    · split at hc
      · rename_i ys hy
        obtain ⟨hz, rfl⟩ := ite_some hc
        obtain ⟨ts, e1, e2, e3, e4⟩ := rds_kv ex r1 hy
        obtain ⟨k1, k2, k3⟩ := srt_facts hz
        subst e1
        subst e2
        subst e3
        have hf : (ts.map fun t => (t.1, pyOf t.2)).map (·.1) = ts.map (·.1) := by rw [List.map_map]; rfl
        have hg : (ts.map fun t => (t.1, pyOf t.2)).map (·.2) = ts.map fun t => pyOf t.2 := by rw [List.map_map]; rfl
        refine .inl (.inr ⟨a, ts.map fun t => (t.1, pyOf t.2), rfl, by rw [hf]; exact SqL.of h1, fun b hb => ?_, by rw [hg]; exact k1, by rw [hg]; exact k2, fun b hb => ?_, fun p hp => ?_⟩)
        · obtain ⟨t, ht, rfl⟩ := List.mem_map.mp hb
          exact (e4 t ht).2
        · obtain ⟨t, ht, rfl⟩ := List.mem_map.mp hb
          exact k3 _ (List.mem_map.mpr ⟨t, ht, rfl⟩)
        · rw [(srt_res ts).1]
          rw [(srt_res ts).2] at new
          exact new.lst hp (rds_of fun t ht => (e4 t ((List.mergeSort_perm ts _).mem_iff.mp ht)).1)
      · cases hc
  · rename_i xs
    obtain ⟨v, rfl, hv⟩ := one_of l w
    obtain ⟨a, vs, rfl, h1, f1, r1⟩ := hv.tup ex
    split at hc
    · rename_i ys hy
      obtain ⟨hz, rfl⟩ := ite_some hc
      obtain ⟨ts, e1, e2, e3, e4⟩ := rds_kv ex r1 hy
      obtain ⟨k1, k2, k3⟩ := srt_facts hz
      subst e1
      subst e2
      subst e3
      have hf : (ts.map fun t => (t.1, pyOf t.2)).map (·.1) = ts.map (·.1) := by rw [List.map_map]; rfl
      have hg : (ts.map fun t => (t.1, pyOf t.2)).map (·.2) = ts.map fun t => pyOf t.2 := by rw [List.map_map]; rfl
      refine .inr ⟨a, ts.map fun t => (t.1, pyOf t.2), rfl, by rw [hf]; exact h1, fun b hb => ?_, by rw [hg]; exact k1, by rw [hg]; exact k2, fun b hb => ?_, fun p hp => ?_⟩
      · obtain ⟨t, ht, rfl⟩ := List.mem_map.mp hb
        exact (e4 t ht).2
      · obtain ⟨t, ht, rfl⟩ := List.mem_map.mp hb
        exact k3 _ (List.mem_map.mpr ⟨t, ht, rfl⟩)
      · rw [(srt_res ts).1]
        rw [(srt_res ts).2] at new
        exact new.lst hp (rds_of fun t ht => (e4 t ((List.mergeSort_perm ts _).mem_iff.mp ht)).1)
    · cases hc
  · cases hc
def rStrA : List V → Hp → VK → Prop := fun xs H Q => (∃ i, xs = [.int i] ∧ i.natAbs.log2 < 1920 ∧ Q (.str (toString i)) H) ∨ ∃ a, xs = [.str a] ∧ Q (.str a) H
theorem cr_strA {X : Cx} : CallR X (.type "str") rStrA := call_str_int.or SkE.call_str_str
theorem cas_str : CaS K mg rStrA strD := by
  intro F H ds vs c Q l w ex hc new
  unfold strD at hc
  split at hc
  · obtain ⟨v, rfl, hv⟩ := one_of l w
    obtain ⟨hz, rfl⟩ := ite_some hc
    cases hv.int
    exact .inl ⟨_, rfl, of_decide_eq_true hz, new.flat (.str _)⟩
  · obtain ⟨v, rfl, hv⟩ := one_of l w
    cases hc
    cases hv.str
    exact .inr ⟨_, rfl, new.flat (.str _)⟩
  · cases hc
theorem cas_ord : CaS K mg (fun xs H Q => ∃ x, xs = [.str x] ∧ x.length = 1 ∧ Q (.int (x.cps.getD 0 0 : Nat)) H) ordD := by
  intro F H ds vs c Q l w ex hc new
  unfold ordD at hc
  split at hc
  · obtain ⟨v, rfl, hv⟩ := one_of l w
    obtain ⟨hz, rfl⟩ := ite_some hc
    cases hv.str
    exact ⟨_, rfl, of_decide_eq_true hz, new.flat (.int _)⟩
  · cases hc
def rIntA : List V → Hp → VK → Prop := fun xs H Q => (∃ a n, xs = [.str a] ∧ PySem.intText? a = some n ∧ a.length ≤ 640 ∧ Q (.int n) H) ∨ ((∃ i, xs = [.int i] ∧ Q (.int i) H) ∨ ∃ k, xs = [.bl k] ∧ Q (.int (if k then 1 else 0)) H)
theorem cr_intA {X : Cx} : CallR X (.type "int") rIntA := call_int_str.or call_int1
theorem cas_int : CaS K mg rIntA intD := by
  intro F H ds vs c Q l w ex hc new
  unfold intD at hc
  split at hc
  · obtain ⟨v, rfl, hv⟩ := one_of l w
    cases hv.str
    split at hc
    · rename_i n e
      obtain ⟨hz, rfl⟩ := ite_some hc
      exact .inl ⟨_, n, rfl, e, of_decide_eq_true hz, new.flat (.int _)⟩
    · cases hc
  · obtain ⟨v, rfl, hv⟩ := one_of l w
    cases hc
    cases hv.int
    exact .inr (.inl ⟨_, rfl, new.flat (.int _)⟩)
  · obtain ⟨v, rfl, hv⟩ := one_of l w
    cases hc
    cases hv.bl
    exact .inr (.inr ⟨_, rfl, new.flat (.int _)⟩)
  · cases hc
end
end Mi

set_option Elab.async false
set_option linter.all false
set_option maxRecDepth 100000
set_option maxHeartbeats 1000000
/-! Mi: len, list, sorted, dict of a dict. -/
namespace Mi
open PySem L2
/-- the keys of the dict at a, as they stand -/
def KeyV (P : Program) (w : World) (H : Hp) (a : Addr) (vs : List V) : Prop := (∃ kvs, H a = some (.dK kvs) ∧ vs = kvs.map fun q => kV q.1) ∨ ∃ es, H a = some (NdO P w a es) ∧ vs = es.map fun e => V.ref e.2.1
theorem kV_rel {P : Program} {w : World} {k : Key} {u : Value} (h : (mixKind P w).is k u = true) : RelV (kV k) u := by
  rcases keyIs_shape (show keyIs k u = true from h) with ⟨i, t, rfl, rfl⟩ | ⟨x, t, rfl, rfl⟩
  · exact ⟨t, rfl⟩
  · exact ⟨t, rfl⟩
theorem pairs_keys {P : Program} {w : World} : ∀ {ds : List DictEntry} {vs : List (Key × Value)}, Pairs (mixKind P w) ds vs → Vals (vs.map fun q => kV q.1) (ds.map (·.key))
  | _, _, .nil => .nil
  | _, _, .cons h1 h2 t => .cons (kV_rel h1) (pairs_keys t)
theorem p3_refs : ∀ {es : List Ent3} {vs : List (NestedKey × Addr × Value)}, Paired P3 es vs → Vals (es.map fun e => V.ref e.2.1) (vs.map fun q => Value.ref q.2.1)
  | _, _, .nil => .nil
  | _, _, .cons r t => .cons (show Value.ref _ = Value.ref _ by rw [r.2.1]) (p3_refs t)
section
variable {X : Cx} {pins : List (Addr × Obj)} {σ : L2.St} {H : Hp} {s : Shared} {a : Addr} {vs : List V}
theorem key_raw (I : Inv X pins σ H s) (h : KeyV X.prog X.w H a vs) : ∃ o ds ep, s.heap.get? a = some o ∧ o.ExactDict ∧ o.data = .dict ds ep ∧ (a == sysModules) = false ∧ vs.length ≤ sizeLine ∧ Vals vs (ds.toList.map (·.key)) := by
  rcases h with ⟨kvs, e, rfl⟩ | ⟨es, e, rfl⟩
  · obtain ⟨z, hs, ws, rel, o, ds, ep, h1, h2, h3, h4, h5, _⟩ := dk_of I.hok e
    refine ⟨o, ds, ep, h1, h2, h3, hs, by rw [List.length_map]; exact z, ?_⟩
    have := pairs_keys h5
    have ek : kvs.map (fun q => kV q.1) = ws.map fun q => kV q.1 := by
      have := congrArg (List.map kV) rel.keys
      simpa [List.map_map, Function.comp_def] using this
    rw [ek]
    exact this
  · obtain ⟨⟨z, hs, hn, ws, rel, o, ds, ep, h1, h2, h3, h4⟩, _, _⟩ := I.hok a _ e
    refine ⟨o, ds, ep, h1, h2, h3, hs, by rw [List.length_map]; exact z, ?_⟩
    rw [h4, List.map_map]
    exact p3_refs rel
theorem items_keys {ds : Array DictEntry} {acc : Array Value} (it : ItemsOf (fun i v => ∃ en : DictEntry, ds[i]? = some en ∧ v = en.key) acc ds.size) : acc.toList = ds.toList.map (·.key) := by
  have hl : acc.toList.length = ds.toList.length := by rw [Array.length_toList, it.1, Array.length_toList]
  apply List.ext_getElem?
  intro j
  rw [List.getElem?_map]
  cases hj : acc.toList[j]? with
  | none =>
    have h1 := List.getElem?_eq_none_iff.mp hj
    rw [List.getElem?_eq_none (by omega)]
    all_goals rfl
  | some v =>
    obtain ⟨en, hen, hv⟩ := it.2 j v (by rw [← Array.getElem?_toList]; exact hj)
    rw [Array.getElem?_toList, hen, hv]
    rfl
end
def rListD (M : MT) : List V → Hp → VK → Prop := fun xs H Q => ∃ a vs, xs = [V.ref a] ∧ KeyV M.P M.w H a vs ∧ ∀ p, H p = none → Q (.ref p) (upd H p (.lst vs))
theorem cr_listD {X : Cx} {M : MT} (hh : Here X M) (hc : X.calm = true) : CallR X (.type "list") (rListD M) := by
  intro pins s σ H xs us Q I r h
  obtain ⟨a, vs, rfl, hk, q⟩ := h
  rw [Vals.ref1 r]
  rw [hh.P, hh.w] at hk
  obtain ⟨o, ds, ep, h1, h2, h3, h4, h5, rv⟩ := key_raw I hk
  have hl : vs.length = ds.size := by rw [rv.length, List.length_map, Array.length_toList]
  refine PySem.W.kdl_call (kdl_raw h4 h2 h3) (I.ok.hd hc) h1 (by omega) fun h' tk acc' c' kp e it => ?_
  have ea := items_keys it
  refine ⟨.ref s.heap.objs.size, _, I.laid (t' := tk) (o := .lst vs) kp (Nat.le_refl _) ⟨h5, acc'.toList, c', by rw [ea]; exact rv, by rw [Array.toArray_toList]; exact e⟩, rfl, q _ (I.hok.fresh (Nat.le_refl _))⟩
def rLenD (M : MT) : List V → Hp → VK → Prop := fun xs H Q => ∃ a vs, xs = [V.ref a] ∧ KeyV M.P M.w H a vs ∧ Q (.int vs.length) H
theorem cr_lenD {X : Cx} {M : MT} (hh : Here X M) : CallR X (.builtin "len") (rLenD M) := by
  intro pins s σ H xs us Q I r h
  obtain ⟨a, vs, rfl, hk, q⟩ := h
  rw [Vals.ref1 r]
  rw [hh.P, hh.w] at hk
  obtain ⟨o, ds, ep, h1, h2, h3, h4, h5, rv⟩ := key_raw I hk
  have hl : ds.size = vs.length := by rw [rv.length, List.length_map, Array.length_toList]
  refine PyProof.Rows.call_len_slot (n := vs.length) ⟨o, h1, h2.1⟩ PySem.F.slot_dict_len (fun Q' hq => call_len_raw h4 ⟨o, h1, h2, h3⟩ (by rw [hl]; exact hq)) (by omega) (by have : vs.length ≤ 16777216 := h5; omega) ?_
  exact ⟨.int vs.length, H, I.tok _, ⟨_, rfl⟩, q⟩
/-- sorted(d) -/
def rSortedD (K : PySem.W.Frag) (M : MT) : List V → Hp → VK → Prop := fun vs H Q => ∃ (a : Addr) (bs : List (V × PyData)), vs = [V.ref a] ∧ KeyV M.P M.w H a (bs.map (·.1)) ∧ (∀ b ∈ bs, Dp K H b.1 b.2) ∧ PySem.W.AllAlike (bs.map (·.2)) ∧ PySem.W.Sortable (bs.map (·.2)) ∧ (∀ b ∈ bs, b.2.depth ≤ 60) ∧
  ∀ p, H p = none → Q (.ref p) (upd H p (.lst ((bs.mergeSort (PySem.W.dataLe false (·.2))).map (·.1))))
theorem cr_sortedD {X : Cx} {M : MT} (hh : Here X M) (hc : X.calm = true) : CallR X (.builtin "sorted") (rSortedD X.K M) := by
  intro pins s σ H vs us Q I r h
  obtain ⟨a, bs, rfl, hk0, hd, hal, hk, hdp, q⟩ := h
  have hu := hh.u
  rw [Vals.ref1 r]
  rw [hh.P, hh.w] at hk0
  obtain ⟨o, ds, ep0, h1, h2, h3, h4, h5, rv⟩ := key_raw I hk0
  have hl : (bs.map (·.1)).length = ds.size := by rw [rv.length, List.length_map, Array.length_toList]
  have hL : bs.length ≤ sizeLine := by rw [List.length_map] at h5; exact h5
  refine Calls.call_function_entry PyProof.Rows.kind_sorted PyProof.Rows.plain_sorted PyProof.Rows.entry_sorted (PyProof.Rows.args_sorted1 _) ?_
  unfold Builtin.«sorted»
  refine wpAny_bind (wpAny_pure ?_)
  refine wpAny_bind (PySem.W.kdu_collect (A := X.A.in1) (kdl_raw h4 h2 h3) (I.ok.hd hc) h1 (by omega) fun h' tk acc kh it => ?_)
  have ea := items_keys it
  rw [← ea] at rv
  generalize acc.toList = its at rv
  have e := each_of_vals rv
  have hL' : its.length ≤ sizeLine := by rw [e.length]; exact hL
  have er := each_reads I hd e
  refine wpAny_bind (wpAny_newList ?_ hL')
  have hat : (h'.push (PyProof.Rows.seqObj "list" its.toArray 0)).get? h'.objs.size = some (PyProof.Rows.seqObj "list" its.toArray 0) := Heap.get?_push_size _ rfl
  have hne : ∀ b u, s.heap.get? b = some u → b ≠ h'.objs.size := fun b u hb => Nat.ne_of_lt (Heap.lt_size (kh b u hb))
  have hgo : s.heap.get? h'.objs.size = none := by
    cases z : s.heap.get? h'.objs.size with
    | none => rfl
    | some u => exact absurd rfl (hne _ u z)
  have hn : H h'.objs.size = none := I.hok.gone hgo
  have er' : PySem.W.EachIs (fun v (b : V × PyData) => ∃ as, Reads (PySem.W.sortingHeap (h'.push (PyProof.Rows.seqObj "list" its.toArray 0)) h'.objs.size its) v b.2 as) its bs :=
    er.mono fun _ _ ⟨as, z⟩ => ⟨as, PyProof.Rows.Reads.keeps (fun b u hb => PySem.W.sortingHeap_old (hne b u hb) (Heap.get?_push_of_some _ (kh b u hb))) z⟩
  have S := PySem.W.SortsAt.data (prog := X.prog) (w := X.w) (A := X.A.in1.in1) (s := { s with heap := PySem.W.sortingHeap (h'.push (PyProof.Rows.seqObj "list" its.toArray 0)) h'.objs.size its, toks := tk }) (PySem.W.each_map (R := fun v d => ∃ as, Reads _ v d as) (fun b : V × PyData => b.2) er') hal hk (PySem.W.bound_map fun b hb => by have := hdp b hb; show X.A.units + 1 + 1 + b.2.depth < cLine; omega)
  refine wpAny_bind (wpAny_holding (wpAny_call_entry PyProof.Rows.slot_list_sort ⟨_, hat, rfl⟩ PyProof.Rows.entry_list_sort (PySem.W.list_sort_vals hat S hL' ⟨_, rfl, ?_⟩) (PyProof.Rows.args_list_sort _)))
  obtain ⟨ep, he'⟩ := PyProof.Rows.sortedHeap_at (out := (PySem.W.sortVals (PySem.W.dataKind _ (bs.map fun b : V × PyData => b.2)) false its its).toArray) hat
  refine wpAny_pure ⟨_, rfl, .ref _, upd H h'.objs.size (.lst ((bs.mergeSort (PySem.W.dataLe false (·.2))).map (·.1))), I.laidN (t' := tk) (fun b u hb => ?_) hgo hn ⟨?_, _, ep, vals_of_each (PySem.W.sortVals_data false e er' hal), he'⟩, rfl, q _ hn⟩
  · rw [PyProof.Rows.sortedHeap_old (hne b u hb) (Heap.lt_size (Heap.get?_push_of_some _ (kh b u hb)))]
    exact Heap.get?_push_of_some _ (kh b u hb)
  · rw [List.length_map, List.length_mergeSort]
    exact hL
/-! by the meaning -/
section
variable {K : PySem.W.Frag} {mg : MT} {F H : Hp}
theorem leaf_rds : ∀ kvs : List (Key × V), RDs K mg F (kvs.map fun q => kD q.1) (kvs.map fun q => kV q.1)
  | [] => .nil
  | (.inl i, v) :: kvs => .cons (.int i) (leaf_rds kvs)
  | (.inr x, v) :: kvs => .cons (.str x) (leaf_rds kvs)
theorem dr_keys {ks xs : List D} {a : Addr} {o : HO} (d : DR K mg F ks xs a o) (h : H a = some o) : ∃ vs, KeyV mg.P mg.w H a vs ∧ RDs K mg F ks vs := by
  cases d with
  | @leaf _ kvs _ r => exact ⟨_, .inl ⟨kvs, h, rfl⟩, leaf_rds kvs⟩
  | @tup _ es _ _ hne hq rk r => exact ⟨_, .inr ⟨es, h, rfl⟩, rk⟩
theorem cas_lenA : CaS K mg (fun xs H Q => (∃ x n, xs = [x] ∧ LenV K x H n ∧ Q (.int n) H) ∨ rLenD mg xs H Q) lenD := by
  intro F H ds vs c Q l w ex hc new
  unfold lenD at hc
  split at hc
  · rename_i ks xs
    cases hc
    obtain ⟨v, rfl, hv⟩ := one_of l w
    obtain ⟨a, o, rfl, h1, r1⟩ := hv.dic ex
    obtain ⟨us, h2, r2⟩ := dr_keys r1 h1
    refine .inr ⟨a, us, rfl, h2, ?_⟩
    rw [← r2.len]
    exact new.flat (.int _)
  · exact .inl (cas_len F H ds vs c Q l w ex hc new)
theorem cas_listA : CaS K mg (fun xs H Q => (∃ p ys, xs = [.ref p] ∧ (SqL K H p ys ∨ SqT K H p ys) ∧ ∀ l, H l = none → Q (.ref l) (upd H l (.lst ys))) ∨ rListD mg xs H Q) listD := by
  intro F H ds vs c Q l w ex hc new
  unfold listD at hc
  split at hc
  · rename_i ks xs
    cases hc
    obtain ⟨v, rfl, hv⟩ := one_of l w
    obtain ⟨a, o, rfl, h1, r1⟩ := hv.dic ex
    obtain ⟨us, h2, r2⟩ := dr_keys r1 h1
    exact .inr ⟨a, us, rfl, h2, fun p hp => new.lst hp r2⟩
  · exact .inl (cas_list F H ds vs c Q l w ex hc new)
theorem cas_sortedA : CaS K mg (fun vs H Q => ((rSorted K vs H Q ∨ rSortedG K vs H Q) ∨ rSortedT K vs H Q) ∨ rSortedD K mg vs H Q) sortedD := by
  intro F H ds vs c Q l w ex hc new
  unfold sortedD at hc
  split at hc
  · rename_i ks xs
    obtain ⟨v, rfl, hv⟩ := one_of l w
    obtain ⟨a, o, rfl, h1, r1⟩ := hv.dic ex
    obtain ⟨us, h2, r2⟩ := dr_keys r1 h1
    split at hc
    · rename_i ys hy
      obtain ⟨hz, rfl⟩ := ite_some hc
      obtain ⟨ts, e1, e2, e3, e4⟩ := rds_kv ex r2 hy
      obtain ⟨k1, k2, k3⟩ := srt_facts hz
      subst e1
      subst e2
      subst e3
      have hf : (ts.map fun t => (t.1, pyOf t.2)).map (·.1) = ts.map (·.1) := by rw [List.map_map]; rfl
      have hg : (ts.map fun t => (t.1, pyOf t.2)).map (·.2) = ts.map fun t => pyOf t.2 := by rw [List.map_map]; rfl
      refine .inr ⟨a, ts.map fun t => (t.1, pyOf t.2), rfl, by rw [hf]; exact h2, fun b hb => ?_, by rw [hg]; exact k1, by rw [hg]; exact k2, fun b hb => ?_, fun p hp => ?_⟩
      · obtain ⟨t, ht, rfl⟩ := List.mem_map.mp hb
        exact (e4 t ht).2
      · obtain ⟨t, ht, rfl⟩ := List.mem_map.mp hb
        exact k3 _ (List.mem_map.mpr ⟨t, ht, rfl⟩)
      · rw [(srt_res ts).1]
        rw [(srt_res ts).2] at new
        exact new.lst hp (rds_of fun t ht => (e4 t ((List.mergeSort_perm ts _).mem_iff.mp ht)).1)
    · cases hc
  · exact .inl (cas_sorted F H ds vs c Q l w ex hc new)
/-- dict(d), the keys numbers and texts -/
def rDictD : List V → Hp → VK → Prop := fun xs H Q => ∃ (a : Addr) (kvs : List (Key × V)), xs = [.ref a] ∧ Rd H a (.dK kvs) ∧ ∀ p, H p = none → Q (.ref p) (upd H p (.dK kvs))
theorem kv_kD : ∀ {ks : List Str} {vs : List V}, ks.length = vs.length → (kvOf ks vs).map (fun q => kD q.1) = ks.map .str ∧ (kvOf ks vs).map (·.2) = vs
  | [], [], _ => ⟨rfl, rfl⟩
  | k :: ks, v :: vs, h => by
    obtain ⟨h1, h2⟩ := kv_kD (ks := ks) (vs := vs) (by simpa using h)
    exact ⟨by show D.str k :: (kvOf ks vs).map _ = _; rw [h1]; rfl, by show v :: (kvOf ks vs).map _ = _; rw [h2]⟩
  | [], _ :: _, h => by cases h
  | _ :: _, [], h => by cases h
theorem cas_dict : CaS K mg rDictD dictD := by
  intro F H ds vs c Q l w ex hc new
  unfold dictD at hc
  split at hc
  · rename_i ks xs
    obtain ⟨hz, rfl⟩ := ite_some hc
    obtain ⟨v, rfl, hv⟩ := one_of l w
    obtain ⟨a, us, rfl, h1, r1⟩ := hv.dct ex
    obtain ⟨k1, k2⟩ := kv_kD (ks := ks) (vs := us) (by rw [← r1.len]; exact of_decide_eq_true hz)
    refine ⟨a, _, rfl, .inl h1, fun p hp => ?_⟩
    have := DR.leaf (K := K) (mg := mg) (F := F) (a := p) (kvs := kvOf ks us) (xs := xs) (by rw [k2]; exact r1)
    rw [k1] at this
    exact new.dic hp this
  · rename_i ks xs
    obtain ⟨hz, rfl⟩ := ite_some hc
    obtain ⟨v, rfl, hv⟩ := one_of l w
    obtain ⟨a, o, rfl, h1, r1⟩ := hv.dic ex
    cases r1 with
    | leaf r => exact ⟨a, _, rfl, .inl h1, fun p hp => new.dic hp (.leaf r)⟩
    | tup hne hq rk r =>
      have := kind_tup hne hq (fun e he => (tup_keys ex hq rk e he).2.2) hz
      cases this
  · cases hc
end
end Mi

set_option Elab.async false
set_option linter.all false
set_option maxRecDepth 100000
set_option maxHeartbeats 1000000
/-! Mi: tests, and, or, chains, slices, calls. -/
namespace Mi
open PySem L2
section
variable {Z : Jd} {a b c e : Expr} {p : Pg}
/-- a value's truth as a test -/
theorem ok_tval {f : SE} (hp : ∀ X, Z.G X → ∀ ta, PE X a ta → PT X a (fun σ H Q => ta σ H fun x H' => ∃ k, TruV Z.K x H' k ∧ Q k H')) (ha : OkE Z a (f p)) : OkT Z a (tVal f p) := by
  obtain ⟨ta, pa, sa⟩ := ha
  refine ⟨_, fun X g => hp X g ta (pa X g), fun r0 σ F H cs R Q rv s po => ?_⟩
  unfold tVal at po
  refine sa r0 σ F H cs R _ rv s ?_
  cases ea : f p r0 with
  | bad => rw [ea] at po; exact po
  | exn x r1 => rw [ea] at po; exact po
  | ok a1 r1 =>
    rw [ea] at po
    simp only [Out.bind_ok] at po
    intro F1 H1 v1 k1 cs1 e1 ra1 rv1 s1
    split at po
    · rename_i x hx
      split at po
      · rename_i k hk
        have w1 := view_ok ra1 rv1 s1 (fun c => by simp only [cnt_append]; omega) hx
        exact ⟨k, tru_rd w1 s1.ex hk, po F1 H1 cs1 e1 rv1 (s1.sub fun c => by simp only [cnt_append]; omega)⟩
      · exact po.elim
    · exact po.elim
/-- a comparison as a test -/
theorem ok_tcmp {r : R2} {op : COp} {f g : SE} (ho : CmS Z.K Z.mg r (cmpB op)) (hp : ∀ X, Z.G X → ∀ ta tb, PE X a ta → PE X b tb → PT X e (tTest (tOp r ta tb))) (ha : OkE Z a (f p)) (hb : OkE Z b (g p)) : OkT Z e (tVal (eCmp op f g) p) := by
  obtain ⟨ta, pa, sa⟩ := ha
  obtain ⟨tb, pb, sb⟩ := hb
  refine ⟨_, fun X g => hp X g ta tb (pa X g) (pb X g), fun r0 σ F H cs R Q rv s po => ?_⟩
  unfold tVal eCmp eOp2 at po
  refine sa r0 σ F H cs R _ rv s ?_
  cases ea : f p r0 with
  | bad => rw [ea] at po; exact po
  | exn x r1 => rw [ea] at po; exact po
  | ok a1 r1 =>
    rw [ea] at po
    simp only [Out.bind_ok] at po
    intro F1 H1 v1 k1 cs1 e1 ra1 rv1 s1
    refine sb r1 σ F1 H1 cs1 (k1 ++ R) _ rv1 (s1.sub fun c => by simp only [cnt_append]; omega) ?_
    cases eb : g p r1 with
    | bad => rw [eb] at po; exact po
    | exn x r2 => rw [eb] at po; exact PoX.back e1 po fun c => by simp only [cnt_append]; omega
    | ok b1 r2 =>
      rw [eb] at po
      simp only [Out.bind_ok] at po
      intro F2 H2 v2 k2 cs2 e2 rb2 rv2 s2
      cases hx : view a1 r2 with
      | none => rw [hx] at po; exact po.elim
      | some x =>
        cases hy : view b1 r2 with
        | none => rw [hx, hy] at po; exact po.elim
        | some y =>
          rw [hx, hy] at po
          simp only at po
          cases hc : cmpB op x y with
          | none =>
            unfold cmpD at po
            rw [hc] at po
            exact po.elim
          | some k =>
            unfold cmpD at po
            rw [hc] at po
            simp only [Option.map_some, Out.bind_ok, view, C.frz, blV, truD] at po
            have w1 := view_ok (ra1.mono e2) rv2 s2 (fun c => by simp only [cnt_append]; omega) hx
            have w2 := view_ok rb2 rv2 s2 (fun c => by simp only [cnt_append]; omega) hy
            exact ho F2 H2 x y v1 v2 k _ w1 w2 s2.ex hc ⟨k, rfl, po F2 H2 cs2 (e1.trans e2) rv2 (s2.sub fun c => by simp only [cnt_append]; omega)⟩
theorem chain_snd {r r' : R2} {op op' : COp} {ta tb tc : TE} {f g h : SE} (ho : CmS Z.K Z.mg r (cmpB op)) (ho' : CmS Z.K Z.mg r' (cmpB op')) (sa : SnE Z.K Z.mg Z.W ta (f p)) (sb : SnE Z.K Z.mg Z.W tb (g p)) (sc : SnE Z.K Z.mg Z.W tc (h p)) :
    SnE Z.K Z.mg Z.W (tChain r r' ta tb tc) (eChain op op' f g h p) := by
  intro r0 σ F H cs R Q rv s po
  unfold eChain at po
  refine sa r0 σ F H cs R _ rv s ?_
  cases ea : f p r0 with
  | bad => rw [ea] at po; exact po
  | exn x r1 => rw [ea] at po; exact po
  | ok a1 r1 =>
    rw [ea] at po
    simp only [Out.bind_ok] at po
    intro F1 H1 v1 k1 cs1 e1 ra1 rv1 s1
    refine sb r1 σ F1 H1 cs1 (k1 ++ R) _ rv1 (s1.sub fun c => by simp only [cnt_append]; omega) ?_
    cases eb : g p r1 with
    | bad => rw [eb] at po; exact po
    | exn x r2 => rw [eb] at po; exact PoX.back e1 po fun c => by simp only [cnt_append]; omega
    | ok b1 r2 =>
      rw [eb] at po
      simp only [Out.bind_ok] at po
      intro F2 H2 v2 k2 cs2 e2 rb2 rv2 s2
      split at po
      · rename_i x y hx hy
        have w1 := view_ok (ra1.mono e2) rv2 s2 (fun c => by simp only [cnt_append]; omega) hx
        have w2 := view_ok rb2 rv2 s2 (fun c => by simp only [cnt_append]; omega) hy
        split at po
        · rename_i hc
          refine ho F2 H2 x y v1 v2 true _ w1 w2 s2.ex hc ⟨true, rfl, ?_⟩
          rw [if_pos rfl]
          refine sc r2 σ F2 H2 cs2 (k2 ++ (k1 ++ R)) _ rv2 (s2.sub fun c => by simp only [cnt_append]; omega) ?_
          cases ec : h p r2 with
          | bad => rw [ec] at po; exact po
          | exn x r3 => rw [ec] at po; exact PoX.back (e1.trans e2) po fun c => by simp only [cnt_append]; omega
          | ok c1 r3 =>
            rw [ec] at po
            simp only [Out.bind_ok] at po
            intro F3 H3 v3 k3 cs3 e3 rc3 rv3 s3
            split at po
            · rename_i y' z hy' hz
              split at po
              · rename_i k hk
                have w3 := view_ok (rb2.mono e3) rv3 s3 (fun c => by simp only [cnt_append]; omega) hy'
                have w4 := view_ok rc3 rv3 s3 (fun c => by simp only [cnt_append]; omega) hz
                refine ho' F3 H3 y' z v2 v3 k _ w3 w4 s3.ex hk ?_
                exact po F3 H3 (.bl k) [] cs3 ((e1.trans e2).trans e3) (.val (.bl k)) rv3 (s3.sub fun c => by simp only [cnt_append, cnt_nil]; omega)
              · exact po.elim
            · exact po.elim
        · rename_i hc
          refine ho F2 H2 x y v1 v2 false _ w1 w2 s2.ex hc ⟨false, rfl, ?_⟩
          rw [if_neg Bool.false_ne_true]
          exact po F2 H2 (.bl false) [] cs2 (e1.trans e2) (.val (.bl false)) rv2 (s2.sub fun c => by simp only [cnt_append, cnt_nil]; omega)
        · exact po.elim
      · exact po.elim
theorem ok_chain {r r' : R2} {op op' : COp} {f g h : SE} (ho : CmS Z.K Z.mg r (cmpB op)) (ho' : CmS Z.K Z.mg r' (cmpB op')) (hp : ∀ X, Z.G X → ∀ ta tb tc, PE X a ta → PE X b tb → PE X c tc → PE X e (tChain r r' ta tb tc)) (ha : OkE Z a (f p)) (hb : OkE Z b (g p)) (hc : OkE Z c (h p)) :
    OkE Z e (eChain op op' f g h p) := by
  obtain ⟨ta, pa, sa⟩ := ha
  obtain ⟨tb, pb, sb⟩ := hb
  obtain ⟨tc, pc, sc⟩ := hc
  exact ⟨_, fun X g => hp X g ta tb tc (pa X g) (pb X g) (pc X g), chain_snd ho ho' sa sb sc⟩
/-- a value that is a bool, as a test -/
theorem snt_of {t : TE} {f : SE} (sa : SnE Z.K Z.mg Z.W t (f p)) (hb : ∀ r a r', f p r = .ok a r' → ∃ k, a = .tmp (blV k)) : SnT Z.K Z.mg Z.W (tTest t) (tVal f p) := by
  intro r0 σ F H cs R Q rv s po
  unfold tVal at po
  refine sa r0 σ F H cs R _ rv s ?_
  cases ea : f p r0 with
  | bad => rw [ea] at po; exact po
  | exn x r1 => rw [ea] at po; exact po
  | ok a1 r1 =>
    obtain ⟨k, rfl⟩ := hb r0 a1 r1 ea
    rw [ea] at po
    simp only [Out.bind_ok, view, C.frz, blV, truD] at po
    intro F1 H1 v1 k1 cs1 e1 ra1 rv1 s1
    cases ra1 with
    | val q =>
      cases q
      exact ⟨k, rfl, po F1 H1 cs1 e1 rv1 s1⟩
theorem chain_bl {op op' : COp} {f g h : SE} : ∀ r a r', eChain op op' f g h p r = .ok a r' → ∃ k, a = .tmp (blV k) := by
  intro r a r' e
  unfold eChain at e
  cases ea : f p r with
  | bad => rw [ea] at e; cases e
  | exn x r1 => rw [ea] at e; cases e
  | ok a1 r1 =>
    rw [ea] at e
    simp only [Out.bind_ok] at e
    cases eb : g p r1 with
    | bad => rw [eb] at e; cases e
    | exn x r1 => rw [eb] at e; cases e
    | ok b1 r2 =>
      rw [eb] at e
      simp only [Out.bind_ok] at e
      split at e
      · split at e
        · cases ec : h p r2 with
          | bad => rw [ec] at e; cases e
          | exn x r1 => rw [ec] at e; cases e
          | ok c1 r3 =>
            rw [ec] at e
            simp only [Out.bind_ok] at e
            split at e
            · split at e
              · cases e; exact ⟨_, rfl⟩
              · cases e
            · cases e
        · cases e; exact ⟨_, rfl⟩
        · cases e
      · cases e
theorem ok_tchain {r r' : R2} {op op' : COp} {f g h : SE} (ho : CmS Z.K Z.mg r (cmpB op)) (ho' : CmS Z.K Z.mg r' (cmpB op')) (hp : ∀ X, Z.G X → ∀ ta tb tc, PE X a ta → PE X b tb → PE X c tc → PT X e (tTest (tChain r r' ta tb tc))) (ha : OkE Z a (f p)) (hb : OkE Z b (g p)) (hc : OkE Z c (h p)) :
    OkT Z e (tVal (eChain op op' f g h) p) := by
  obtain ⟨ta, pa, sa⟩ := ha
  obtain ⟨tb, pb, sb⟩ := hb
  obtain ⟨tc, pc, sc⟩ := hc
  exact ⟨_, fun X g => hp X g ta tb tc (pa X g) (pb X g) (pc X g), snt_of (chain_snd ho ho' sa sb sc) chain_bl⟩
/-! ### and, or, not -/
theorem snt_and {t u : TT} {f g : ST} (sa : SnT Z.K Z.mg Z.W t (f p)) (sb : SnT Z.K Z.mg Z.W u (g p)) : SnT Z.K Z.mg Z.W (L2.tAnd t u) (tAnd f g p) := by
  intro r0 σ F H cs R Q rv s po
  unfold tAnd at po
  refine sa r0 σ F H cs R _ rv s ?_
  cases ea : f p r0 with
  | bad => rw [ea] at po; exact po
  | exn x r1 => rw [ea] at po; exact po
  | ok a1 r1 =>
    rw [ea] at po
    simp only [Out.bind_ok] at po
    intro F1 H1 cs1 e1 rv1 s1
    cases a1 with
    | false => rw [if_neg Bool.false_ne_true] at po ⊢; exact po F1 H1 cs1 e1 rv1 s1
    | true =>
      rw [if_pos rfl] at po ⊢
      refine sb r1 σ F1 H1 cs1 R _ rv1 s1 ?_
      cases eb : g p r1 with
      | bad => rw [eb] at po; exact po
      | exn x r2 => rw [eb] at po; exact PoX.back e1 po fun c => Nat.le_refl _
      | ok b1 r2 => rw [eb] at po; exact fun F2 H2 cs2 e2 rv2 s2 => po F2 H2 cs2 (e1.trans e2) rv2 s2
theorem snt_or {t u : TT} {f g : ST} (sa : SnT Z.K Z.mg Z.W t (f p)) (sb : SnT Z.K Z.mg Z.W u (g p)) : SnT Z.K Z.mg Z.W (L2.tOr t u) (tOr f g p) := by
  intro r0 σ F H cs R Q rv s po
  unfold tOr at po
  refine sa r0 σ F H cs R _ rv s ?_
  cases ea : f p r0 with
  | bad => rw [ea] at po; exact po
  | exn x r1 => rw [ea] at po; exact po
  | ok a1 r1 =>
    rw [ea] at po
    simp only [Out.bind_ok] at po
    intro F1 H1 cs1 e1 rv1 s1
    cases a1 with
    | true => rw [if_pos rfl] at po ⊢; exact po F1 H1 cs1 e1 rv1 s1
    | false =>
      rw [if_neg Bool.false_ne_true] at po ⊢
      refine sb r1 σ F1 H1 cs1 R _ rv1 s1 ?_
      cases eb : g p r1 with
      | bad => rw [eb] at po; exact po
      | exn x r2 => rw [eb] at po; exact PoX.back e1 po fun c => Nat.le_refl _
      | ok b1 r2 => rw [eb] at po; exact fun F2 H2 cs2 e2 rv2 s2 => po F2 H2 cs2 (e1.trans e2) rv2 s2
theorem ok_tnot {f : ST} (hp : ∀ X, Z.G X → ∀ t, PT X a t → PT X e (L2.tNot t)) (ha : OkT Z a (f p)) : OkT Z e (tNot f p) := by
  obtain ⟨ta, pa, sa⟩ := ha
  refine ⟨_, fun X g => hp X g ta (pa X g), fun r0 σ F H cs R Q rv s po => ?_⟩
  unfold tNot at po
  refine sa r0 σ F H cs R _ rv s ?_
  cases ea : f p r0 with
  | bad => rw [ea] at po; exact po
  | exn x r1 => rw [ea] at po; exact po
  | ok a1 r1 => rw [ea] at po; exact po
/-- and, or of bools as values -/
theorem ok_and {f g : SE} (hp : ∀ X, Z.G X → ∀ ta tb, PE X a ta → PE X b tb → PE X e (tAndV ta tb)) (ha : OkE Z a (f p)) (hb : OkE Z b (g p)) : OkE Z e (eAnd f g p) := by
  obtain ⟨ta, pa, sa⟩ := ha
  obtain ⟨tb, pb, sb⟩ := hb
  refine ⟨_, fun X g => hp X g ta tb (pa X g) (pb X g), fun r0 σ F H cs R Q rv s po => ?_⟩
  unfold eAnd at po
  refine sa r0 σ F H cs R _ rv s ?_
  cases ea : f p r0 with
  | bad => rw [ea] at po; exact po
  | exn x r1 => rw [ea] at po; exact po
  | ok a1 r1 =>
    rw [ea] at po
    simp only [Out.bind_ok] at po
    intro F1 H1 v1 k1 cs1 e1 ra1 rv1 s1
    cases hx : view a1 r1 with
    | none => rw [hx] at po; exact po.elim
    | some x =>
      have w1 := view_ok ra1 rv1 s1 (fun c => by simp only [cnt_append]; omega) hx
      rw [hx] at po
      simp only [Option.bind_some] at po
      cases x with
      | bl k =>
        cases w1.bl
        refine ⟨k, rfl, ?_⟩
        cases k with
        | false =>
          rw [if_neg Bool.false_ne_true]
          exact po F1 H1 (.bl false) [] cs1 e1 (.val (.bl false)) rv1 (s1.sub fun c => by simp only [cnt_append, cnt_nil]; omega)
        | true =>
          rw [if_pos rfl]
          refine sb r1 σ F1 H1 cs1 R _ rv1 (s1.sub fun c => by simp only [cnt_append]; omega) ?_
          simp only [isB] at po
          cases eb : g p r1 with
          | bad => rw [eb] at po; exact po
          | exn x r2 => rw [eb] at po; exact PoX.back e1 po fun c => Nat.le_refl _
          | ok b1 r2 => rw [eb] at po; exact fun F2 H2 v2 k2 cs2 e2 rb2 rv2 s2 => po F2 H2 v2 k2 cs2 (e1.trans e2) rb2 rv2 s2
      | _ => exact po.elim
theorem ok_or {f g : SE} (hp : ∀ X, Z.G X → ∀ ta tb, PE X a ta → PE X b tb → PE X e (tOrV ta tb)) (ha : OkE Z a (f p)) (hb : OkE Z b (g p)) : OkE Z e (eOr f g p) := by
  obtain ⟨ta, pa, sa⟩ := ha
  obtain ⟨tb, pb, sb⟩ := hb
  refine ⟨_, fun X g => hp X g ta tb (pa X g) (pb X g), fun r0 σ F H cs R Q rv s po => ?_⟩
  unfold eOr at po
  refine sa r0 σ F H cs R _ rv s ?_
  cases ea : f p r0 with
  | bad => rw [ea] at po; exact po
  | exn x r1 => rw [ea] at po; exact po
  | ok a1 r1 =>
    rw [ea] at po
    simp only [Out.bind_ok] at po
    intro F1 H1 v1 k1 cs1 e1 ra1 rv1 s1
    cases hx : view a1 r1 with
    | none => rw [hx] at po; exact po.elim
    | some x =>
      have w1 := view_ok ra1 rv1 s1 (fun c => by simp only [cnt_append]; omega) hx
      rw [hx] at po
      simp only [Option.bind_some] at po
      cases x with
      | bl k =>
        cases w1.bl
        refine ⟨k, rfl, ?_⟩
        cases k with
        | true =>
          rw [if_pos rfl]
          exact po F1 H1 (.bl true) [] cs1 e1 (.val (.bl true)) rv1 (s1.sub fun c => by simp only [cnt_append, cnt_nil]; omega)
        | false =>
          rw [if_neg Bool.false_ne_true]
          refine sb r1 σ F1 H1 cs1 R _ rv1 (s1.sub fun c => by simp only [cnt_append]; omega) ?_
          simp only [isB] at po
          cases eb : g p r1 with
          | bad => rw [eb] at po; exact po
          | exn x r2 => rw [eb] at po; exact PoX.back e1 po fun c => Nat.le_refl _
          | ok b1 r2 => rw [eb] at po; exact fun F2 H2 v2 k2 cs2 e2 rb2 rv2 s2 => po F2 H2 v2 k2 cs2 (e1.trans e2) rb2 rv2 s2
      | _ => exact po.elim
theorem ok_if {t : ST} {f g : SE} (hp : ∀ X, Z.G X → ∀ tt ta tb, PT X c tt → PE X a ta → PE X b tb → PE X e (tIf tt ta tb)) (hc : OkT Z c (t p)) (ha : OkE Z a (f p)) (hb : OkE Z b (g p)) : OkE Z e (eIf t f g p) := by
  obtain ⟨tc, pc, sc⟩ := hc
  obtain ⟨ta, pa, sa⟩ := ha
  obtain ⟨tb, pb, sb⟩ := hb
  refine ⟨_, fun X g => hp X g tc ta tb (pc X g) (pa X g) (pb X g), fun r0 σ F H cs R Q rv s po => ?_⟩
  unfold eIf at po
  refine sc r0 σ F H cs R _ rv s ?_
  cases ec : t p r0 with
  | bad => rw [ec] at po; exact po
  | exn x r1 => rw [ec] at po; exact po
  | ok k r1 =>
    rw [ec] at po
    simp only [Out.bind_ok] at po
    intro F1 H1 cs1 e1 rv1 s1
    cases k with
    | true =>
      rw [if_pos rfl] at po ⊢
      refine sa r1 σ F1 H1 cs1 R _ rv1 s1 ?_
      cases eb : f p r1 with
      | bad => rw [eb] at po; exact po
      | exn x r2 => rw [eb] at po; exact PoX.back e1 po fun c => Nat.le_refl _
      | ok b1 r2 => rw [eb] at po; exact fun F2 H2 v2 k2 cs2 e2 rb2 rv2 s2 => po F2 H2 v2 k2 cs2 (e1.trans e2) rb2 rv2 s2
    | false =>
      rw [if_neg Bool.false_ne_true] at po ⊢
      refine sb r1 σ F1 H1 cs1 R _ rv1 s1 ?_
      cases eb : g p r1 with
      | bad => rw [eb] at po; exact po
      | exn x r2 => rw [eb] at po; exact PoX.back e1 po fun c => Nat.le_refl _
      | ok b1 r2 => rw [eb] at po; exact fun F2 H2 v2 k2 cs2 e2 rb2 rv2 s2 => po F2 H2 v2 k2 cs2 (e1.trans e2) rb2 rv2 s2
/-! ### slices -/
theorem ok_onone : OkO Z none (oNone p) := ⟨_, fun _ _ => po_none, fun r σ F H cs R Q rv s po => po F H cs (Ex.refl F) rv s⟩
theorem ok_osome {f : SE} (ha : OkE Z a (f p)) : OkO Z (some a) (oSome f p) := by
  obtain ⟨ta, pa, sa⟩ := ha
  refine ⟨_, fun X g => po_some (pa X g), fun r0 σ F H cs R Q rv s po => ?_⟩
  unfold oSome at po
  refine sa r0 σ F H cs R _ rv s ?_
  cases ea : f p r0 with
  | bad => rw [ea] at po; exact po
  | exn x r1 => rw [ea] at po; exact po
  | ok a1 r1 =>
    rw [ea] at po
    simp only [Out.bind_ok] at po
    intro F1 H1 v1 k1 cs1 e1 ra1 rv1 s1
    split at po
    · rename_i i hx
      have w1 := view_ok ra1 rv1 s1 (fun c => by simp only [cnt_append]; omega) hx
      exact ⟨i, w1.int, po F1 H1 cs1 e1 rv1 (s1.sub fun c => by simp only [cnt_append]; omega)⟩
    · exact po.elim
theorem ok_slice {lo hi : Option Expr} {f : SE} {l h : SO} {pos p2 : Pos} (hK : ∀ X, Z.G X → X.K = Z.K) (ha : OkE Z a (f p)) (hl : OkO Z lo (l p)) (hh : OkO Z hi (h p)) : OkE Z (.Subscript a (.Slice lo hi none p2) pos) (eSlice f l h p) := by
  obtain ⟨ta, pa, sa⟩ := ha
  obtain ⟨tl, pl, sl⟩ := hl
  obtain ⟨th, ph, sh⟩ := hh
  refine ⟨tSl (rSlAll Z.K) ta tl th, fun X g => by rw [← hK X g]; exact pe_slice sl_all (pa X g) (pl X g) (ph X g), fun r0 σ F H cs R Q rv s po => ?_⟩
  unfold eSlice at po
  refine sa r0 σ F H cs R _ rv s ?_
  cases ea : f p r0 with
  | bad => rw [ea] at po; exact po
  | exn x r1 => rw [ea] at po; exact po
  | ok a1 r1 =>
    rw [ea] at po
    simp only [Out.bind_ok] at po
    intro F1 H1 v1 k1 cs1 e1 ra1 rv1 s1
    refine sl r1 σ F1 H1 cs1 (k1 ++ R) _ rv1 (s1.sub fun c => by simp only [cnt_append]; omega) ?_
    cases eb : l p r1 with
    | bad => rw [eb] at po; exact po
    | exn x r2 => rw [eb] at po; exact PoX.back e1 po fun c => by simp only [cnt_append]; omega
    | ok b1 r2 =>
      rw [eb] at po
      simp only [Out.bind_ok] at po
      intro F2 H2 cs2 e2 rv2 s2
      refine sh r2 σ F2 H2 cs2 (k1 ++ R) _ rv2 (s2.sub fun c => by simp only [cnt_append]; omega) ?_
      cases ec : h p r2 with
      | bad => rw [ec] at po; exact po
      | exn x r3 => rw [ec] at po; exact PoX.back (e1.trans e2) po fun c => by simp only [cnt_append]; omega
      | ok c1 r3 =>
        rw [ec] at po
        simp only [Out.bind_ok] at po
        intro F3 H3 cs3 e3 rv3 s3
        split at po
        · rename_i x hx
          split at po
          · rename_i c hc
            have w1 := view_ok (ra1.mono (e2.trans e3)) rv3 s3 (fun c => by simp only [cnt_append]; omega) hx
            refine cut_ok w1 s3.ex hc fun F4 H4 v4 k4 e4 rc4 s4 => ?_
            exact po F4 H4 v4 k4 cs3 (((e1.trans e2).trans e3).trans e4) rc4 (rv3.mono e4) (s4 _ (s3.sub fun c => by simp only [cnt_append]; omega))
          · exact po.elim
        · exact po.elim
end
end Mi

set_option Elab.async false
set_option linter.all false
set_option maxRecDepth 100000
set_option maxHeartbeats 1000000
/-! Mi: calls of defs, methods. -/
namespace Mi
open PySem L2
section
variable {K : PySem.W.Frag} {mg : MT}
/-- what was lent is known by its slot -/
inductive LB (σ : L2.St) : List (Option Nat) → List V → Prop
  | nil : LB σ [] []
  | no {v : V} {is : List (Option Nat)} {vs : List V} (t : LB σ is vs) : LB σ (none :: is) (v :: vs)
  | yes {i : Nat} {v : V} {is : List (Option Nat)} {vs : List V} (h : σ[i]? = some (some v)) (t : LB σ is vs) : LB σ (some i :: is) (v :: vs)
theorem lend_ok {F H : Hp} {σ : L2.St} {as : List Rf} {vs : List V} {k : List Cell} (ha : RRs K mg F σ as vs k) : ∀ {r r1 : Env} {cs : List (List Cell)} {ds : List C} {is : List (Option Nat)} {R : List Cell},
    RV K mg F r σ cs → Sat mg F H (k ++ (cs.flatten ++ R)) → lend as r = some (ds, r1, is) →
    ∃ ks cs1, RV K mg F (ds.map some) (vs.map some) ks ∧ RV K mg F r1 σ cs1 ∧ LB σ is vs ∧ Sat mg F H (ks.flatten ++ (cs1.flatten ++ R)) := by
  induction ha with
  | nil =>
    intro r r1 cs ds is R rv s e
    cases e
    exact ⟨[], cs, .nil, rv, .nil, s⟩
  | @cons a as v vs k ks h t ih =>
    intro r r1 cs ds is R rv s e
    unfold lend at e
    cases a with
    | tmp c =>
      simp only at e
      split at e
      · rename_i cs' r' is' e1
        cases e
        obtain ⟨ks2, cs2, h1, h2, h3, h4⟩ := ih (R := k ++ R) rv (s.sub fun c => by simp only [cnt_append]; omega) e1
        exact ⟨k :: ks2, cs2, .yes h h1, h2, .no h3, h4.sub fun c => by simp only [List.flatten_cons, cnt_append]; omega⟩
      · cases e
    | slot i =>
      obtain ⟨hs, rfl⟩ := h
      simp only at e
      split at e
      · rename_i d hc
        split at e
        · rename_i cs' r' is' e1
          cases e
          obtain ⟨v', k', g1, g2, g3⟩ := rv.get hc
          rw [hs] at g1
          cases g1
          obtain ⟨ks2, cs2, h1, h2, h3, h4⟩ := ih (R := R) rv (s.sub fun c => by simp only [cnt_append]; omega) e1
          cases g3 with
          | val q => exact ⟨[] :: ks2, cs2, .yes (.val q) h1, h2, .no h3, h4⟩
        · cases e
      · rename_i c0 hnv hc
        split at e
        · rename_i cs' r' is' e1
          cases e
          obtain ⟨v', k', g1, g2, g3⟩ := rv.get hc
          rw [hs] at g1
          cases g1
          obtain ⟨ks2, cs2, h1, h2, h3, h4⟩ := ih (R := k' ++ R) (rv.hide i) (s.sub fun c => by
            have := cnt_set c (k' := []) g2
            simp only [cnt_append, cnt_nil] at this ⊢
            omega) e1
          exact ⟨k' :: ks2, cs2, .yes g3 h1, h2, .yes hs h3, h4.sub fun c => by simp only [List.flatten_cons, cnt_append]; omega⟩
        · cases e
      · cases e
theorem cnt_put (c : Cell) {k' : List Cell} (cs : List (List Cell)) (i : Nat) : cnt c (cs.set i k').flatten ≤ cnt c cs.flatten + cnt c k' := by
  by_cases h : i < cs.length
  · have := cnt_set c (k' := k') (List.getElem?_eq_getElem h)
    omega
  · rw [List.set_eq_of_length_le (by omega)]
    omega
theorem back_ok {F : Hp} {σ : L2.St} {is : List (Option Nat)} {vs : List V} (hl : LB σ is vs) : ∀ {ps r : Env} {ks cs : List (List Cell)}, RV K mg F ps (vs.map some) ks → RV K mg F r σ cs →
    ∃ cs', RV K mg F (back is ps r) σ cs' ∧ ∀ c, cnt c cs'.flatten ≤ cnt c cs.flatten + cnt c ks.flatten := by
  induction hl with
  | nil =>
    intro ps r ks cs h1 h2
    refine ⟨cs, ?_, fun c => by omega⟩
    cases h1
    exact h2
  | no t ih =>
    intro ps r ks cs h1 h2
    rw [List.map_cons] at h1
    cases h1 with
    | no h1 =>
      obtain ⟨cs', g1, g2⟩ := ih h1 h2
      exact ⟨cs', g1, fun c => by have := g2 c; simp only [List.flatten_cons, cnt_append]; omega⟩
    | yes _ h1 =>
      obtain ⟨cs', g1, g2⟩ := ih h1 h2
      exact ⟨cs', g1, fun c => by have := g2 c; simp only [List.flatten_cons, cnt_append]; omega⟩
  | @yes i v is vs h t ih =>
    intro ps r ks cs h1 h2
    rw [List.map_cons] at h1
    cases h1 with
    | no h1 =>
      obtain ⟨cs', g1, g2⟩ := ih h1 (h2.hide i)
      refine ⟨cs', g1, fun c => ?_⟩
      have := g2 c
      have := cnt_put c (k' := []) cs i
      simp only [List.flatten_cons, cnt_append, cnt_nil] at *
      omega
    | @yes c0 _ k _ _ _ hc h1 =>
      obtain ⟨cs', g1, g2⟩ := ih h1 (h2.put h hc)
      refine ⟨cs', g1, fun c => ?_⟩
      have := g2 c
      have := cnt_put c (k' := k) cs i
      simp only [List.flatten_cons, cnt_append] at *
      omega
end
/-! ### a def's promise by its meaning -/
section
variable (K : PySem.W.Frag) (mg : MT)
def PoF (vs : List V) (F : Hp) (R : List Cell) (Q : VK) (E : XK) : FOut → Prop
  | .ok c ps => ∀ F' H' v k cs, Ex F F' → RC K mg F' c v k → RV K mg F' ps (vs.map some) cs → Sat mg F' H' (k ++ (cs.flatten ++ R)) → Q v H'
  | .exn x ps => ∀ F' H' cls d k cs, Ex F F' → RX K mg F' x cls d k → RV K mg F' ps (vs.map some) cs → Sat mg F' H' (k ++ (cs.flatten ++ R)) → E cls d H'
  | .bad => False
def spOf (g : List C → FOut) (n : Nat) : Sp := fun vs H Q E => ∃ F cs R ds, vs.length = n ∧ RV K mg F (ds.map some) (vs.map some) cs ∧ Sat mg F H (cs.flatten ++ R) ∧ PoF K mg vs F R Q E (g ds)
end
theorem rrs_len {K : PySem.W.Frag} {mg : MT} {F : Hp} {σ : L2.St} {as : List Rf} {vs : List V} {k : List Cell} (h : RRs K mg F σ as vs k) : as.length = vs.length := by
  induction h with
  | nil => rfl
  | cons _ _ ih => simp [ih]
theorem callF_snd {Z : Jd} {G : List C → FOut} {n : Nat} {σ : L2.St} {F F1 H1 : Hp} {as : List Rf} {vs : List V} {k1 R : List Cell} {cs1 : List (List Cell)} {r1 : Env} {Q : VK} (e1 : Ex F F1) (ra1 : RRs Z.K Z.mg F1 σ as vs k1) (rv1 : RV Z.K Z.mg F1 r1 σ cs1)
    (s1 : Sat Z.mg F1 H1 (k1 ++ (cs1.flatten ++ R))) (hn : as.length = n) (po : PoE Z.K Z.mg Z.W σ F R Q (callF G as r1)) : spOf Z.K Z.mg G n vs H1 Q (WE Z.W σ) := by
  unfold callF at po
  split at po
  · rename_i ds r2 is hl
    obtain ⟨ks, cs2, g1, g2, g3, g4⟩ := lend_ok ra1 rv1 s1 hl
    refine ⟨F1, ks, cs2.flatten ++ R, ds, ?_, g1, g4, ?_⟩
    · rw [← rrs_len ra1]; exact hn
    · cases ef : G ds with
      | bad => rw [ef] at po; exact po
      | ok c ps =>
        rw [ef] at po
        intro F3 H3 v3 k3 cs3 e3 rc3 rv3 s3
        obtain ⟨cs4, q1, q2⟩ := back_ok g3 rv3 (g2.mono e3)
        exact po F3 H3 v3 k3 cs4 (e1.trans e3) rc3 q1 (s3.sub fun c => by have := q2 c; simp only [cnt_append]; omega)
      | exn x ps =>
        rw [ef] at po
        intro F3 H3 cls d k3 cs3 e3 rx3 rv3 s3
        obtain ⟨cs4, q1, q2⟩ := back_ok g3 rv3 (g2.mono e3)
        exact po F3 H3 cls d k3 cs4 (e1.trans e3) rx3 q1 (s3.sub fun c => by have := q2 c; simp only [cnt_append]; omega)
  · exact po.elim
theorem call_snd {Z : Jd} {p : Pg} {g : SA} {t : TA} {G : List C → FOut} {n : Nat} (sa : SnA Z.K Z.mg Z.W t (g p)) (hn : ∀ r as r', g p r = .ok as r' → as.length = n) :
    SnE Z.K Z.mg Z.W (tCallS (spOf Z.K Z.mg G n) (fun σ => WE Z.W σ) t) (fun r => (g p r).bind fun as r1 => callF G as r1) := by
  intro r0 σ F H cs R Q rv s po
  refine sa r0 σ F H cs R _ rv s ?_
  simp only at po
  cases ea : g p r0 with
  | bad => rw [ea] at po; exact po
  | exn x r1 => rw [ea] at po; exact po
  | ok as r1 =>
    rw [ea] at po
    simp only [Out.bind_ok] at po
    intro F1 H1 vs k1 cs1 e1 ra1 rv1 s1
    exact callF_snd e1 ra1 rv1 s1 (hn r0 as r1 ea) po
theorem ok_call {Z : Jd} {p : Pg} {x : Str} {g : SA} {n : Nat} {es : List Expr} {e : Expr} (hp : ∀ X, Z.G X → ∀ t, PA X es t → PE X e (tCallS (spOf Z.K Z.mg (p.F x) n) (fun σ => WE Z.W σ) t)) (hn : ∀ r as r', g p r = .ok as r' → as.length = n) (ha : OkA Z es (g p)) :
    OkE Z e (eCall x g p) := by
  obtain ⟨ta, pa, sa⟩ := ha
  exact ⟨_, fun X g => hp X g ta (pa X g), call_snd sa hn⟩
/-! with defaults, with keywords -/
inductive FillV (K : PySem.W.Frag) (mg : MT) (F : Hp) : List (Option D) → List V → List V → Prop
  | nil : FillV K mg F [] [] []
  | arg {s : List (Option D)} {v : V} {vs ws : List V} (t : FillV K mg F s vs ws) : FillV K mg F (none :: s) (v :: vs) (v :: ws)
  | dfl {s : List (Option D)} {d : D} {v : V} {vs ws : List V} (h : RD K mg F d v) (t : FillV K mg F s vs ws) : FillV K mg F (some d :: s) vs (v :: ws)
theorem pick_ok {K : PySem.W.Frag} {mg : MT} {F : Hp} {σ : L2.St} {s : List (Option D)} {vs ws : List V} (h : FillV K mg F s vs ws) : ∀ {as bs : List Rf} {k : List Cell}, RRs K mg F σ as vs k → pick s as = some bs → RRs K mg F σ bs ws k ∧ bs.length = s.length := by
  induction h with
  | nil =>
    intro as bs k ra e
    cases ra
    cases e
    exact ⟨.nil, rfl⟩
  | arg t ih =>
    intro as bs k ra e
    cases ra with
    | @cons a as _ _ k1 k2 h1 h2 =>
      unfold pick at e
      cases e1 : pick _ as with
      | none => rw [e1] at e; cases e
      | some cs =>
        rw [e1] at e
        cases e
        obtain ⟨q1, q2⟩ := ih h2 e1
        exact ⟨.cons h1 q1, by simp [q2]⟩
  | dfl h t ih =>
    intro as bs k ra e
    unfold pick at e
    cases e1 : pick _ as with
    | none => rw [e1] at e; cases e
    | some cs =>
      rw [e1] at e
      cases e
      obtain ⟨q1, q2⟩ := ih ra e1
      exact ⟨.cons (k := []) (.val h) q1, by simp [q2]⟩
theorem rrs_mono {K : PySem.W.Frag} {mg : MT} {F F' : Hp} {σ : L2.St} {as : List Rf} {vs : List V} {k : List Cell} (e : Ex F F') (h : RRs K mg F σ as vs k) : RRs K mg F' σ as vs k := by
  induction h with
  | nil => exact .nil
  | cons h t ih => exact .cons (h.mono e) ih
theorem rrs_app {K : PySem.W.Frag} {mg : MT} {F : Hp} {σ : L2.St} {as bs : List Rf} {vs ws : List V} {k k' : List Cell} (h : RRs K mg F σ as vs k) (h' : RRs K mg F σ bs ws k') : RRs K mg F σ (as ++ bs) (vs ++ ws) (k ++ k') := by
  induction h with
  | nil => exact h'
  | cons h t ih => rw [List.append_assoc]; exact .cons h ih
theorem sn_callS {Z : Jd} {p : Pg} {x : Str} {g : SA} {n : Nat} {src : List (Option D)} {dvs : List V} {t : TA} (hn : ∀ r as r', g p r = .ok as r' → as.length = n)
    (hf : ∀ F vs, vs.length = n → FillV Z.K Z.mg F src vs (vs ++ dvs)) (sa : SnA Z.K Z.mg Z.W t (g p)) : SnE Z.K Z.mg Z.W (tCallSD (spOf Z.K Z.mg (p.F x) src.length) dvs (fun σ => WE Z.W σ) t) (eCallS x src g p) := by
  intro r0 σ F H cs R Q rv s po
  unfold eCallS at po
  refine sa r0 σ F H cs R _ rv s ?_
  cases ea : g p r0 with
  | bad => rw [ea] at po; exact po
  | exn x r1 => rw [ea] at po; exact po
  | ok as r1 =>
    rw [ea] at po
    simp only [Out.bind_ok] at po
    intro F1 H1 vs k1 cs1 e1 ra1 rv1 s1
    split at po
    · rename_i bs hb
      obtain ⟨q1, q2⟩ := pick_ok (hf F1 vs (by rw [← rrs_len ra1]; exact hn r0 as r1 ea)) ra1 hb
      exact callF_snd e1 q1 rv1 s1 q2 po
    · exact po.elim
theorem ok_callS {Z : Jd} {p : Pg} {x : Str} {g : SA} {n : Nat} {src : List (Option D)} {dvs : List V} {es : List Expr} {e : Expr} (hp : ∀ X, Z.G X → ∀ t, PA X es t → PE X e (tCallSD (spOf Z.K Z.mg (p.F x) src.length) dvs (fun σ => WE Z.W σ) t)) (hn : ∀ r as r', g p r = .ok as r' → as.length = n)
    (hf : ∀ F vs, vs.length = n → FillV Z.K Z.mg F src vs (vs ++ dvs)) (ha : OkA Z es (g p)) : OkE Z e (eCallS x src g p) := by
  obtain ⟨ta, pa, sa⟩ := ha
  exact ⟨_, fun X g => hp X g ta (pa X g), sn_callS hn hf sa⟩
def OkK (Z : Jd) (kws : List Keyword) (f : Env → Out (List Rf)) : Prop := ∃ t, (∀ X, Z.G X → PK X kws t) ∧ SnA Z.K Z.mg Z.W t f
def tCallSN (n m : Nat) (sp : Sp) (gV : List V → List V → List V) (E : L2.St → XK) (t tk : TA) : TE := fun σ H Q => t σ H fun vs H1 => tk σ H1 fun zs H2 => vs.length = n ∧ zs.length = m ∧ sp (gV vs zs) H2 Q (E σ)
theorem ok_callK {Z : Jd} {p : Pg} {x : Str} {g gk : SA} {n m : Nat} {src : List (Option D)} {gV : List V → List V → List V} {es : List Expr} {kws : List Keyword} {e : Expr}
    (hp : ∀ X, Z.G X → ∀ t tk, PA X es t → PK X kws tk → PE X e (tCallSN n m (spOf Z.K Z.mg (p.F x) src.length) gV (fun σ => WE Z.W σ) t tk)) (hn : ∀ r as r', g p r = .ok as r' → as.length = n) (hm : ∀ r as r', gk p r = .ok as r' → as.length = m)
    (hf : ∀ F vs zs, vs.length = n → zs.length = m → FillV Z.K Z.mg F src (vs ++ zs) (gV vs zs)) (ha : OkA Z es (g p)) (hk : OkK Z kws (gk p)) : OkE Z e (eCallK x src g gk p) := by
  obtain ⟨ta, pa, sa⟩ := ha
  obtain ⟨tk, pk, sk⟩ := hk
  refine ⟨_, fun X g => hp X g ta tk (pa X g) (pk X g), fun r0 σ F H cs R Q rv s po => ?_⟩
  unfold eCallK at po
  refine sa r0 σ F H cs R _ rv s ?_
  cases ea : g p r0 with
  | bad => rw [ea] at po; exact po
  | exn x r1 => rw [ea] at po; exact po
  | ok as r1 =>
    rw [ea] at po
    simp only [Out.bind_ok] at po
    intro F1 H1 vs k1 cs1 e1 ra1 rv1 s1
    refine sk r1 σ F1 H1 cs1 (k1 ++ R) _ rv1 (s1.sub fun c => by simp only [cnt_append]; omega) ?_
    cases eb : gk p r1 with
    | bad => rw [eb] at po; exact po
    | exn x r2 => rw [eb] at po; exact PoX.back e1 po fun c => by simp only [cnt_append]; omega
    | ok bs r2 =>
      rw [eb] at po
      simp only [Out.bind_ok] at po
      intro F2 H2 zs k2 cs2 e2 rb2 rv2 s2
      have l1 : vs.length = n := by rw [← rrs_len ra1]; exact hn r0 as r1 ea
      have l2 : zs.length = m := by rw [← rrs_len rb2]; exact hm r1 bs r2 eb
      refine ⟨l1, l2, ?_⟩
      split at po
      · rename_i ds hb
        obtain ⟨q1, q2⟩ := pick_ok (hf F2 vs zs l1 l2) (rrs_app (rrs_mono e2 ra1) rb2) hb
        exact callF_snd (e1.trans e2) q1 rv2 (s2.sub fun c => by simp only [cnt_append]; omega) q2 po
      · exact po.elim
theorem okk_nil {Z : Jd} {p : Pg} : OkK Z [] (eNil p) := ⟨tNil, fun _ _ => pk_nil, fun r σ F H cs R Q rv s po => po F H [] [] cs (Ex.refl F) .nil rv s⟩
theorem okk_cons {Z : Jd} {p : Pg} {e : Expr} {nm : Option Str} {kpos : Pos} {kws : List Keyword} {f : SE} {g : SA} (ha : OkE Z e (f p)) (hb : OkK Z kws (g p)) : OkK Z (⟨nm, e, kpos⟩ :: kws) (eCons f g p) := by
  obtain ⟨ta, pa, sa⟩ := ha
  obtain ⟨tb, pb, sb⟩ := hb
  refine ⟨_, fun X g => pk_cons (pa X g) (pb X g), fun r0 σ F H cs R Q rv s po => ?_⟩
  unfold eCons at po
  refine sa r0 σ F H cs R _ rv s ?_
  cases ea : f p r0 with
  | bad => rw [ea] at po; exact po
  | exn x r1 => rw [ea] at po; exact po
  | ok a1 r1 =>
    rw [ea] at po
    simp only [Out.bind_ok] at po
    intro F1 H1 v1 k1 cs1 e1 ra1 rv1 s1
    refine sb r1 σ F1 H1 cs1 (k1 ++ R) _ rv1 (s1.sub fun c => by simp only [cnt_append]; omega) ?_
    cases eb : g p r1 with
    | bad => rw [eb] at po; exact po
    | exn x r2 => rw [eb] at po; exact PoX.back e1 po fun c => by simp only [cnt_append]; omega
    | ok b1 r2 =>
      rw [eb] at po
      simp only [Out.bind_ok] at po
      intro F2 H2 v2 k2 cs2 e2 rb2 rv2 s2
      exact po F2 H2 _ _ cs2 (e1.trans e2) (.cons (ra1.mono e2) rb2) rv2 (s2.sub fun c => by simp only [cnt_append]; omega)
/-! ### a text's methods -/
def MtS2 (K : PySem.W.Frag) (mg : MT) (m : SM) (r : V → List V → Hp → VK → Prop) : Prop :=
  ∀ F H s ds vs c Q, ds.length = vs.length → (∀ (i : Nat) (d : D) (v : V), ds[i]? = some d → vs[i]? = some v → VW K mg F H d v) → Ex F H → mtS m s ds = some c → NewC K mg F H c Q → r (.str s) vs H Q
theorem ok_mt {Z : Jd} {p : Pg} {m : SM} {r : V → List V → Hp → VK → Prop} {f : SE} {g : SA} {a e : Expr} {es : List Expr} (ho : MtS2 Z.K Z.mg m r) (hp : ∀ X, Z.G X → ∀ ta t, PE X a ta → PA X es t → PE X e (tBM Z.K "str" r ta t))
    (ha : OkE Z a (f p)) (hb : OkA Z es (g p)) : OkE Z e (eMt m f g p) := by
  obtain ⟨ta, pa, sa⟩ := ha
  obtain ⟨tb, pb, sb⟩ := hb
  refine ⟨_, fun X g => hp X g ta tb (pa X g) (pb X g), fun r0 σ F H cs R Q rv s po => ?_⟩
  unfold eMt at po
  refine sa r0 σ F H cs R _ rv s ?_
  cases ea : f p r0 with
  | bad => rw [ea] at po; exact po
  | exn x r1 => rw [ea] at po; exact po
  | ok a1 r1 =>
    rw [ea] at po
    simp only [Out.bind_ok] at po
    intro F1 H1 v1 k1 cs1 e1 ra1 rv1 s1
    split at po
    · rename_i z hx
      have w1 := view_ok ra1 rv1 s1 (fun c => by simp only [cnt_append]; omega) hx
      cases w1.str
      refine ⟨rfl, sb r1 σ F1 H1 cs1 R _ rv1 (s1.sub fun c => by simp only [cnt_append]; omega) ?_⟩
      cases eb : g p r1 with
      | bad => rw [eb] at po; exact po
      | exn x r2 => rw [eb] at po; exact PoX.back e1 po fun c => Nat.le_refl _
      | ok b1 r2 =>
        rw [eb] at po
        simp only [Out.bind_ok] at po
        intro F2 H2 v2 k2 cs2 e2 rb2 rv2 s2
        split at po
        · rename_i ds hd
          split at po
          · rename_i c hc
            obtain ⟨l, w2⟩ := views_ok rb2 rv2 s2 (fun c => by simp only [cnt_append]; omega) hd
            refine ho F2 H2 z ds v2 c Q l w2 s2.ex hc fun F3 H3 v3 k3 e3 rc3 s3 => ?_
            exact po F3 H3 v3 k3 cs2 ((e1.trans e2).trans e3) rc3 (rv2.mono e3) (s3 _ (s2.sub fun c => by simp only [cnt_append]; omega))
          · exact po.elim
        · exact po.elim
    · exact po.elim
theorem ok_mt0 {Z : Jd} {p : Pg} {m : SM} {r : V → List V → Hp → VK → Prop} {f : SE} {a e : Expr} (ho : MtS2 Z.K Z.mg m r) (hp : ∀ X, Z.G X → ∀ ta, PE X a ta → PE X e (tBM0 Z.K "str" r ta)) (ha : OkE Z a (f p)) : OkE Z e (eMt m f eNil p) := by
  obtain ⟨ta, pa, sa⟩ := ha
  refine ⟨_, fun X g => hp X g ta (pa X g), fun r0 σ F H cs R Q rv s po => ?_⟩
  unfold eMt at po
  refine sa r0 σ F H cs R _ rv s ?_
  cases ea : f p r0 with
  | bad => rw [ea] at po; exact po
  | exn x r1 => rw [ea] at po; exact po
  | ok a1 r1 =>
    rw [ea] at po
    simp only [Out.bind_ok] at po
    intro F1 H1 v1 k1 cs1 e1 ra1 rv1 s1
    split at po
    · rename_i z hx
      have w1 := view_ok ra1 rv1 s1 (fun c => by simp only [cnt_append]; omega) hx
      cases w1.str
      refine ⟨rfl, ?_⟩
      simp only [eNil, Out.bind_ok, views] at po
      split at po
      · rename_i c hc
        refine ho F1 H1 z [] [] c Q rfl (fun i d v h => by simp at h) s1.ex hc fun F3 H3 v3 k3 e3 rc3 s3 => ?_
        exact po F3 H3 v3 k3 cs1 (e1.trans e3) rc3 (rv1.mono e3) (s3 _ (s1.sub fun c => by simp only [cnt_append]; omega))
      · exact po.elim
    · exact po.elim
section
variable {K : PySem.W.Frag} {mg : MT}
theorem mts_upper : MtS2 K mg .upper (fun x xs H Q => ∃ a, x = .str a ∧ xs = [] ∧ a.length ≤ 5592405 ∧ Q (.str (Txt.upper a)) H) := by
  intro F H s ds vs c Q l w ex hc new
  cases ds with
  | nil =>
    cases vs with
    | nil =>
      simp only [mtS] at hc
      obtain ⟨hz, rfl⟩ := ite_some hc
      exact ⟨s, rfl, rfl, of_decide_eq_true hz, new.flat (.str _)⟩
    | cons _ _ => cases l
  | cons d ds => cases d <;> simp [mtS] at hc
/-- one text as the argument -/
theorem mts_one {m : SM} {r : V → List V → Hp → VK → Prop} {g : Str → Str → Option C} (h0 : ∀ s, mtS m s [] = none) (h1 : ∀ s d ds, mtS m s (d :: ds) = match d, ds with | .str b, [] => g s b | _, _ => none)
    (hr : ∀ F H s b c Q, Ex F H → g s b = some c → NewC K mg F H c Q → r (.str s) [.str b] H Q) : MtS2 K mg m r := by
  intro F H s ds vs c Q l w ex hc new
  match ds, l, w, hc with
  | [], _, _, hc => rw [h0] at hc; cases hc
  | [.str b], l, w, hc =>
    obtain ⟨v, rfl, hv⟩ := one_of l w
    cases hv.str
    rw [h1] at hc
    exact hr F H s b c Q ex hc new
  | [.non], _, _, hc => rw [h1] at hc; cases hc
  | [.bl _], _, _, hc => rw [h1] at hc; cases hc
  | [.int _], _, _, hc => rw [h1] at hc; cases hc
  | [.tup _], _, _, hc => rw [h1] at hc; cases hc
  | [.lst _], _, _, hc => rw [h1] at hc; cases hc
  | [.fn _], _, _, hc => rw [h1] at hc; cases hc
  | [.ty _], _, _, hc => rw [h1] at hc; cases hc
  | [.scr _], _, _, hc => rw [h1] at hc; cases hc
  | [.dct _ _], _, _, hc => rw [h1] at hc; cases hc
  | [.dic _ _], _, _, hc => rw [h1] at hc; cases hc
  | [.opq], _, _, hc => rw [h1] at hc; cases hc
  | d :: d' :: ds, _, _, hc => rw [h1] at hc; cases d <;> cases hc
theorem mts_starts : MtS2 K mg .starts (fun x xs H Q => ∃ a b, x = .str a ∧ xs = [.str b] ∧ Q (.bl (Txt.startswith a b)) H) :=
  mts_one (g := fun s b => some (blV (Txt.startswith s b))) (fun _ => rfl) (fun s d ds => by cases d <;> cases ds <;> rfl) fun F H s b c Q ex hc new => by
    cases hc
    exact ⟨s, b, rfl, rfl, new.flat (.bl _)⟩
theorem mts_find : MtS2 K mg .find (fun x xs H Q => ∃ a b, x = .str a ∧ xs = [.str b] ∧ Q (.int (Txt.find a b)) H) :=
  mts_one (g := fun s b => some (intV (Txt.find s b))) (fun _ => rfl) (fun s d ds => by cases d <;> cases ds <;> rfl) fun F H s b c Q ex hc new => by
    cases hc
    exact ⟨s, b, rfl, rfl, new.flat (.int _)⟩
theorem mts_index : MtS2 K mg .index (fun x xs H Q => ∃ a b i rest, x = .str a ∧ xs = [.str b] ∧ Builtin.Str.occurrences a b 0 a.length 1 = i :: rest ∧ Q (.int (i : Nat)) H) :=
  mts_one (g := fun s b => match Builtin.Str.occurrences s b 0 s.length 1 with
    | i :: _ => some (intV (i : Nat))
    | [] => none) (fun _ => rfl) (fun s d ds => by cases d <;> cases ds <;> rfl) fun F H s b c Q ex hc new => by
    split at hc
    · rename_i i rest e
      cases hc
      exact ⟨s, b, i, rest, rfl, rfl, e, new.flat (.int _)⟩
    · cases hc
theorem mts_join : MtS2 K mg .join (fun x xs H Q => ∃ a p, ∃ ys : List Str, x = .str a ∧ xs = [.ref p] ∧ (SqL K H p (ys.map V.str) ∨ SqT K H p (ys.map V.str)) ∧
    (ys.map (·.length)).sum + ys.length * a.length ≤ 16777216 ∧ Q (.str (Txt.join a ys)) H) := by
  intro F H s ds vs c Q l w ex hc new
  match ds, l, w, hc with
  | [.lst xs], l, w, hc =>
    obtain ⟨v, rfl, hv⟩ := one_of l w
    obtain ⟨a, vs, rfl, h1, r1⟩ := hv.lst ex
    simp only [mtS] at hc
    cases e : allStr xs with
    | none => rw [e] at hc; cases hc
    | some ys =>
      rw [e] at hc
      simp only at hc
      obtain ⟨hz, rfl⟩ := ite_some hc
      have := r1.strs e
      subst this
      exact ⟨s, a, ys, rfl, rfl, .inl (SqL.of h1), of_decide_eq_true hz, new.flat (.str _)⟩
  | [], _, _, hc => cases hc
  | [.str b], _, _, hc => cases hc
  | [.non], _, _, hc => cases hc
  | [.bl _], _, _, hc => cases hc
  | [.int _], _, _, hc => cases hc
  | [.tup _], _, _, hc => cases hc
  | [.fn _], _, _, hc => cases hc
  | [.ty _], _, _, hc => cases hc
  | [.scr _], _, _, hc => cases hc
  | d :: d' :: ds, _, _, hc => cases d <;> cases hc
/-! ### a list's methods -/
def ChS (K : PySem.W.Frag) (mg : MT) (m : LM) (r : V → List V → Hp → VK → Prop) : Prop :=
  ∀ F H a xs us ds vs d ys Q, H a = some (.lst us) → RDs K mg F xs us → RDs K mg F ds vs → Ex F H → chL m xs ds = some (d, ys) → (∀ us' w, RDs K mg F ys us' → RD K mg F d w → Q w (upd H a (.lst us'))) → r (.ref a) vs H Q
theorem chs_append : ChS K mg .append rAppend := by
  intro F H a xs us ds vs d ys Q ha rx rd ex hc q
  match ds, rd, hc with
  | [], _, hc => cases hc
  | _ :: _ :: _, _, hc => cases hc
  | [y], .cons r .nil, hc =>
    simp only [chL] at hc
    obtain ⟨hz, e⟩ := ite_some hc
    cases e
    exact ⟨a, us, _, rfl, rfl, ha, by rw [← rx.len]; exact of_decide_eq_true hz, q _ _ (rx.snoc r) .non⟩
theorem chs_extend : ChS K mg .extend rExtend := by
  intro F H a xs us ds vs d ys Q ha rx rd ex hc q
  match ds, rd, hc with
  | [], _, hc => cases hc
  | e :: _ :: _, _, hc => cases e <;> cases hc
  | [y], .cons r .nil, hc =>
    cases y <;> first | (simp [chL] at hc; done) | skip
    simp only [chL] at hc
    obtain ⟨hz, e⟩ := ite_some hc
    cases e
    cases r with
    | lst h r2 => exact ⟨a, _, us, _, rfl, rfl, ha, ex _ _ h, by rw [← rx.len, ← r2.len]; exact szOk_le hz, q _ _ (rx.app r2) .non⟩
theorem chs_clear : ChS K mg .clear rClear := by
  intro F H a xs us ds vs d ys Q ha rx rd ex hc q
  match ds, rd, hc with
  | [], .nil, hc =>
    cases hc
    exact ⟨a, us, rfl, rfl, ha, q _ _ .nil .non⟩
  | _ :: _, _, hc => cases hc
theorem chs_reverse : ChS K mg .reverse rReverse := by
  intro F H a xs us ds vs d ys Q ha rx rd ex hc q
  match ds, rd, hc with
  | [], .nil, hc =>
    cases hc
    exact ⟨a, us, rfl, rfl, ha, q _ _ rx.rev .non⟩
  | _ :: _, _, hc => cases hc
theorem chs_pop : ChS K mg .pop rPop := by
  intro F H a xs us ds vs d ys Q ha rx rd ex hc q
  match ds, rd, hc with
  | [], .nil, hc =>
    simp only [chL] at hc
    split at hc
    · rename_i y hy
      cases hc
      obtain ⟨w, h1, h2⟩ := rx.get hy
      exact ⟨a, us, w, rfl, rfl, ha, by rw [← rx.len]; exact h1, q _ _ rx.dropLast h2⟩
    · cases hc
  | _ :: _, _, hc => cases hc
end
section
variable {Z : Jd} {p : Pg}
theorem chl_fin {F H : Hp} {σ : L2.St} {r : Env} {cs : List (List Cell)} {R : List Cell} {i : Nat} {xs : List D} (hr : RV Z.K Z.mg F r σ cs) (s : Sat Z.mg F H (cs.flatten ++ R)) (hi : r[i]? = some (some (.ls xs))) :
    ∃ a us, σ[i]? = some (some (.ref a)) ∧ H a = some (.lst us) ∧ RDs Z.K Z.mg F xs us ∧ ∀ ys us', RDs Z.K Z.mg F ys us' → ∃ cs', RV Z.K Z.mg F (r.set i (some (.ls ys))) σ cs' ∧ Sat Z.mg F (upd H a (.lst us')) (cs'.flatten ++ R) := by
  obtain ⟨v, k, h1, h2, h3⟩ := hr.get hi
  cases h3 with
  | @ls a ds us q =>
    have s1 : Sat Z.mg F H ((a, .lst us) :: ((cs.set i []).flatten ++ R)) := s.sub fun c => by
      have := cnt_set c (k' := []) h2
      rw [cnt_cons]
      simp only [cnt_append, cnt_nil] at this ⊢
      omega
    refine ⟨a, us, h1, s1.own (a, .lst us) (by rw [cnt_cons, cnt_one]; omega), q, fun ys us' q' => ⟨cs.set i [(a, .lst us')], hr.put h1 (.ls q'), s1.put.sub fun c => ?_⟩⟩
    have g1 := cnt_set c (k' := []) h2
    have g2 := cnt_set c (k' := [(a, HO.lst us')]) h2
    rw [cnt_cons c (a, HO.lst us') _]
    simp only [cnt_append, cnt_nil] at g1 g2 ⊢
    omega
theorem dcl_fin {F H : Hp} {σ : L2.St} {r : Env} {cs : List (List Cell)} {R : List Cell} {i : Nat} {ks xs : List D} (hr : RV Z.K Z.mg F r σ cs) (s : Sat Z.mg F H (cs.flatten ++ R)) (hi : r[i]? = some (some (.dc ks xs))) :
    ∃ a o, σ[i]? = some (some (.ref a)) ∧ H a = some o ∧ DR Z.K Z.mg F ks xs a o ∧ ∀ ks' xs' o', DR Z.K Z.mg F ks' xs' a o' → ∃ cs', RV Z.K Z.mg F (r.set i (some (.dc ks' xs'))) σ cs' ∧ Sat Z.mg F (upd H a o') (cs'.flatten ++ R) := by
  obtain ⟨v, k, h1, h2, h3⟩ := hr.get hi
  cases h3 with
  | @dc a o _ _ q =>
    have s1 : Sat Z.mg F H ((a, o) :: ((cs.set i []).flatten ++ R)) := s.sub fun c => by
      have := cnt_set c (k' := []) h2
      rw [cnt_cons]
      simp only [cnt_append, cnt_nil] at this ⊢
      omega
    refine ⟨a, o, h1, s1.own (a, o) (by rw [cnt_cons, cnt_one]; omega), q, fun ks' xs' o' q' => ⟨cs.set i [(a, o')], hr.put h1 (.dc q'), (s1.put q'.tbl).sub fun c => ?_⟩⟩
    have g1 := cnt_set c (k' := []) h2
    have g2 := cnt_set c (k' := [(a, o')]) h2
    rw [cnt_cons c (a, o') _]
    simp only [cnt_append, cnt_nil] at g1 g2 ⊢
    omega
theorem ok_chl {m : LM} {rd : V → List V → Hp → VK → Prop} {i : Nat} {g : SA} {e : Expr} {es : List Expr} (ho : ChS Z.K Z.mg m rd) (hp : ∀ X, Z.G X → ∀ t, PA X es t → PE X e (tBM Z.K "list" rd (tVar i) t)) (hb : OkA Z es (g p)) : OkE Z e (eChL m i g p) := by
  obtain ⟨tb, pb, sb⟩ := hb
  refine ⟨_, fun X g => hp X g tb (pb X g), fun r0 σ F H cs R Q rv s po => ?_⟩
  unfold eChL at po
  split at po
  · rename_i xs0 hi
    obtain ⟨a, us, h1, h2, h3, _⟩ := chl_fin rv s hi
    refine ⟨.ref a, h1, .inl ⟨rfl, us, SqL.of h2⟩, ?_⟩
    refine sb r0 σ F H cs R _ rv s ?_
    cases eb : g p r0 with
    | bad => rw [eb] at po; exact po
    | exn x r2 => rw [eb] at po; exact po
    | ok as r1 =>
      rw [eb] at po
      simp only [Out.bind_ok] at po
      intro F1 H1 vs k1 cs1 e1 ra1 rv1 s1
      split at po
      · rename_i ds r2 hz
        obtain ⟨F2, cs2, e2, rds, rv2, s2⟩ := fzs_ok ra1 rv1 s1 hz
        split at po
        · rename_i xs hj
          split at po
          · rename_i d ys hc
            obtain ⟨a', us', g1, g2, g3, g4⟩ := chl_fin rv2 s2 hj
            rw [h1] at g1
            cases g1
            refine ho F2 H1 a xs us' ds vs d ys Q g2 g3 rds s2.ex hc fun us2 w q1 q2 => ?_
            obtain ⟨cs3, q3, q4⟩ := g4 ys us2 q1
            exact po F2 _ w [] cs3 (e1.trans e2) (.val q2) q3 q4
          · exact po.elim
        · exact po.elim
      · exact po.elim
  · exact po.elim
theorem ok_chl0 {m : LM} {rd : V → List V → Hp → VK → Prop} {i : Nat} {e : Expr} (ho : ChS Z.K Z.mg m rd) (hp : ∀ X, Z.G X → PE X e (tBM0 Z.K "list" rd (tVar i))) : OkE Z e (eChL m i eNil p) := by
  refine ⟨_, hp, fun r0 σ F H cs R Q rv s po => ?_⟩
  unfold eChL at po
  split at po
  · rename_i xs0 hi
    obtain ⟨a, us, h1, h2, h3, g4⟩ := chl_fin rv s hi
    refine ⟨.ref a, h1, .inl ⟨rfl, us, SqL.of h2⟩, ?_⟩
    simp only [eNil, Out.bind_ok, fzs] at po
    rw [hi] at po
    simp only at po
    split at po
    · rename_i d ys hc
      refine ho F H a xs0 us [] [] d ys Q h2 h3 .nil s.ex hc fun us2 w q1 q2 => ?_
      obtain ⟨cs3, q3, q4⟩ := g4 ys us2 q1
      exact po F _ w [] cs3 (Ex.refl F) (.val q2) q3 q4
    · exact po.elim
  · exact po.elim
end
end Mi

set_option Elab.async false
set_option linter.all false
set_option maxRecDepth 100000
set_option maxHeartbeats 1000000
/-! Mi: statements, loops, comprehensions. -/
namespace Mi
open PySem L2
/-- the slots that are never stored hold what they held -/
structure Pin (io : Nat → Bool) (σ σ' : L2.St) : Prop where
  len : σ'.length = σ.length
  get : ∀ i, io i = true → σ'[i]? = σ[i]?
theorem Pin.refl (io : Nat → Bool) (σ : L2.St) : Pin io σ σ := ⟨rfl, fun _ _ => rfl⟩
theorem Pin.trans {io : Nat → Bool} {σ σ1 σ2 : L2.St} (a : Pin io σ σ1) (b : Pin io σ1 σ2) : Pin io σ σ2 := ⟨b.len.trans a.len, fun i h => (b.get i h).trans (a.get i h)⟩
theorem Pin.set {io : Nat → Bool} {σ : L2.St} {i : Nat} {o : Option V} (h : io i = false) : Pin io σ (σ.set i o) := ⟨by simp, fun j hj => by
  have : i ≠ j := fun e => by subst e; rw [h] at hj; cases hj
  rw [List.getElem?_set_ne this]⟩
section
variable (K : PySem.W.Frag) (mg : MT) (W : WX) (io : Nat → Bool) (σ : L2.St) (F : Hp) (R : List Cell) (D : Ends)
def PoS : Out Fl → Prop
  | .ok .nx r => ∀ σ' F' H' cs, Ex F F' → RV K mg F' r σ' cs → Pin io σ σ' → Sat mg F' H' (cs.flatten ++ R) → D.nx σ' H'
  | .ok .brk r => ∀ σ' F' H' cs, Ex F F' → RV K mg F' r σ' cs → Pin io σ σ' → Sat mg F' H' (cs.flatten ++ R) → D.bk σ' H'
  | .ok .ct r => ∀ σ' F' H' cs, Ex F F' → RV K mg F' r σ' cs → Pin io σ σ' → Sat mg F' H' (cs.flatten ++ R) → D.ct σ' H'
  | .ok (.ret c) r => ∀ σ' F' H' v k cs, Ex F F' → RC K mg F' c v k → RV K mg F' r σ' cs → Pin io σ σ' → Sat mg F' H' (k ++ (cs.flatten ++ R)) → D.rt v H'
  | .exn x r => ∀ σ' F' H' cls d k cs, Ex F F' → RX K mg F' x cls d k → RV K mg F' r σ' cs → Pin io σ σ' → Sat mg F' H' (k ++ (cs.flatten ++ R)) → W cls d σ' H'
  | .bad => False
end
theorem PoS.back {K : PySem.W.Frag} {mg : MT} {W : WX} {io : Nat → Bool} {σ σ' : L2.St} {F F' : Hp} {R R' : List Cell} {D : Ends} {o : Out Fl} (e : Ex F F') (pn : Pin io σ σ') (h : PoS K mg W io σ F R D o) (hR : ∀ c, cnt c R ≤ cnt c R') : PoS K mg W io σ' F' R' D o := by
  cases o with
  | bad => exact h
  | exn x r => exact fun σ2 F2 H2 cls d k cs e2 rx rv p2 s => h σ2 F2 H2 cls d k cs (e.trans e2) rx rv (pn.trans p2) (s.sub fun c => by have := hR c; simp only [cnt_append]; omega)
  | ok f r =>
    cases f with
    | nx => exact fun σ2 F2 H2 cs e2 rv p2 s => h σ2 F2 H2 cs (e.trans e2) rv (pn.trans p2) (s.sub fun c => by have := hR c; simp only [cnt_append]; omega)
    | brk => exact fun σ2 F2 H2 cs e2 rv p2 s => h σ2 F2 H2 cs (e.trans e2) rv (pn.trans p2) (s.sub fun c => by have := hR c; simp only [cnt_append]; omega)
    | ct => exact fun σ2 F2 H2 cs e2 rv p2 s => h σ2 F2 H2 cs (e.trans e2) rv (pn.trans p2) (s.sub fun c => by have := hR c; simp only [cnt_append]; omega)
    | ret c => exact fun σ2 F2 H2 v k cs e2 rc rv p2 s => h σ2 F2 H2 v k cs (e.trans e2) rc rv (pn.trans p2) (s.sub fun c => by have := hR c; simp only [cnt_append]; omega)
/-- an exception of an expression within a statement -/
theorem PoS.px {K : PySem.W.Frag} {mg : MT} {W : WX} {io : Nat → Bool} {σ : L2.St} {F : Hp} {R : List Cell} {D : Ends} {x : Exc} {r : Env} (h : PoS K mg W io σ F R D (.exn x r)) : PoX K mg W σ F R x r :=
  fun F' H' cls d k cs e rx rv s => h σ F' H' cls d k cs e rx rv (Pin.refl io σ) s
def SnS (K : PySem.W.Frag) (mg : MT) (W : WX) (io : Nat → Bool) (t : TS) (f : Env → Out Fl) : Prop :=
  ∀ r σ F H cs R D, RV K mg F r σ cs → Sat mg F H (cs.flatten ++ R) → PoS K mg W io σ F R D (f r) → t D σ H
def OkS (Z : Jd) (io : Nat → Bool) (st : Stmt) (f : Env → Out Fl) : Prop := ∃ t, (∀ X, Z.G X → PS X st t) ∧ SnS Z.K Z.mg Z.W io t f
def OkB (Z : Jd) (io : Nat → Bool) (st : List Stmt) (f : Env → Out Fl) : Prop := ∃ t, (∀ X, Z.G X → PSs X st t) ∧ SnS Z.K Z.mg Z.W io t f
/-- a target's store -/
def SnG (K : PySem.W.Frag) (mg : MT) (io : Nat → Bool) (t : TG) (g : SG) : Prop :=
  ∀ d v F H σ r cs R r' (Q : L2.St → Hp → Prop), RD K mg F d v → RV K mg F r σ cs → Sat mg F H (cs.flatten ++ R) → g d r = some r' →
    (∀ σ' F' H' cs', Ex F F' → RV K mg F' r' σ' cs' → Pin io σ σ' → σ'.length = σ.length → Sat mg F' H' (cs'.flatten ++ R) → Q σ' H') → t v σ H Q
def SnGs (K : PySem.W.Frag) (mg : MT) (io : Nat → Bool) (t : TGs) (g : List D → Env → Option Env) : Prop :=
  ∀ ds vs F H σ r cs R r' (Q : L2.St → Hp → Prop), RDs K mg F ds vs → RV K mg F r σ cs → Sat mg F H (cs.flatten ++ R) → g ds r = some r' →
    (∀ σ' F' H' cs', Ex F F' → RV K mg F' r' σ' cs' → Pin io σ σ' → σ'.length = σ.length → Sat mg F' H' (cs'.flatten ++ R) → Q σ' H') → t vs σ H Q
section
variable {K : PySem.W.Frag} {mg : MT} {io : Nat → Bool}
theorem sng_name {i : Nat} (h : io i = false) : SnG K mg io (L2.gName i) (gName i) := by
  intro d v F H σ r cs R r' Q rd rv s e q
  cases e
  exact q _ F H _ (Ex.refl F) (rv.set i (.val rd)) (Pin.set h) (by simp) (s.sub fun c => by have := cnt_put c (k' := []) cs i; simp only [cnt_append, cnt_nil] at *; omega)
theorem sng_nil : SnGs K mg io L2.gNil gNil := by
  intro ds vs F H σ r cs R r' Q rd rv s e q
  cases rd with
  | nil =>
    cases e
    exact ⟨rfl, q _ F H _ (Ex.refl F) rv (Pin.refl io _) rfl s⟩
  | cons _ _ => cases e
theorem sng_cons {t : TG} {u : TGs} {g : SG} {h : List D → Env → Option Env} (h1 : SnG K mg io t g) (h2 : SnGs K mg io u h) : SnGs K mg io (L2.gCons t u) (gCons g h) := by
  intro ds vs F H σ r cs R r' Q rd rv s e q
  cases rd with
  | nil => cases e
  | cons r1 rs =>
    simp only [gCons] at e
    split at e
    · rename_i r1' e1
      refine ⟨_, _, rfl, h1 _ _ F H σ _ cs R r1' _ r1 rv s e1 fun σ1 F1 H1 cs1 e1 rv1 p1 l1 s1 => ?_⟩
      exact h2 _ _ F1 H1 σ1 r1' cs1 R r' Q (rs.mono e1) rv1 s1 e fun σ2 F2 H2 cs2 e2 rv2 p2 l2 s2 => q σ2 F2 H2 cs2 (e1.trans e2) rv2 (p1.trans p2) (l2.trans l1) s2
    · cases e
theorem gs_len {h : List D → Env → Option Env} : True := True.intro
theorem sng_tup {n : Nat} {t : TGs} {h : List D → Env → Option Env} (hn : ∀ ds r r', h ds r = some r' → ds.length = n) (h1 : SnGs K mg io t h) : SnG K mg io (L2.gTup K n t) (gTup h) := by
  intro d v F H σ r cs R r' Q rd rv s e q
  unfold gTup at e
  split at e
  · rename_i ds
    cases rd with
    | tup hs rs => exact ⟨_, _, rfl, s.ex.st hs, by rw [← rs.len]; exact hn ds r r' e, h1 ds _ F H σ r cs R r' Q rs rv s e q⟩
  · cases e
end
def gStarN (K : PySem.W.Frag) (n : Nat) (t : TGs) : TG := fun v σ H Q => ∃ a xs, v = .ref a ∧ SqT K H a xs ∧ n ≤ xs.length ∧ xs.length ≤ 10000 ∧ ∀ p, H p = none → t (xs.take n ++ [.ref p]) σ (upd H p (.lst (xs.drop n))) Q
theorem sng_star {K : PySem.W.Frag} {mg : MT} {io : Nat → Bool} {n : Nat} {t : TGs} {h : List D → Env → Option Env} (h1 : SnGs K mg io t h) : SnG K mg io (gStarN K n t) (gTupS n h) := by
  intro d v F H σ r cs R r' Q rd rv s e q
  unfold gTupS at e
  split at e
  · rename_i ds
    split at e
    · rename_i hc
      obtain ⟨c1, c2⟩ := of_decide_eq_true hc
      cases rd with
      | tup hs rs =>
        refine ⟨_, _, rfl, s.ex.st hs, by rw [← rs.len]; exact c1, by rw [← rs.len]; exact c2, fun p hp => ?_⟩
        have fq := s.ex.free hp
        refine h1 _ _ (upd F p _) _ σ r cs R r' Q (((rs.take n).mono (Ex.new fq)).snoc (.lst upd_same ((rs.drop n).mono (Ex.new fq)))) (rv.mono (Ex.new fq)) (s.newF hp) e fun σ' F' H' cs' e' => q σ' F' H' cs' ((Ex.new fq).trans e')
    · cases e
  · cases e
/-! ### what is walked -/
structure Walk (K : PySem.W.Frag) (mg : MT) (J : It) (ds : List D) (F0 : Hp) (cw : List Cell) : Prop where
  item : ∀ (i : Nat) (d : D) (F H : Hp) (R : List Cell), ds[i]? = some d → Ex F0 F → Sat mg F H (cw ++ R) → J.go i H ∧ ∀ x H', J.yld i H x H' → ∃ F', Ex F F' ∧ RD K mg F' d x ∧ ∀ cs, Sat mg F H cs → Sat mg F' H' cs
  stop : ∀ (F H : Hp) (R : List Cell), Ex F0 F → Sat mg F H (cw ++ R) → J.stop ds.length H
section
variable {K : PySem.W.Frag} {mg : MT}
theorem list_inj {H : Hp} {a : Addr} {xs ys : List V} (h : H a = some (.lst xs)) (h' : SqL K H a ys) (hk : K.lookup a = none) : ys = xs := by
  rcases h' with (h' | ⟨o, h'⟩) | ⟨o, _, _, e, _⟩
  · rw [h] at h'; cases h'; rfl
  · rw [h] at h'; cases h'
  · rw [hk] at e; cases e
/-- a list that stands in the heap as it is -/
theorem walk_lst {a : Addr} {ds : List D} {vs : List V} {F0 : Hp} {cw : List Cell} (r : RDs K mg F0 ds vs) (h : ∀ F H R, Ex F0 F → Sat mg F H (cw ++ R) → H a = some (.lst vs)) : Walk K mg (Itl K a) ds F0 cw where
  item := fun i d F H R hd e s => by
    obtain ⟨v, h1, h2⟩ := r.get hd
    have ha := h F H R e s
    refine ⟨⟨vs, v, SqL.of ha, h1⟩, fun x H' y => ?_⟩
    obtain ⟨rfl, y⟩ := y
    have := y vs (SqL.of ha)
    rw [h1] at this
    cases this
    exact ⟨F, Ex.refl F, h2.mono e, fun _ q => q⟩
  stop := fun F H R e s => ⟨vs, SqL.of (h F H R e s), by rw [r.len]; exact Nat.le_refl _⟩
theorem walk_tup {a : Addr} {ds : List D} {vs : List V} {F0 : Hp} {cw : List Cell} (r : RDs K mg F0 ds vs) (h : SqT K F0 a vs) : Walk K mg (Itt K a) ds F0 cw where
  item := fun i d F H R hd e s => by
    obtain ⟨v, h1, h2⟩ := r.get hd
    have ha := (e.trans s.ex).st h
    refine ⟨⟨vs, v, ha, h1⟩, fun x H' y => ?_⟩
    obtain ⟨rfl, y⟩ := y
    have := y vs ha
    rw [h1] at this
    cases this
    exact ⟨F, Ex.refl F, h2.mono e, fun _ q => q⟩
  stop := fun F H R e s => ⟨vs, (e.trans s.ex).st h, by rw [r.len]; exact Nat.le_refl _⟩
theorem walk_str {z : Str} {F0 : Hp} {cw : List Cell} : Walk K mg (Its z) (z.cps.toList.map fun c => .str ⟨#[c]⟩) F0 cw where
  item := fun i d F H R hd e s => by
    rw [List.getElem?_map] at hd
    cases e1 : z.cps.toList[i]? with
    | none => rw [e1] at hd; cases hd
    | some c =>
      rw [e1] at hd
      cases hd
      have hi : i < z.cps.size := by have := (List.getElem?_eq_some_iff.mp e1).1; simpa using this
      refine ⟨hi, fun x H' y => ?_⟩
      obtain ⟨rfl, c', h1, rfl⟩ := y
      rw [Array.getElem?_toList] at e1
      rw [e1] at h1
      cases h1
      exact ⟨F, Ex.refl F, .str _, fun _ q => q⟩
  stop := fun F H R e s => by
    show z.cps.size ≤ _
    simp
theorem walk_rng {lo : Int} {n : Nat} {F0 : Hp} {cw : List Cell} : Walk K mg (Itr lo n) (rngL lo n) F0 cw where
  item := fun i d F H R hd e s => by
    unfold rngL at hd
    rw [List.getElem?_map] at hd
    cases e1 : (List.range n)[i]? with
    | none => rw [e1] at hd; cases hd
    | some c =>
      rw [e1] at hd
      cases hd
      obtain ⟨hi, e2⟩ := List.getElem?_eq_some_iff.mp e1
      rw [List.getElem_range] at e2
      subst e2
      have hi' : i < n := by simpa using hi
      refine ⟨hi', fun x H' y => ?_⟩
      obtain ⟨rfl, rfl⟩ := y
      exact ⟨F, Ex.refl F, .int _, fun _ q => q⟩
  stop := fun F H R e s => by
    show n ≤ _
    unfold rngL
    simp
end
/-! ### statements -/
section
variable {Z : Jd} {io : Nat → Bool} {p : Pg} {a b e : Expr} {pos : Pos}
theorem oks_nil : OkB Z io [] (sNil p) := ⟨_, fun _ _ => pss_nil, fun r σ F H cs R D rv s po => po σ F H cs (Ex.refl F) rv (Pin.refl io σ) s⟩
theorem oks_cons {st : Stmt} {sts : List Stmt} {f g : SS} (h1 : OkS Z io st (f p)) (h2 : OkB Z io sts (g p)) : OkB Z io (st :: sts) (sCons f g p) := by
  obtain ⟨t1, p1, s1⟩ := h1
  obtain ⟨t2, p2, s2⟩ := h2
  refine ⟨_, fun X g => pss_cons (p1 X g) (p2 X g), fun r σ F H cs R D rv s po => ?_⟩
  unfold sCons at po
  refine s1 r σ F H cs R { D with nx := t2 D } rv s ?_
  cases ea : f p r with
  | bad => rw [ea] at po; exact po
  | exn x r1 => rw [ea] at po; exact po
  | ok fl r1 =>
    rw [ea] at po
    cases fl with
    | nx => exact fun σ1 F1 H1 cs1 e1 rv1 q1 s1 => s2 r1 σ1 F1 H1 cs1 R D rv1 s1 (PoS.back e1 q1 po fun c => Nat.le_refl _)
    | brk => exact po
    | ct => exact po
    | ret c => exact po
theorem ok_pass : OkS Z io (.Pass pos) (sPass p) := ⟨_, fun _ _ => ps_pass, fun r σ F H cs R D rv s po => po σ F H cs (Ex.refl F) rv (Pin.refl io σ) s⟩
theorem ok_brk : OkS Z io (.Break pos) (sBrk p) := ⟨_, fun _ _ => ps_break, fun r σ F H cs R D rv s po => po σ F H cs (Ex.refl F) rv (Pin.refl io σ) s⟩
theorem ok_cont : OkS Z io (.Continue pos) (sCont p) := ⟨_, fun _ _ => ps_continue, fun r σ F H cs R D rv s po => po σ F H cs (Ex.refl F) rv (Pin.refl io σ) s⟩
theorem ok_retN : OkS Z io (.Return none pos) (sRetN p) := ⟨_, fun _ _ => ps_retN, fun r σ F H cs R D rv s po => po σ F H .non [] cs (Ex.refl F) (.val .non) rv (Pin.refl io σ) s⟩
theorem ok_expr {st : Stmt} {f : SE} (hp : ∀ X, Z.G X → ∀ t, PE X a t → PS X st (tDrop t)) (ha : OkE Z a (f p)) : OkS Z io st (sExpr f p) := by
  obtain ⟨ta, pa, sa⟩ := ha
  refine ⟨_, fun X g => hp X g ta (pa X g), fun r0 σ F H cs R D rv s po => ?_⟩
  unfold sExpr at po
  refine sa r0 σ F H cs R _ rv s ?_
  cases ea : f p r0 with
  | bad => rw [ea] at po; exact po
  | exn x r1 => rw [ea] at po; exact PoS.px po
  | ok a1 r1 => rw [ea] at po; exact fun F1 H1 v1 k1 cs1 e1 ra1 rv1 s1 => po σ F1 H1 cs1 e1 rv1 (Pin.refl io σ) (s1.sub fun c => by simp only [cnt_append]; omega)
theorem ok_ret {f : SE} (ha : OkE Z a (f p)) : OkS Z io (.Return (some a) pos) (sRet f p) := by
  obtain ⟨ta, pa, sa⟩ := ha
  refine ⟨_, fun X g => ps_ret (pa X g), fun r0 σ F H cs R D rv s po => ?_⟩
  unfold sRet at po
  refine sa r0 σ F H cs R _ rv s ?_
  cases ea : f p r0 with
  | bad => rw [ea] at po; exact po
  | exn x r1 => rw [ea] at po; exact PoS.px po
  | ok a1 r1 =>
    rw [ea] at po
    simp only [Out.bind_ok] at po
    intro F1 H1 v1 k1 cs1 e1 ra1 rv1 s1
    split at po
    · rename_i c r2 hm
      obtain ⟨k2, cs2, g1, g2, g3⟩ := move_ok ra1 rv1 s1 hm
      exact po σ F1 H1 v1 k2 cs2 e1 g1 g2 (Pin.refl io σ) g3
    · exact po.elim
theorem ok_ifs {t : ST} {f g : SS} {as bs : List Stmt} (hc : OkT Z a (t p)) (h1 : OkB Z io as (f p)) (h2 : OkB Z io bs (g p)) : OkS Z io (.If a as bs pos) (sIf t f g p) := by
  obtain ⟨tc, pc, sc⟩ := hc
  obtain ⟨t1, p1, s1⟩ := h1
  obtain ⟨t2, p2, s2⟩ := h2
  refine ⟨_, fun X g => ps_if (pc X g) (p1 X g) (p2 X g), fun r0 σ F H cs R D rv s po => ?_⟩
  unfold sIf at po
  refine sc r0 σ F H cs R _ rv s ?_
  cases ec : t p r0 with
  | bad => rw [ec] at po; exact po
  | exn x r1 => rw [ec] at po; exact PoS.px po
  | ok k r1 =>
    rw [ec] at po
    simp only [Out.bind_ok] at po
    intro F1 H1 cs1 e1 rv1 q1
    cases k with
    | true => rw [if_pos rfl] at po ⊢; exact s1 r1 σ F1 H1 cs1 R D rv1 q1 (PoS.back e1 (Pin.refl io σ) po fun c => Nat.le_refl _)
    | false => rw [if_neg Bool.false_ne_true] at po ⊢; exact s2 r1 σ F1 H1 cs1 R D rv1 q1 (PoS.back e1 (Pin.refl io σ) po fun c => Nat.le_refl _)
theorem ok_set0 {st : Stmt} {i : Nat} {f : SE} {t : TE} (hi : io i = false) (hp : ∀ X, Z.G X → PS X st (tAsg t (L2.gName i))) (sa : SnE Z.K Z.mg Z.W t (f p)) : OkS Z io st (sSet i f p) := by
  refine ⟨_, hp, fun r0 σ F H cs R D rv s po => ?_⟩
  unfold sSet at po
  refine sa r0 σ F H cs R _ rv s ?_
  cases ea : f p r0 with
  | bad => rw [ea] at po; exact po
  | exn x r1 => rw [ea] at po; exact PoS.px po
  | ok a1 r1 =>
    rw [ea] at po
    simp only [Out.bind_ok] at po
    intro F1 H1 v1 k1 cs1 e1 ra1 rv1 s1
    split at po
    · rename_i c r2 hm
      obtain ⟨F2, k2, cs2, e2, g1, g2, g3⟩ := take_ok ra1 rv1 s1 hm
      exact po _ F2 H1 _ (e1.trans e2) (g2.set i g1) (Pin.set hi) (g3.sub fun c => by have := cnt_put c (k' := k2) cs2 i; simp only [cnt_append] at *; omega)
    · exact po.elim
theorem ok_set {st : Stmt} {i : Nat} {f : SE} (hi : io i = false) (hp : ∀ X, Z.G X → ∀ t, PE X a t → PS X st (tAsg t (L2.gName i))) (ha : OkE Z a (f p)) : OkS Z io st (sSet i f p) := by
  obtain ⟨ta, pa, sa⟩ := ha
  exact ok_set0 hi (fun X g => hp X g ta (pa X g)) sa
theorem ok_unp {st : Stmt} {f : SE} {g : SG} {tg : TG} (hg : SnG Z.K Z.mg io tg g) (hp : ∀ X, Z.G X → ∀ t, PE X a t → PS X st (tAsg t tg)) (ha : OkE Z a (f p)) : OkS Z io st (sUnp g f p) := by
  obtain ⟨ta, pa, sa⟩ := ha
  refine ⟨_, fun X g => hp X g ta (pa X g), fun r0 σ F H cs R D rv s po => ?_⟩
  unfold sUnp at po
  refine sa r0 σ F H cs R _ rv s ?_
  cases ea : f p r0 with
  | bad => rw [ea] at po; exact po
  | exn x r1 => rw [ea] at po; exact PoS.px po
  | ok a1 r1 =>
    rw [ea] at po
    simp only [Out.bind_ok] at po
    intro F1 H1 v1 k1 cs1 e1 ra1 rv1 s1
    split at po
    · rename_i d r2 hm
      split at po
      · rename_i r3 h3
        obtain ⟨F2, cs2, e2, g1, g2, g3⟩ := fz_ok ra1 rv1 s1 hm
        exact hg d v1 F2 H1 σ r2 cs2 R r3 _ g1 g2 g3 h3 fun σ' F' H' cs' e' q1 q2 _ q3 => po σ' F' H' cs' ((e1.trans e2).trans e') q1 q2 q3
      · exact po.elim
    · exact po.elim
def rSetX (K : PySem.W.Frag) (M : MT) : TSet := fun x i v H Q => rSetL x i v H Q ∨ ∃ a o, x = .ref a ∧ EPut K M.P M.w H a i v o ∧ Q (upd H a o)
theorem set_any {X : Cx} {M : MT} (hh : Here X M) : PSet X (rSetX X.K M) := by
  intro pins s σ H o i v ov iv u Q I ro ri rv h
  rcases h with h | ⟨a, ob, rfl, g, q⟩
  · exact set_list pins s σ H o i v ov iv u Q I ro ri rv h
  · cases ro
    rw [hh.P, hh.w] at g
    exact x_setItem hh.room I g ri rv fun s' I' => ⟨_, I', q⟩
theorem ok_setix {st : Stmt} {i : Nat} {k f : SE} (hp : ∀ X, Z.G X → ∀ ta tk, PE X a ta → PE X b tk → PS X st (tAsg ta (gSub (tVar i) tk (rSetX Z.K Z.mg)))) (ha : OkE Z a (f p)) (hk : OkE Z b (k p)) : OkS Z io st (sSetIx i k f p) := by
  obtain ⟨ta, pa, sa⟩ := ha
  obtain ⟨tk, pk, sk⟩ := hk
  refine ⟨_, fun X g => hp X g ta tk (pa X g) (pk X g), fun r0 σ F H cs R D rv s po => ?_⟩
  unfold sSetIx at po
  refine sa r0 σ F H cs R _ rv s ?_
  cases ea : f p r0 with
  | bad => rw [ea] at po; exact po
  | exn x r1 => rw [ea] at po; exact PoS.px po
  | ok a1 r1 =>
    rw [ea] at po
    simp only [Out.bind_ok] at po
    intro F1 H1 v1 k1 cs1 e1 ra1 rv1 s1
    split at po
    · rename_i d r2 hm
      obtain ⟨F2, cs2, e2, g1, g2, g3⟩ := fz_ok ra1 rv1 s1 hm
      split at po
      · rename_i xs0 h0
        obtain ⟨a0, us0, q1, q2, q3, _⟩ := chl_fin g2 g3 h0
        refine ⟨.ref a0, q1, ?_⟩
        refine sk r2 σ F2 H1 cs2 R _ g2 g3 ?_
        cases eb : k p r2 with
        | bad => rw [eb] at po; exact po
        | exn x r3 => rw [eb] at po; exact PoX.back (e1.trans e2) (PoS.px po) fun c => Nat.le_refl _
        | ok b1 r3 =>
          rw [eb] at po
          simp only [Out.bind_ok] at po
          intro F3 H3 v3 k3 cs3 e3 rb3 rv3 s3
          split at po
          · rename_i n xs hn hx
            have w1 := view_ok rb3 rv3 s3 (fun c => by simp only [cnt_append]; omega) hn
            cases w1.int
            split at po
            · rename_i j hj
              obtain ⟨a1, us1, t1, t2, t3, t4⟩ := chl_fin rv3 (R := R) (s3.sub fun c => by simp only [cnt_append]; omega) hx
              rw [q1] at t1
              cases t1
              obtain ⟨cs4, u1, u2⟩ := t4 (xs.set j d) (us1.set j v1) (t3.set (g1.mono e3) j)
              exact .inl ⟨a0, us1, n, j, rfl, rfl, t2, by rw [← t3.len]; exact hj, po σ F3 _ cs4 ((e1.trans e2).trans e3) u1 (Pin.refl io σ) u2⟩
            · exact po.elim
          · exact po.elim
      · rename_i ks0 xs0 h0
        obtain ⟨a0, o0, q1, q2, q3, _⟩ := dcl_fin g2 g3 h0
        refine ⟨.ref a0, q1, ?_⟩
        refine sk r2 σ F2 H1 cs2 R _ g2 g3 ?_
        cases eb : k p r2 with
        | bad => rw [eb] at po; exact po
        | exn x r3 => rw [eb] at po; exact PoX.back (e1.trans e2) (PoS.px po) fun c => Nat.le_refl _
        | ok b1 r3 =>
          rw [eb] at po
          simp only [Out.bind_ok] at po
          intro F3 H3 v3 k3 cs3 e3 rb3 rv3 s3
          split at po
          · rename_i kd ks xs hn hx
            have w1 := view_ok rb3 rv3 s3 (fun c => by simp only [cnt_append]; omega) hn
            split at po
            · rename_i q hq
              obtain ⟨a1, o1, t1, t2, t3, t4⟩ := dcl_fin rv3 (R := R) (s3.sub fun c => by simp only [cnt_append]; omega) hx
              rw [q1] at t1
              cases t1
              obtain ⟨o', p1, p2⟩ := dr_put (ks' := q.1) (xs' := q.2) s3.ex t3 t2 w1 (g1.mono e3) hq
              obtain ⟨cs4, u1, u2⟩ := t4 q.1 q.2 o' p2
              exact .inr ⟨a0, o', rfl, p1, po σ F3 _ cs4 ((e1.trans e2).trans e3) u1 (Pin.refl io σ) u2⟩
            · exact po.elim
          · exact po.elim
      · exact po.elim
    · exact po.elim
/-- xs += ys, lists -/
def rIaddL : TIp := fun x y H Q => ∃ l b xs zs, x = .ref l ∧ y = .ref b ∧ H l = some (.lst xs) ∧ H b = some (.lst zs) ∧ xs.length + zs.length ≤ sizeLine ∧ Q (.ref l) (upd H l (.lst (xs ++ zs)))
theorem seq_iadd : seqSlot? (.type "list") (dunderI "add") = pure (some (.builtin "list.__iadd__")) := seqSlot_of F.slot_list_iadd.lookup (by decide +kernel)
theorem nofill_iadd : fillsInplaceSlot (.type "list") "add" (Operator.Add == .Add) = pure false := by
  unfold fillsInplaceSlot
  show (typeLookup (.type "list") (dunderI "add") >>= fun z => pure (z.isSome && !isSeqSlot z)) = pure false
  rw [F.slot_list_iadd.lookup]
  rfl
theorem pip_iaddL {X : Cx} : PIp X .Add rIaddL := by
  intro pins s σ H x y v u Q I rx ry h
  obtain ⟨l, b, xs, zs, rfl, rfl, hl, hb, hz, q⟩ := h
  cases rx
  cases ry
  obtain ⟨z, its, n, r, el, e⟩ := I.lstM hl
  obtain ⟨z2, its2, n2, r2, el2, e2⟩ := I.lstM hb
  have sz : its.toArray.size + its2.toArray.size ≤ sizeLine := by rw [List.size_toArray, List.size_toArray]; omega
  have nl : ¬ (!its.toArray.isEmpty && Builtin.List.listTooLong (its.toArray.size + its2.toArray.size)) = true := by
    rw [notLongL sz, Bool.and_false]
    exact Bool.false_ne_true
  have ta : s.TypeIs (.ref l) "list" := ⟨_, e, rfl⟩
  have tb : s.TypeIs (.ref b) "list" := ⟨_, e2, rfl⟩
  unfold inplaceOp
  refine wpAny_holding (wpAny_bind (wpAny_typeOf ta (wpAny_bind (wpAny_of_eq nofill_iadd ?_))))
  rw [if_neg Bool.false_ne_true]
  refine wpAny_bind (PyProof.Rows.binaryOp1_none (nm := "add") ta tb noFill_list_add ?_)
  refine wpAny_bind (wpAny_of_eq seq_iadd (wpAny_bind (wpAny_rule ?_)))
  refine call_meets F.slot_list_iadd ta F.entry_list_iadd (F.args_list_iadd_2 _ _) (AutoSeq1.list___iadd___list_list_0 l its.toArray n b its2.toArray n2 nl (by rw [List.size_toArray]; omega) (by omega)) ⟨e, e2, ?_⟩
  refine ⟨.ref l, _, I.lset (its' := its ++ its2) hl e (by simp) (r.append r2) ?_, rfl, q⟩
  rw [List.length_append]
  omega
theorem pip_or {X : Cx} {op : Operator} {t1 t2 : TIp} (h1 : PIp X op t1) (h2 : PIp X op t2) : PIp X op (fun x y H Q => t1 x y H Q ∨ t2 x y H Q) := fun pins s σ H x y v u Q I rx ry h => h.elim (h1 pins s σ H x y v u Q I rx ry) (h2 pins s σ H x y v u Q I rx ry)
theorem ok_aug {st : Stmt} {i : Nat} {f : SE} {op : BOp} {ti : TIp} (hi : io i = false) (ho : OpS Z.K Z.mg ti (augD op)) (hl : op = .add → ∀ x y H Q, rIaddL x y H Q → ti x y H Q) (hp : ∀ X, Z.G X → ∀ t, PE X a t → PS X st (tAug i t ti)) (ha : OkE Z a (f p)) : OkS Z io st (sAug op i f p) := by
  obtain ⟨ta, pa, sa⟩ := ha
  refine ⟨_, fun X g => hp X g ta (pa X g), fun r0 σ F H cs R D rv s po => ?_⟩
  unfold sAug at po
  split at po
  · rename_i x hx
    obtain ⟨v, k, h1, h2, h3⟩ := rv.get hx
    cases h3 with
    | val q =>
      refine ⟨v, h1, ?_⟩
      refine sa r0 σ F H cs R _ rv s ?_
      cases ea : f p r0 with
      | bad => rw [ea] at po; exact po
      | exn x r1 => rw [ea] at po; exact PoS.px po
      | ok a1 r1 =>
        rw [ea] at po
        simp only [Out.bind_ok] at po
        intro F1 H1 v1 k1 cs1 e1 ra1 rv1 s1
        split at po
        · rename_i y hy
          split at po
          · rename_i c hc
            have w1 := view_ok ra1 rv1 s1 (fun c => by simp only [cnt_append]; omega) hy
            refine ho F1 H1 x y v v1 c _ (.f (q.mono e1)) w1 s1.ex hc fun F2 H2 v2 k2 e2 rc2 s2 => ?_
            exact po _ F2 H2 _ (e1.trans e2) ((rv1.mono e2).set i rc2) (Pin.set hi) ((s2 _ s1).sub fun c => by have := cnt_put c (k' := k2) cs1 i; simp only [cnt_append] at *; omega)
          · exact po.elim
        · exact po.elim
  · rename_i xs0 hx
    obtain ⟨v, k, h1, h2, h3⟩ := rv.get hx
    split at po
    · refine ⟨v, h1, ?_⟩
      refine sa r0 σ F H cs R _ rv s ?_
      cases ea : f p r0 with
      | bad => rw [ea] at po; exact po
      | exn x r1 => rw [ea] at po; exact PoS.px po
      | ok a1 r1 =>
        rw [ea] at po
        simp only [Out.bind_ok] at po
        intro F1 H1 v1 k1 cs1 e1 ra1 rv1 s1
        split at po
        · rename_i ys xs hy hx1
          obtain ⟨v', k', g1, g2, g3⟩ := rv1.get hx1
          rw [h1] at g1
          cases g1
          have w1 := view_ok ra1 rv1 s1 (fun c => by simp only [cnt_append]; omega) hy
          obtain ⟨b, zs, rfl, hb, rz⟩ := w1.lst s1.ex
          cases g3 with
          | @ls a _ us q =>
            split at po
            · rename_i hz
              have s2 : Sat Z.mg F1 H1 ((a, HO.lst us) :: ((cs1.set i []).flatten ++ R)) := s1.sub fun c => by
                have := cnt_set c (k' := []) g2
                rw [cnt_cons]
                simp only [cnt_append, cnt_nil] at this ⊢
                omega
              refine hl rfl _ _ _ _ ⟨a, b, us, zs, rfl, rfl, s2.own (a, .lst us) (by rw [cnt_cons, cnt_one]; omega), hb, by rw [← q.len, ← rz.len]; exact szOk_le hz, ?_⟩
              have s3 : Sat Z.mg F1 (upd H1 a (.lst (us ++ zs))) ((a, HO.lst (us ++ zs)) :: ((cs1.set i []).flatten ++ R)) := s2.put
              have rv2 := rv1.set i (RC.ls (a := a) (q.app rz))
              refine po _ F1 _ _ e1 rv2 (Pin.set hi) (s3.sub fun c => ?_)
              have h4 := cnt_put c (k' := [(a, HO.lst (us ++ zs))]) cs1 i
              have h5 := cnt_set c (k' := []) g2
              have h6 := cnt_set c (k' := [(a, HO.lst (us ++ zs))]) g2
              rw [cnt_cons]
              simp only [cnt_append, cnt_nil] at *
              omega
            · exact po.elim
        · exact po.elim
    · exact po.elim
  · exact po.elim
/-! ### for -/
theorem for_snd {g : SG} {tg : TG} {f : SS} {tb : TS} {J : It} {ds : List D} {cw R : List Cell} {F0 : Hp} {D : Ends} {r : Env} {σ : L2.St} {H : Hp} {cs : List (List Cell)} (hg : SnG Z.K Z.mg io tg g) (hb : SnS Z.K Z.mg Z.W io tb (f p)) (wk : Walk Z.K Z.mg J ds F0 cw)
    (rv : RV Z.K Z.mg F0 r σ cs) (s : Sat Z.mg F0 H (cs.flatten ++ (cw ++ R))) (po : PoS Z.K Z.mg Z.W io σ F0 (cw ++ R) D (forL g f p ds r)) :
    ∃ Wv : Nat → Nat → L2.St → Hp → Prop, (∃ m, Wv 0 m σ H) ∧ ∀ i m σ H, Wv i m σ H →
      (J.stop i H ∧ D.nx σ H) ∨ (J.go i H ∧ ∃ N : L2.St → Hp → Prop, (∀ σ' H', N σ' H' → ∃ m', m' < m ∧ Wv (i + 1) m' σ' H') ∧ ∀ x H', J.yld i H x H' → tg x σ H' fun σ2 H2 => tb { D with nx := N, ct := N, bk := D.nx } σ2 H2) := by
  refine ⟨fun i m σ1 H1 => m = ds.length - i ∧ i ≤ ds.length ∧ ∃ r1 F1 cs1, Ex F0 F1 ∧ RV Z.K Z.mg F1 r1 σ1 cs1 ∧ Sat Z.mg F1 H1 (cs1.flatten ++ (cw ++ R)) ∧ PoS Z.K Z.mg Z.W io σ1 F1 (cw ++ R) D (forL g f p (ds.drop i) r1),
    ⟨ds.length, by simp, Nat.zero_le _, r, F0, cs, Ex.refl F0, rv, s, by rw [List.drop_zero]; exact po⟩, ?_⟩
  rintro i m σ1 H1 ⟨rfl, hi, r1, F1, cs1, e1, rv1, s1, po1⟩
  have s1' : Sat Z.mg F1 H1 (cw ++ (cs1.flatten ++ R)) := s1.sub fun c => by simp only [cnt_append]; omega
  by_cases hlt : i < ds.length
  · have hd : ds[i]? = some ds[i] := List.getElem?_eq_getElem hlt
    obtain ⟨go, yl⟩ := wk.item i ds[i] F1 H1 _ hd e1 s1'
    rw [List.drop_eq_getElem_cons hlt] at po1
    unfold forL at po1
    refine .inr ⟨go, fun σ2 H2 => ∃ r2 F2 cs2, Ex F0 F2 ∧ RV Z.K Z.mg F2 r2 σ2 cs2 ∧ Sat Z.mg F2 H2 (cs2.flatten ++ (cw ++ R)) ∧ PoS Z.K Z.mg Z.W io σ2 F2 (cw ++ R) D (forL g f p (ds.drop (i + 1)) r2),
      fun σ2 H2 ⟨r2, F2, cs2, h1, h2, h3, h4⟩ => ⟨ds.length - (i + 1), by omega, rfl, hlt, r2, F2, cs2, h1, h2, h3, h4⟩, fun x H' y => ?_⟩
    obtain ⟨F2, e2, rd, st⟩ := yl x H' y
    split at po1
    · exact po1.elim
    · rename_i r2 hg2
      refine hg ds[i] x F2 H' σ1 r1 cs1 (cw ++ R) r2 _ rd (rv1.mono e2) (st _ s1) hg2 fun σ2 F9 H9 cs2 e9 rv2 pn2 _ s2 => ?_
      replace e2 := e2.trans e9
      refine hb r2 σ2 F9 H9 cs2 (cw ++ R) _ rv2 s2 ?_
      cases eb : f p r2 with
      | bad => rw [eb] at po1; exact po1
      | exn x r3 => rw [eb] at po1; exact PoS.back e2 pn2 po1 fun c => Nat.le_refl _
      | ok fl r3 =>
        rw [eb] at po1
        cases fl with
        | nx => exact fun σ3 F3 H3 cs3 e3 rv3 pn3 s3 => ⟨r3, F3, cs3, (e1.trans e2).trans e3, rv3, s3, PoS.back (e2.trans e3) (pn2.trans pn3) po1 fun c => Nat.le_refl _⟩
        | ct => exact fun σ3 F3 H3 cs3 e3 rv3 pn3 s3 => ⟨r3, F3, cs3, (e1.trans e2).trans e3, rv3, s3, PoS.back (e2.trans e3) (pn2.trans pn3) po1 fun c => Nat.le_refl _⟩
        | brk => exact fun σ3 F3 H3 cs3 e3 rv3 pn3 s3 => po1 σ3 F3 H3 cs3 (e2.trans e3) rv3 (pn2.trans pn3) s3
        | ret c => exact fun σ3 F3 H3 v k cs3 e3 rc rv3 pn3 s3 => po1 σ3 F3 H3 v k cs3 (e2.trans e3) rc rv3 (pn2.trans pn3) s3
  · have e : i = ds.length := by omega
    subst e
    rw [List.drop_length] at po1
    exact .inl ⟨wk.stop F1 H1 _ e1 s1', po1 σ1 F1 H1 cs1 (Ex.refl F1) rv1 (Pin.refl io σ1) s1⟩
/-! ### names beside one another, while -/
theorem ok_par {st : Stmt} {i j : Nat} {g : SA} {es : List Expr} (hi : io i = false) (hj : io j = false) (hp : ∀ X, Z.G X → ∀ t, PA X es t → PS X st (tPar i j t)) (ha : OkA Z es (g p)) : OkS Z io st (sPar i j g p) := by
  obtain ⟨ta, pa, sa⟩ := ha
  refine ⟨_, fun X g => hp X g ta (pa X g), fun r0 σ F H cs R D rv s po => ?_⟩
  unfold sPar at po
  refine sa r0 σ F H cs R _ rv s ?_
  cases ea : g p r0 with
  | bad => rw [ea] at po; exact po
  | exn x r1 => rw [ea] at po; exact PoS.px po
  | ok as r1 =>
    rw [ea] at po
    simp only [Out.bind_ok] at po
    intro F1 H1 vs k1 cs1 e1 ra1 rv1 s1
    split at po
    · cases ra1 with
      | @cons _ _ v1 _ q1 _ h1 t1 =>
      cases t1 with
      | @cons _ _ v2 _ q2 _ h2 t2 =>
      cases t2
      split at po
      · rename_i c r2 hm
        obtain ⟨F2, k2, cs2, e2, g1, g2, g3⟩ := take_ok (R := q2 ++ R) h1 rv1 (s1.sub fun c => by simp only [cnt_append, cnt_nil]; omega) hm
        split at po
        · rename_i d r3 hm'
          obtain ⟨F3, k3, cs3, e3, g4, g5, g6⟩ := take_ok (R := k2 ++ R) (h2.mono e2) g2 (g3.sub fun c => by simp only [cnt_append]; omega) hm'
          refine ⟨v1, v2, rfl, po _ F3 H1 _ ((e1.trans e2).trans e3) ((g5.set i (g1.mono e3)).set j g4) ((Pin.set hi).trans (Pin.set hj)) (g6.sub fun c => ?_)⟩
          have h5 := cnt_put c (k' := k2) cs3 i
          have h6 := cnt_put c (k' := k3) (cs3.set i k2) j
          simp only [cnt_append] at *
          omega
        · exact po.elim
      · exact po.elim
    · exact po.elim
theorem ok_par3 {st : Stmt} {i j l : Nat} {g : SA} {es : List Expr} (hi : io i = false) (hj : io j = false) (hl : io l = false) (hp : ∀ X, Z.G X → ∀ t, PA X es t → PS X st (tPar3 i j l t)) (ha : OkA Z es (g p)) : OkS Z io st (sPar3 i j l g p) := by
  obtain ⟨ta, pa, sa⟩ := ha
  refine ⟨_, fun X g => hp X g ta (pa X g), fun r0 σ F H cs R D rv s po => ?_⟩
  unfold sPar3 at po
  refine sa r0 σ F H cs R _ rv s ?_
  cases ea : g p r0 with
  | bad => rw [ea] at po; exact po
  | exn x r1 => rw [ea] at po; exact PoS.px po
  | ok as r1 =>
    rw [ea] at po
    simp only [Out.bind_ok] at po
    intro F1 H1 vs k1 cs1 e1 ra1 rv1 s1
    split at po
    · cases ra1 with
      | @cons _ _ v1 _ q1 _ h1 t1 =>
      cases t1 with
      | @cons _ _ v2 _ q2 _ h2 t2 =>
      cases t2 with
      | @cons _ _ v3 _ q3 _ h3 t3 =>
      cases t3
      split at po
      · rename_i c r2 hm
        obtain ⟨F2, k2, cs2, e2, g1, g2, g3⟩ := take_ok (R := q2 ++ (q3 ++ R)) h1 rv1 (s1.sub fun c => by simp only [cnt_append, cnt_nil]; omega) hm
        split at po
        · rename_i d r3 hm'
          obtain ⟨F3, k3, cs3, e3, g4, g5, g6⟩ := take_ok (R := k2 ++ (q3 ++ R)) (h2.mono e2) g2 (g3.sub fun c => by simp only [cnt_append]; omega) hm'
          split at po
          · rename_i d4 r4 hm4
            obtain ⟨F4, k4, cs4, e4, g7, g8, g9⟩ := take_ok (R := k2 ++ (k3 ++ R)) (h3.mono (e2.trans e3)) g5 (g6.sub fun c => by simp only [cnt_append]; omega) hm4
            refine ⟨v1, v2, v3, rfl, po _ F4 H1 _ (((e1.trans e2).trans e3).trans e4) (((g8.set i (g1.mono (e3.trans e4))).set j (g4.mono e4)).set l g7) (((Pin.set hi).trans (Pin.set hj)).trans (Pin.set hl)) (g9.sub fun c => ?_)⟩
            have h5 := cnt_put c (k' := k2) cs4 i
            have h6 := cnt_put c (k' := k3) (cs4.set i k2) j
            have h7 := cnt_put c (k' := k4) ((cs4.set i k2).set j k3) l
            simp only [cnt_append] at *
            omega
          · exact po.elim
        · exact po.elim
      · exact po.elim
    · exact po.elim
theorem ok_set2 {st : Stmt} {i j : Nat} {f : SE} (hi : io i = false) (hj : io j = false) (hp : ∀ X, Z.G X → ∀ t, PE X a t → PS X st (tAsg2 t (L2.gName i) (L2.gName j))) (ha : OkE Z a (f p)) : OkS Z io st (sSet2 i j f p) := by
  obtain ⟨ta, pa, sa⟩ := ha
  refine ⟨_, fun X g => hp X g ta (pa X g), fun r0 σ F H cs R D rv s po => ?_⟩
  unfold sSet2 at po
  refine sa r0 σ F H cs R _ rv s ?_
  cases ea : f p r0 with
  | bad => rw [ea] at po; exact po
  | exn x r1 => rw [ea] at po; exact PoS.px po
  | ok a1 r1 =>
    rw [ea] at po
    simp only [Out.bind_ok] at po
    intro F1 H1 v1 k1 cs1 e1 ra1 rv1 s1
    split at po
    · rename_i d r2 hm
      obtain ⟨F2, cs2, e2, g1, g2, g3⟩ := fz_ok ra1 rv1 s1 hm
      refine po _ F2 H1 _ (e1.trans e2) ((g2.set i (.val g1)).set j (.val g1)) ((Pin.set hi).trans (Pin.set hj)) (g3.sub fun c => ?_)
      have h5 := cnt_put c (k' := []) cs2 i
      have h6 := cnt_put c (k' := []) (cs2.set i []) j
      simp only [cnt_append, cnt_nil] at *
      omega
    · exact po.elim
theorem ok_while {t : ST} {f : SS} {st : Stmt} {body : List Stmt} (hp : ∀ X, Z.G X → ∀ tc tb, PT X a tc → PSs X body tb → PS X st (tWhile tc tb)) (hc : OkT Z a (t p)) (hb : OkB Z io body (f p)) : OkS Z io st (sWhile t f p) := by
  obtain ⟨tc, pc, sc⟩ := hc
  obtain ⟨tb, pb, sb⟩ := hb
  refine ⟨_, fun X g => hp X g tc tb (pc X g) (pb X g), fun r0 σ F H cs R D rv s po => ?_⟩
  unfold sWhile at po
  refine ⟨fun m σ1 H1 => ∃ r1 F1 cs1, Ex F F1 ∧ RV Z.K Z.mg F1 r1 σ1 cs1 ∧ Sat Z.mg F1 H1 (cs1.flatten ++ R) ∧ PoS Z.K Z.mg Z.W io σ1 F1 R D (whL t f p m r1), ⟨whN, r0, F, cs, Ex.refl F, rv, s, po⟩, ?_⟩
  rintro m σ1 H1 ⟨r1, F1, cs1, e1, rv1, s1, po1⟩
  cases m with
  | zero => exact po1.elim
  | succ m =>
    unfold whL at po1
    refine sc r1 σ1 F1 H1 cs1 R _ rv1 s1 ?_
    cases ec : t p r1 with
    | bad => rw [ec] at po1; exact po1
    | exn x r2 => rw [ec] at po1; exact PoS.px po1
    | ok k r2 =>
      rw [ec] at po1
      intro F2 H2 cs2 e2 rv2 s2
      cases k with
      | false => rw [if_neg Bool.false_ne_true]; exact po1 σ1 F2 H2 cs2 e2 rv2 (Pin.refl io σ1) s2
      | true =>
        rw [if_pos rfl]
        refine ⟨fun σ3 H3 => ∃ r3 F3 cs3, Ex F F3 ∧ RV Z.K Z.mg F3 r3 σ3 cs3 ∧ Sat Z.mg F3 H3 (cs3.flatten ++ R) ∧ PoS Z.K Z.mg Z.W io σ3 F3 R D (whL t f p m r3), fun σ' H' h => ⟨m, Nat.lt_succ_self m, h⟩, ?_⟩
        dsimp only at po1
        refine sb r2 σ1 F2 H2 cs2 R _ rv2 s2 ?_
        cases eb : f p r2 with
        | bad => rw [eb] at po1; exact po1
        | exn x r3 => rw [eb] at po1; exact PoS.back e2 (Pin.refl io σ1) po1 fun c => Nat.le_refl _
        | ok fl r3 =>
          rw [eb] at po1
          cases fl with
          | nx => exact fun σ3 F3 H3 cs3 e3 rv3 pn3 s3 => ⟨r3, F3, cs3, (e1.trans e2).trans e3, rv3, s3, PoS.back (e2.trans e3) pn3 po1 fun c => Nat.le_refl _⟩
          | ct => exact fun σ3 F3 H3 cs3 e3 rv3 pn3 s3 => ⟨r3, F3, cs3, (e1.trans e2).trans e3, rv3, s3, PoS.back (e2.trans e3) pn3 po1 fun c => Nat.le_refl _⟩
          | brk => exact fun σ3 F3 H3 cs3 e3 rv3 pn3 s3 => po1 σ3 F3 H3 cs3 (e2.trans e3) rv3 pn3 s3
          | ret c => exact fun σ3 F3 H3 v k cs3 e3 rc rv3 pn3 s3 => po1 σ3 F3 H3 v k cs3 (e2.trans e3) rc rv3 pn3 s3
end
end Mi

set_option Elab.async false
set_option linter.all false
set_option maxRecDepth 100000
set_option maxHeartbeats 1000000
/-! Mi: walks, for, comprehensions. -/
namespace Mi
open PySem L2
section
variable (K : PySem.W.Frag) (mg : MT) (W : WX) (σ : L2.St) (F : Hp) (R : List Cell)
def PoI (Q : It → Hp → Prop) : Out (List D) → Prop
  | .ok ds r => ∀ F' H' J cw cs, Ex F F' → Walk K mg J ds F' cw → RV K mg F' r σ cs → Sat mg F' H' (cw ++ (cs.flatten ++ R)) → Q J H'
  | .exn x r => PoX K mg W σ F R x r
  | .bad => False
end
def SnI (K : PySem.W.Frag) (mg : MT) (W : WX) (t : TI) (f : Env → Out (List D)) : Prop :=
  ∀ r σ F H cs R Q, RV K mg F r σ cs → Sat mg F H (cs.flatten ++ R) → PoI K mg W σ F R Q (f r) → t σ H Q
def OkI (Z : Jd) (tg e : Expr) (f : Env → Out (List D)) : Prop := ∃ t, (∀ X, Z.G X → PI X tg e t) ∧ SnI Z.K Z.mg Z.W t f
theorem pi_or {X : Cx} {tg e : Expr} {t u : TI} (h : PI X tg e t) (h' : PI X tg e u) : PI X tg e (fun σ H R => t σ H R ∨ u σ H R) := ⟨fun pins s σ H R I hw => by
  rcases hw with hw | hw
  · exact h.run pins s σ H R I hw
  · exact h'.run pins s σ H R I hw⟩
def iAll (K : PySem.W.Frag) (t : TE) : TI := fun σ H R => (iList K t σ H R ∨ iTup K t σ H R) ∨ iStr t σ H R
theorem pi_all {X : Cx} {tg e : Expr} {t : TE} (h : PE X e t) : PI X tg e (iAll X.K t) := pi_or (pi_or (pi_list h) (pi_tup h)) (pi_str h)
section
variable {Z : Jd} {p : Pg} {a b e tg : Expr} {pos : Pos}
theorem walk_of_val {F H : Hp} {d : D} {v : V} {xs : List D} (rd : RD Z.K Z.mg F d v) (e : itD d = some xs) (ex : Ex F H) :
    ∃ J, Walk Z.K Z.mg J xs F [] ∧ ((∃ a, v = .ref a ∧ (∃ ys, SqL Z.K H a ys) ∧ J = Itl Z.K a) ∨ (∃ a, v = .ref a ∧ (∃ ys, SqT Z.K H a ys) ∧ J = Itt Z.K a) ∨ ∃ z, v = .str z ∧ J = Its z) := by
  cases d <;> first | (simp [itD] at e; done) | skip
  all_goals cases e
  · cases rd
    exact ⟨_, walk_str, .inr (.inr ⟨_, rfl, rfl⟩)⟩
  · cases rd with
    | tup h r => exact ⟨_, walk_tup r h, .inr (.inl ⟨_, rfl, ⟨_, ex.st h⟩, rfl⟩)⟩
  · cases rd with
    | lst h r => exact ⟨_, walk_lst r fun F' H' R e s => s.ex _ _ (e _ _ h), .inl ⟨_, rfl, ⟨_, SqL.of (ex _ _ h)⟩, rfl⟩⟩
theorem ok_iseq {f : SE} (hK : ∀ X, Z.G X → X.K = Z.K) (ha : OkE Z a (f p)) : OkI Z tg a (iSeq f p) := by
  obtain ⟨ta, pa, sa⟩ := ha
  refine ⟨iAll Z.K ta, fun X g => by rw [← hK X g]; exact pi_all (pa X g), fun r0 σ F H cs R Q rv s po => ?_⟩
  unfold iSeq at po
  -- the three readings begin alike
  have go : ∀ (Q1 : VK), PoE Z.K Z.mg Z.W σ F R Q1 (f p r0) → ta σ H Q1 := fun Q1 h => sa r0 σ F H cs R Q1 rv s h
  cases ea : f p r0 with
  | bad => rw [ea] at po; exact po.elim
  | exn x r1 => rw [ea] at po go; exact .inr (go _ po)
  | ok a1 r1 =>
    rw [ea] at po go
    simp only [Out.bind_ok] at po
    cases a1 with
    | tmp c =>
      simp only at po
      split at po
      · rename_i xs hx
        cases c with
        | val d =>
          cases d <;> first | (simp [itD, C.frz] at hx; done) | skip
          all_goals (simp only [C.frz, itD] at hx; cases hx)
          · refine .inr (go _ fun F1 H1 v1 k1 cs1 e1 ra1 rv1 s1 => ?_)
            cases ra1 with
            | val q =>
              cases q
              exact ⟨_, rfl, po F1 H1 _ [] cs1 e1 walk_str rv1 s1⟩
          · refine .inl (.inr (go _ fun F1 H1 v1 k1 cs1 e1 ra1 rv1 s1 => ?_))
            cases ra1 with
            | val q =>
              cases q with
              | tup h r => exact ⟨_, rfl, ⟨_, s1.ex.st h⟩, po F1 H1 _ [] cs1 e1 (walk_tup r h) rv1 s1⟩
          · refine .inl (.inl (go _ fun F1 H1 v1 k1 cs1 e1 ra1 rv1 s1 => ?_))
            cases ra1 with
            | val q =>
              cases q with
              | lst h r => exact ⟨_, rfl, ⟨_, SqL.of (s1.ex _ _ h)⟩, po F1 H1 _ [] cs1 e1 (walk_lst r fun F' H' R e s => s.ex _ _ (e _ _ h)) rv1 s1⟩
        | ls ds =>
          simp only [C.frz, itD] at hx
          cases hx
          refine .inl (.inl (go _ fun F1 H1 v1 k1 cs1 e1 ra1 rv1 s1 => ?_))
          cases ra1 with
          | @ls a0 _ vs r =>
            refine ⟨_, rfl, ⟨vs, SqL.of (s1.own (a0, .lst vs) (by simp only [cnt_append, cnt_one]; omega))⟩, po F1 H1 _ _ cs1 e1 (walk_lst r fun F' H' R e s => ?_) rv1 s1⟩
            exact s.own (a0, .lst vs) (by simp only [cnt_append, cnt_one]; omega)
        | dc ks ds => cases hx
      · exact po.elim
    | slot i =>
      simp only at po
      split at po
      · rename_i d hi
        split at po
        · rename_i xs hx
          have fin : ∀ F1 H1 v1 k1 cs1, Ex F F1 → RR Z.K Z.mg F1 σ (.slot i) v1 k1 → RV Z.K Z.mg F1 r1 σ cs1 → Sat Z.mg F1 H1 (k1 ++ (cs1.flatten ++ R)) → RD Z.K Z.mg F1 d v1 ∧ Sat Z.mg F1 H1 (cs1.flatten ++ R) := fun F1 H1 v1 k1 cs1 e1 ra1 rv1 s1 => by
            obtain ⟨v', k', g1, g2, g3⟩ := rv1.get hi
            obtain ⟨hs, rfl⟩ := ra1
            rw [hs] at g1
            cases g1
            cases g3 with
            | val q => exact ⟨q, s1⟩
          cases d <;> first | (simp [itD] at hx; done) | skip
          all_goals (simp only [itD] at hx; cases hx)
          · refine .inr (go _ fun F1 H1 v1 k1 cs1 e1 ra1 rv1 s1 => ?_)
            obtain ⟨q, s2⟩ := fin F1 H1 v1 k1 cs1 e1 ra1 rv1 s1
            cases q
            exact ⟨_, rfl, po F1 H1 _ [] cs1 e1 walk_str rv1 s2⟩
          · refine .inl (.inr (go _ fun F1 H1 v1 k1 cs1 e1 ra1 rv1 s1 => ?_))
            obtain ⟨q, s2⟩ := fin F1 H1 v1 k1 cs1 e1 ra1 rv1 s1
            cases q with
            | tup h r => exact ⟨_, rfl, ⟨_, s1.ex.st h⟩, po F1 H1 _ [] cs1 e1 (walk_tup r h) rv1 s2⟩
          · refine .inl (.inl (go _ fun F1 H1 v1 k1 cs1 e1 ra1 rv1 s1 => ?_))
            obtain ⟨q, s2⟩ := fin F1 H1 v1 k1 cs1 e1 ra1 rv1 s1
            cases q with
            | lst h r => exact ⟨_, rfl, ⟨_, SqL.of (s1.ex _ _ h)⟩, po F1 H1 _ [] cs1 e1 (walk_lst r fun F' H' R e s => s.ex _ _ (e _ _ h)) rv1 s2⟩
        · exact po.elim
      · exact po.elim
theorem ok_irng1 {g : SA} (hp : ∀ X, Z.G X → ∀ t, PA X [a] t → PI X tg e (iRng1 t)) (hn : ∀ r as r', g p r = .ok as r' → as.length = 1) (ha : OkA Z [a] (g p)) : OkI Z tg e (iRng g p) := by
  obtain ⟨ta, pa, sa⟩ := ha
  refine ⟨_, fun X g => hp X g ta (pa X g), fun r0 σ F H cs R Q rv s po => ?_⟩
  unfold iRng at po
  refine sa r0 σ F H cs R _ rv s ?_
  cases ea : g p r0 with
  | bad => rw [ea] at po; exact po
  | exn x r1 => rw [ea] at po; exact po
  | ok as r1 =>
    have hl := hn r0 as r1 ea
    rw [ea] at po
    simp only [Out.bind_ok] at po
    intro F1 H1 vs k1 cs1 e1 ra1 rv1 s1
    split at po
    · rename_i ds hd
      obtain ⟨l, w⟩ := views_ok ra1 rv1 s1 (fun c => by simp only [cnt_append]; omega) hd
      split at po
      · rename_i xs hx
        have hlen : ∀ {as : List Rf} {vs : List V} {k : List Cell}, RRs Z.K Z.mg F1 σ as vs k → as.length = vs.length := by
          intro as vs k h
          induction h with
          | nil => rfl
          | cons _ _ ih => simp [ih]
        have hvl := hlen ra1
        unfold rngD at hx
        split at hx
        · obtain ⟨hz, rfl⟩ := ite_some hx
          obtain ⟨v, rfl, hv⟩ := one_of l w
          cases hv.int
          have hz' := of_decide_eq_true hz
          exact ⟨_, rfl, hz'.1, hz'.2, po F1 H1 _ [] cs1 e1 walk_rng rv1 (s1.sub fun c => by simp only [cnt_append, cnt_nil]; omega)⟩
        · simp at l
          omega
        · cases hx
      · exact po.elim
    · exact po.elim
theorem ok_irng2 {g : SA} {c : Expr} (hp : ∀ X, Z.G X → ∀ t, PA X [a, c] t → PI X tg e (iRng2 t)) (hn : ∀ r as r', g p r = .ok as r' → as.length = 2) (ha : OkA Z [a, c] (g p)) : OkI Z tg e (iRng g p) := by
  obtain ⟨ta, pa, sa⟩ := ha
  refine ⟨_, fun X g => hp X g ta (pa X g), fun r0 σ F H cs R Q rv s po => ?_⟩
  unfold iRng at po
  refine sa r0 σ F H cs R _ rv s ?_
  cases ea : g p r0 with
  | bad => rw [ea] at po; exact po
  | exn x r1 => rw [ea] at po; exact po
  | ok as r1 =>
    have hl := hn r0 as r1 ea
    rw [ea] at po
    simp only [Out.bind_ok] at po
    intro F1 H1 vs k1 cs1 e1 ra1 rv1 s1
    split at po
    · rename_i ds hd
      obtain ⟨l, w⟩ := views_ok ra1 rv1 s1 (fun c => by simp only [cnt_append]; omega) hd
      split at po
      · rename_i xs hx
        have hlen : ∀ {as : List Rf} {vs : List V} {k : List Cell}, RRs Z.K Z.mg F1 σ as vs k → as.length = vs.length := by
          intro as vs k h
          induction h with
          | nil => rfl
          | cons _ _ ih => simp [ih]
        have hvl := hlen ra1
        unfold rngD at hx
        split at hx
        · simp at l
          omega
        · obtain ⟨hz, rfl⟩ := ite_some hx
          obtain ⟨v, u, rfl, hv, hu⟩ := two_of l w
          cases hv.int
          cases hu.int
          have hz' := of_decide_eq_true hz
          exact ⟨_, _, rfl, hz', po F1 H1 _ [] cs1 e1 walk_rng rv1 (s1.sub fun c => by simp only [cnt_append, cnt_nil]; omega)⟩
        · cases hx
      · exact po.elim
    · exact po.elim
/-! ### for -/
variable {io : Nat → Bool}
theorem ok_for {it : SI} {g : SG} {f : SS} {gt : TG} {st : Stmt} {body : List Stmt} (hg : SnG Z.K Z.mg io gt g) (hp : ∀ X, Z.G X → ∀ wi tb, PI X tg e wi → PSs X body tb → PS X st (tFor wi gt tb)) (hi : OkI Z tg e (it p)) (hb : OkB Z io body (f p)) : OkS Z io st (sFor it g f p) := by
  obtain ⟨wi, pi, si⟩ := hi
  obtain ⟨tb, pb, sb⟩ := hb
  refine ⟨_, fun X g => hp X g wi tb (pi X g) (pb X g), fun r0 σ F H cs R D rv s po => ?_⟩
  unfold sFor at po
  refine si r0 σ F H cs R _ rv s ?_
  cases ea : it p r0 with
  | bad => rw [ea] at po; exact po
  | exn x r1 => rw [ea] at po; exact PoS.px po
  | ok xs r1 =>
    rw [ea] at po
    simp only [Out.bind_ok] at po
    intro F1 H1 J cw cs1 e1 wk rv1 s1
    exact for_snd (R := R) hg sb wk rv1 (s1.sub fun c => by simp only [cnt_append]; omega) (PoS.back e1 (Pin.refl io σ) po fun c => by simp only [cnt_append]; omega)
theorem PoS.mapped {K : PySem.W.Frag} {mg : MT} {W : WX} {σ : L2.St} {F : Hp} {R k : List Cell} {D : Ends} {o : Out Fl} {i : Nat} {c : C} {v : V} (hi : io i = true) (hs : σ[i]? = some (some v)) (hc : RC K mg F c v k)
    (h : PoS K mg W io σ F R D (o.mapEnv fun r2 => r2.set i (some c))) : PoS K mg W io σ F (k ++ R) D o := by
  have fin : ∀ {r2 : Env} {σ' : L2.St} {F' H' : Hp} {cs : List (List Cell)} {k0 : List Cell}, Ex F F' → RV K mg F' r2 σ' cs → Pin io σ σ' → Sat mg F' H' (k0 ++ (cs.flatten ++ (k ++ R))) → RV K mg F' (r2.set i (some c)) σ' (cs.set i k) ∧ Sat mg F' H' (k0 ++ ((cs.set i k).flatten ++ R)) :=
    fun {_ _ _ _ cs _} e rv pn s => ⟨rv.put ((pn.get i hi).trans hs) (hc.mono e), s.sub fun c => by have := cnt_put c (k' := k) cs i; simp only [cnt_append] at *; omega⟩
  cases o with
  | bad => exact h
  | exn x r => exact fun σ2 F2 H2 cls d k2 cs e2 rx rv p2 s => let ⟨a1, a2⟩ := fin e2 rv p2 s; h σ2 F2 H2 cls d k2 _ e2 rx a1 p2 a2
  | ok f r =>
    cases f with
    | nx => exact fun σ2 F2 H2 cs e2 rv p2 s => let ⟨a1, a2⟩ := fin (k0 := []) e2 rv p2 s; h σ2 F2 H2 _ e2 a1 p2 a2
    | brk => exact fun σ2 F2 H2 cs e2 rv p2 s => let ⟨a1, a2⟩ := fin (k0 := []) e2 rv p2 s; h σ2 F2 H2 _ e2 a1 p2 a2
    | ct => exact fun σ2 F2 H2 cs e2 rv p2 s => let ⟨a1, a2⟩ := fin (k0 := []) e2 rv p2 s; h σ2 F2 H2 _ e2 a1 p2 a2
    | ret c2 => exact fun σ2 F2 H2 v2 k2 cs e2 rc rv p2 s => let ⟨a1, a2⟩ := fin e2 rv p2 s; h σ2 F2 H2 v2 k2 _ e2 rc a1 p2 a2
theorem ok_forv {i : Nat} {g : SG} {f : SS} {gt : TG} {st : Stmt} {body : List Stmt} (hK : ∀ X, Z.G X → X.K = Z.K) (hi : io i = true) (hg : SnG Z.K Z.mg io gt g) (hp : ∀ X, Z.G X → ∀ wi tb, PI X tg e wi → PSs X body tb → PS X st (tFor wi gt tb))
    (hv : ∀ X, Z.G X → PE X e (tVar i)) (hb : OkB Z io body (f p)) : OkS Z io st (sForV i g f p) := by
  obtain ⟨tb, pb, sb⟩ := hb
  refine ⟨tFor (iAll Z.K (tVar i)) gt tb, fun X g => hp X g _ tb (by rw [← hK X g]; exact pi_all (hv X g)) (pb X g), fun r0 σ F H cs R D rv s po => ?_⟩
  unfold sForV at po
  split at po
  · rename_i d hd
    obtain ⟨v, k, h1, h2, h3⟩ := rv.get hd
    cases h3 with
    | val q =>
      split at po
      · rename_i xs hx
        obtain ⟨J, wk, hj⟩ := walk_of_val (Z := Z) q hx s.ex
        have fin := for_snd (R := R) hg sb wk rv s po
        rcases hj with ⟨a, rfl, hs, rfl⟩ | ⟨a, rfl, hs, rfl⟩ | ⟨z, rfl, rfl⟩
        · exact .inl (.inl ⟨_, h1, a, rfl, hs, fin⟩)
        · exact .inl (.inr ⟨_, h1, a, rfl, hs, fin⟩)
        · exact .inr ⟨_, h1, z, rfl, fin⟩
      · exact po.elim
  · rename_i xs hd
    obtain ⟨v, k, h1, h2, h3⟩ := rv.get hd
    have h3' := h3
    cases h3 with
    | @ls a ds vs q =>
      have s1 : Sat Z.mg F H ((cs.set i []).flatten ++ ([(a, HO.lst vs)] ++ R)) := s.sub fun c => by
        have := cnt_set c (k' := []) h2
        simp only [cnt_append, cnt_nil] at this ⊢
        omega
      have ha : H a = some (.lst vs) := s1.own (a, .lst vs) (by simp only [cnt_append, cnt_one]; omega)
      have wk : Walk Z.K Z.mg (Itl Z.K a) xs F [(a, .lst vs)] := walk_lst q fun F' H' R e s => s.own (a, .lst vs) (by simp only [cnt_append, cnt_one]; omega)
      exact .inl (.inl ⟨_, h1, a, rfl, ⟨vs, SqL.of ha⟩, for_snd (R := R) hg sb wk (rv.hide i) s1 (PoS.mapped hi h1 h3' po)⟩)
  · exact po.elim
/-! ### a comprehension -/
theorem wipe_get {σ : L2.St} {own : List Nat} {i : Nat} (h : i ∉ own) : (wipe σ own)[i]? = σ[i]? := by
  induction own with
  | nil => rfl
  | cons j js ih =>
    unfold wipe
    rw [List.getElem?_set_ne (fun e => h (by simp [e])), ih fun q => h (List.mem_cons_of_mem _ q)]
theorem wipe_in {σ : L2.St} {own : List Nat} {i : Nat} (h : i ∈ own) (hl : i < σ.length) : (wipe σ own)[i]? = some none := by
  induction own with
  | nil => cases h
  | cons j js ih =>
    unfold wipe
    by_cases e : j = i
    · subst e
      rw [List.getElem?_set_self (by rw [wipe_length]; exact hl)]
    · rw [List.getElem?_set_ne e]
      exact ih (by
        rcases List.mem_cons.mp h with q | q
        · exact absurd q.symm e
        · exact q)
theorem wipe_eq {σ σ' : L2.St} {own : List Nat} (hl : σ'.length = σ.length) (h : ∀ i, i ∉ own → σ'[i]? = σ[i]?) : wipe σ' own = wipe σ own := by
  apply List.ext_getElem?
  intro i
  by_cases hi : i ∈ own
  · by_cases hlt : i < σ.length
    · rw [wipe_in hi hlt, wipe_in hi (by omega)]
    · rw [List.getElem?_eq_none (by rw [wipe_length]; omega), List.getElem?_eq_none (by rw [wipe_length]; omega)]
  · rw [wipe_get hi, wipe_get hi, h i hi]
theorem cnt_wipe (c : Cell) (own : List Nat) : ∀ cs : List (List Cell), cnt c (own.foldr (fun i cs => cs.set i []) cs).flatten ≤ cnt c cs.flatten := by
  induction own with
  | nil => intro cs; exact Nat.le_refl _
  | cons i is ih =>
    intro cs
    have h1 := cnt_put c (k' := []) (is.foldr (fun i cs => cs.set i []) cs) i
    have h2 := ih cs
    rw [cnt_nil] at h1
    simp only [List.foldr_cons]
    omega
theorem wipe_rv {K : PySem.W.Frag} {mg : MT} {F : Hp} {σ : L2.St} {own : List Nat} : ∀ {r : Env} {cs : List (List Cell)}, RV K mg F r σ cs → RV K mg F (wipeE own r) (wipe σ own) (own.foldr (fun i cs => cs.set i []) cs) := by
  induction own with
  | nil => intro r cs h; exact h
  | cons i is ih => intro r cs h; exact (ih h).wipe i none
/-- what the slots of the block's names held comes back -/
theorem rest_rv {K : PySem.W.Frag} {mg : MT} {F F' : Hp} {σ : L2.St} {r0 r : Env} {cs0 cs : List (List Cell)} (e : Ex F F') (h0 : RV K mg F r0 σ cs0) : ∀ {own : List Nat}, own.Nodup → ∀ (τ : L2.St), RV K mg F' r τ cs → (∀ i, i ∉ own → τ[i]? = σ[i]?) → τ.length = σ.length →
    ∃ cs', RV K mg F' (restE own r0 r) σ cs' ∧ ∀ c, cnt c cs'.flatten + cnt c (own.foldr (fun i cs => cs.set i []) cs0).flatten ≤ cnt c cs.flatten + cnt c cs0.flatten := by
  have key : ∀ {own : List Nat}, own.Nodup → ∀ (τ : L2.St), RV K mg F' r τ cs → τ.length = σ.length →
      ∃ τ' cs', RV K mg F' (restE own r0 r) τ' cs' ∧ (∀ i, i ∈ own → τ'[i]? = σ[i]?) ∧ (∀ i, i ∉ own → τ'[i]? = τ[i]?) ∧ τ'.length = σ.length ∧ (∀ c, cnt c cs'.flatten + cnt c (own.foldr (fun i cs => cs.set i []) cs0).flatten ≤ cnt c cs.flatten + cnt c cs0.flatten) ∧
        (∀ i, i ∉ own → (own.foldr (fun i cs => cs.set i []) cs0)[i]? = cs0[i]?) := by
    intro own nd
    induction own with
    | nil => intro τ h hl; exact ⟨τ, cs, h, fun i hi => (by cases hi), fun i _ => rfl, hl, fun c => Nat.le_refl _, fun i _ => rfl⟩
    | cons j js ih =>
      intro τ h hl
      obtain ⟨hj, nd'⟩ := List.nodup_cons.mp nd
      obtain ⟨τ1, cs1, g1, g2, g3, g4, g5, g6⟩ := ih nd' τ h hl
      have hget : ∀ i, i ∉ j :: js → ((j :: js).foldr (fun i cs => cs.set i []) cs0)[i]? = cs0[i]? := fun i hi => by
        rw [List.foldr_cons, List.getElem?_set_ne (fun e => hi (by simp [e]))]
        exact g6 i fun q => hi (List.mem_cons_of_mem _ q)
      by_cases hlt : j < r0.length
      · have hsl : j < σ.length := by rw [h0.len.1]; exact hlt
        have hcl : j < cs0.length := by rw [h0.len.2]; exact hlt
        have hk0 : cs0[j]? = some cs0[j] := List.getElem?_eq_getElem hcl
        have hk1 : (js.foldr (fun i cs => cs.set i []) cs0)[j]? = some cs0[j] := by rw [g6 j hj]; exact hk0
        have hcnt : ∀ c, cnt c (cs1.set j cs0[j]).flatten + cnt c ((j :: js).foldr (fun i cs => cs.set i []) cs0).flatten ≤ cnt c cs.flatten + cnt c cs0.flatten := fun c => by
          have q1 := cnt_put c (k' := cs0[j]) cs1 j
          have q2 := cnt_set c (k' := []) hk1
          have q3 := g5 c
          rw [cnt_nil] at q2
          rw [List.foldr_cons]
          omega
        cases hr : r0[j]? with
        | none => exact absurd (List.getElem?_eq_none_iff.mp hr) (by omega)
        | some oc =>
          cases oc with
          | none =>
            refine ⟨τ1.set j (σ[j]), cs1.set j [], ?_, fun i hi => ?_, fun i hi => ?_, by simp [g4], fun c => ?_, hget⟩
            · show RV K mg F' ((restE js r0 r).set j (r0[j]?.getD none)) _ _
              rw [hr]
              exact g1.wipe j _
            · by_cases e1 : j = i
              · subst e1
                rw [List.getElem?_set_self (by omega), List.getElem?_eq_getElem hsl]
              · rw [List.getElem?_set_ne e1]
                exact g2 i (by
                  rcases List.mem_cons.mp hi with q | q
                  · exact absurd q.symm e1
                  · exact q)
            · rw [List.getElem?_set_ne (fun e => hi (by simp [e]))]
              exact g3 i fun q => hi (List.mem_cons_of_mem _ q)
            · have q1 := cnt_put c (k' := []) cs1 j
              have q2 := cnt_set c (k' := []) hk1
              have q3 := g5 c
              rw [cnt_nil] at q1 q2
              rw [List.foldr_cons]
              omega
          | some c0 =>
            obtain ⟨v, k, a1, a2, a3⟩ := h0.get hr
            rw [hk0] at a2
            cases a2
            refine ⟨τ1.set j (some v), cs1.set j cs0[j], ?_, fun i hi => ?_, fun i hi => ?_, by simp [g4], hcnt, hget⟩
            · show RV K mg F' ((restE js r0 r).set j (r0[j]?.getD none)) _ _
              rw [hr]
              exact g1.set j (a3.mono e)
            · by_cases e1 : j = i
              · subst e1
                rw [List.getElem?_set_self (by omega), a1]
              · rw [List.getElem?_set_ne e1]
                exact g2 i (by
                  rcases List.mem_cons.mp hi with q | q
                  · exact absurd q.symm e1
                  · exact q)
            · rw [List.getElem?_set_ne (fun e => hi (by simp [e]))]
              exact g3 i fun q => hi (List.mem_cons_of_mem _ q)
      · have hl1 : (restE js r0 r).length = τ1.length := g1.len.1.symm
        have hr0 : r0.length = σ.length := h0.len.1.symm
        have hset : (restE js r0 r).set j (r0[j]?.getD none) = restE js r0 r := List.set_eq_of_length_le (by omega)
        refine ⟨τ1, cs1, ?_, fun i hi => ?_, fun i hi => g3 i fun q => hi (List.mem_cons_of_mem _ q), g4, fun c => ?_, hget⟩
        · show RV K mg F' ((restE js r0 r).set j (r0[j]?.getD none)) _ _
          rw [hset]
          exact g1
        · rcases List.mem_cons.mp hi with q | q
          · subst q
            rw [List.getElem?_eq_none (by omega), List.getElem?_eq_none (by omega)]
          · exact g2 i q
        · have q1 := cnt_put c (k' := []) (js.foldr (fun i cs => cs.set i []) cs0) j
          have q3 := g5 c
          rw [cnt_nil] at q1
          rw [List.foldr_cons]
          omega
  intro own nd τ h ho hl
  obtain ⟨τ', cs', g1, g2, g3, g4, g5, _⟩ := key nd τ h hl
  have e1 : τ' = σ := by
    apply List.ext_getElem?
    intro i
    by_cases hi : i ∈ own
    · exact g2 i hi
    · rw [g3 i hi, ho i hi]
  subst e1
  exact ⟨cs', g1, g5⟩
theorem saved (own : List Nat) : ∀ cs : List (List Cell), ∃ S : List Cell, ∀ c, cnt c S + cnt c (own.foldr (fun i cs => cs.set i []) cs).flatten = cnt c cs.flatten := by
  induction own with
  | nil => intro cs; exact ⟨[], fun c => by rw [cnt_nil]; simp⟩
  | cons i is ih =>
    intro cs
    obtain ⟨S, hS⟩ := ih cs
    by_cases h : i < (is.foldr (fun i cs => cs.set i []) cs).length
    · refine ⟨S ++ (is.foldr (fun i cs => cs.set i []) cs)[i], fun c => ?_⟩
      have q := cnt_set c (k' := []) (List.getElem?_eq_getElem h)
      have := hS c
      rw [cnt_nil] at q
      rw [List.foldr_cons, cnt_append]
      omega
    · refine ⟨S, fun c => ?_⟩
      rw [List.foldr_cons, List.set_eq_of_length_le (by omega)]
      exact hS c
def WNo : WX := fun _ _ _ _ => False
abbrev notIn (own : List Nat) : Nat → Bool := fun i => !own.contains i
theorem comp_snd {K : PySem.W.Frag} {mg : MT} {own : List Nat} {g : SG} {t : ST} {ef : SE} {gt : TG} {tt : TT} {te : TE} {J : It} {ds acc : List D} {cw R : List Cell} {F1 H1 : Hp} {r1 r2 : Env} {σ : L2.St} {cs1 : List (List Cell)} {Q : VK} (nd : own.Nodup)
    (hg : SnG K mg (notIn own) gt g) (ht : SnT K mg WNo tt (t p)) (he : SnE K mg WNo te (ef p)) (wk : Walk K mg J ds F1 cw) (rv : RV K mg F1 r1 σ cs1) (s : Sat mg F1 H1 (cw ++ (cs1.flatten ++ R))) (ev : compL own g t ef p ds [] (wipeE own r1) = .ok acc r2)
    (q : ∀ F' H' v k cs, Ex F1 F' → RC K mg F' (.ls acc) v k → RV K mg F' (restE own r1 r2) σ cs → Sat mg F' H' (k ++ (cs.flatten ++ (cw ++ R))) → Q v H') :
    ∀ L, H1 L = none → ∃ Wv : Nat → Nat → Hp → Prop, (∃ m, Wv 0 m (upd H1 L (.lst []))) ∧ ∀ i m H, Wv i m H →
      (J.stop i H ∧ Q (.ref L) H) ∨ (J.go i H ∧ ∃ Nx : Hp → Prop, (∀ H', Nx H' → ∃ m', m' < m ∧ Wv (i + 1) m' H') ∧ ∀ x H', J.yld i H x H' → gt x (wipe σ own) H' fun σ2 H2 => wipe σ2 own = wipe σ own ∧ tt σ2 H2 fun b H3 =>
        if b = true then te σ2 H3 fun y H4 => ∃ ac, H4 L = some (.lst ac) ∧ ac.length < sizeLine ∧ Nx (upd H4 L (.lst (ac ++ [y]))) else Nx H3) := by
  intro L hL
  obtain ⟨S, hS⟩ := saved own cs1
  refine ⟨fun i m H => m = ds.length - i ∧ i ≤ ds.length ∧ ∃ r F cs aD aV, Ex F1 F ∧ RV K mg F r (wipe σ own) cs ∧ RDs K mg F aD aV ∧ Sat mg F H ([(L, HO.lst aV)] ++ (cs.flatten ++ (S ++ (cw ++ R)))) ∧ compL own g t ef p (ds.drop i) aD r = .ok acc r2,
    ⟨ds.length, by simp, Nat.zero_le _, wipeE own r1, F1, own.foldr (fun i cs => cs.set i []) cs1, [], [], Ex.refl F1, wipe_rv rv, .nil, ?_, by rw [List.drop_zero]; exact ev⟩, ?_⟩
  · have s0 : Sat mg F1 (upd H1 L (.lst [])) ([(L, HO.lst [])] ++ (cw ++ (cs1.flatten ++ R))) := s.newO hL
    exact s0.sub fun c => by
      have := hS c
      simp only [cnt_append]
      omega
  rintro i m H ⟨rfl, hi, r, F, cs, aD, aV, e1, rv1, ra, s1, ev1⟩
  have s1' : Sat mg F H (cw ++ ([(L, HO.lst aV)] ++ (cs.flatten ++ (S ++ R)))) := s1.sub fun c => by
    simp only [cnt_append]
    omega
  by_cases hlt : i < ds.length
  · have hd : ds[i]? = some ds[i] := List.getElem?_eq_getElem hlt
    obtain ⟨go, yl⟩ := wk.item i ds[i] F H _ hd e1 s1'
    rw [List.drop_eq_getElem_cons hlt] at ev1
    unfold compL at ev1
    refine .inr ⟨go, fun H2 => ∃ r F cs aD aV, Ex F1 F ∧ RV K mg F r (wipe σ own) cs ∧ RDs K mg F aD aV ∧ Sat mg F H2 ([(L, HO.lst aV)] ++ (cs.flatten ++ (S ++ (cw ++ R)))) ∧ compL own g t ef p (ds.drop (i + 1)) aD r = .ok acc r2,
      fun H2 ⟨r, F, cs, aD, aV, h1, h2, h3, h4, h5⟩ => ⟨ds.length - (i + 1), by omega, rfl, hlt, r, F, cs, aD, aV, h1, h2, h3, h4, h5⟩, fun x H' y => ?_⟩
    obtain ⟨F2, e2, rd, st⟩ := yl x H' y
    have s2 := st _ s1
    split at ev1
    · cases ev1
    · rename_i r3 hg3
      refine hg ds[i] x F2 H' (wipe σ own) r cs ([(L, HO.lst aV)] ++ (S ++ (cw ++ R))) r3 _ rd (rv1.mono e2) (s2.sub fun c => by
        simp only [cnt_append]
        omega) hg3 fun σ2 F9 H9 cs2 e9 rv2 pn2 l2 s3 => ?_
      replace e2 := e2.trans e9
      have hw : wipe σ2 own = wipe σ own := by
        have h1 : wipe σ2 own = wipe (wipe σ own) own := wipe_eq l2 fun i hi => pn2.get i (by simp [notIn, hi])
        rw [h1]
        exact wipe_eq (wipe_length σ own) fun i hi => wipe_get hi
      refine ⟨hw, ht r3 σ2 F9 H9 cs2 ([(L, HO.lst aV)] ++ (S ++ (cw ++ R))) _ rv2 s3 ?_⟩
      cases et : t p r3 with
      | bad => rw [et] at ev1; cases ev1
      | exn x r4 => rw [et] at ev1; cases ev1
      | ok b r4 =>
        rw [et] at ev1
        intro F4 H4 cs4 e4 rv4 s4
        cases b with
        | false =>
          rw [if_neg Bool.false_ne_true]
          have rv5 := wipe_rv (own := own) rv4
          rw [hw] at rv5
          exact ⟨_, F4, _, aD, aV, (e1.trans e2).trans e4, rv5, ra.mono (e2.trans e4), s4.sub fun c => by
            have := cnt_wipe c own cs4
            simp only [cnt_append]
            omega, ev1⟩
        | true =>
          rw [if_pos rfl]
          refine he r4 σ2 F4 H4 cs4 ([(L, HO.lst aV)] ++ (S ++ (cw ++ R))) _ rv4 s4 ?_
          simp only at ev1
          cases ee : ef p r4 with
          | bad => rw [ee] at ev1; cases ev1
          | exn x r5 => rw [ee] at ev1; cases ev1
          | ok a5 r5 =>
            rw [ee] at ev1
            simp only at ev1
            intro F5 H5 v5 k5 cs5 e5 ra5 rv5 s5
            split at ev1
            · rename_i y6 r6 hf
              obtain ⟨F6, cs6, e6, rd6, rv6, s6⟩ := fz_ok ra5 rv5 s5 hf
              split at ev1
              · rename_i hz
                have s6' : Sat mg F6 H5 ([(L, HO.lst aV)] ++ (cs6.flatten ++ (S ++ (cw ++ R)))) := s6.sub fun c => by
                  simp only [cnt_append]
                  omega
                have hex : Ex F F6 := ((e2.trans e4).trans e5).trans e6
                have ra6 := ra.mono hex
                have rv7 := wipe_rv (own := own) rv6
                rw [hw] at rv7
                have s7 : Sat mg F6 (upd H5 L (.lst (aV ++ [v5]))) ([(L, HO.lst (aV ++ [v5]))] ++ (cs6.flatten ++ (S ++ (cw ++ R)))) := Sat.put s6'
                refine ⟨aV, s6'.own (L, .lst aV) (by simp only [cnt_append, cnt_one]; omega), by rw [← ra6.len]; exact of_decide_eq_true hz, _, F6, _, aD ++ [y6], aV ++ [v5], e1.trans hex, rv7, ra6.snoc rd6, s7.sub fun c => ?_, ev1⟩
                have := cnt_wipe c own cs6
                simp only [cnt_append]
                omega
              · cases ev1
            · cases ev1
  · have e : i = ds.length := by omega
    subst e
    rw [List.drop_length] at ev1
    cases ev1
    refine .inl ⟨wk.stop F H _ e1 s1', ?_⟩
    obtain ⟨cs', g1, g2⟩ := rest_rv e1 rv nd (wipe σ own) rv1 (fun i hi => wipe_get hi) (wipe_length σ own)
    refine q F H (.ref L) [(L, .lst aV)] cs' e1 (.ls ra) g1 (s1.sub fun c => ?_)
    have h1 := g2 c
    have h2 := hS c
    simp only [cnt_append]
    omega
/-- the walk of a comprehension's clause into a list that stands -/
theorem comp_loop {K : PySem.W.Frag} {mg : MT} {own : List Nat} {g : SG} {t : ST} {ef : SE} {gt : TG} {tt : TT} {te : TE} {J : It} {ds acc0 acc : List D} {aV0 : List V} {cw R : List Cell} {F1 H1 : Hp} {r1 r2 : Env} {σ : L2.St} {cs1 : List (List Cell)} {L : Addr} {Qe : Hp → Prop}
    (hg : SnG K mg (notIn own) gt g) (ht : SnT K mg WNo tt (t p)) (he : SnE K mg WNo te (ef p)) (wk : Walk K mg J ds F1 cw) (rv : RV K mg F1 r1 (wipe σ own) cs1) (ra0 : RDs K mg F1 acc0 aV0) (s : Sat mg F1 H1 ([(L, HO.lst aV0)] ++ (cs1.flatten ++ (cw ++ R)))) (ev : compL own g t ef p ds acc0 r1 = .ok acc r2)
    (q : ∀ F' H' aV cs, Ex F1 F' → RDs K mg F' acc aV → RV K mg F' r2 (wipe σ own) cs → Sat mg F' H' ([(L, HO.lst aV)] ++ (cs.flatten ++ (cw ++ R))) → Qe H') :
    ∃ Wv : Nat → Nat → Hp → Prop, (∃ m, Wv 0 m H1) ∧ ∀ i m H, Wv i m H →
      (J.stop i H ∧ Qe H) ∨ (J.go i H ∧ ∃ Nx : Hp → Prop, (∀ H', Nx H' → ∃ m', m' < m ∧ Wv (i + 1) m' H') ∧ ∀ x H', J.yld i H x H' → gt x (wipe σ own) H' fun σ2 H2 => wipe σ2 own = wipe σ own ∧ tt σ2 H2 fun b H3 =>
        if b = true then te σ2 H3 fun y H4 => ∃ ac, H4 L = some (.lst ac) ∧ ac.length < sizeLine ∧ Nx (upd H4 L (.lst (ac ++ [y]))) else Nx H3) := by
  refine ⟨fun i m H => m = ds.length - i ∧ i ≤ ds.length ∧ ∃ r F cs aD aV, Ex F1 F ∧ RV K mg F r (wipe σ own) cs ∧ RDs K mg F aD aV ∧ Sat mg F H ([(L, HO.lst aV)] ++ (cs.flatten ++ (cw ++ R))) ∧ compL own g t ef p (ds.drop i) aD r = .ok acc r2,
    ⟨ds.length, by simp, Nat.zero_le _, r1, F1, cs1, acc0, aV0, Ex.refl F1, rv, ra0, s, by rw [List.drop_zero]; exact ev⟩, ?_⟩
  rintro i m H ⟨rfl, hi, r, F, cs, aD, aV, e1, rv1, ra, s1, ev1⟩
  have s1' : Sat mg F H (cw ++ ([(L, HO.lst aV)] ++ (cs.flatten ++ R))) := s1.sub fun c => by
    simp only [cnt_append]
    omega
  by_cases hlt : i < ds.length
  · have hd : ds[i]? = some ds[i] := List.getElem?_eq_getElem hlt
    obtain ⟨go, yl⟩ := wk.item i ds[i] F H _ hd e1 s1'
    rw [List.drop_eq_getElem_cons hlt] at ev1
    unfold compL at ev1
    refine .inr ⟨go, fun H2 => ∃ r F cs aD aV, Ex F1 F ∧ RV K mg F r (wipe σ own) cs ∧ RDs K mg F aD aV ∧ Sat mg F H2 ([(L, HO.lst aV)] ++ (cs.flatten ++ (cw ++ R))) ∧ compL own g t ef p (ds.drop (i + 1)) aD r = .ok acc r2,
      fun H2 ⟨r, F, cs, aD, aV, h1, h2, h3, h4, h5⟩ => ⟨ds.length - (i + 1), by omega, rfl, hlt, r, F, cs, aD, aV, h1, h2, h3, h4, h5⟩, fun x H' y => ?_⟩
    obtain ⟨F2, e2, rd, st⟩ := yl x H' y
    have s2 := st _ s1
    split at ev1
    · cases ev1
    · rename_i r3 hg3
      refine hg ds[i] x F2 H' (wipe σ own) r cs ([(L, HO.lst aV)] ++ (cw ++ R)) r3 _ rd (rv1.mono e2) (s2.sub fun c => by
        simp only [cnt_append]
        omega) hg3 fun σ2 F9 H9 cs2 e9 rv2 pn2 l2 s3 => ?_
      replace e2 := e2.trans e9
      have hw : wipe σ2 own = wipe σ own := by
        have h1 : wipe σ2 own = wipe (wipe σ own) own := wipe_eq l2 fun i hi => pn2.get i (by simp [notIn, hi])
        rw [h1]
        exact wipe_eq (wipe_length σ own) fun i hi => wipe_get hi
      refine ⟨hw, ht r3 σ2 F9 H9 cs2 ([(L, HO.lst aV)] ++ (cw ++ R)) _ rv2 s3 ?_⟩
      cases et : t p r3 with
      | bad => rw [et] at ev1; cases ev1
      | exn x r4 => rw [et] at ev1; cases ev1
      | ok b r4 =>
        rw [et] at ev1
        intro F4 H4 cs4 e4 rv4 s4
        cases b with
        | false =>
          rw [if_neg Bool.false_ne_true]
          have rv5 := wipe_rv (own := own) rv4
          rw [hw] at rv5
          exact ⟨_, F4, _, aD, aV, (e1.trans e2).trans e4, rv5, ra.mono (e2.trans e4), s4.sub fun c => by
            have := cnt_wipe c own cs4
            simp only [cnt_append]
            omega, ev1⟩
        | true =>
          rw [if_pos rfl]
          refine he r4 σ2 F4 H4 cs4 ([(L, HO.lst aV)] ++ (cw ++ R)) _ rv4 s4 ?_
          simp only at ev1
          cases ee : ef p r4 with
          | bad => rw [ee] at ev1; cases ev1
          | exn x r5 => rw [ee] at ev1; cases ev1
          | ok a5 r5 =>
            rw [ee] at ev1
            simp only at ev1
            intro F5 H5 v5 k5 cs5 e5 ra5 rv5 s5
            split at ev1
            · rename_i y6 r6 hf
              obtain ⟨F6, cs6, e6, rd6, rv6, s6⟩ := fz_ok ra5 rv5 s5 hf
              split at ev1
              · rename_i hz
                have s6' : Sat mg F6 H5 ([(L, HO.lst aV)] ++ (cs6.flatten ++ (cw ++ R))) := s6.sub fun c => by
                  simp only [cnt_append]
                  omega
                have hex : Ex F F6 := ((e2.trans e4).trans e5).trans e6
                have ra6 := ra.mono hex
                have rv7 := wipe_rv (own := own) rv6
                rw [hw] at rv7
                have s7 : Sat mg F6 (upd H5 L (.lst (aV ++ [v5]))) ([(L, HO.lst (aV ++ [v5]))] ++ (cs6.flatten ++ (cw ++ R))) := Sat.put s6'
                refine ⟨aV, s6'.own (L, .lst aV) (by simp only [cnt_append, cnt_one]; omega), by rw [← ra6.len]; exact of_decide_eq_true hz, _, F6, _, aD ++ [y6], aV ++ [v5], e1.trans hex, rv7, ra6.snoc rd6, s7.sub fun c => ?_, ev1⟩
                have := cnt_wipe c own cs6
                simp only [cnt_append]
                omega
              · cases ev1
            · cases ev1
  · have e : i = ds.length := by omega
    subst e
    rw [List.drop_length] at ev1
    cases ev1
    exact .inl ⟨wk.stop F H _ e1 s1', q F H aV cs e1 ra rv1 s1⟩
theorem comp2_snd {K : PySem.W.Frag} {mg : MT} {own own1 : List Nat} {g g1 : SG} {t t1 : ST} {ef : SE} {it1 : SI} {gt gt1 : TG} {tt tt1 : TT} {te : TE} {wi1 : TI} {J : It} {ds acc : List D} {cw R : List Cell} {F1 H1 : Hp} {r1 r2 : Env} {σ : L2.St} {cs1 : List (List Cell)} {Q : VK} (nd : own.Nodup) (sub : ∀ i ∈ own1, i ∈ own)
    (hg : SnG K mg (notIn own) gt g) (ht : SnT K mg WNo tt (t p)) (hi1 : SnI K mg WNo wi1 (it1 p)) (hg1 : SnG K mg (notIn own1) gt1 g1) (ht1 : SnT K mg WNo tt1 (t1 p)) (he : SnE K mg WNo te (ef p)) (wk : Walk K mg J ds F1 cw) (rv : RV K mg F1 r1 σ cs1) (s : Sat mg F1 H1 (cw ++ (cs1.flatten ++ R))) (ev : compL2 own own1 g t it1 g1 t1 ef p ds [] (wipeE own r1) = .ok acc r2)
    (q : ∀ F' H' v k cs, Ex F1 F' → RC K mg F' (.ls acc) v k → RV K mg F' (restE own r1 r2) σ cs → Sat mg F' H' (k ++ (cs.flatten ++ (cw ++ R))) → Q v H') :
    ∀ L, H1 L = none → ∃ Wv : Nat → Nat → Hp → Prop, (∃ m, Wv 0 m (upd H1 L (.lst []))) ∧ ∀ i m H, Wv i m H →
      (J.stop i H ∧ Q (.ref L) H) ∨ (J.go i H ∧ ∃ Nx : Hp → Prop, (∀ H', Nx H' → ∃ m', m' < m ∧ Wv (i + 1) m' H') ∧ ∀ x H', J.yld i H x H' → gt x (wipe σ own) H' fun σ2 H2 => wipe σ2 own = wipe σ own ∧ tt σ2 H2 fun b H3 =>
        if b = true then wi1 σ2 H3 fun J1 H4 => ∃ W1 : Nat → Nat → Hp → Prop, (∃ m, W1 0 m H4) ∧ ∀ j k H, W1 j k H →
          (J1.stop j H ∧ Nx H) ∨ (J1.go j H ∧ ∃ Nx1 : Hp → Prop, (∀ H', Nx1 H' → ∃ k', k' < k ∧ W1 (j + 1) k' H') ∧ ∀ x H', J1.yld j H x H' → gt1 x (wipe σ2 own1) H' fun σ3 H5 => wipe σ3 own1 = wipe σ2 own1 ∧ tt1 σ3 H5 fun b H6 =>
            if b = true then te σ3 H6 fun y H7 => ∃ ac, H7 L = some (.lst ac) ∧ ac.length < sizeLine ∧ Nx1 (upd H7 L (.lst (ac ++ [y]))) else Nx1 H6)
        else Nx H3) := by
  intro L hL
  obtain ⟨S, hS⟩ := saved own cs1
  refine ⟨fun i m H => m = ds.length - i ∧ i ≤ ds.length ∧ ∃ r F cs aD aV, Ex F1 F ∧ RV K mg F r (wipe σ own) cs ∧ RDs K mg F aD aV ∧ Sat mg F H ([(L, HO.lst aV)] ++ (cs.flatten ++ (S ++ (cw ++ R)))) ∧ compL2 own own1 g t it1 g1 t1 ef p (ds.drop i) aD r = .ok acc r2,
    ⟨ds.length, by simp, Nat.zero_le _, wipeE own r1, F1, own.foldr (fun i cs => cs.set i []) cs1, [], [], Ex.refl F1, wipe_rv rv, .nil, ?_, by rw [List.drop_zero]; exact ev⟩, ?_⟩
  · have s0 : Sat mg F1 (upd H1 L (.lst [])) ([(L, HO.lst [])] ++ (cw ++ (cs1.flatten ++ R))) := s.newO hL
    exact s0.sub fun c => by
      have := hS c
      simp only [cnt_append]
      omega
  rintro i m H ⟨rfl, hi, r, F, cs, aD, aV, e1, rv1, ra, s1, ev1⟩
  have s1' : Sat mg F H (cw ++ ([(L, HO.lst aV)] ++ (cs.flatten ++ (S ++ R)))) := s1.sub fun c => by
    simp only [cnt_append]
    omega
  by_cases hlt : i < ds.length
  · have hd : ds[i]? = some ds[i] := List.getElem?_eq_getElem hlt
    obtain ⟨go, yl⟩ := wk.item i ds[i] F H _ hd e1 s1'
    rw [List.drop_eq_getElem_cons hlt] at ev1
    unfold compL2 at ev1
    refine .inr ⟨go, fun H2 => ∃ r F cs aD aV, Ex F1 F ∧ RV K mg F r (wipe σ own) cs ∧ RDs K mg F aD aV ∧ Sat mg F H2 ([(L, HO.lst aV)] ++ (cs.flatten ++ (S ++ (cw ++ R)))) ∧ compL2 own own1 g t it1 g1 t1 ef p (ds.drop (i + 1)) aD r = .ok acc r2,
      fun H2 ⟨r, F, cs, aD, aV, h1, h2, h3, h4, h5⟩ => ⟨ds.length - (i + 1), by omega, rfl, hlt, r, F, cs, aD, aV, h1, h2, h3, h4, h5⟩, fun x H' y => ?_⟩
    obtain ⟨F2, e2, rd, st⟩ := yl x H' y
    have s2 := st _ s1
    split at ev1
    · cases ev1
    · rename_i r3 hg3
      refine hg ds[i] x F2 H' (wipe σ own) r cs ([(L, HO.lst aV)] ++ (S ++ (cw ++ R))) r3 _ rd (rv1.mono e2) (s2.sub fun c => by
        simp only [cnt_append]
        omega) hg3 fun σ2 F9 H9 cs2 e9 rv2 pn2 l2 s3 => ?_
      replace e2 := e2.trans e9
      have hw : wipe σ2 own = wipe σ own := by
        have h1 : wipe σ2 own = wipe (wipe σ own) own := wipe_eq l2 fun i hi => pn2.get i (by simp [notIn, hi])
        rw [h1]
        exact wipe_eq (wipe_length σ own) fun i hi => wipe_get hi
      refine ⟨hw, ht r3 σ2 F9 H9 cs2 ([(L, HO.lst aV)] ++ (S ++ (cw ++ R))) _ rv2 s3 ?_⟩
      cases et : t p r3 with
      | bad => rw [et] at ev1; cases ev1
      | exn x r4 => rw [et] at ev1; cases ev1
      | ok b r4 =>
        rw [et] at ev1
        intro F4 H4 cs4 e4 rv4 s4
        cases b with
        | false =>
          rw [if_neg Bool.false_ne_true]
          have rv5 := wipe_rv (own := own) rv4
          rw [hw] at rv5
          exact ⟨_, F4, _, aD, aV, (e1.trans e2).trans e4, rv5, ra.mono (e2.trans e4), s4.sub fun c => by
            have := cnt_wipe c own cs4
            simp only [cnt_append]
            omega, ev1⟩
        | true =>
          rw [if_pos rfl]
          refine hi1 r4 σ2 F4 H4 cs4 ([(L, HO.lst aV)] ++ (S ++ (cw ++ R))) _ rv4 s4 ?_
          simp only at ev1
          cases ei : it1 p r4 with
          | bad => rw [ei] at ev1; cases ev1
          | exn x r5 => rw [ei] at ev1; cases ev1
          | ok xs r5 =>
            rw [ei] at ev1
            simp only at ev1
            intro F5 H5 J1 cw1 cs5 e5 wk1 rv5 s5
            split at ev1
            · rename_i acc2 r6 ev2
              have hex : Ex F F5 := (e2.trans e4).trans e5
              have rvw := wipe_rv (own := own1) rv5
              refine comp_loop (L := L) (aV0 := aV) (R := S ++ (cw ++ R)) hg1 ht1 he wk1 rvw (ra.mono hex) (s5.sub fun c => ?_) ev2 fun F' H' aV' cs' e6 ra6 rv6 s6 => ?_
              · have := cnt_wipe c own1 cs5
                simp only [cnt_append]
                omega
              · have rv7 := wipe_rv (own := own) rv6
                have hww : wipe (wipe σ2 own1) own = wipe σ own := by
                  rw [← hw]
                  exact wipe_eq (wipe_length σ2 own1) fun i hi => wipe_get fun z => hi (sub i z)
                rw [hww] at rv7
                exact ⟨_, F', _, acc2, aV', (e1.trans hex).trans e6, rv7, ra6, s6.sub fun c => by
                  have := cnt_wipe c own cs'
                  simp only [cnt_append]
                  omega, ev1⟩
            · cases ev1
  · have e : i = ds.length := by omega
    subst e
    rw [List.drop_length] at ev1
    cases ev1
    refine .inl ⟨wk.stop F H _ e1 s1', ?_⟩
    obtain ⟨cs', g1', g2⟩ := rest_rv e1 rv nd (wipe σ own) rv1 (fun i hi => wipe_get hi) (wipe_length σ own)
    refine q F H (.ref L) [(L, .lst aV)] cs' e1 (.ls ra) g1' (s1.sub fun c => ?_)
    have h1 := g2 c
    have h2 := hS c
    simp only [cnt_append]
    omega
/-- an expression's meaning, with more rules for its reading -/
def OkEP (Z : Jd) (Ph : Cx → TE → Prop) (f : Env → Out Rf) : Prop := ∃ t, (∀ X, Z.G X → Ph X t) ∧ SnE Z.K Z.mg Z.W t f
theorem ok_comp {Ph : Cx → TE → Prop} {own : List Nat} {it : SI} {g : SG} {t : ST} {ef : SE} {gt : TG} {Zb : Jd} {elt : Expr} {ifs : List Expr} {iter : Expr} (nd : own.Nodup) (hZ : Zb.K = Z.K ∧ Zb.mg = Z.mg ∧ Zb.W = WNo) (hg : SnG Z.K Z.mg (notIn own) gt g)
    (hp : ∀ X, Z.G X → ∀ wi tt te, PI X tg iter wi → (∀ Y, Zb.G Y → PTs Y ifs tt) → (∀ Y, Zb.G Y → PE Y elt te) → Ph X (tLc wi gt tt te own))
    (hi : OkI Z tg iter (it p)) (ht : ∃ tt, (∀ Y, Zb.G Y → PTs Y ifs tt) ∧ SnT Zb.K Zb.mg Zb.W tt (t p)) (he : OkE Zb elt (ef p)) : OkEP Z Ph (eComp own it g t ef p) := by
  obtain ⟨wi, pi, si⟩ := hi
  obtain ⟨tt, pt, st⟩ := ht
  obtain ⟨te, pe, se⟩ := he
  obtain ⟨hK, hm, hW⟩ := hZ
  rw [hK, hm, hW] at st se
  refine ⟨_, fun X g => hp X g wi tt te (pi X g) pt pe, fun r0 σ F H cs R Q rv s po => ?_⟩
  unfold eComp at po
  refine si r0 σ F H cs R _ rv s ?_
  cases ea : it p r0 with
  | bad => rw [ea] at po; exact po
  | exn x r1 => rw [ea] at po; exact po
  | ok xs r1 =>
    rw [ea] at po
    simp only [Out.bind_ok] at po
    intro F1 H1 J cw cs1 e1 wk rv1 s1
    split at po
    · rename_i acc r2 ev
      exact comp_snd nd hg st se wk rv1 s1 ev fun F' H' v k cs' e2 rc rv2 s2 => po F' H' v k cs' (e1.trans e2) rc rv2 (s2.sub fun c => by simp only [cnt_append]; omega)
    · exact po.elim
theorem ok_compv {Ph : Cx → TE → Prop} {own : List Nat} {i : Nat} {g : SG} {t : ST} {ef : SE} {gt : TG} {Zb : Jd} {elt : Expr} {ifs : List Expr} {iter : Expr} (hKX : ∀ X, Z.G X → X.K = Z.K) (nd : own.Nodup) (hi : i ∉ own) (hZ : Zb.K = Z.K ∧ Zb.mg = Z.mg ∧ Zb.W = WNo) (hg : SnG Z.K Z.mg (notIn own) gt g)
    (hp : ∀ X, Z.G X → ∀ wi tt te, PI X tg iter wi → (∀ Y, Zb.G Y → PTs Y ifs tt) → (∀ Y, Zb.G Y → PE Y elt te) → Ph X (tLc wi gt tt te own))
    (hv : ∀ X, Z.G X → PE X iter (tVar i)) (ht : ∃ tt, (∀ Y, Zb.G Y → PTs Y ifs tt) ∧ SnT Zb.K Zb.mg Zb.W tt (t p)) (he : OkE Zb elt (ef p)) : OkEP Z Ph (eCompV own i g t ef p) := by
  obtain ⟨tt, pt, st⟩ := ht
  obtain ⟨te, pe, se⟩ := he
  obtain ⟨hK, hm, hW⟩ := hZ
  rw [hK, hm, hW] at st se
  refine ⟨tLc (iAll Z.K (tVar i)) gt tt te own, fun X g => hp X g _ tt te (by rw [← hKX X g]; exact pi_all (hv X g)) pt pe, fun r0 σ F H cs R Q rv s po => ?_⟩
  unfold eCompV at po
  split at po
  · rename_i d hd
    obtain ⟨v, k, h1, h2, h3⟩ := rv.get hd
    cases h3 with
    | val q =>
      split at po
      · rename_i xs hx
        obtain ⟨J, wk, hj⟩ := walk_of_val (Z := Z) q hx s.ex
        split at po
        · rename_i acc r2 ev
          have fin := comp_snd (Q := Q) (R := R) nd hg st se wk rv s ev fun F' H' v k cs' e2 rc rv2 s2 => po F' H' v k cs' e2 rc rv2 s2
          rcases hj with ⟨a, rfl, hs, rfl⟩ | ⟨a, rfl, hs, rfl⟩ | ⟨z, rfl, rfl⟩
          · exact .inl (.inl ⟨_, h1, a, rfl, hs, fin⟩)
          · exact .inl (.inr ⟨_, h1, a, rfl, hs, fin⟩)
          · exact .inr ⟨_, h1, z, rfl, fin⟩
        · exact po.elim
      · exact po.elim
  · rename_i xs hd
    obtain ⟨v, k, h1, h2, h3⟩ := rv.get hd
    have h3' := h3
    cases h3 with
    | @ls a ds vs q =>
      have s1 : Sat Z.mg F H ([(a, HO.lst vs)] ++ ((cs.set i []).flatten ++ R)) := s.sub fun c => by
        have := cnt_set c (k' := []) h2
        simp only [cnt_append, cnt_nil] at this ⊢
        omega
      have ha : H a = some (.lst vs) := s1.own (a, .lst vs) (by simp only [cnt_append, cnt_one]; omega)
      have wk : Walk Z.K Z.mg (Itl Z.K a) xs F [(a, .lst vs)] := walk_lst q fun F' H' R e s => s.own (a, .lst vs) (by simp only [cnt_append, cnt_one]; omega)
      split at po
      · rename_i acc r2 ev
        refine .inl (.inl ⟨_, h1, a, rfl, ⟨vs, SqL.of ha⟩, comp_snd nd hg st se wk (rv.hide i) s1 ev fun F' H' v' k' cs' e2 rc rv2 s2 => ?_⟩)
        refine po F' H' v' k' _ e2 rc (rv2.put h1 (h3'.mono e2)) (s2.sub fun c => ?_)
        have := cnt_put c (k' := [(a, HO.lst vs)]) cs' i
        simp only [cnt_append] at *
        omega
      · exact po.elim
  · exact po.elim
theorem ok_comp2 {Ph : Cx → TE → Prop} {own own1 : List Nat} {it it1 : SI} {g g1 : SG} {t t1 : ST} {ef : SE} {gt gt1 : TG} {Zb : Jd} {elt tg1 : Expr} {ifs ifs1 : List Expr} {iter iter1 : Expr} (nd : own.Nodup) (sub : ∀ i ∈ own1, i ∈ own) (hZ : Zb.K = Z.K ∧ Zb.mg = Z.mg ∧ Zb.W = WNo) (hg : SnG Z.K Z.mg (notIn own) gt g) (hg1 : SnG Z.K Z.mg (notIn own1) gt1 g1)
    (hp : ∀ X, Z.G X → ∀ wi tt wi1 tt1 te, PI X tg iter wi → (∀ Y, Zb.G Y → PTs Y ifs tt) → (∀ Y, Zb.G Y → PI Y tg1 iter1 wi1) → (∀ Y, Zb.G Y → PTs Y ifs1 tt1) → (∀ Y, Zb.G Y → PE Y elt te) → Ph X (tLc2 wi gt tt wi1 gt1 tt1 te own own1))
    (hi : OkI Z tg iter (it p)) (ht : ∃ tt, (∀ Y, Zb.G Y → PTs Y ifs tt) ∧ SnT Zb.K Zb.mg Zb.W tt (t p)) (hi1 : OkI Zb tg1 iter1 (it1 p)) (ht1 : ∃ tt, (∀ Y, Zb.G Y → PTs Y ifs1 tt) ∧ SnT Zb.K Zb.mg Zb.W tt (t1 p)) (he : OkE Zb elt (ef p)) : OkEP Z Ph (eComp2 own own1 it g t it1 g1 t1 ef p) := by
  obtain ⟨wi, pi, si⟩ := hi
  obtain ⟨tt, pt, st⟩ := ht
  obtain ⟨wi1, pi1, si1⟩ := hi1
  obtain ⟨tt1, pt1, st1⟩ := ht1
  obtain ⟨te, pe, se⟩ := he
  obtain ⟨hK, hm, hW⟩ := hZ
  rw [hK, hm, hW] at st se si1 st1
  refine ⟨_, fun X g => hp X g wi tt wi1 tt1 te (pi X g) pt pi1 pt1 pe, fun r0 σ F H cs R Q rv s po => ?_⟩
  unfold eComp2 at po
  refine si r0 σ F H cs R _ rv s ?_
  cases ea : it p r0 with
  | bad => rw [ea] at po; exact po
  | exn x r1 => rw [ea] at po; exact po
  | ok xs r1 =>
    rw [ea] at po
    simp only [Out.bind_ok] at po
    intro F1 H1 J cw cs1 e1 wk rv1 s1
    split at po
    · rename_i acc r2 ev
      exact comp2_snd nd sub hg st si1 hg1 st1 se wk rv1 s1 ev fun F' H' v k cs' e2 rc rv2 s2 => po F' H' v k cs' (e1.trans e2) rc rv2 (s2.sub fun c => by simp only [cnt_append]; omega)
    · exact po.elim
theorem ok_comp2v {Ph : Cx → TE → Prop} {own own1 : List Nat} {i : Nat} {it1 : SI} {g g1 : SG} {t t1 : ST} {ef : SE} {gt gt1 : TG} {Zb : Jd} {elt tg1 : Expr} {ifs ifs1 : List Expr} {iter iter1 : Expr} (hKX : ∀ X, Z.G X → X.K = Z.K) (nd : own.Nodup) (sub : ∀ i ∈ own1, i ∈ own) (hZ : Zb.K = Z.K ∧ Zb.mg = Z.mg ∧ Zb.W = WNo) (hg : SnG Z.K Z.mg (notIn own) gt g) (hg1 : SnG Z.K Z.mg (notIn own1) gt1 g1)
    (hp : ∀ X, Z.G X → ∀ wi tt wi1 tt1 te, PI X tg iter wi → (∀ Y, Zb.G Y → PTs Y ifs tt) → (∀ Y, Zb.G Y → PI Y tg1 iter1 wi1) → (∀ Y, Zb.G Y → PTs Y ifs1 tt1) → (∀ Y, Zb.G Y → PE Y elt te) → Ph X (tLc2 wi gt tt wi1 gt1 tt1 te own own1))
    (hv : ∀ X, Z.G X → PE X iter (tVar i)) (ht : ∃ tt, (∀ Y, Zb.G Y → PTs Y ifs tt) ∧ SnT Zb.K Zb.mg Zb.W tt (t p)) (hi1 : OkI Zb tg1 iter1 (it1 p)) (ht1 : ∃ tt, (∀ Y, Zb.G Y → PTs Y ifs1 tt) ∧ SnT Zb.K Zb.mg Zb.W tt (t1 p)) (he : OkE Zb elt (ef p)) : OkEP Z Ph (eComp2V own own1 i g t it1 g1 t1 ef p) := by
  obtain ⟨tt, pt, st⟩ := ht
  obtain ⟨wi1, pi1, si1⟩ := hi1
  obtain ⟨tt1, pt1, st1⟩ := ht1
  obtain ⟨te, pe, se⟩ := he
  obtain ⟨hK, hm, hW⟩ := hZ
  rw [hK, hm, hW] at st se si1 st1
  refine ⟨tLc2 (iAll Z.K (tVar i)) gt tt wi1 gt1 tt1 te own own1, fun X g => hp X g _ tt wi1 tt1 te (by rw [← hKX X g]; exact pi_all (hv X g)) pt pi1 pt1 pe, fun r0 σ F H cs R Q rv s po => ?_⟩
  unfold eComp2V at po
  split at po
  · rename_i d hd
    obtain ⟨v, k, h1, h2, h3⟩ := rv.get hd
    cases h3 with
    | val q =>
      split at po
      · rename_i xs hx
        obtain ⟨J, wk, hj⟩ := walk_of_val (Z := Z) q hx s.ex
        split at po
        · rename_i acc r2 ev
          have fin := comp2_snd (Q := Q) (R := R) nd sub hg st si1 hg1 st1 se wk rv s ev fun F' H' v k cs' e2 rc rv2 s2 => po F' H' v k cs' e2 rc rv2 s2
          rcases hj with ⟨a, rfl, hs, rfl⟩ | ⟨a, rfl, hs, rfl⟩ | ⟨z, rfl, rfl⟩
          · exact .inl (.inl ⟨_, h1, a, rfl, hs, fin⟩)
          · exact .inl (.inr ⟨_, h1, a, rfl, hs, fin⟩)
          · exact .inr ⟨_, h1, z, rfl, fin⟩
        · exact po.elim
      · exact po.elim
  · rename_i xs hd
    obtain ⟨v, k, h1, h2, h3⟩ := rv.get hd
    have h3' := h3
    cases h3 with
    | @ls a ds vs q =>
      have s1 : Sat Z.mg F H ([(a, HO.lst vs)] ++ ((cs.set i []).flatten ++ R)) := s.sub fun c => by
        have := cnt_set c (k' := []) h2
        simp only [cnt_append, cnt_nil] at this ⊢
        omega
      have ha : H a = some (.lst vs) := s1.own (a, .lst vs) (by simp only [cnt_append, cnt_one]; omega)
      have wk : Walk Z.K Z.mg (Itl Z.K a) xs F [(a, .lst vs)] := walk_lst q fun F' H' R e s => s.own (a, .lst vs) (by simp only [cnt_append, cnt_one]; omega)
      split at po
      · rename_i acc r2 ev
        refine .inl (.inl ⟨_, h1, a, rfl, ⟨vs, SqL.of ha⟩, comp2_snd nd sub hg st si1 hg1 st1 se wk (rv.hide i) s1 ev fun F' H' v' k' cs' e2 rc rv2 s2 => ?_⟩)
        refine po F' H' v' k' _ e2 rc (rv2.put h1 (h3'.mono e2)) (s2.sub fun c => ?_)
        have := cnt_put c (k' := [(a, HO.lst vs)]) cs' i
        simp only [cnt_append] at *
        omega
      · exact po.elim
  · exact po.elim
end
end Mi

set_option Elab.async false
set_option linter.all false
set_option maxRecDepth 100000
set_option maxHeartbeats 1000000
/-! Mi: enumerate over a text or a tuple. -/
namespace Mi
open PySem L2
/-- the iterator within: what it gives -/
structure EnS (P : Program) (w : World) (K : PySem.W.Frag) (u : Addr) (bt : Nat → Heap → Prop) (G0 : Nat → Hp → Prop) (G : Nat → Hp → V → Prop) (S : Nat → Hp → Prop) : Prop where
  obj : ∀ i h, bt i h → ∃ o, h.get? u = some o ∧ ∀ v, o.data ≠ .cell v
  keep : ∀ i h h', bt i h → (∀ o, h.get? u = some o → h'.get? u = some o) → bt i h'
  item : ∀ (X : Cx), X.prog = P → X.w = w → X.K = K → X.calm = true → ∀ (i : Nat) (pins : List (Addr × Obj)) (s : Shared) (σ : L2.St) (H : Hp), Inv X pins σ H s → bt i s.heap → G0 i H →
    ∃ (fp : List Addr) (n : Nat) (Pr : Nat → Value → Prop) (St : Nat → Heap → Prop), Draws P w X.A.in1 u fp n Pr St ∧ St i s.heap ∧ i < n ∧ (∀ e c old, IsEnum s.heap e u c old → e ≠ u → e ∉ fp) ∧ (∀ h, St (i + 1) h → bt (i + 1) h) ∧ ∀ y, Pr i y → ∃ x, RelV x y ∧ G i H x
  done : ∀ (X : Cx), X.prog = P → X.w = w → X.K = K → X.calm = true → ∀ (i : Nat) (pins : List (Addr × Obj)) (s : Shared) (σ : L2.St) (H : Hp), Inv X pins σ H s → bt i s.heap → S i H →
    ∃ (fp : List Addr) (n : Nat) (Pr : Nat → Value → Prop) (St : Nat → Heap → Prop), Draws P w X.A.in1 u fp n Pr St ∧ St n s.heap
def Ixe (st : Int) (G0 : Nat → Hp → Prop) (G : Nat → Hp → V → Prop) (S : Nat → Hp → Prop) : It :=
  ⟨G0, fun i H v H' => ∃ T x, v = .ref T ∧ H T = none ∧ H' = upd H T (.tup [.int (st + (i : Int)), x]) ∧ G i H x, S⟩
theorem two_mem {e u b : Addr} (hb : b ∈ [e, u]) : b = e ∨ b = u := by simpa using hb
theorem turn_en {P : Program} {w : World} {K : PySem.W.Frag} {elts : List Expr} {kk : Nat} {tpos : Pos} {u : Addr} {bt : Nat → Heap → Prop} {G0 : Nat → Hp → Prop} {G : Nat → Hp → V → Prop} {S : Nat → Hp → Prop} (st : Int) (e : Addr) (N : EnS P w K u bt G0 G S) :
    Turn P w K (.Tuple elts kk tpos) (Ixe st G0 G S) [e, u] e (fun i h => (∃ old, IsEnum h e u (st + (i : Int)) old) ∧ bt i h ∧ e ≠ u) where
  mem := List.mem_cons_self ..
  obj := fun i h q b hb => by
    obtain ⟨⟨old, he⟩, hbt, _⟩ := q
    rcases two_mem hb with rfl | rfl
    · exact ⟨_, he, fun v z => nomatch z⟩
    · exact N.obj i h hbt
  keep := fun i h h' q k => by
    obtain ⟨⟨old, he⟩, hbt, ne⟩ := q
    exact ⟨⟨old, k e (List.mem_cons_self ..) _ he⟩, N.keep i h h' hbt (fun o z => k u (by simp) o z), ne⟩
  item := by
    intro X hP hw hK hc i pins s σ H E I hf q hg
    obtain ⟨⟨old, he⟩, hbt, ne⟩ := q
    obtain ⟨fp, n, Pr, Sx, dr, hst, hlt, hfp, hbk, hrel⟩ := N.item X hP hw hK hc i pins s σ H I hbt hg
    subst hP hw hK
    have le : e < s.heap.objs.size := Heap.lt_size he
    have lu : u < s.heap.objs.size := by obtain ⟨o, z, _⟩ := N.obj i _ hbt; exact Heap.lt_size z
    refine wpAny_pyNext_enum_itemC dr he hst hlt ne (hfp e _ old he ne) fun y h1 tk hy ho hs1 hT hsz hk => ?_
    obtain ⟨x, rx, gx⟩ := hrel y hy
    refine ⟨_, rfl, wpAny_letOwnedTupleGo_enum (s := { s with heap := h1, toks := tk + 1 }) ho fun h2 he2 sb => ?_⟩
    have ht : h2.get? s.heap.objs.size = some { cls := .type "tuple", data := .seq #[.int (st + (i : Int)) tk, y] } := by rw [sb.2 _ (Nat.ne_of_gt le)]; exact hT
    have nw : ObjOk X.prog X.w (upd H s.heap.objs.size (.tup [.int (st + (i : Int)), x])) h2 s.heap.objs.size (.tup [.int (st + (i : Int)), x]) :=
      ⟨by show 2 ≤ sizeLine; decide, [.int (st + (i : Int)) tk, y], .cons ⟨_, rfl⟩ (.cons rx .nil), ⟨_, ht, rfl, _, rfl⟩⟩
    have away : ∀ b, b ∉ [e, u] → b ≠ e ∧ b ≠ u := fun b hb => ⟨fun z => hb (by simp [z]), fun z => hb (by simp [z])⟩
    have J : Inv X pins σ (upd H s.heap.objs.size (.tup [.int (st + (i : Int)), x])) { s with heap := h2, toks := tk + 1 } :=
      I.turnedNew (ch := [e, u]) (fun b ob hb z => by rw [sb.2 b (away b hb).1]; exact hk b ob (away b hb).1 (away b hb).2 z) hf (Nat.le_refl _) nw
    refine ⟨.ref s.heap.objs.size, _, J, rfl, ⟨_, x, rfl, I.hok.fresh (Nat.le_refl _), rfl, gx⟩, ⟨⟨y, ?_⟩, ?_, ne⟩, fun b hb => ?_⟩
    · rw [show st + ((i + 1 : Nat) : Int) = st + (i : Int) + 1 by omega]
      exact he2
    · exact N.keep _ _ _ (hbk _ hs1) fun o z => by rw [sb.2 u (Ne.symm ne)]; exact z
    · have lb : b < s.heap.objs.size := by
        rcases two_mem hb with rfl | rfl
        · exact le
        · exact lu
      rw [upd_ne (Nat.ne_of_lt lb)]
      exact (hf b hb).1
  done := by
    intro X hP hw hK hc i pins s σ H E I hf q hg
    obtain ⟨⟨old, he⟩, hbt, ne⟩ := q
    obtain ⟨fp, n, Pr, Sx, dr, hst⟩ := N.done X hP hw hK hc i pins s σ H I hbt hg
    subst hP hw hK
    obtain ⟨f0, f1, f2, f3, f4, f5⟩ := hf u (by simp)
    exact wpAny_pyNext_enum_endD dr he hst fun h1 eb => ⟨rfl, I.turned (t' := s.toks) (fun b o hb z => eb b o hb z) f0 f1 f3 f4 f5⟩
  self := fun A i s Q E q h => by
    obtain ⟨⟨old, he⟩, _⟩ := q
    exact wpAny_pyIter_enum he h
/-! a text -/
def GTx (z : Str) : Nat → Hp → V → Prop := fun i _ v => ∃ c, z.cps[i]? = some c ∧ v = .str ⟨#[c]⟩
def G0x (z : Str) : Nat → Hp → Prop := fun i _ => i < z.cps.size
def STx (z : Str) : Nat → Hp → Prop := fun i _ => i = z.cps.size
theorem en_text {P : Program} {w : World} {K : PySem.W.Frag} (u : Addr) (z : Str) (t : Tok) : EnS P w K u (fun i h => h.IsStrIter u (strIterType z) z t i) (G0x z) (GTx z) (STx z) where
  obj := fun i h q => by
    obtain ⟨o, e, c, d⟩ := q
    exact ⟨o, e, fun v y => by rw [d] at y; cases y⟩
  keep := fun i h h' q k => by
    obtain ⟨o, e, r⟩ := q
    exact ⟨o, k o e, r⟩
  item := by
    intro X hP hw hK hc i pins s σ H I hbt hg
    subst hP hw
    have hi : i < z.cps.size := hg
    refine ⟨[u], z.cps.size, _, _, Draws.text (A := X.A.in1) (I.ok.hd hc) u z t, hbt, hi, fun a b o q ne hm => ne (by simpa using hm), fun h q => q, fun y hy => ?_⟩
    obtain ⟨c', tk, e', rfl⟩ := hy
    exact ⟨.str ⟨#[c']⟩, ⟨tk, rfl⟩, c', e', rfl⟩
  done := by
    intro X hP hw hK hc i pins s σ H I hbt hg
    subst hP hw
    have hg' : i = z.cps.size := hg
    subst hg'
    exact ⟨[u], z.cps.size, _, _, Draws.text (A := X.A.in1) (I.ok.hd hc) u z t, hbt⟩
/-! a tuple -/
def GTp (K : PySem.W.Frag) (a : Addr) : Nat → Hp → V → Prop := fun i H v => ∀ xs, SqT K H a xs → xs[i]? = some v
def G0p (K : PySem.W.Frag) (a : Addr) : Nat → Hp → Prop := fun i H => ∃ xs v, SqT K H a xs ∧ xs[i]? = some v
def STp (K : PySem.W.Frag) (a : Addr) : Nat → Hp → Prop := fun i H => ∃ xs : List V, SqT K H a xs ∧ xs.length = i
theorem en_tup {P : Program} {w : World} {K : PySem.W.Frag} (u a : Addr) : EnS P w K u (fun i h => h.IsTupleIter u a i) (G0p K a) (GTp K a) (STp K a) where
  obj := fun i h q => by
    obtain ⟨o, e, c, d⟩ := q
    exact ⟨o, e, fun v y => by rw [d] at y; cases y⟩
  keep := fun i h h' q k => by
    obtain ⟨o, e, r⟩ := q
    exact ⟨o, k o e, r⟩
  item := by
    intro X hP hw hK hc i pins s σ H I hbt hg
    obtain ⟨xs, x, hs, hx⟩ := hg
    subst hP hw hK
    obtain ⟨its, rv, p, hz⟩ := I.tuple hs
    obtain ⟨y, hy, ry⟩ := rv.get hx
    have hne : a ≠ u := fun z => by
      obtain ⟨o, e1, c1, n, d1⟩ := p
      obtain ⟨o2, e2, c2, d2⟩ := hbt
      rw [z, e2] at e1
      cases e1
      rw [c1] at c2
      exact absurd c2 (by decide)
    have hi : i < its.toArray.size := by
      have : its[i]? = some y := by simpa using hy
      have := (List.getElem?_eq_some_iff.mp this).1
      simpa using this
    refine ⟨[u, a], its.toArray.size, _, _, Draws.tuple (A := X.A.in1) (I.ok.hd hc) u a hne its.toArray, ⟨hbt, p⟩, hi, fun b c old q ne hm => ?_, fun h q => q.1, fun y' hy' => ?_⟩
    · have hm' : b = u ∨ b = a := by simpa using hm
      rcases hm' with hm' | hm'
      · exact ne hm'
      · obtain ⟨o, e1, c1, n, d1⟩ := p
        have q' : s.heap.get? b = some _ := q
        rw [hm', e1] at q'
        cases q'
        have c2 : Value.type "enumerate" = Value.type "tuple" := c1
        exact absurd c2 (by decide)
    · have h1 : its[i]? = some y := by simpa using hy
      have h2 : its[i]? = some y' := by simpa using hy'
      rw [h1] at h2
      cases h2
      exact ⟨x, ry, fun ys hy => by rw [I.tuple_inj hy hs]; exact hx⟩
  done := by
    intro X hP hw hK hc i pins s σ H I hbt hg
    obtain ⟨xs, hs, hx⟩ := hg
    subst hP hw hK
    obtain ⟨its, rv, p, hz⟩ := I.tuple hs
    have hne : a ≠ u := fun z => by
      obtain ⟨o, e1, c1, n, d1⟩ := p
      obtain ⟨o2, e2, c2, d2⟩ := hbt
      rw [z, e2] at e1
      cases e1
      rw [c1] at c2
      exact absurd c2 (by decide)
    have hl : its.toArray.size = i := by rw [← hx, rv.length]; simp
    exact ⟨[u, a], its.toArray.size, _, _, Draws.tuple (A := X.A.in1) (I.ok.hd hc) u a hne its.toArray, by rw [hl]; exact hbt, p⟩
/-! the call -/
set_option maxHeartbeats 2000000 in
theorem new_enum1 {v : Value} {o : Obj} {Hp0 : Heap → Prop} (B : Begins v o Hp0) :
    Meets (Builtin.«enumerate.__new__» ⟨[.type "enumerate", v], []⟩) (fun _ R s => Hp0 s.heap ∧
      R (.ok (.ret (.ref (s.heap.push o).objs.size))) { s with heap := (s.heap.push o).push ⟨.type "enumerate", none, .fields #[.none, .bool false, .ref s.heap.objs.size, rawInt 0, .none, .none], #[]⟩ }) :=
  .of_wp fun prog w A R s hh => by
    obtain ⟨h0, g0, d0, t0, o0⟩ := s
    obtain ⟨b1, b2⟩ := hh
    have sb := sub_enumerate
    have beg : ∀ {A1 : Around} {E1 : Value → Shared → Prop} {Q1 : Value → Shared → Prop}, Q1 (.ref h0.objs.size) ⟨h0.push o, g0, d0, t0, o0⟩ → wpAny (model prog w) A1 (pyIter v) Q1 E1 ⟨h0, g0, d0, t0, o0⟩ :=
      fun {A1 E1 Q1} y => B.iter prog w A1 E1 ⟨h0, g0, d0, t0, o0⟩ Q1 b1 y
    wp_walk using beg
    refine wpAny_stack_any fun stk => wpAny_pure ?_
    split
    · rename_i cc _ _ _ _ _
      cases (cc == Value.type "enumerate") <;> (wp_walk using beg; exact ⟨_, rfl, b2⟩)
    · (wp_walk using beg)
      exact ⟨_, rfl, b2⟩
section
variable {prog : Program} {w : World} {A : Around} {E : Value → Shared → Prop} {s : Shared}
theorem begin1 {v : Value} {o : Obj} {Hp0 : Heap → Prop} {Q : Value → Shared → Prop} (B : Begins v o Hp0) (b1 : Hp0 s.heap)
    (k : ∀ h2, IsEnum h2 (s.heap.objs.size + 1) s.heap.objs.size 0 .none → h2.get? s.heap.objs.size = some o → (∀ b u, s.heap.get? b = some u → h2.get? b = some u) → Q (.ref (s.heap.objs.size + 1)) { s with heap := h2 }) :
    wpAny (model prog w) A (call (.type "enumerate") [v]) Q E s := by
  have sz : (s.heap.push o).objs.size = s.heap.objs.size + 1 := Heap.size_push ..
  have gE : ((s.heap.push o).push ⟨.type "enumerate", none, .fields #[.none, .bool false, .ref s.heap.objs.size, rawInt 0, .none, .none], #[]⟩).get? (s.heap.objs.size + 1) = some ⟨.type "enumerate", none, .fields #[.none, .bool false, .ref s.heap.objs.size, rawInt 0, .none, .none], #[]⟩ := by
    rw [← sz]
    exact Heap.get?_push_size _ rfl
  refine callType_new F.called_enumerate (by decide) (F.typeCall_enumerate_1 v) (F.newCall_enumerate_1 v) (fun obj => F.args_object_init_2 obj v) F.entry_enumerate_new (new_enum1 B) ⟨b1, ?_⟩
  show _ ∧ _
  rw [sz]
  exact ⟨⟨_, gE, rfl⟩, k _ gE (Heap.get?_push_of_some _ (Heap.get?_push_size _ B.free)) fun b u y => Heap.get?_push_of_some _ (Heap.get?_push_of_some _ y)⟩
end
/-- the reading of enumerate(e), enumerate(e, start=k) -/
def enQ (K : PySem.W.Frag) (k : Int) (R : It → Hp → Prop) (vs : List V) (H1 : Hp) : Prop := (∃ z, vs = [.str z] ∧ R (Ixe k (G0x z) (GTx z) (STx z)) H1) ∨ ∃ a xs, vs = [.ref a] ∧ SqT K H1 a xs ∧ R (Ixe k (G0p K a) (GTp K a) (STp K a)) H1
def tEn (K : PySem.W.Frag) (k : Int) (t : TA) : TI := fun σ H R => t σ H (enQ K k R)
theorem en_end {X : Cx} {pins : List (Addr × Obj)} {σ : L2.St} {H : Hp} {s : Shared} {R : It → Hp → Prop} {elts : List Expr} {kk : Nat} {tpos : Pos} {k : Int} {o : Obj} {bt : Nat → Heap → Prop} {G0 : Nat → Hp → Prop} {G : Nat → Hp → V → Prop} {S : Nat → Hp → Prop} {h2 : Heap}
    (I : Inv X pins σ H s) (N : EnS X.prog X.w X.K s.heap.objs.size bt G0 G S) (he : IsEnum h2 (s.heap.objs.size + 1) s.heap.objs.size k .none) (hb : bt 0 h2) (hk : ∀ b u, s.heap.get? b = some u → h2.get? b = some u) (q : R (Ixe k G0 G S) H) :
    wpAny (model X.prog X.w) X.A (pyIter (.ref (s.heap.objs.size + 1))) (PIE X pins σ (.Tuple elts kk tpos) R) X.xe { s with heap := h2 } := by
  refine wpAny_pyIter_enum he ?_
  refine ⟨s.heap.objs.size + 1, [s.heap.objs.size + 1, s.heap.objs.size], _, _, H, rfl, I.kept (t' := s.toks) hk, turn_en k (s.heap.objs.size + 1) N, ⟨⟨.none, by rw [show k + ((0 : Nat) : Int) = k by omega]; exact he⟩, hb, Nat.succ_ne_self _⟩, fun b hb => ?_, q⟩
  have le : s.heap.objs.size ≤ b := by
    rcases two_mem hb with rfl | rfl
    · exact Nat.le_add_right _ _
    · exact Nat.le_refl _
  exact I.fpOk le (I.hok.fresh le)
section
variable {X : Cx} {e : Expr} {t : TA} {p pos tpos : Pos} {elts : List Expr} {kk : Nat}
theorem pi_en0 (hg : Gl X "enumerate") (hm : X.mg "enumerate" = none) (he : PA X [e] t) (hs : starEach [e] X.env = (false, eval e X.env) :: starEach [] X.env) : PI X (.Tuple elts kk tpos) (.Call (.Name "enumerate" p) [e] [] pos) (tEn X.K 0 t) := by
  refine ⟨fun pins s σ H R I h => ?_⟩
  refine PyProof.Rows.Call_ (ld_blt I hg hm PyProof.Rows.boot_enumerate (PyProof.Rows.callWith_type1 (thn (he.run pos pins s σ H _ I h) fun us s1 ⟨vs, H1, I1, r1, q⟩ => ?_) hs rfl))
  rcases q with ⟨z, ev, q⟩ | ⟨a, xs, ev, hq, q⟩
  · subst ev
    cases r1 with
    | cons r rr =>
      cases rr
      obtain ⟨tk, rfl⟩ := r
      exact begin1 (begins_text z tk) trivial fun h2 he2 hi hk => en_end (o := ⟨.type (strIterType z), none, .fields #[.str z tk, .int 0 0], #[]⟩) I1 (en_text _ z tk) he2 ⟨_, hi, rfl, rfl⟩ hk q
  · subst ev
    cases r1 with
    | cons r rr =>
      cases rr
      cases r
      obtain ⟨its, rv, p', hz⟩ := I1.tuple hq
      exact begin1 (begins_tuple a its.toArray) p' fun h2 he2 hi hk => en_end (o := ⟨.type "tuple_iterator", none, .fields #[.ref a, .int 0 0], #[]⟩) I1 (en_tup _ a) he2 ⟨_, hi, rfl, rfl⟩ hk q
theorem pi_enK {k : Int} {j : Nat} {p2 kpos : Pos} (k0 : 0 ≤ k) (k1 : k ≤ 1000) (hg : Gl X "enumerate") (hm : X.mg "enumerate" = none) (he : PA X [e] t) (hs : starEach [e] X.env = (false, eval e X.env) :: starEach [] X.env) : PI X (.Tuple elts kk tpos) (.Call (.Name "enumerate" p) [e] [⟨some "start", .Constant (.int k) j p2, kpos⟩] pos) (tEn X.K k t) := by
  refine ⟨fun pins s σ H R I h => ?_⟩
  have pk : PK X [⟨some "start", .Constant (.int k) j p2, kpos⟩] (tCons (tC (.int k)) tNil) := pk_cons pe_int pk_nil
  refine wpAny_Call_Name_kw (ld_blt I hg hm PyProof.Rows.boot_enumerate ?_)
  refine PySem.W.callWith_of (P := fun _ => True) (by rw [hs]; rfl) (fun _ _ => ⟨.machine, .inr (.inl rfl), PySem.W.Looks.of_pure rfl⟩) (PyProof.Rows.evalArgs_kw2 rfl (thn (he.run pos pins s σ H _ I h) fun us s1 ⟨vs, H1, I1, r1, q⟩ => ?_) hs)
  refine thn (pk.run pos pins s1 σ H1 (fun ws H2 => ws = [.int k] ∧ H2 = H1) I1 ⟨rfl, rfl⟩) fun ks s2 ⟨ws, H2, I2, r2, ew, eH⟩ => ⟨trivial, ?_⟩
  subst ew
  subst eH
  cases r2 with
  | cons rk rk' =>
    cases rk'
    obtain ⟨tk2, rfl⟩ := rk
    rcases q with ⟨z, ev, q⟩ | ⟨a, xs, ev, hq, q⟩
    · subst ev
      cases r1 with
      | cons r rr =>
        cases rr
        obtain ⟨tk, rfl⟩ := r
        exact enum_begins_start (begins_text z tk) trivial (by omega) (by omega) fun h2 he2 hi hsz hk => en_end (o := ⟨.type (strIterType z), none, .fields #[.str z tk, .int 0 0], #[]⟩) I2 (en_text _ z tk) he2 ⟨_, hi, rfl, rfl⟩ hk q
    · subst ev
      cases r1 with
      | cons r rr =>
        cases rr
        cases r
        obtain ⟨its, rv, p', hz⟩ := I2.tuple hq
        exact enum_begins_start (begins_tuple a its.toArray) p' (by omega) (by omega) fun h2 he2 hi hsz hk => en_end (o := ⟨.type "tuple_iterator", none, .fields #[.ref a, .int 0 0], #[]⟩) I2 (en_tup _ a) he2 ⟨_, hi, rfl, rfl⟩ hk q
end
/-! the walk -/
theorem walk_ixe {K : PySem.W.Frag} {mg : MT} {k : Int} {G0 : Nat → Hp → Prop} {G : Nat → Hp → V → Prop} {S : Nat → Hp → Prop} {xs : List D} {F0 : Hp} {cw : List Cell}
    (hi : ∀ (i : Nat) (d : D) (F H : Hp) (R : List Cell), xs[i]? = some d → Ex F0 F → Sat mg F H (cw ++ R) → G0 i H ∧ ∀ x, G i H x → RD K mg F d x)
    (hs : ∀ (F H : Hp) (R : List Cell), Ex F0 F → Sat mg F H (cw ++ R) → S xs.length H) : Walk K mg (Ixe k G0 G S) (enD k xs) F0 cw where
  item := fun i d F H R hd e s => by
    unfold enD at hd
    rw [List.getElem?_map, List.getElem?_zipIdx] at hd
    cases hx : xs[i]? with
    | none => rw [hx] at hd; cases hd
    | some x0 =>
      rw [hx] at hd
      cases hd
      obtain ⟨h1, h2⟩ := hi i x0 F H R hx e s
      refine ⟨h1, fun v H' y => ?_⟩
      obtain ⟨T, x, rfl, hT, rfl, gx⟩ := y
      have rd := h2 x gx
      have fT : F T = none := s.ex.free hT
      refine ⟨upd F T (.tup [.int (k + (i : Int)), x]), Ex.new fT, ?_, fun cs q => q.newF hT⟩
      rw [show 0 + i = i by omega]
      exact .tup (vs := [.int (k + (i : Int)), x]) (SqT.of upd_same) (.cons (.int _) (.cons (rd.mono (Ex.new fT)) .nil))
  stop := fun F H R e s => by
    have := hs F H R e s
    rw [show (enD k xs).length = xs.length by unfold enD; simp]
    exact this
section
variable {Z : Jd} {p : Pg} {a e tg : Expr}
theorem ok_ien {k : Int} {g : SA} (hp : ∀ X, Z.G X → ∀ t, PA X [a] t → PI X tg e (tEn Z.K k t)) (ha : OkA Z [a] (g p)) : OkI Z tg e (iEn k g p) := by
  obtain ⟨ta, pa, sa⟩ := ha
  refine ⟨_, fun X g => hp X g ta (pa X g), fun r0 σ F H cs R Q rv s po => ?_⟩
  unfold iEn at po
  refine sa r0 σ F H cs R _ rv s ?_
  cases ea : g p r0 with
  | bad => rw [ea] at po; exact po
  | exn x r1 => rw [ea] at po; exact po
  | ok as r1 =>
    rw [ea] at po
    simp only [Out.bind_ok] at po
    intro F1 H1 vs k1 cs1 e1 ra1 rv1 s1
    split at po
    · rename_i ds hd
      obtain ⟨l, w⟩ := views_ok ra1 rv1 s1 (fun c => by simp only [cnt_append]; omega) hd
      split at po
      · rename_i xs hx
        unfold enV at hx
        split at hx
        · rename_i z
          cases hx
          obtain ⟨v, rfl, hv⟩ := one_of l w
          cases hv.str
          refine .inl ⟨z, rfl, po F1 H1 _ [] cs1 e1 (walk_ixe (fun i d F H R hd e s => ?_) fun F H R e s => ?_) rv1 (s1.sub fun c => by simp only [cnt_append, cnt_nil]; omega)⟩
          · rw [List.getElem?_map] at hd
            cases hc : z.cps.toList[i]? with
            | none => rw [hc] at hd; cases hd
            | some c =>
              rw [hc] at hd
              cases hd
              rw [Array.getElem?_toList] at hc
              refine ⟨(Array.getElem?_eq_some_iff.mp hc).1, fun x gx => ?_⟩
              obtain ⟨c', e', rfl⟩ := gx
              rw [hc] at e'
              cases e'
              exact .str _
          · show (z.cps.toList.map fun c => D.str ⟨#[c]⟩).length = z.cps.size
            simp
        · rename_i xs'
          cases hx
          obtain ⟨v, rfl, hv⟩ := one_of l w
          obtain ⟨b, vs, rfl, h1, f1, r1'⟩ := hv.tup s1.ex
          refine .inr ⟨b, vs, rfl, h1, po F1 H1 _ [] cs1 e1 (walk_ixe (fun i d F H R hd e s => ?_) fun F H R e s => ?_) rv1 (s1.sub fun c => by simp only [cnt_append, cnt_nil]; omega)⟩
          · obtain ⟨v, g1, g2⟩ := r1'.get hd
            have ha := (e.trans s.ex).st f1
            refine ⟨⟨vs, v, ha, g1⟩, fun x gx => ?_⟩
            have gy := gx vs ha
            rw [g1] at gy
            cases gy
            exact g2.mono e
          · exact ⟨vs, (e.trans s.ex).st f1, r1'.len.symm⟩
        · cases hx
      · exact po.elim
    · exact po.elim
end
end Mi

set_option Elab.async false
set_option linter.all false
set_option maxRecDepth 100000
set_option maxHeartbeats 2000000
/-! Mi: dict displays with text keys; index in a written tuple of texts. -/
namespace Mi
open PySem L2
section
variable {Z : Jd} {p : Pg}
/-- the pairs of a display -/
def prs (ks : List Str) (vs : List V) : List (V × V) := (kvOf ks vs).map fun kv => (kV kv.1, kv.2)
def OkP (Z : Jd) (ks : List Str) (keys : List (Option Expr)) (es : List Expr) (f : Env → Out (List Rf)) : Prop :=
  ∃ trs, (∀ X pos, Z.G X → PPs X pos keys es trs) ∧ ∀ r σ F H cs R (Q : List (V × V) → Hp → Prop), RV Z.K Z.mg F r σ cs → Sat Z.mg F H (cs.flatten ++ R) → PoA Z.K Z.mg Z.W σ F R (fun vs H' => Q (prs ks vs) H') (f r) → tPairs trs σ H Q
theorem ok_pnil : OkP Z [] [] [] (eNil p) := ⟨[], fun X pos _ => pps_nil, fun r σ F H cs R Q rv s po => po F H [] [] cs (Ex.refl F) .nil rv s⟩
theorem ok_pcons {k : Str} {ks : List Str} {j : Nat} {q : Pos} {keys : List (Option Expr)} {e : Expr} {es : List Expr} {f : SE} {g : SA} (ha : OkE Z e (f p)) (hb : OkP Z ks keys es (g p)) : OkP Z (k :: ks) (some (.Constant (.str k) j q) :: keys) (e :: es) (eCons f g p) := by
  obtain ⟨ta, pa, sa⟩ := ha
  obtain ⟨trs, pb, sb⟩ := hb
  refine ⟨(tC (.str k), ta) :: trs, fun X pos hX => pps_cons pe_str (pa X hX) (pb X pos hX), fun r0 σ F H cs R Q rv s po => ?_⟩
  unfold eCons at po
  show ta σ H fun y H2 => tPairs trs σ H2 fun ps H3 => Q ((V.str k, y) :: ps) H3
  refine sa r0 σ F H cs R _ rv s ?_
  cases ea : f p r0 with
  | bad => rw [ea] at po; exact po
  | exn x r1 => rw [ea] at po; exact po
  | ok a1 r1 =>
    rw [ea] at po
    simp only [Out.bind_ok] at po
    intro F1 H1 v1 k1 cs1 e1 ra1 rv1 s1
    refine sb r1 σ F1 H1 cs1 (k1 ++ R) _ rv1 (s1.sub fun c => by simp only [cnt_append]; omega) ?_
    cases eb : g p r1 with
    | bad => rw [eb] at po; exact po
    | exn x r2 => rw [eb] at po; exact PoX.back e1 po fun c => by simp only [cnt_append]; omega
    | ok b1 r2 =>
      rw [eb] at po
      simp only [Out.bind_ok] at po
      intro F2 H2 v2 k2 cs2 e2 rb2 rv2 s2
      exact po F2 H2 (v1 :: v2) _ cs2 (e1.trans e2) (.cons (ra1.mono e2) rb2) rv2 (s2.sub fun c => by simp only [cnt_append]; omega)
theorem merge_new : ∀ {more acc : List (Key × V)}, (∀ q ∈ more, valV acc q.1 = none) → (more.map (·.1)).Nodup → mergeK acc more = acc ++ more
  | [], acc, _, _ => by rw [List.append_nil]; rfl
  | q :: more, acc, h, hn => by
    rw [List.map_cons, List.nodup_cons] at hn
    show mergeK (putK acc q.1 q.2) more = _
    rw [putK_new q.2 (h q (List.mem_cons_self ..)), merge_new (more := more) (fun z hz => ?_) hn.2, List.append_assoc]
    · rfl
    · rw [valV_snoc _ _ _ _ (h q (List.mem_cons_self ..)), if_neg (fun e => hn.1 (by rw [← e]; exact List.mem_map.mpr ⟨z, hz, rfl⟩))]
      exact h z (List.mem_cons_of_mem _ hz)
theorem kv_keys : ∀ {ks : List Str} {vs : List V}, vs.length = ks.length → (kvOf ks vs).map (·.1) = ks.map Sum.inr
  | [], [], _ => rfl
  | k :: ks, v :: vs, h => by
    show Sum.inr k :: (kvOf ks vs).map (·.1) = _
    rw [kv_keys (by simpa using h)]
    rfl
  | [], _ :: _, h => by cases h
  | _ :: _, [], h => by cases h
theorem kv_len : ∀ {ks : List Str} {vs : List V}, vs.length = ks.length → (kvOf ks vs).length = ks.length
  | [], [], _ => rfl
  | k :: ks, v :: vs, h => by
    show (kvOf ks vs).length + 1 = ks.length + 1
    rw [kv_len (by simpa using h)]
  | [], _ :: _, h => by cases h
  | _ :: _, [], h => by cases h
theorem nodup_inr {ks : List Str} (h : ks.Nodup) : (ks.map (Sum.inr : Str → Key)).Nodup := by
  rw [List.nodup_iff_pairwise_ne, List.pairwise_map]
  exact h.imp fun h q => h (Sum.inr.inj q)
theorem ok_dct {ks : List Str} {keys : List (Option Expr)} {es : List Expr} {g : SA} {pos : Pos} (hall : keys.all (·.isSome) = true) (hl : keys.length = es.length) (h0 : keys ≠ []) (h15 : keys.length ≤ 15) (ha : OkP Z ks keys es (g p)) : OkE Z (.Dict keys es pos) (eDct ks g p) := by
  obtain ⟨trs, pa, sa⟩ := ha
  refine ⟨tDisp trs, fun X hX => pe_disp (pa X pos hX) hall hl h0 h15, fun r0 σ F H cs R Q rv s po => fun a ha => ?_⟩
  unfold eDct at po
  have s1 : Sat Z.mg F (upd H a (.dK [])) ([(a, HO.dK [])] ++ (cs.flatten ++ R)) := s.newO ha
  refine sa r0 σ F (upd H a (.dK [])) cs ([(a, HO.dK [])] ++ R) _ rv (s1.sub fun c => by simp only [cnt_append]; omega) ?_
  cases ea : g p r0 with
  | bad => rw [ea] at po; exact po
  | exn x r1 => rw [ea] at po; exact PoX.back (Ex.refl F) po fun c => by simp only [cnt_append]; omega
  | ok as r1 =>
    rw [ea] at po
    simp only [Out.bind_ok] at po
    intro F1 H1 vs k1 cs1 e1 ra1 rv1 s2
    split at po
    · rename_i ds r2 hx
      obtain ⟨F2, cs2, e2, rd, rv2, s3⟩ := fzs_ok ra1 rv1 s2 hx
      split at po
      · rename_i hk
        obtain ⟨hn, hk1, hk2⟩ := of_decide_eq_true hk
        have hv : vs.length = ks.length := by rw [← rd.len]; exact hk1.symm
        have s4 : Sat Z.mg F2 H1 ((a, HO.dK []) :: (cs2.flatten ++ R)) := s3.sub fun c => by rw [cnt_cons]; simp only [cnt_append]; omega
        refine ⟨s4.own (a, .dK []) (by rw [cnt_cons, cnt_one]; omega), kvOf ks vs, rfl, by rw [kv_len hv]; omega, ?_⟩
        have em : mergeK [] (kvOf ks vs) = kvOf ks vs := by
          have := merge_new (more := kvOf ks vs) (acc := []) (fun _ _ => valV_nil) (by rw [kv_keys hv]; exact nodup_inr hn)
          rw [this]
          rfl
        rw [em]
        have s5 : Sat Z.mg F2 (upd H1 a (.dK (kvOf ks vs))) ((a, HO.dK (kvOf ks vs)) :: (cs2.flatten ++ R)) := s4.put
        obtain ⟨s6, e6⟩ := s5.ice
        exact po _ _ (.ref a) [] cs2 ((e1.trans e2).trans e6) (.val (.dct upd_same (rd.mono e6))) (rv2.mono e6) (s6.sub fun c => by simp only [cnt_append, cnt_nil]; omega)
      · exact po.elim
    · exact po.elim
theorem idxS_ok {z : Str} : ∀ {ys : List Str} {j : Nat}, idxS z ys = some j → ys[j]? = some z ∧ ∀ m, m < j → ys[m]? ≠ some z
  | [], j, h => by cases h
  | y :: ys, j, h => by
    unfold idxS at h
    split at h
    · rename_i e
      cases h
      exact ⟨by rw [e]; rfl, fun m hm => by omega⟩
    · rename_i e
      cases hi : idxS z ys with
      | none => rw [hi] at h; cases h
      | some k =>
        rw [hi] at h
        cases h
        obtain ⟨h1, h2⟩ := idxS_ok hi
        refine ⟨h1, fun m hm => ?_⟩
        cases m with
        | zero => intro q; exact e (Option.some.inj q)
        | succ m => exact h2 m (by have : m + 1 < k + 1 := hm; omega)
def rTIx (K : PySem.W.Frag) : V → List V → Hp → VK → Prop := fun x xs H Q => ∃ p, ∃ ys : List Str, ∃ z j, x = .ref p ∧ xs = [.str z] ∧ SqT K H p (ys.map V.str) ∧ ys[j]? = some z ∧ (∀ m, m < j → ys[m]? ≠ some z) ∧ Q (.int (j : Nat)) H
theorem ok_tix {x : Str} {g : SA} {es : List Expr} {e : Expr} {a : Addr} (hx : ∀ ds, p.G x = some (.tup ds) → (∃ o, Z.K.lookup a = some o ∧ o.cls = .type "tuple" ∧ o.dict = none) ∧ ∃ vs, (∀ H : Hp, SqT Z.K H a vs) ∧ ∀ ys, allStr ds = some ys → vs = ys.map V.str)
    (hp : ∀ X, Z.G X → ∀ t, PA X es t → PE X e (tBM Z.K "tuple" (rTIx Z.K) (tC (.ref a)) t)) (ha : OkA Z es (g p)) : OkE Z e (eTIx x g p) := by
  obtain ⟨ta, pa, sa⟩ := ha
  refine ⟨_, fun X hX => hp X hX ta (pa X hX), fun r0 σ F H cs R Q rv s po => ?_⟩
  unfold eTIx at po
  split at po
  · rename_i ds hg
    obtain ⟨ty, vs, hq, hv⟩ := hx ds hg
    refine ⟨.inr (.inl ⟨rfl, ty⟩), ?_⟩
    refine sa r0 σ F H cs R _ rv s ?_
    cases ea : g p r0 with
    | bad => rw [ea] at po; exact po
    | exn y r1 => rw [ea] at po; exact po
    | ok as r1 =>
      rw [ea] at po
      simp only [Out.bind_ok] at po
      intro F1 H1 us k1 cs1 e1 ra1 rv1 s1
      split at po
      · rename_i z ys hz hy
        split at po
        · rename_i j hj
          obtain ⟨l, w2⟩ := views_ok ra1 rv1 s1 (fun c => by simp only [cnt_append]; omega) hz
          obtain ⟨h1, h2⟩ := idxS_ok hj
          match us, l with
          | [u], _ =>
            have w := w2 0 (.str z) u rfl rfl
            cases w.str
            refine ⟨a, ys, z, j, rfl, rfl, by rw [← hv ys hy]; exact hq H1, h1, h2, ?_⟩
            exact po F1 H1 _ [] cs1 e1 (.val (.int _)) rv1 (s1.sub fun c => by simp only [cnt_append, cnt_nil]; omega)
        · exact po.elim
      · exact po.elim
  · exact po.elim
/-! ### {}, d.get -/
theorem ok_dnew {pos : Pos} : OkE Z (.Dict [] [] pos) (eDNew p) :=
  ⟨tDNewK, fun X _ => pe_dnewK, fun r0 σ F H cs R Q rv s po q hq => po F _ _ _ cs (Ex.refl F) (.dc (DR.leaf (kvs := []) .nil)) rv (s.newO hq)⟩
def isDv (M : MT) (x : V) (H : Hp) : Prop := ∃ a vs, x = .ref a ∧ KeyV M.P M.w H a vs
def tDM (M : MT) (r : V → List V → Hp → VK → Prop) (to : TE) (t : TA) : TE := fun σ H Q => to σ H fun x H1 => isDv M x H1 ∧ t σ H1 fun xs H2 => r x xs H2 Q
theorem pe_dm {X : Cx} {M : MT} {o e : Expr} {es : List Expr} {to : TE} {t : TA} {name : Str} {apos cpos : Pos} {id : String} {r : V → List V → Hp → VK → Prop} (hh : Here X M) (slot : Slot "dict" name id) (hty : typeOf (.builtin id) = pure (.type "method_descriptor")) (hm : MtR X id r) (ho : PE X o to) (ha : PA X (e :: es) t)
    (hbase : attributeBase o name X.env (eval o X.env) = eval o X.env)
    (hfew : ((backTo cpos (starEach (e :: es) X.env)).all (fun x => !x.1) && (backToKw cpos (keywordEach [] X.env)).all (fun x => x.1.isSome)
      && decide ((e :: es).length + ([] : List Keyword).length + (if ([] : List Keyword).isEmpty then 0 else 1) < 30)) = true)
    (hline : (apos.endLine == cpos.line) = true) (hs : starEach (e :: es) X.env = (false, eval e X.env) :: starEach es X.env) (hplain : (backTo cpos (starEach es X.env)).any (·.1) = false) :
    PE X (.Call (.Attribute o name apos) (e :: es) [] cpos) (tDM M r to t) := by
  refine ⟨fun pins s σ H Q I h => ?_⟩
  refine wpAny_Call_method_late hbase hfew hline rfl (thn (ho.run pins s σ H _ I h) fun v s1 ⟨x, H1, I1, r1, ty, q1⟩ => ?_)
  obtain ⟨a, ws, rfl, hk⟩ := ty
  cases r1
  rw [hh.P, hh.w] at hk
  obtain ⟨ob, ds, ep, k1, k2, k3, _⟩ := key_raw I1 hk
  refine ⟨"dict", id, PySem.F.plainAttrs_dict, slot, hty, ⟨ob, k1, k2.1⟩, fun b eb => ?_, ?_⟩
  · cases eb
    exact ⟨ob, k1, k2.2.1⟩
  have hA := ha.run cpos pins s1 σ H1 _ I1 q1
  rw [hs] at hA ⊢
  refine Calls.callWith_builtin (by show (false || (backTo cpos (starEach es X.env)).any (·.1)) = false; rw [hplain] <;> rfl) (Calls.evalArgs_plain ?_)
  exact thn hA fun us s2 ⟨vs, H2, I2, r2, q2⟩ => hm pins s2 σ H2 (.ref a) vs _ us Q I2 rfl r2 q2
def rGetX (K : PySem.W.Frag) (M : MT) : V → List V → Hp → VK → Prop := fun x xs H Q => ∃ a, x = .ref a ∧ ((∃ y o, xs = [y] ∧ EGet K M.P M.w H a y o ∧ Q (o.getD .non) H) ∨ ∃ y d o, xs = [y, d] ∧ EGet K M.P M.w H a y o ∧ Q (o.getD d) H)
theorem mt_getX {X : Cx} {M : MT} (hh : Here X M) : MtR X "dict.get" (rGetX X.K M) := by
  intro pins s σ H x xs v us Q I rx r h
  obtain ⟨a, rfl, h⟩ := h
  cases rx
  rcases h with ⟨y, o, rfl, g, q⟩ | ⟨y, d, o, rfl, g, q⟩
  · rw [hh.P, hh.w] at g
    cases r with
    | cons r1 r2 =>
      cases r2
      exact x_get1 hh.room I g r1 fun w' s' I' rw' => ⟨_, H, I', rw', q⟩
  · rw [hh.P, hh.w] at g
    cases r with
    | cons r1 r2 =>
      cases r2 with
      | cons r3 r4 =>
        cases r4
        exact x_get2 hh.room I g r1 r3 fun w' s' I' rw' => ⟨_, H, I', rw', q⟩
theorem kv_none {F : Hp} {z : Str} : ∀ {ks : List Str} {ds : List D} {vs : List V}, RDs Z.K Z.mg F ds vs → lkD ks ds z = none → valV (kvOf ks vs) (.inr z) = none
  | [], _, _, _, h => rfl
  | k :: ks, _, _, .nil, h => rfl
  | k :: ks, _, _, .cons (v := v) (vs := vs) r rs, h => by
    unfold lkD at h
    rw [List.zip_cons_cons, List.lookup_cons] at h
    cases hz : z == k with
    | true => rw [hz] at h; cases h
    | false =>
      rw [hz] at h
      show valV ((.inr k, v) :: kvOf ks vs) (.inr z) = none
      rw [valV_neg (fun q => by
        have q' : k = z := Sum.inr.inj q
        rw [q'] at hz
        simp at hz)]
      exact kv_none rs h
theorem RO.getD {K : PySem.W.Frag} {mg : MT} {F : Hp} {r : Option D} {o : Option V} {x : D} {v : V} (h : RO K mg F r o) (rx : RD K mg F x v) : RD K mg F (r.getD x) (o.getD v) := by
  cases h with
  | none => exact rx
  | some r => exact r
/-- what a dict holds, as it is looked at -/
theorem vw_get {F H : Hp} {x k : D} {v y : V} {r : Option D} (ex : Ex F H) (hx : VW Z.K Z.mg F H x v) (hk : VW Z.K Z.mg F H k y) (h : (∃ ks xs, x = .dic ks xs ∧ dGet ks xs k = some r) ∨ ∃ ks xs z, x = .dct ks xs ∧ k = .str z ∧ r = lkD ks xs z) :
    ∃ a o, v = .ref a ∧ EGet Z.K Z.mg.P Z.mg.w H a y o ∧ RO Z.K Z.mg F r o := by
  rcases h with ⟨ks, xs, rfl, e⟩ | ⟨ks, xs, z, rfl, rfl, rfl⟩
  · obtain ⟨a, o, rfl, h1, r1⟩ := hx.dic ex
    obtain ⟨r', g, q⟩ := dr_get ex r1 h1 hk e
    exact ⟨a, r', rfl, g, q⟩
  · obtain ⟨a, vs, rfl, h1, r1⟩ := hx.dct ex
    cases hk.str
    refine ⟨a, _, rfl, .l h1 (k := .inr z) rfl rfl, ?_⟩
    cases e : lkD ks xs z with
    | none => rw [kv_none r1 e]; exact .none
    | some d =>
      obtain ⟨w, h2, r2⟩ := kv_val r1 e
      rw [h2]
      exact .some r2
theorem isDv_of {F H : Hp} {x : D} {v : V} (ex : Ex F H) (hx : VW Z.K Z.mg F H x v) (h : (∃ ks xs, x = .dic ks xs) ∨ ∃ ks xs, x = .dct ks xs) : isDv Z.mg v H := by
  rcases h with ⟨ks, xs, rfl⟩ | ⟨ks, xs, rfl⟩
  · obtain ⟨a, o, rfl, h1, r1⟩ := hx.dic ex
    obtain ⟨us, h2, _⟩ := dr_keys r1 h1
    exact ⟨a, us, rfl, h2⟩
  · obtain ⟨a, vs, rfl, h1, r1⟩ := hx.dct ex
    exact ⟨a, _, rfl, .inl ⟨_, h1, rfl⟩⟩
theorem dgD_of {x : D} {ds : List D} {c : C} (h : dgD x ds = some c) : (∃ k r, ds = [k] ∧ c = .val (r.getD .non) ∧ ((∃ ks xs, x = .dic ks xs ∧ dGet ks xs k = some r) ∨ ∃ ks xs z, x = .dct ks xs ∧ k = .str z ∧ r = lkD ks xs z)) ∨
    ∃ k y r, ds = [k, y] ∧ c = .val (r.getD y) ∧ ((∃ ks xs, x = .dic ks xs ∧ dGet ks xs k = some r) ∨ ∃ ks xs z, x = .dct ks xs ∧ k = .str z ∧ r = lkD ks xs z) := by
  unfold dgD at h
  split at h
  · rename_i ks xs k
    cases e : dGet ks xs k with
    | none => rw [e] at h; cases h
    | some r => rw [e] at h; cases h; exact .inl ⟨k, r, rfl, rfl, .inl ⟨ks, xs, rfl, e⟩⟩
  · rename_i ks xs k y
    cases e : dGet ks xs k with
    | none => rw [e] at h; cases h
    | some r => rw [e] at h; cases h; exact .inr ⟨k, y, r, rfl, rfl, .inl ⟨ks, xs, rfl, e⟩⟩
  · cases h; exact .inl ⟨_, _, rfl, rfl, .inr ⟨_, _, _, rfl, rfl, rfl⟩⟩
  · cases h; exact .inr ⟨_, _, _, rfl, rfl, .inr ⟨_, _, _, rfl, rfl, rfl⟩⟩
  · cases h
theorem fz_view {a : Rf} {r r' : Env} {d : D} (h : fz a r = some (d, r')) : ∀ b x, view b r = some x → view b r' = some x := by
  intro b x hb
  unfold fz at h
  split at h
  · rename_i c r1 ht
    cases h
    cases a with
    | tmp c0 => cases ht; exact hb
    | slot i =>
      simp only [take] at ht
      split at ht
      · cases ht; exact hb
      · rename_i c0 hn hc
        cases ht
        cases b with
        | tmp c1 => exact hb
        | slot j =>
          simp only [view] at hb ⊢
          by_cases hij : i = j
          · subst hij
            rw [List.getElem?_set_self (List.getElem?_eq_some_iff.mp hc).1]
            rw [hc] at hb
            cases hb
            rfl
          · rw [List.getElem?_set_ne hij]
            exact hb
      · cases ht
  · cases h
theorem fzs_view : ∀ {as : List Rf} {r r' : Env} {ds : List D}, fzs as r = some (ds, r') → ∀ b x, view b r = some x → view b r' = some x
  | [], _, _, _, h, b, x, hb => by cases h; exact hb
  | a :: as, r, r', ds, h, b, x, hb => by
    unfold fzs at h
    split at h
    · rename_i d r1 h1
      split at h
      · rename_i ds' r2 h2
        cases h
        exact fzs_view h2 b x (fz_view h1 b x hb)
      · cases h
    · cases h
theorem ok_dg {f : SE} {g : SA} {a e : Expr} {es : List Expr} (hp : ∀ X, Z.G X → ∀ ta t, PE X a ta → PA X es t → PE X e (tDM Z.mg (rGetX Z.K Z.mg) ta t)) (ha : OkE Z a (f p)) (hb : OkA Z es (g p)) : OkE Z e (eDG f g p) := by
  obtain ⟨ta, pa, sa⟩ := ha
  obtain ⟨tb, pb, sb⟩ := hb
  refine ⟨_, fun X g => hp X g ta tb (pa X g) (pb X g), fun r0 σ F H cs R Q rv s po => ?_⟩
  unfold eDG at po
  refine sa r0 σ F H cs R _ rv s ?_
  cases ea : f p r0 with
  | bad => rw [ea] at po; exact po
  | exn x r1 => rw [ea] at po; exact po
  | ok a1 r1 =>
    rw [ea] at po
    simp only [Out.bind_ok] at po
    intro F1 H1 v1 k1 cs1 e1 ra1 rv1 s1
    have go : ∀ x0, view a1 r1 = some x0 → ((∃ ks xs, x0 = .dic ks xs) ∨ ∃ ks xs, x0 = .dct ks xs) → PoE Z.K Z.mg Z.W σ F R Q ((g p r1).bind fun as r2 => match view a1 r2, fzs as r2 with | some x, some (ds, r3) => (match dgD x ds with | some c => .ok (.tmp c) r3 | none => .bad) | _, _ => .bad) → isDv Z.mg v1 H1 ∧ tb σ H1 fun xs H2 => rGetX Z.K Z.mg v1 xs H2 Q := by
      intro x0 hx0 hd po
      have w0 := view_ok ra1 rv1 s1 (fun c => by simp only [cnt_append]; omega) hx0
      refine ⟨isDv_of s1.ex w0 hd, ?_⟩
      refine sb r1 σ F1 H1 cs1 (k1 ++ R) _ rv1 (s1.sub fun c => by simp only [cnt_append]; omega) ?_
      cases eb : g p r1 with
      | bad => rw [eb] at po; exact po
      | exn x r2 => rw [eb] at po; exact PoX.back e1 po fun c => by simp only [cnt_append]; omega
      | ok b1 r2 =>
        rw [eb] at po
        simp only [Out.bind_ok] at po
        intro F2 H2 vs k2 cs2 e2 rb2 rv2 s2
        split at po
        · rename_i x ds r3 hx hz
          split at po
          · rename_i c hc
            obtain ⟨F3, cs3, e3, rd, rv3, s3⟩ := fzs_ok (R := k1 ++ R) rb2 rv2 s2 hz
            have wx := view_ok ((ra1.mono e2).mono e3) rv3 s3 (fun c => by simp only [cnt_append]; omega) (fzs_view hz _ _ hx)
            rcases dgD_of hc with ⟨k, r, rfl, rfl, hg⟩ | ⟨k, y, r, rfl, rfl, hg⟩
            · cases rd with
              | cons r1 r2 =>
                cases r2
                obtain ⟨a0, o, rfl, g1, q1⟩ := vw_get s3.ex wx (.f r1) hg
                exact ⟨a0, rfl, .inl ⟨_, o, rfl, g1, po F3 H2 _ [] cs3 ((e1.trans e2).trans e3) (.val (q1.getD .non)) rv3 (s3.sub fun c => by simp only [cnt_append, cnt_nil]; omega)⟩⟩
            · cases rd with
              | cons r1 r2 =>
                cases r2 with
                | cons r3 r4 =>
                  cases r4
                  obtain ⟨a0, o, rfl, g1, q1⟩ := vw_get s3.ex wx (.f r1) hg
                  exact ⟨a0, rfl, .inr ⟨_, _, o, rfl, g1, po F3 H2 _ [] cs3 ((e1.trans e2).trans e3) (.val (q1.getD r3)) rv3 (s3.sub fun c => by simp only [cnt_append, cnt_nil]; omega)⟩⟩
          · exact po.elim
        · exact po.elim
    split at po
    · rename_i ks xs hv
      exact go _ hv (.inl ⟨ks, xs, rfl⟩) po
    · rename_i ks xs hv
      exact go _ hv (.inr ⟨ks, xs, rfl⟩) po
    · exact po.elim
end
end Mi

set_option Elab.async false
set_option linter.all false
set_option maxRecDepth 100000
set_option maxHeartbeats 2000000
/-! Mi: max with a default. -/
namespace Mi
open PySem L2
def rMxD (K : PySem.W.Frag) (k : Int) : V → Hp → VK → Prop := fun x H Q => ∃ a ns, x = .ref a ∧ SqL K H a (ns.map V.int) ∧ Q (.int (mxI k ns)) H
def rMxK (K : PySem.W.Frag) : List V → List V → Hp → VK → Prop := fun vs zs H Q => match vs, zs with
  | [x], [.int k] => rMxD K k x H Q
  | _, _ => False
theorem hold_ints {h : Heap} : ∀ {ns : List Int} {us : List Value}, Vals (ns.map V.int) us → PySem.W.HoldAll h us ns
  | [], _, .nil => PySem.W.HoldAll.nil
  | n :: ns, _, .cons r t => by
    obtain ⟨tk, rfl⟩ := r
    exact .cons (PySem.W.holds_int n tk) (hold_ints t)
theorem maxOf_is : ∀ (ns : List Int) (n : Int), PySem.W.maxOf n ns = listMax n ns
  | [], n => rfl
  | m :: ns, n => by
    show PySem.W.maxOf (if decide (n < m) = true then m else n) ns = listMax (if n < m then m else n) ns
    rw [maxOf_is]
    by_cases h : n < m
    · rw [if_pos h, if_pos (decide_eq_true h)]
    · rw [if_neg h, if_neg (by simpa using h)]
theorem holds_int_is {h : Heap} {u : Value} {n : Int} (H : PySem.W.Holds h u n) : ∃ t, u = .int n t := by
  obtain ⟨as, r⟩ := H
  cases r
  exact ⟨_, rfl⟩
theorem crk_max {X : Cx} (hu : X.A.units + 64 < cLine) (hc : X.calm = true) : CallRK X (.builtin "max") [Str.ofString "default"] (rMxK X.K) := by
  intro pins s σ H xs zs us ws Q I r1 r2 h
  unfold rMxK at h
  split at h
  · rename_i x k
    obtain ⟨a, ns, rfl, hs, q⟩ := h
    rw [Vals.ref1 r1]
    cases r2 with
    | cons q1 q2 =>
      cases q2
      obtain ⟨its, rv, hl, hz⟩ := I.list hs
      show wpAny _ _ (call (.builtin "max") [.ref a] [(Str.ofString "default", _)]) _ _ s
      refine PySem.W.max_list_datum_default (α := Int) (xs := ns) (I.ok.hd hc) hl.isList (by simpa using hold_ints rv) (by show X.A.units + 1 + 0 < cLine; omega) (fun e h' tk kp => ?_) fun y ys i v h' tk e hi hv kp => ?_
      · subst e
        exact ⟨.int k, H, I.kept kp, q1, q⟩
      · subst e
        obtain ⟨t, rfl⟩ := holds_int_is hv
        refine ⟨.int (listMax y ys), H, I.kept kp, ⟨t, by rw [maxOf_is]⟩, q⟩
  · exact h.elim
section
variable {Z : Jd} {p : Pg}
theorem uns_mx {K : PySem.W.Frag} {mg : MT} (k : Int) : UnS K mg (rMxD K k) (mxD k) := by
  intro F H x v c Q hx ex hc new
  unfold mxD at hc
  split at hc
  · rename_i xs
    obtain ⟨a, vs, rfl, h1, r1⟩ := hx.lst ex
    split at hc
    · rename_i ns hn
      cases hc
      have := r1.ints hn
      subst this
      exact ⟨a, ns, rfl, SqL.of h1, new.flat (.int _)⟩
    · cases hc
  · cases hc
end
end Mi

set_option Elab.async false
set_option linter.all false
set_option maxRecDepth 100000
set_option maxHeartbeats 2000000
/-! Mi: own exceptions: how they are made. -/
namespace Mi
open PySem L2
section
variable {X : Cx} {CX : CXT} {k : Nat} {x : Str} {B f : Addr} {mc : Value} {fd : FuncData} {ps : List Str} {sp : Sp} {E : L2.St → XK} {e : Expr} {es : List Expr} {ta : TA} {p1 p2 pos : Pos} {pl : Sem Bool}
/-- B.__init__(self, ..) -/
theorem pe_binit (hg : Gl X x) (hm : X.mg x = some (.ref B)) (cr : ClX.CRead X.K B mc) (hv : PySem.W.findCls X.K (.ref B) mc "__init__" = some (.val (.ref f))) (hk : PySem.W.keepIn X.K (.ref f) = true)
    (F1 : FnOk X.prog X.w X.K X.mg X.base CX k f fd ps sp) (hr : Room k X.A) (hb : Binds X.K fd ps []) (hx : ∀ σ, PassesAt CX X σ (E σ)) (ha : PA X (e :: es) ta) (hdb : (x == ("__debug__" : Str)) = false)
    (he : starEach (e :: es) X.env = (false, eval e X.env) :: starEach es X.env) (hpl : (backTo pos (starEach es X.env)).any (·.1) = false)
    (hc : eval (.Call (.Attribute (.Name x p1) "__init__" p2) (e :: es) [] pos) X.env = (do
      let ov ← eval (.Name x p1) X.env
      standAt p2.atName
      let (g, first) ← holding [ov] (getMethod ov "__init__" pl)
      callWith pos g first (backTo pos (starEach (e :: es) X.env)) (backToKw pos (keywordEach [] X.env)))) :
    PE X (.Call (.Attribute (.Name x p1) "__init__" p2) (e :: es) [] pos) (tCallS sp E ta) := by
  refine ⟨fun pins s σ H Q I h => ?_⟩
  refine PySem.W.methodCall_KW (pl := pl) (ld_glob I hg hm ?_ hdb) hc
  refine PySem.W.method_cls I.kIn cr.ga (ClX.getcval_ok I cr (v := .ref f) ⟨hv, rfl⟩ fun s2 I2 => ?_)
  refine PySem.W.callWith_K (h₀ := X.base) I.ok.mod.kin hk (thn (ha.run pos pins s2 σ H _ I2 h) fun us s1 ⟨vs, H1, I1, r, q⟩ => ⟨I1.kIn, ?_⟩) he hpl
  exact run_fnS F1 hr hb (hx σ) I1 r q
end
/-! ### the two forms of __init__ -/
/-- self.word = word -/
def spB (K : PySem.W.Frag) : Sp := fun vs H Q _ => ∃ (a C : Addr) (y : V), vs = [.ref a, y] ∧ OexC K C ∧ PySem.W.findIn K (.ref C) "word" = some none ∧ H a = some (exo a C none) ∧
  ∀ dx, H dx = none → dx ≠ a → Q .non (upd (upd H dx (exd dx [("word", y)])) a (exo a C (some dx)))
/-- B.__init__(self, w); self.f = f -/
def sp1 (K : PySem.W.Frag) (w f : Str) : Sp := fun vs H Q _ => ∃ (a C : Addr) (y : V), vs = [.ref a, y] ∧ OexC K C ∧ PySem.W.findIn K (.ref C) "word" = some none ∧ PySem.W.findIn K (.ref C) f = some none ∧ H a = some (exo a C none) ∧
  ∀ dx, H dx = none → dx ≠ a → Q .non (upd (upd (upd H dx (exd dx [("word", .str w)])) a (exo a C (some dx))) dx (exd dx [(f, y), ("word", .str w)]))
section
variable {P : Program} {w : World} {K : PySem.W.Frag} {mg : MT} {base : Heap} {CX : CXT} {k : Nat} {f : Addr} {qual : Str} {params : Arguments} {body : List Stmt} {scope : Scope} {dV kV doc pm cdv ct oc : Value} {an od : Option Addr} {osl : Array (Option Value)}
theorem base_fn (lk : K.lookup f = some ⟨oc, od, .func (PySem.W.fnOf "__init__" qual params body scope dV kV doc pm an cdv ct), osl⟩) (hcd : PySem.W.codeIn K cdv qual = true) (S : FnScope ["self", "word"] ["self", "word"] scope)
    (h1 : scope.names.lookup (Str.ofString "self") = some .local) (h2 : scope.names.lookup (Str.ofString "word") = some .local) {q1 q2 q3 q4 : Pos} (hb : body = [.Assign [.Attribute (.Name "self" q1) "word" q2] (.Name "word" q3) q4]) :
    FnOk P w K mg base CX (k + 1) f (PySem.W.fnOf "__init__" qual params body scope dV kV doc pm an cdv ct) ["self", "word"] (spB K) := by
  subst hb
  refine fn_of lk hcd S (fun vs H Q E h => ?_) fun A outer s H vs Q E hr h => ?_
  · obtain ⟨a, C, y, rfl, _⟩ := h
    rfl
  · obtain ⟨a, C, y, rfl, T, hno, ha, q⟩ := h
    refine ⟨_, pss_one (ps_ost (pe_var (i := 0) rfl (.inl h1)) (pe_var (i := 1) rfl (.inl h2))), ?_⟩
    exact ⟨y, rfl, .ref a, rfl, a, C, rfl, T, hno, .inl ⟨ha, fun dx n ne => q dx n ne⟩⟩
theorem no_exc {X : Cx} {σ : L2.St} (hp : X.prog = P) (hw : X.w = w) : PassesAt (L2.CX P w) X σ (fun _ _ _ => False) := fun pins H s u s' I c => by
  obtain ⟨_, _, _, _, _, _, _, _, _, _, _, _, z⟩ := c
  exact z.elim
theorem der_fn {fn : Str} {B fB : Addr} {mc : Value} {fdB : FuncData} {x wd : Str} (lk : K.lookup f = some ⟨oc, od, .func (PySem.W.fnOf "__init__" qual params body scope dV kV doc pm an cdv ct), osl⟩) (hcd : PySem.W.codeIn K cdv qual = true) (S : FnScope ["self", fn] ["self", fn] scope)
    (h1 : scope.names.lookup (Str.ofString "self") = some .local) (h2 : scope.names.lookup fn = some .local) (hgl : ∀ X : Cx, X.env.scope = scope → Gl X x) (hfd : (fn == ("__debug__" : Str)) = false) (hfc : (fn == ("__classdict__" : Str)) = false)
    (hm : mg x = some (.ref B)) (cr : ClX.CRead K B mc) (hv : PySem.W.findCls K (.ref B) mc "__init__" = some (.val (.ref fB))) (hk : PySem.W.keepIn K (.ref fB) = true) (hdb : (x == ("__debug__" : Str)) = false)
    (FB : FnOk P w K mg base (L2.CX P w) k fB fdB ["self", "word"] (spB K)) (hbB : Binds K fdB ["self", "word"] [])
    {q1 q2 q3 q4 q5 q6 q7 q8 q9 q10 : Pos} {j : Nat} (hb : body = [.Expr (.Call (.Attribute (.Name x q1) "__init__" q2) [.Name "self" q3, .Constant (.str wd) j q4] [] q5) q6, .Assign [.Attribute (.Name "self" q7) fn q8] (.Name fn q9) q10]) (hc : ∀ env : PySem.Env, ∃ pl : Sem Bool, eval (.Call (.Attribute (.Name x q1) "__init__" q2) [.Name "self" q3, .Constant (.str wd) j q4] [] q5) env = (do
      let ov ← eval (.Name x q1) env
      standAt q2.atName
      let (g, first) ← holding [ov] (getMethod ov "__init__" pl)
      callWith q5 g first (backTo q5 (starEach [.Name "self" q3, .Constant (.str wd) j q4] env)) (backToKw q5 (keywordEach [] env)))) :
    FnOk P w K mg base (L2.CX P w) (k + 1) f (PySem.W.fnOf "__init__" qual params body scope dV kV doc pm an cdv ct) ["self", fn] (sp1 K wd fn) := by
  subst hb
  refine fn_of lk hcd S (fun vs H Q E h => ?_) fun A outer s H vs Q E hr h => ?_
  · obtain ⟨a, C, y, rfl, _⟩ := h
    rfl
  · obtain ⟨a, C, y, rfl, T, hno, hno2, ha, q⟩ := h
    obtain ⟨pl, hc'⟩ := hc (cxOf (L2.CX P w) P w K mg base ["self", fn] qual scope f cdv A outer s H E).env
    refine ⟨_, pss_cons (ps_expr (pe_binit (E := fun _ _ _ _ => False) (hgl _ rfl) hm cr hv hk FB hr hbB (fun σ => no_exc rfl rfl) (pa_cons (pe_var (i := 0) rfl (.inl h1)) (pa_cons pe_str pa_nil)) hdb rfl rfl hc')) (pss_one (ps_ost (pe_var (i := 0) rfl (.inl h1)) (pe_var (i := 1) rfl (.inl h2) hfd hfc))), ?_⟩
    refine ⟨.ref a, rfl, a, C, .str wd, rfl, T, hno, ha, fun dx n ne => ?_⟩
    have e1 : (upd (upd H dx (exd dx [("word", .str wd)])) a (exo a C (some dx))) a = some (exo a C (some dx)) := upd_same
    have e2 : (upd (upd H dx (exd dx [("word", .str wd)])) a (exo a C (some dx))) dx = some (exd dx [("word", .str wd)]) := by rw [upd_ne ne]; exact upd_same
    exact ⟨y, rfl, .ref a, rfl, a, C, rfl, T, hno2, .inr ⟨dx, _, e1, e2, by simp, q dx n ne⟩⟩
end
/-- c(y): word and one field -/
def tMk1 (C : Addr) (wd fn : Str) (ta : TA) : L2.St → Hp → XK → Prop := fun σ H Q => ta σ H fun vs H1 => ∃ y, vs = [y] ∧ ∀ d, H1 d = none → Q (.ref C) (some d) (upd H1 d (.xd [(fn, y), ("word", .str wd)]))
theorem mk_heap {H : Hp} {a dx : Addr} {o1 o2 o3 o4 o5 : HO} (ha : H a = none) (ne : dx ≠ a) : upd (del (upd (upd (upd (upd H a o1) dx o2) a o3) dx o4) a) dx o5 = upd H dx o5 := by
  funext b
  by_cases hb : b = dx
  · subst hb; rw [upd_same, upd_same]
  · rw [upd_ne hb, upd_ne hb]
    by_cases hb2 : b = a
    · subst hb2; rw [del_same, ha]
    · rw [del_ne hb2, upd_ne hb, upd_ne hb2, upd_ne hb, upd_ne hb2]
theorem mk_inner {K : PySem.W.Frag} {C : Addr} {wd fn : Str} {vs : List V} {y : V} {H1 : Hp} {Q : XK} (T : OexC K C) (hno : PySem.W.findIn K (.ref C) "word" = some none) (hno2 : PySem.W.findIn K (.ref C) fn = some none) (hv : vs = [y])
    (q : ∀ d, H1 d = none → Q (.ref C) (some d) (upd H1 d (.xd [(fn, y), ("word", .str wd)]))) : vs.length ≤ 1000 ∧ ∀ a, H1 a = none → sp1 K wd fn (.ref a :: (vs ++ [])) (upd H1 a (exo a C none))
      (fun v H2 => v = .non ∧ ∃ (d : Addr) (fs : List (Str × V)), H2 a = some (exo a C (some d)) ∧ H2 d = some (exd d fs) ∧ H1 d = none ∧ Q (.ref C) (some d) (upd (del H2 a) d (.xd fs))) (fun _ _ _ => False) := by
  subst hv
  refine ⟨by simp, fun a na => ⟨a, C, y, rfl, T, hno, hno2, upd_same, fun dx n ne => ?_⟩⟩
  have nd : H1 dx = none := by rw [upd_ne ne] at n; exact n
  refine ⟨rfl, dx, _, ?_, upd_same, nd, ?_⟩
  · rw [upd_ne (Ne.symm ne)]; exact upd_same
  · rw [mk_heap na ne]; exact q dx nd
section
variable {Z : Jd} {io : Nat → Bool} {p : Pg} {a e : Expr} {pos : Pos}
theorem ok_raise {c wd fn : Str} {C : Addr} {g : SA} (hm : Z.mg c = some (.ref C)) (T : OexC Z.K C) (hno : PySem.W.findIn Z.K (.ref C) "word" = some none) (hno2 : PySem.W.findIn Z.K (.ref C) fn = some none)
    (hp : 3 ≤ p.lv → ∀ X, Z.G X → ∀ t, PA X [a] t → PMk X e (tMkO C (sp1 Z.K wd fn) [] t)) (hc : ∀ X, Z.G X → X.calm = true ∧ Takes X Z.W) (ha : OkA Z [a] (g p)) : OkS Z io (.Raise (some e) none pos) (sRaise c wd fn g p) := by
  obtain ⟨ta, pa, sa⟩ := ha
  by_cases h3 : 3 ≤ p.lv
  case neg =>
    refine ⟨fun _ _ _ => False, fun X _ => ⟨fun _ _ _ _ _ _ z => z.elim⟩, fun r0 σ F H cs R D rv s po => ?_⟩
    unfold sRaise at po
    rw [if_neg h3] at po
    exact po
  refine ⟨_, fun X hX => ps_raise (hc X hX).1 (hc X hX).2 (hp h3 X hX ta (pa X hX)), fun r0 σ F H cs R D rv s po => ?_⟩
  unfold sRaise at po
  rw [if_pos h3] at po
  refine sa r0 σ F H cs R _ rv s ?_
  cases ea : g p r0 with
  | bad => rw [ea] at po; exact po
  | exn x r1 => rw [ea] at po; exact PoS.px po
  | ok as r1 =>
    rw [ea] at po
    simp only [Out.bind_ok] at po
    intro F1 H1 vs k1 cs1 e1 ra1 rv1 s1
    split at po
    · rename_i d r2 hx
      obtain ⟨F2, cs2, e2, rd, rv2, s2⟩ := fzs_ok ra1 rv1 s1 hx
      cases rd with
      | cons r1' rn =>
        cases rn
        refine mk_inner (wd := wd) (Q := fun cls d H' => Z.W cls d σ H') T hno hno2 rfl fun dd nd => ?_
        exact po σ F2 _ (.ref C) (some dd) _ cs2 (e1.trans e2) (.dict (x := ⟨c, _⟩) hm (.cons r1' (.cons (.str _) .nil))) rv2 (Pin.refl io σ) (s2.newO nd)
    · exact po.elim
end
/-! ### try .. except c as n: one row that tells a tuple -/
/-- isinstance(e, Y): what the written part says -/
structure IsXC (K : PySem.W.Frag) (C Y : Addr) (b : Bool) : Prop where
  cl : (PySem.W.clsIn K C).isSome = true
  ga : PySem.W.findIn K (.ref C) "__getattribute__" = some (some (.builtin "BaseException.__getattribute__"))
  gg : PySem.W.findIn K (.ref C) "__getattr__" = some none
  ex : PySem.W.subIn K (.ref C) (.type "BaseException") = some true
  ca : PySem.W.findIn K (.ref C) "__class__" = some (some (.builtin "object.__class__"))
  sp : PySem.W.specialIn K (.builtin "object.__class__") "__get__" = some (some (.builtin "getset_descriptor.__get__"))
  tk : PySem.W.takesIn K (.builtin "object.__class__") = some true
  mr : PySem.W.mroIn K C (.type "object") = some true
  an : PySem.W.kitOne K (.ref C) (.ref Y) = some b
def rIsX (a Y : Addr) (dd : Addr) (b : Bool) : List V → Hp → VK → Prop := fun xs H Q => xs = [.ref a, .ref Y] ∧ (∃ fs, H dd = some (.xd fs)) ∧ Q (.bl b) H
theorem call_isX {X : Cx} {a C Y dd : Addr} {b : Bool} {oe : Obj} {pn : List (Addr × Obj)} (c : IsXC X.K C Y b) (hz : Zc (.ref C) (some dd) oe) (hf : ∃ vs, oe.data = .fields vs) : CallR (X.suite a ((a, oe) :: pn)) (.builtin "isinstance") (rIsX a Y dd b) := by
  intro pins s σ H xs us Q I r h
  obtain ⟨rfl, ⟨fs, hd⟩, q⟩ := h
  cases r with
  | cons rx rr =>
    cases rr with
    | cons rt rr =>
      cases rr
      cases rx
      cases rt
      have hp := (I.pin (a, oe) (List.mem_append_left _ List.mem_cons_self)).1
      obtain ⟨vs, hv⟩ := hf
      have hx : ObjOk X.prog X.w H s.heap dd (.xd fs) := I.hok dd _ hd
      obtain ⟨mA, hns, _⟩ := hx
      obtain ⟨od, ho, _⟩ := lookIn_ns hns
      have J : PySem.W.InstAt s.heap a oe C (some od) := ⟨hp, hz.1, by unfold PySem.W.notCls; rw [hv], by rw [hz.2]; exact ho⟩
      refine PySem.W.kia_one (PySem.W.kitx_exc (gt := none) c.cl c.ga c.gg c.ex c.ca c.sp c.tk c.mr) I.kIn J c.an (fun z => nomatch z) fun tk => ?_
      exact ⟨.bl b, H, I.kept (t' := tk) fun _ _ z => z, rfl, q⟩
def tIsX (a : Addr) (cls : Value) (d : Option Addr) (C : Addr) (i : Nat) (b : Bool) : TE := fun σ H Q => σ[i]? = some (some (.ref a)) ∧ cls = .ref C ∧ (∃ dd fs, d = some dd ∧ H dd = some (.xd fs)) ∧ Q (.bl b) H
theorem pe_isX {X : Cx} {a C Y : Addr} {cls : Value} {d : Option Addr} {b : Bool} {oe : Obj} {pn : List (Addr × Obj)} {n y : Str} {i : Nat} {p1 p2 p3 pos : Pos} (c : IsXC X.K C Y b) (hz : Zc cls d oe) (hf : ∃ vs, oe.data = .fields vs) (hi : Gl X "isinstance") (hm : X.mg "isinstance" = none)
    (hy : Gl X y) (hmy : X.mg y = some (.ref Y)) (hyd : (y == ("__debug__" : Str)) = false) (hv : PE (X.suite a ((a, oe) :: pn)) (.Name n p2) (tVar i)) : PE (X.suite a ((a, oe) :: pn)) (.Call (.Name "isinstance" p1) [.Name n p2, .Name y p3] [] pos) (tIsX a cls d C i b) := by
  refine ⟨fun pins s σ H Q I h => ?_⟩
  obtain ⟨h1, rfl, ⟨dd, fs, rfl, h3⟩, q⟩ := h
  have := pe_callB (X := X.suite a ((a, oe) :: pn)) (p := p1) (pos := pos) (call_isX c hz hf) (show Gl (X.suite a ((a, oe) :: pn)) "isinstance" from hi) hm (by decide +kernel) (pa_cons hv (pa_cons (pe_glob (X := X.suite a ((a, oe) :: pn)) (x := y) (pos := p3) (v := .ref Y) (show Gl (X.suite a ((a, oe) :: pn)) y from hy) hmy rfl hyd) pa_nil rfl) rfl) (by decide +kernel) (by decide +kernel) rfl rfl
  exact this.run pins s σ H Q I ⟨.ref a, h1, rfl, ⟨fs, h3⟩, q⟩
def tHP (a : Addr) (cls : Value) (d : Option Addr) (C : Addr) (i : Nat) : HP → TE
  | .isx _ b => tIsX a cls d C i b
  | .cst (.str s) => tC (.str s)
  | .cst _ => fun _ _ _ => False
  | .fld f => tXf a cls d C f (tVar i)
def tHPs (a : Addr) (cls : Value) (d : Option Addr) (C : Addr) (i : Nat) : List HP → TA
  | [] => tNil
  | h :: hs => tCons (tHP a cls d C i h) (tHPs a cls d C i hs)
/-- the expressions of the parts -/
inductive HPok (K : PySem.W.Frag) (mg : Str → Option Value) (g : Str → Prop) (C : Addr) (n : Str) : List Expr → List HP → Prop
  | nil : HPok K mg g C n [] []
  | cst {s : Str} {j : Nat} {q : Pos} {es : List Expr} {hs : List HP} (t : HPok K mg g C n es hs) : HPok K mg g C n (.Constant (.str s) j q :: es) (.cst (.str s) :: hs)
  | fld {f : Str} {q1 q2 : Pos} {es : List Expr} {hs : List HP} (hf : PySem.W.findIn K (.ref C) f = some none) (t : HPok K mg g C n es hs) : HPok K mg g C n (.Attribute (.Name n q1) f q2 :: es) (.fld f :: hs)
  | isx {y : Str} {b : Bool} {Y : Addr} {q1 q2 q3 q4 : Pos} {es : List Expr} {hs : List HP} (c : IsXC K C Y b) (h1 : g "isinstance") (h2 : mg "isinstance" = none) (h3 : g y) (h4 : mg y = some (.ref Y)) (h5 : (y == ("__debug__" : Str)) = false) (t : HPok K mg g C n es hs) : HPok K mg g C n (.Call (.Name "isinstance" q1) [.Name n q2, .Name y q3] [] q4 :: es) (.isx y b :: hs)
theorem hps_pa {X : Cx} {a C : Addr} {oe : Obj} {cls : Value} {d : Option Addr} {pn : List (Addr × Obj)} {n : Str} {i : Nat} {g : Str → Prop} (hg : ∀ y, g y → Gl X y) (T : XfC X.K C) (hz : Zc cls d oe) (hf : ∃ vs, oe.data = .fields vs) (hv : PE (X.suite a ((a, oe) :: pn)) (.Name n ⟨0, 0, 0, 0⟩) (tVar i)) (hv' : ∀ q, PE (X.suite a ((a, oe) :: pn)) (.Name n q) (tVar i)) :
    ∀ {es : List Expr} {hs : List HP}, HPok X.K X.mg g C n es hs → PA (X.suite a ((a, oe) :: pn)) es (tHPs a cls d C i hs)
  | _, _, .nil => pa_nil
  | _, _, .cst t => pa_cons pe_str (hps_pa hg T hz hf hv hv' t) rfl
  | _, _, .fld h t => pa_cons (pe_xf T h hz hf (hv' _) rfl) (hps_pa hg T hz hf hv hv' t) rfl
  | _, _, .isx c h1 h2 h3 h4 h5 t => pa_cons (pe_isX c hz hf (hg _ h1) h2 (hg _ h3) h4 h5 (hv' _)) (hps_pa hg T hz hf hv hv' t) rfl
theorem hps_sat {K : PySem.W.Frag} {mg : MT} {F H : Hp} {x : Exc} {a C : Addr} {d : Option Addr} {k : List Cell} {i : Nat} {σ : L2.St} (rx : RX K mg F x (.ref C) d k) (hk : ∀ c, 0 < cnt c k → H c.1 = some c.2) (hs : σ[i]? = some (some (.ref a))) :
    ∀ {hp : List HP} {ds : List D} {Q : List V → Hp → Prop}, hpsD x hp = some ds → (∀ h ∈ hp, ∀ z, h = .cst z → ∃ s, z = .str s) → (∀ ws, RDs K mg F ds ws → Q ws H) → tHPs a (.ref C) d C i hp σ H Q
  | [], ds, Q, h, _, q => by
    cases h
    exact q [] .nil
  | h :: hp, ds, Q, e, hc, q => by
    unfold hpsD at e
    split at e
    · rename_i d0 ds' h1 h2
      cases e
      have rest : ∀ (v : V), RD K mg F d0 v → tHPs a (.ref C) d C i hp σ H (fun xs H2 => Q (v :: xs) H2) := fun v rv =>
        hps_sat rx hk hs h2 (fun z hz => hc z (List.mem_cons_of_mem _ hz)) fun ws hw => q (v :: ws) (.cons rv hw)
      cases h with
      | cst z =>
        obtain ⟨s, rfl⟩ := hc _ (List.mem_cons_self ..) z rfl
        cases h1
        exact rest _ (.str s)
      | fld f =>
        have h1' : x.fs.lookup f = some d0 := h1
        cases rx with
        | bare hm e0 => rw [e0] at h1'; cases h1'
        | @dict _ b vs hm r =>
          have hb : H b = some (.xd vs) := hk (b, .xd vs) (by rw [cnt_one]; omega)
          have look : ∀ {fs : List (Str × D)} {vs : List (Str × V)}, RFs K mg F fs vs → fs.lookup f = some d0 → ∃ v, vs.lookup f = some v ∧ RD K mg F d0 v := by
            intro fs vs r
            induction r with
            | nil => intro z; cases z
            | @cons y d1 v1 fs vs r1 t ih =>
              intro z
              rw [List.lookup_cons] at z ⊢
              cases hy : f == y with
              | true => rw [hy] at z; cases z; exact ⟨v1, rfl, r1⟩
              | false => rw [hy] at z; exact ih z
          obtain ⟨v, l, rv⟩ := look r h1'
          exact ⟨.ref a, hs, rfl, rfl, b, vs, v, rfl, hb, l, rest v rv⟩
      | isx y b0 =>
        have h1' : (if x.fs.isEmpty then none else some (D.bl b0)) = some d0 := h1
        cases rx with
        | bare hm e0 => rw [e0] at h1'; cases h1'
        | @dict _ b vs hm r =>
          have hb : H b = some (.xd vs) := hk (b, .xd vs) (by rw [cnt_one]; omega)
          split at h1'
          · cases h1'
          · cases h1'
            exact ⟨hs, rfl, ⟨b, vs, rfl, hb⟩, rest _ (.bl b0)⟩
    · cases e
theorem hp_cst {K : PySem.W.Frag} {mg : Str → Option Value} {g : Str → Prop} {C : Addr} {n : Str} : ∀ {es : List Expr} {hs : List HP}, HPok K mg g C n es hs → ∀ h ∈ hs, ∀ z, h = .cst z → ∃ s, z = .str s
  | _, _, .nil, h, hm, z, e => by cases hm
  | _, _, .cst (s := s) t, h, hm, z, e => by
    rcases List.mem_cons.mp hm with rfl | hm
    · cases e; exact ⟨s, rfl⟩
    · exact hp_cst t h hm z e
  | _, _, .fld _ t, h, hm, z, e => by
    rcases List.mem_cons.mp hm with rfl | hm
    · cases e
    · exact hp_cst t h hm z e
  | _, _, .isx _ _ _ _ _ _ t, h, hm, z, e => by
    rcases List.mem_cons.mp hm with rfl | hm
    · cases e
    · exact hp_cst t h hm z e
section
variable {Z : Jd} {io : Nat → Bool} {p : Pg} {pos : Pos}
def hdT (o : Option Nat) (t : TA) : TS := match o with
  | some j => tAsg (tTup t) (L2.gName j)
  | none => tRet (tTup t)
/-- the contexts of a try's body -/
def Jd.tr (Z : Jd) (W : WX) : Jd := ⟨fun Y => ∃ (X : Cx) (pn : List (Addr × Obj)) (xe : Value → Shared → Prop), Z.G X ∧ Y = X.tr pn xe ∧ Takes (X.tr pn xe) W ∧ PassesOwn (model X.prog X.w) X.A X.env xe, Z.K, Z.mg, W⟩
theorem wipe_pin {σ σ1 : L2.St} {i : Nat} {o : Option V} (pn : Pin io σ σ1) (hi : io i = false) : Pin io σ (σ1.set i o) := pn.trans (Pin.set hi)
theorem ok_try {c n : Str} {C : Addr} {i : Nat} {o : Option Nat} {b : SS} {hp : List HP} {es : List Expr} {body suite : List Stmt} {b0 : Stmt} {np hpos : Pos} (hm : Z.mg c = some (.ref C)) (T : XfC Z.K C) (hi : io i = false) (ho : ∀ j, o = some j → io j = false ∧ j ≠ i)
    (hK : ∀ X, Z.G X → X.K = Z.K) (hx : PySem.W.exmOne Z.K (.ref C) (.ref C) = some true) {g : Str → Prop} (hgl : ∀ X, Z.G X → ∀ y, g y → Gl X y) (hmg : ∀ X, Z.G X → X.mg = Z.mg) (hhp : HPok Z.K Z.mg g C n es hp)
    (hX : ∀ X, Z.G X → X.stack = X.env :: X.outer ∧ X.env.frame = some X.env.locals ∧ X.N.Nodup ∧ X.N[i]? = some n ∧ X.env.kindOf n = some .local ∧ Names X c (.ref C) ∧ Takes X Z.W)
    (hv : ∀ X, Z.G X → ∀ (a : Addr) (oe : Obj) (pn : List (Addr × Obj)) (q : Pos), PE (X.suite a ((a, oe) :: pn)) (.Name n q) (tVar i))
    (hs : ∀ X, Z.G X → ∀ (a : Addr) (oe : Obj) (pn : List (Addr × Obj)) (t : TA), PA (X.suite a ((a, oe) :: pn)) es t → PSs (X.suite a ((a, oe) :: pn)) (b0 :: suite) (hdT o t))
    (hb : ∀ W, OkB (Z.tr W) io body (b p)) : OkS Z io (.Try body [.ExceptHandler (some (.Name c np)) (some n) (b0 :: suite) hpos] [] [] pos) (sTry b c i o hp p) := by
  obtain ⟨tb, htb⟩ := Classical.skolem.mp hb
  refine ⟨fun D σ H => tb (wAs Z.K (.ref C) i (fun a cls d => hdT o (tHPs a cls d C i hp)) Z.W D) D σ H, fun X hX' => ?_, fun r σ F H cs R D rv s po => ?_⟩
  · obtain ⟨x1, x2, x3, x4, x5, x6, x7⟩ := hX X hX'
    have ek := hK X hX'
    have := ps_try_as (X := X) (x := c) (n := n) (c := .ref C) (i := i) (body := body) (suite := suite) (b₀ := b0) (np := np) (pos := pos) (pos' := hpos) (tb := tb) (ts := fun a cls d => hdT o (tHPs a cls d C i hp)) (Wout := Z.W) x1 x2 x3 x4 x5 x6 x7
      (fun W pn xe tk pw => (htb W).1 _ ⟨X, pn, xe, hX', rfl, tk, pw⟩)
      (fun a oe cls d pn hz hf => hs X hX' a oe pn _ (hps_pa (hgl X hX') (by rw [ek]; exact T) hz hf (hv X hX' a oe pn _) (hv X hX' a oe pn) (by rw [ek, hmg X hX']; exact hhp)))
    rw [ek] at this
    exact this
  · refine (htb _).2 r σ F H cs R D rv s ?_
    unfold sTry at po
    cases eb : b p r with
    | bad => rw [eb] at po; exact po
    | ok fl r1 => rw [eb] at po; cases fl <;> exact po
    | exn x r1 =>
      rw [eb] at po
      intro σ1 F1 H1 cls d k cs1 e1 rx rv1 pn1 s1
      dsimp only at po
      by_cases hcl : x.cls = c ∧ i < r1.length
      · rw [if_pos hcl] at po
        obtain ⟨hcls, hil⟩ := hcl
        have ecls : cls = .ref C := by
          cases rx with
          | dict hm' _ => have hm2 : Z.mg x.cls = some _ := hm'; rw [hcls, hm] at hm2; cases hm2; rfl
          | bare hm' _ => have hm2 : Z.mg x.cls = some _ := hm'; rw [hcls, hm] at hm2; cases hm2; rfl
        subst ecls
        refine ⟨true, hx, fun _ a na => ?_, fun z => by cases z⟩
        cases hd : hpsD x hp with
        | none => rw [hd] at po; exact po.elim
        | some ds =>
          rw [hd] at po
          dsimp only at po
          by_cases hz : szOk ds.length = true
          · rw [if_pos hz] at po
            have hsl : (σ1.set i (some (.ref a)))[i]? = some (some (.ref a)) := List.getElem?_set_self (by rw [rv1.len.1]; exact hil)
            have hk : ∀ c, 0 < cnt c k → H1 c.1 = some c.2 := fun c hc => s1.own c (by simp only [cnt_append]; omega)
            have hcst : ∀ h ∈ hp, ∀ z, h = .cst z → ∃ s, z = .str s := hp_cst hhp
            cases o with
            | none =>
              dsimp only at po
              refine hps_sat (K := Z.K) (mg := Z.mg) (F := F1) rx hk hsl hd hcst fun ws hw => ⟨by rw [← hw.len]; exact szOk_le hz, fun q hq => ?_⟩
              have fq := s1.ex.free hq
              exact po (σ1.set i (some (.ref a))) (upd F1 q (.tup ws)) _ _ [] _ (e1.trans (Ex.new fq)) (.val (.tup (.inl (.inl upd_same)) (hw.mono (Ex.new fq)))) ((rv1.mono (Ex.new fq)).wipe i _) (wipe_pin pn1 hi) ((s1.newF hq).sub fun c => by have := cnt_put c (k' := []) cs1 i; simp only [cnt_append, cnt_nil] at *; omega)
            | some j =>
              dsimp only at po
              obtain ⟨hj, hji⟩ := ho j rfl
              refine hps_sat (K := Z.K) (mg := Z.mg) (F := F1) rx hk hsl hd hcst fun ws hw => ⟨by rw [← hw.len]; exact szOk_le hz, fun q hq => ?_⟩
              have fq := s1.ex.free hq
              have es : ((σ1.set i (some (V.ref a))).set j (some (.ref q))).set i none = (σ1.set j (some (.ref q))).set i none := by
                have hcm : (σ1.set i (some (V.ref a))).set j (some (.ref q)) = (σ1.set j (some (.ref q))).set i (some (V.ref a)) := List.set_comm _ _ (Ne.symm hji)
                rw [hcm, List.set_set]
              show D.nx (((σ1.set i (some (V.ref a))).set j (some (.ref q))).set i none) _
              rw [es]
              exact po _ (upd F1 q (.tup ws)) _ _ (e1.trans (Ex.new fq)) (((rv1.mono (Ex.new fq)).set j (.val (.tup (.inl (.inl upd_same)) (hw.mono (Ex.new fq))))).wipe i _) (wipe_pin (wipe_pin pn1 hj) hi) ((s1.newF hq).sub fun c => by
                have h1 := cnt_put c (k' := []) cs1 j
                have h2 := cnt_put c (k' := []) (cs1.set j []) i
                simp only [cnt_append, cnt_nil] at *
                omega)
          · rw [if_neg hz] at po
            exact po.elim
      · rw [if_neg hcl] at po
        exact po.elim
end
/-! ### a, *b = a tuple -/
def notStarE : Expr → Bool
  | .Starred _ _ => false
  | _ => true
section
variable {prog : Program} {w : World} {A : Around} {E : Value → Shared → Prop} {s : Shared}
theorem star_items {tt : Addr} {u : Value} {us : List Value} {Q : List Value → Shared → Prop} (hh : A.handled = none) (ht : PyProof.Rows.IsTup s.heap tt (u :: us).toArray) (hz : us.length ≤ 10000)
    (q : ∀ (h2 : Heap) (tk : Nat), (∀ b o, s.heap.get? b = some o → h2.get? b = some o) → s.heap.get? h2.objs.size = none → Q [u, .ref h2.objs.size] { s with heap := h2.push ⟨.type "list", none, .seq us.toArray 0, #[]⟩, toks := tk }) :
    wpAny (model prog w) A (unpackItems (.ref tt) 2 (some 1)) Q E s := by
  have ne : tt ≠ s.heap.objs.size := by
    obtain ⟨o, e, _⟩ := ht
    exact Nat.ne_of_lt (Heap.lt_size e)
  have e1 : ((u :: us).toArray).toList.take 1 = [u] := rfl
  have e2 : ((u :: us).toArray).toList.drop 1 = us := rfl
  have hsz : ((u :: us).toArray).size = us.length + 1 := by simp
  unfold unpackItems notIterableAtAll
  refine wpAny_bind (wpAny_bind (wpAny_specialOf ht.typeIs PySem.F.slot_tuple_iter.lookup (wpAny_pure ?_)))
  simp only [Bool.false_eq_true, if_false]
  refine wpAny_bind (wpAny_holding (PyProof.Rows.iter_tuple ht ?_))
  refine wpAny_bind (wpAny_holding (PyProof.Rows.draw_tuple ne 1 0 _ _ ⟨_, Heap.get?_push_size _ rfl, rfl, rfl⟩ (ht.push _) (by rw [hsz]; omega) fun g1 it1 sb => ?_))
  have tp1 : PyProof.Rows.IsTup g1 tt (u :: us).toArray := (ht.push _).extBut sb.extBut ne
  rw [List.drop_zero, e1]
  rw [if_neg (by simp)]
  obtain ⟨o1, w1, _⟩ := id it1
  obtain ⟨o2, w2, _⟩ := id tp1
  refine wpAny_bind (wpAny_holding (PySem.W.kun_collect (s := { s with heap := g1 }) (T := "tuple_iterator") (k := 1) (.inr (.inr (.inr rfl))) (Walks.tuple (A := A.in1) hh s.heap.objs.size tt ne (u :: us).toArray) (fun _ _ y => y.1.typeIs) (by rw [hsz]; omega) ⟨it1, tp1⟩ (Heap.lt_size w1) (Heap.lt_size w2) (fun g2 tk kp => ?_) (by rw [hsz, sizeLine_eq]; omega)))
  rw [e2]
  have keep : ∀ b o, s.heap.get? b = some o → g2.get? b = some o := fun b o y => kp b o (Nat.ne_of_lt (Heap.lt_size y)) (sb.extBut b o (Nat.ne_of_lt (Heap.lt_size y)) (Heap.get?_push_of_some _ y))
  have gone : s.heap.get? g2.objs.size = none := by
    cases y : s.heap.get? g2.objs.size with
    | none => rfl
    | some o => exact absurd (Heap.lt_size (keep _ o y)) (Nat.lt_irrefl _)
  show wpAny _ _ (if us.length < 2 - 1 - 1 then _ else _) _ _ _
  rw [if_neg (by omega)]
  show wpAny _ _ (newList (us.take (us.length - 0)) >>= fun l => pure ([u] ++ [l] ++ us.drop (us.length - 0))) _ _ _
  rw [Nat.sub_zero, List.take_length, List.drop_length]
  exact wpAny_bind (wpAny_newList (wpAny_pure (q g2 tk keep gone)) (by rw [sizeLine_eq]; omega))
end
theorem star_itemsN {tt : Addr} {n : Nat} {us : List Value} {Q : List Value → Shared → Prop} (hh : A.handled = none) (ht : PyProof.Rows.IsTup s.heap tt us.toArray) (hn : n ≤ us.length) (hz : us.length ≤ 10000)
    (q : ∀ (h2 : Heap) (tk : Nat), (∀ b o, s.heap.get? b = some o → h2.get? b = some o) → s.heap.get? h2.objs.size = none → Q (us.take n ++ [.ref h2.objs.size]) { s with heap := h2.push ⟨.type "list", none, .seq (us.drop n).toArray 0, #[]⟩, toks := tk }) :
    wpAny (model prog w) A (unpackItems (.ref tt) (n + 1) (some n)) Q E s := by
  have ne : tt ≠ s.heap.objs.size := by
    obtain ⟨o, e, _⟩ := ht
    exact Nat.ne_of_lt (Heap.lt_size e)
  have hsz : us.toArray.size = us.length := by simp
  unfold unpackItems notIterableAtAll
  refine wpAny_bind (wpAny_bind (wpAny_specialOf ht.typeIs PySem.F.slot_tuple_iter.lookup (wpAny_pure ?_)))
  simp only [Bool.false_eq_true, if_false]
  refine wpAny_bind (wpAny_holding (PyProof.Rows.iter_tuple ht ?_))
  refine wpAny_bind (wpAny_holding (PyProof.Rows.draw_tuple ne n 0 _ _ ⟨_, Heap.get?_push_size _ rfl, rfl, rfl⟩ (ht.push _) (by rw [hsz]; omega) fun g1 it1 sb => ?_))
  have tp1 : PyProof.Rows.IsTup g1 tt us.toArray := (ht.push _).extBut sb.extBut ne
  rw [List.drop_zero]
  have el : (List.take n us.toArray.toList).length = n := by rw [List.length_take]; show min n us.length = n; omega
  rw [if_neg (by rw [el]; omega)]
  obtain ⟨o1, w1, _⟩ := id it1
  obtain ⟨o2, w2, _⟩ := id tp1
  refine wpAny_bind (wpAny_holding (PySem.W.kun_collect (s := { s with heap := g1 }) (T := "tuple_iterator") (k := n) (.inr (.inr (.inr rfl))) (Walks.tuple (A := A.in1) hh s.heap.objs.size tt ne us.toArray) (fun _ _ y => y.1.typeIs) (by rw [hsz]; omega) ⟨by rw [Nat.zero_add] at it1; exact it1, tp1⟩ (Heap.lt_size w1) (Heap.lt_size w2) (fun g2 tk kp => ?_) (by rw [hsz, sizeLine_eq]; omega)))
  have e2 : us.toArray.toList.drop n = us.drop n := rfl
  rw [e2]
  have keep : ∀ b o, s.heap.get? b = some o → g2.get? b = some o := fun b o y => kp b o (Nat.ne_of_lt (Heap.lt_size y)) (sb.extBut b o (Nat.ne_of_lt (Heap.lt_size y)) (Heap.get?_push_of_some _ y))
  have gone : s.heap.get? g2.objs.size = none := by
    cases y : s.heap.get? g2.objs.size with
    | none => rfl
    | some o => exact absurd (Heap.lt_size (keep _ o y)) (Nat.lt_irrefl _)
  show wpAny _ _ (if (us.drop n).length < n + 1 - 1 - n then _ else _) _ _ _
  rw [if_neg (by omega)]
  show wpAny _ _ (newList ((us.drop n).take ((us.drop n).length - (n + 1 - 1 - n))) >>= fun l => pure (us.take n ++ [l] ++ (us.drop n).drop ((us.drop n).length - (n + 1 - 1 - n)))) _ _ _
  have e3 : (us.drop n).length - (n + 1 - 1 - n) = (us.drop n).length := by omega
  rw [e3, List.take_length, List.drop_length, ]
  refine wpAny_bind (wpAny_newList (wpAny_pure ?_) (by rw [List.length_drop, sizeLine_eq]; omega))
  rw [List.append_nil]
  exact q g2 tk keep gone
theorem each_star {env : PySem.Env} : ∀ {es : List Expr} {e0 : Expr} {q : Pos}, (∀ e ∈ es, notStarE e = true) → notStarE e0 = true →
    (assignEach (es ++ [.Starred e0 q]) env).map (·.2) = (assignEach (es ++ [e0]) env).map (·.2) ∧ (assignEach (es ++ [.Starred e0 q]) env).length = es.length + 1 ∧ (assignEach (es ++ [.Starred e0 q]) env).findIdx? (·.1) = some es.length
  | [], e0, q, _, h0 => by
    have : assignEach [e0] env = [(false, assign e0 env)] := by cases e0 <;> first | rfl | (simp [notStarE] at h0; done)
    show List.map (·.2) [(true, assign e0 env)] = List.map (·.2) (assignEach [e0] env) ∧ _
    rw [this]
    exact ⟨rfl, rfl, rfl⟩
  | e :: es, e0, q, h, h0 => by
    obtain ⟨h1, h2, h3⟩ := each_star (env := env) (q := q) (fun e he => h e (List.mem_cons_of_mem _ he)) h0
    have hc : ∀ rest, assignEach (e :: rest) env = (false, assign e env) :: assignEach rest env := fun rest => by
      have := h e (List.mem_cons_self ..)
      cases e <;> first | rfl | (simp [notStarE] at this; done)
    rw [List.cons_append, List.cons_append, hc, hc]
    refine ⟨by rw [List.map_cons, List.map_cons, h1], by rw [List.length_cons, h2]; rfl, ?_⟩
    rw [List.findIdx?_cons, h3]
    rfl
theorem pg_starN {X : Cx} {es : List Expr} {e0 : Expr} {t : TGs} {k : Nat} {q pos : Pos} (hc : X.calm = true) (h : PGs X (es ++ [e0]) t) (hs : ∀ e ∈ es, notStarE e = true) (h0 : notStarE e0 = true) : PG X (.Tuple (es ++ [.Starred e0 q]) k pos) (gStarN X.K es.length t) := by
  obtain ⟨k1, k2, k3⟩ := each_star (env := X.env) (q := q) hs h0
  refine ⟨fun pins s σ H v u Q I r hw => ?_⟩
  obtain ⟨a, xs, rfl, hq, hn, hl, hw⟩ := hw
  cases r
  obtain ⟨its, rv, ht, hz⟩ := I.tuple hq
  rw [PyProof.Rows.assign_Tuple]
  refine wpAny_bind (wpAny_standAt ?_)
  unfold unpack
  rw [k1, k2, k3]
  refine wpAny_bind (wpAny_holding (star_itemsN (I.ok.hd hc) ht (by rw [← rv.length]; exact hn) (by rw [← rv.length]; exact hl) fun h2' tk kp gn => ?_))
  have hnn : H h2'.objs.size = none := I.hok.gone gn
  have J : Inv X pins σ (upd H h2'.objs.size (.lst (xs.drop es.length))) { s with heap := h2'.push ⟨.type "list", none, .seq (its.drop es.length).toArray 0, #[]⟩, toks := tk } :=
    I.laidN (fun b o z => Heap.get?_push_of_some _ (kp b o z)) gn hnn ⟨by rw [List.length_drop, sizeLine_eq]; omega, its.drop es.length, 0, rv.drop _, Heap.get?_push_size _ rfl⟩
  exact h.run pins _ σ _ (xs.take es.length ++ [.ref h2'.objs.size]) _ Q J ((rv.take _).append (.cons (show RelV (.ref h2'.objs.size) (Value.ref h2'.objs.size) from rfl) .nil)) (hw _ hnn)
def gStar (K : PySem.W.Frag) (i j : Nat) : TG := fun v σ H Q => ∃ (a : Addr) (x : V) (xs : List V), v = .ref a ∧ SqT K H a (x :: xs) ∧ xs.length ≤ 10000 ∧ ∀ p, H p = none → Q ((σ.set i (some x)).set j (some (.ref p))) (upd H p (.lst xs))
theorem pg_star {X : Cx} {x y : Str} {i j k : Nat} {p1 p2 p3 pos : Pos} (hc : X.calm = true) (h1 : PG X (.Name x p1) (L2.gName i)) (h2 : PG X (.Name y p2) (L2.gName j)) : PG X (.Tuple [.Name x p1, .Starred (.Name y p2) p3] k pos) (gStar X.K i j) := by
  refine ⟨fun pins s σ H v u Q I r hw => ?_⟩
  obtain ⟨a, x0, xs, rfl, hq, hl, q⟩ := hw
  cases r
  obtain ⟨its, rv, ht, hz⟩ := I.tuple hq
  cases rv with
  | @cons _ u0 _ us r0 rs =>
    have hus : us.length ≤ 10000 := by rw [← rs.length]; exact hl
    rw [PyProof.Rows.assign_Tuple]
    refine wpAny_bind (wpAny_standAt ?_)
    show wpAny _ _ (holding [.ref a] (unpackItems (.ref a) 2 (some 1)) >>= assignInOrder [assign (.Name x p1) X.env, assign (.Name y p2) X.env]) _ _ _
    refine wpAny_bind (wpAny_holding (star_items (I.ok.hd hc) ht hus fun h2' tk kp gn => ?_))
    have hn : H h2'.objs.size = none := I.hok.gone gn
    have J : Inv X pins σ (upd H h2'.objs.size (.lst xs)) { s with heap := h2'.push ⟨.type "list", none, .seq us.toArray 0, #[]⟩, toks := tk } :=
      I.laidN (fun b o z => Heap.get?_push_of_some _ (kp b o z)) gn hn ⟨by rw [rs.length, sizeLine_eq]; omega, us, 0, rs, Heap.get?_push_size _ rfl⟩
    have ps := (pgs_cons h1 (pgs_cons h2 pgs_nil) : PGs X [.Name x p1, .Name y p2] (L2.gCons (L2.gName i) (L2.gCons (L2.gName j) L2.gNil))).run pins _ σ _ [x0, .ref h2'.objs.size] [u0, .ref h2'.objs.size] Q J (.cons r0 (.cons rfl .nil)) ⟨x0, _, rfl, .ref h2'.objs.size, _, rfl, rfl, q _ hn⟩
    exact ps
theorem ok_unps {Z : Jd} {io : Nat → Bool} {p : Pg} {a : Expr} {st : Stmt} {f : SE} {i j : Nat} (hi : io i = false) (hj : io j = false) (hp : ∀ X, Z.G X → ∀ t, PE X a t → PS X st (tAsg t (gStar Z.K i j))) (ha : OkE Z a (f p)) : OkS Z io st (sUnpS i j f p) := by
  obtain ⟨ta, pa, sa⟩ := ha
  refine ⟨_, fun X g => hp X g ta (pa X g), fun r0 σ F H cs R D rv s po => ?_⟩
  unfold sUnpS at po
  refine sa r0 σ F H cs R _ rv s ?_
  cases ea : f p r0 with
  | bad => rw [ea] at po; exact po
  | exn x r1 => rw [ea] at po; exact PoS.px po
  | ok a1 r1 =>
    rw [ea] at po
    simp only [Out.bind_ok] at po
    intro F1 H1 v1 k1 cs1 e1 ra1 rv1 s1
    split at po
    · rename_i x xs r2 hx
      obtain ⟨F2, cs2, e2, rd, rv2, s2⟩ := fz_ok ra1 rv1 s1 hx
      by_cases hl : xs.length ≤ 10000
      · rw [if_pos (decide_eq_true hl)] at po
        cases rd with
        | tup hs rs =>
          cases rs with
          | @cons _ _ v0 vs r0 rs =>
            refine ⟨_, v0, vs, rfl, s2.ex.st hs, by rw [← rs.len]; exact hl, fun q hq => ?_⟩
            exact po _ F2 _ _ (e1.trans e2) ((rv2.set i (.val r0)).set j (.ls rs)) (wipe_pin (wipe_pin (Pin.refl io σ) hi) hj) ((s2.newO hq).sub fun c => by
              have h1 := cnt_put c (k' := []) cs2 i
              have h2 := cnt_put c (k' := [(q, HO.lst vs)]) (cs2.set i []) j
              rw [cnt_cons c (q, HO.lst vs) (cs2.flatten ++ R)]
              simp only [cnt_append, cnt_nil] at *
              omega)
      · rw [if_neg (by simpa using hl)] at po
        exact po.elim
    · exact po.elim
/-! ### written dicts of the module -/
structure KD (K : PySem.W.Frag) (w : World) (a : Addr) (ks : List Str) (us : List Value) : Prop where
  ex : ∃ es n, K.lookup a = some ⟨.type "dict", none, .dict es n, #[]⟩ ∧ PySem.W.KeysLit w.params es.toList
  low : (a == sysModules) = false
  at_ : ∀ z, PySem.W.nsIn K a z = some (lkD ks us z)
def rKIn (neg : Bool) (K : PySem.W.Frag) (w : World) : R2 := fun x y H Q => ∃ (z : Str) (a : Addr) (ks : List Str) (us : List Value), x = .str z ∧ y = .ref a ∧ KD K w a ks us ∧ Q (.bl (neg != (lkD ks us z).isSome)) H
theorem op_kin {X : Cx} : OpR X (compareOp .In) (rKIn false X.K X.w) := by
  intro pins s σ H x y v u Q I rx ry h
  obtain ⟨z, a, ks, us, rfl, rfl, kd, q⟩ := h
  obtain ⟨t, rfl⟩ := rx
  cases ry
  obtain ⟨es, n, hl, hk⟩ := kd.ex
  refine wpAny_in_of (PySem.strKind_is X.prog X.w z t) kd.low (PySem.W.mapOf_K (prog := X.prog) (w := X.w) I.kIn hl hk) ?_
  rw [PySem.W.find_K hl (kd.at_ z)]
  exact ⟨.bl _, H, I.tok _, rfl, by simpa using q⟩
theorem op_knotin {X : Cx} : OpR X (compareOp .NotIn) (rKIn true X.K X.w) := by
  intro pins s σ H x y v u Q I rx ry h
  obtain ⟨z, a, ks, us, rfl, rfl, kd, q⟩ := h
  obtain ⟨t, rfl⟩ := rx
  cases ry
  obtain ⟨es, n, hl, hk⟩ := kd.ex
  refine wpAny_notIn_of (PySem.strKind_is X.prog X.w z t) kd.low (PySem.W.mapOf_K (prog := X.prog) (w := X.w) I.kIn hl hk) ?_
  rw [PySem.W.find_K hl (kd.at_ z)]
  exact ⟨.bl _, H, I.tok _, rfl, by simpa using q⟩
theorem lk_some {K : PySem.W.Frag} {mg : MT} {F : Hp} {z : Str} {d : D} : ∀ {ks : List Str} {xs : List D} {vs : List V} {us : List Value}, RDs K mg F xs vs → Vals vs us → lkD ks xs z = some d → ∃ v u, lkD ks us z = some u ∧ RelV v u ∧ RD K mg F d v
  | [], _, _, _, _, _, h => by cases h
  | k :: ks, _, _, _, .nil, _, h => by cases h
  | k :: ks, _, _, _, .cons r rs, .cons q qs, h => by
    unfold lkD at h ⊢
    rw [List.zip_cons_cons, List.lookup_cons] at h ⊢
    cases hz : z == k with
    | true => rw [hz] at h; cases h; exact ⟨_, _, rfl, q, r⟩
    | false => rw [hz] at h; exact lk_some rs qs h
theorem lk_iff {K : PySem.W.Frag} {mg : MT} {F : Hp} {z : Str} : ∀ {ks : List Str} {xs : List D} {vs : List V} {us : List Value}, RDs K mg F xs vs → Vals vs us → (lkD ks xs z).isSome = (lkD ks us z).isSome
  | [], _, _, _, _, _ => rfl
  | k :: ks, _, _, _, .nil, .nil => rfl
  | k :: ks, _, _, _, .cons r rs, .cons q qs => by
    unfold lkD
    rw [List.zip_cons_cons, List.zip_cons_cons, List.lookup_cons, List.lookup_cons]
    cases hz : z == k with
    | true => rfl
    | false => exact lk_iff rs qs
section
variable {Z : Jd} {p : Pg} {w : World} {b e : Expr}
theorem ok_gix {x : Str} {a : Addr} {us : List Value} {f : SE} (hd : ∀ ks xs, p.G x = some (.dct ks xs) → KD Z.K w a ks us ∧ ∀ F, ∃ vs, RDs Z.K Z.mg F xs vs ∧ Vals vs us)
    (hp : ∀ X, Z.G X → ∀ t, PE X b t → PE X e (tOp (rIxD Z.K w) (tC (.ref a)) t)) (hb : OkE Z b (f p)) : OkE Z e (eGIx x f p) := by
  obtain ⟨tb, pb, sb⟩ := hb
  refine ⟨_, fun X g => hp X g tb (pb X g), fun r0 σ F H cs R Q rv s po => ?_⟩
  unfold eGIx at po
  split at po
  · rename_i ks xs hg
    obtain ⟨kd, hv⟩ := hd ks xs hg
    refine sb r0 σ F H cs R _ rv s ?_
    cases ea : f p r0 with
    | bad => rw [ea] at po; exact po
    | exn y r1 => rw [ea] at po; exact po
    | ok a1 r1 =>
      rw [ea] at po
      simp only [Out.bind_ok] at po
      intro F1 H1 v1 k1 cs1 e1 ra1 rv1 s1
      split at po
      · rename_i z hz
        have w1 := view_ok ra1 rv1 s1 (fun c => by simp only [cnt_append]; omega) hz
        cases w1.str
        split at po
        · rename_i d hl
          obtain ⟨vs, rs, vl⟩ := hv F1
          obtain ⟨v, u, h1, h2, h3⟩ := lk_some rs vl hl
          obtain ⟨es, n, g1, g2⟩ := kd.ex
          exact ⟨a, z, v, rfl, rfl, ⟨es, n, u, g1, g2, by rw [kd.at_, h1], h2⟩, po F1 H1 v [] cs1 e1 (.val h3) rv1 (s1.sub fun c => by simp only [cnt_append, cnt_nil]; omega)⟩
        · exact po.elim
      · exact po.elim
  · exact po.elim
theorem ok_gin {neg : Bool} {x : Str} {a : Addr} {us : List Value} {f : SE} (hd : ∀ ks xs, p.G x = some (.dct ks xs) → KD Z.K w a ks us ∧ ∀ F, ∃ vs, RDs Z.K Z.mg F xs vs ∧ Vals vs us)
    (hp : ∀ X, Z.G X → ∀ t, PE X b t → PE X e (tOp (rKIn neg Z.K w) t (tC (.ref a)))) (hb : OkE Z b (f p)) : OkE Z e (eGIn neg x f p) := by
  obtain ⟨tb, pb, sb⟩ := hb
  refine ⟨_, fun X g => hp X g tb (pb X g), fun r0 σ F H cs R Q rv s po => ?_⟩
  unfold eGIn at po
  split at po
  · rename_i ks xs hg
    obtain ⟨kd, hv⟩ := hd ks xs hg
    refine sb r0 σ F H cs R _ rv s ?_
    cases ea : f p r0 with
    | bad => rw [ea] at po; exact po
    | exn y r1 => rw [ea] at po; exact po
    | ok a1 r1 =>
      rw [ea] at po
      simp only [Out.bind_ok] at po
      intro F1 H1 v1 k1 cs1 e1 ra1 rv1 s1
      split at po
      · rename_i z hz
        have w1 := view_ok ra1 rv1 s1 (fun c => by simp only [cnt_append]; omega) hz
        cases w1.str
        obtain ⟨vs, rs, vl⟩ := hv F1
        refine ⟨z, a, ks, us, rfl, rfl, kd, ?_⟩
        rw [← lk_iff rs vl]
        exact po F1 H1 _ [] cs1 e1 (.val (.bl _)) rv1 (s1.sub fun c => by simp only [cnt_append, cnt_nil]; omega)
      · exact po.elim
  · exact po.elim
end
section
variable {Z : Jd} {p : Pg} {w : World} {b e : Expr}
theorem ok_tgin {neg : Bool} {x : Str} {a : Addr} {us : List Value} {f : SE} (hd : ∀ ks xs, p.G x = some (.dct ks xs) → KD Z.K w a ks us ∧ ∀ F, ∃ vs, RDs Z.K Z.mg F xs vs ∧ Vals vs us)
    (hp : ∀ X, Z.G X → ∀ t, PE X b t → PT X e (tTest (tOp (rKIn neg Z.K w) t (tC (.ref a))))) (hb : OkE Z b (f p)) : OkT Z e (tVal (eGIn neg x f) p) := by
  obtain ⟨tb, pb, sb⟩ := hb
  refine ⟨_, fun X g => hp X g tb (pb X g), fun r0 σ F H cs R Q rv s po => ?_⟩
  unfold tVal eGIn at po
  cases hg : p.G x with
  | none => rw [hg] at po; exact po.elim
  | some d0 =>
    rw [hg] at po
    cases d0 <;> first | exact po.elim | skip
    rename_i ks xs
    obtain ⟨kd, hv⟩ := hd ks xs hg
    refine sb r0 σ F H cs R _ rv s ?_
    dsimp only at po
    cases ea : f p r0 with
    | bad => rw [ea] at po; exact po
    | exn y r1 => rw [ea] at po; exact po
    | ok a1 r1 =>
      rw [ea] at po
      simp only [Out.bind_ok] at po
      intro F1 H1 v1 k1 cs1 e1 ra1 rv1 s1
      cases hz : view a1 r1 with
      | none => rw [hz] at po; exact po.elim
      | some d1 =>
        rw [hz] at po
        cases d1 <;> first | exact po.elim | skip
        rename_i z
        have w1 := view_ok ra1 rv1 s1 (fun c => by simp only [cnt_append]; omega) hz
        cases w1.str
        obtain ⟨vs, rs, vl⟩ := hv F1
        refine ⟨z, a, ks, us, rfl, rfl, kd, _, rfl, ?_⟩
        rw [← lk_iff rs vl]
        exact po F1 H1 cs1 e1 rv1 (s1.sub fun c => by simp only [cnt_append]; omega)
end
/-! ### a call of the def that a slot holds -/
def tCallV (P : Program) (w : World) (K : PySem.W.Frag) (mg : Str → Option Value) (base : Heap) (lv : Nat) (W : WX) (i : Nat) (t : TA) : TE := fun σ H Q => ∃ (f : Addr) (fd : FuncData) (ps : List Str) (sp : Sp), σ[i]? = some (some (.ref f)) ∧ PySem.W.keepIn K (.ref f) = true ∧ FnOk P w K mg base (L2.CX P w) lv f fd ps sp ∧ Binds K fd ps [] ∧ t σ H fun vs H1 => sp vs H1 Q (WE W σ)
theorem pe_callV {X : Cx} {W : WX} {lv i : Nat} {y : Str} {e : Expr} {es : List Expr} {t : TA} {p pos : Pos} (hv : PE X (.Name y p) (tVar i)) (hr : Room lv X.A) (tk : Takes X W) (ha : PA X (e :: es) t)
    (he : starEach (e :: es) X.env = (false, eval e X.env) :: starEach es X.env) (hpl : (backTo pos (starEach es X.env)).any (·.1) = false) : PE X (.Call (.Name y p) (e :: es) [] pos) (tCallV X.prog X.w X.K X.mg X.base lv W i t) := by
  refine ⟨fun pins s σ H Q I h => ?_⟩
  obtain ⟨f, fd, ps, sp, hs, hk, F1, hb, h⟩ := h
  refine wpAny_Call_Name_kw (thn (hv.run pins s σ H (fun v H1 => v = .ref f ∧ H1 = H) I ⟨.ref f, hs, rfl, rfl⟩) fun u s1 ⟨v, H1, I1, rv, ev, eh⟩ => ?_)
  subst ev
  subst eh
  obtain rfl : u = Value.ref f := rv
  refine PySem.W.callWith_K (h₀ := X.base) I.ok.mod.kin hk (thn (ha.run pos pins s1 σ _ _ I1 h) fun us s2 ⟨vs, H2, I2, r, q⟩ => ⟨I2.kIn, ?_⟩) he hpl
  exact run_fnS F1 hr hb (passAt tk σ) I2 r q
theorem ok_callV {Z : Jd} {p : Pg} {P : Program} {w : World} {base : Heap} {lv i : Nat} {fv : List (Str × Nat)} {g : SA} {es : List Expr} {e : Expr}
    (hf : ∀ q ∈ fv, ∃ f fd ps, Z.mg q.1 = some (.ref f) ∧ PySem.W.keepIn Z.K (.ref f) = true ∧ FnOk P w Z.K Z.mg base (L2.CX P w) lv f fd ps (spOf Z.K Z.mg (p.F q.1) q.2) ∧ Binds Z.K fd ps [])
    (hp : ∀ X, Z.G X → ∀ t, PA X es t → PE X e (tCallV P w Z.K Z.mg base lv Z.W i t)) (hn : ∀ r as r', g p r = .ok as r' → as.length = es.length) (ha : OkA Z es (g p)) : OkE Z e (eCallV fv i es.length g p) := by
  obtain ⟨ta, pa, sa⟩ := ha
  refine ⟨_, fun X h => hp X h ta (pa X h), fun r0 σ F H cs R Q rv s po => ?_⟩
  unfold eCallV at po
  split at po
  · rename_i x hx
    obtain ⟨v, k, h1, h2, h3⟩ := rv.get hx
    cases h3 with
    | val q =>
      cases q with
      | @fn _ f0 hm =>
        by_cases hq : fv.any (fun q => decide (q = (x, es.length))) = true
        · rw [if_pos hq] at po
          obtain ⟨q, hqm, hqe⟩ := List.any_eq_true.mp hq
          have hqe := of_decide_eq_true hqe
          subst hqe
          obtain ⟨f, fd, ps, g1, g2, g3, g4⟩ := hf _ hqm
          have ef : f0 = f := by
            have z : Z.mg x = some (Value.ref f) := g1
            rw [hm] at z
            cases z
            rfl
          subst ef
          refine ⟨f0, fd, ps, _, h1, g2, g3, g4, ?_⟩
          refine sa r0 σ F H cs R _ rv s ?_
          cases ea : g p r0 with
          | bad => rw [ea] at po; exact po
          | exn y r1 => rw [ea] at po; exact po
          | ok as r1 =>
            rw [ea] at po
            simp only [Out.bind_ok] at po
            intro F1 H1 vs k1 cs1 e1 ra1 rv1 s1
            exact callF_snd e1 ra1 rv1 s1 (hn r0 as r1 ea) po
        · rw [if_neg hq] at po
          exact po.elim
  · exact po.elim
end Mi

set_option Elab.async false
set_option linter.all false
set_option maxRecDepth 100000
set_option maxHeartbeats 1000000
/-! Mi: from the text to its meaning (expressions). -/
namespace Mi
open PySem L2

/-- what is known where a piece of text stands: the names by slot, the written scope, the module's defs (with as many parameters), what is built in -/
structure Tc where
  N : List Str
  sc : Scope
  df : Str → Option Nat
  bl : Str → Bool
  /-- calls with defaults, with keywords: as many values by place, the keywords; how the parameters are filled -/
  dk : Str → Nat → List Str → Option (List (Option D))
  /-- own exceptions: word and field -/
  xc : Str → Option (Str × Str)
  /-- defs that are values -/
  fv : List (Str × Nat)
  /-- written dicts -/
  dc : List Str
  /-- isinstance of an own exception: known answers -/
  xi : List ((Str × Str) × Bool)
  /-- written tuples of texts that are asked for an index -/
  tu : List Str
def Tc.isD (tc : Tc) (x : Str) : Bool := tc.dc.any fun y => decide (y = x)
def ixOf (x : Str) : List Str → Option Nat
  | [] => none
  | y :: ys => if y = x then some 0 else (ixOf x ys).map (· + 1)
theorem ixOf_get {x : Str} : ∀ {N : List Str} {i : Nat}, ixOf x N = some i → N[i]? = some x
  | [], i, h => by cases h
  | y :: ys, i, h => by
    unfold ixOf at h
    split at h
    · rename_i e; cases h; rw [e]; rfl
    · cases e : ixOf x ys with
      | none => rw [e] at h; cases h
      | some j =>
        rw [e] at h
        cases h
        simpa using ixOf_get e
def visB (sc : Scope) (x : Str) : Bool := match sc.names.lookup x with
  | some .local => true
  | some .cell => true
  | some .free => true
  | _ => false
def asgB (sc : Scope) (x : Str) : Bool := match sc.names.lookup x with
  | some .local => true
  | some .cell => true
  | _ => false
def glB (sc : Scope) (x : Str) : Bool := match sc.names.lookup x with
  | some .globalImplicit => true
  | _ => false
def plainN (x : Str) : Bool := !(x == ("__debug__" : Str)) && !(x == ("__classdict__" : Str)) && decide (x ≠ "__name__")
/-- a name's slot, to be read -/
def Tc.slot (tc : Tc) (x : Str) : Option Nat := if visB tc.sc x && plainN x then ixOf x tc.N else none
/-- .. to be stored -/
def Tc.store (tc : Tc) (x : Str) : Option Nat := if asgB tc.sc x && plainN x then ixOf x tc.N else none

/-- a context in which a text runs -/
structure Gd (P : Program) (w : World) (base : Heap) (tc : Tc) (Z : Jd) (lv : Nat) (X : Cx) : Prop where
  prog : X.prog = P
  wd : X.w = w
  bs : X.base = base
  eK : X.K = Z.K
  emg : X.mg = Z.mg
  eN : X.N = tc.N
  nd : tc.N.Nodup
  calm : X.calm = true
  kind : X.env.scope.kind = .function
  fl : ∀ x, tc.sc.names.lookup x = some .local → X.env.scope.names.lookup x = some .local
  fc : ∀ x, tc.sc.names.lookup x = some .cell → X.env.scope.names.lookup x = some .cell
  ff : ∀ x, tc.sc.names.lookup x = some .free → X.env.scope.names.lookup x = some .cell ∨ X.env.scope.names.lookup x = some .free
  fg : ∀ x, tc.sc.names.lookup x = some .globalImplicit → X.env.scope.names.lookup x = some .globalImplicit
  fn : ∀ x, tc.sc.names.lookup x = some .cell → X.fn x = true
  room : Room lv X.A
  tk : Takes X Z.W
  pass : PassesOwn (model X.prog X.w) X.A X.env X.xe
  mP : Z.mg.P = P
  mw : Z.mg.w = w
/-- the module's facts -/
structure XFacts (P : Program) (w : World) (base : Heap) (K : PySem.W.Frag) (mg : MT) (c wd fn : Str) : Prop where
  ex : ∃ (C fI : Addr) (fd : FuncData), mg c = some (.ref C) ∧ OexC K C ∧ PySem.W.findIn K (.ref C) "word" = some none ∧ PySem.W.findIn K (.ref C) fn = some none ∧ PySem.W.findIn K (.ref C) "__init__" = some (some (.ref fI)) ∧ PySem.W.typeIn K (.ref fI) = some (.type "function") ∧
    FnOk P w K mg base (L2.CX P w) 2 fI fd ["self", fn] (sp1 K wd fn) ∧ Binds K fd ["self", fn] [] ∧ XfC K C ∧ PySem.W.exmOne K (.ref C) (.ref C) = some true
structure Md (P : Program) (w : World) (base : Heap) (df : Str → Option Nat) (bl : Str → Bool) (dk : Str → Nat → List Str → Option (List (Option D))) (xc : Str → Option (Str × Str)) (fv : List (Str × Nat)) (dc : List Str) (xi : List ((Str × Str) × Bool)) (tu : List Str) (Z : Jd) (lv : Nat) (p : Pg) : Prop where
  fns : ∀ x n, df x = some n → ∃ f fd ps, Z.mg x = some (.ref f) ∧ PySem.W.keepIn Z.K (.ref f) = true ∧ FnOk P w Z.K Z.mg base (L2.CX P w) lv f fd ps (spOf Z.K Z.mg (p.F x) n) ∧ ps.length = n ∧ Binds Z.K fd ps []
  fnd : ∀ x n src, dk x n [] = some src → ∃ f fd ps dvs ds, Z.mg x = some (.ref f) ∧ PySem.W.keepIn Z.K (.ref f) = true ∧ FnOk P w Z.K Z.mg base (L2.CX P w) lv f fd ps (spOf Z.K Z.mg (p.F x) src.length) ∧ Binds Z.K fd ps ds ∧ Vals dvs ds ∧ ∀ F vs, vs.length = n → FillV Z.K Z.mg F src vs (vs ++ dvs)
  fnk : ∀ x n ks src, ks ≠ [] → dk x n ks = some src → ∃ f fd ps g gV, Z.mg x = some (.ref f) ∧ PySem.W.keepIn Z.K (.ref f) = true ∧ FnOk P w Z.K Z.mg base (L2.CX P w) lv f fd ps (spOf Z.K Z.mg (p.F x) src.length) ∧ KBn Z.K fd ps n ks g gV ∧ ∀ F vs zs, vs.length = n → zs.length = ks.length → FillV Z.K Z.mg F src (vs ++ zs) (gV vs zs)
  blt : ∀ x, bl x = true → Z.mg x = none
  gls : ∀ x d, p.G x = some d → (∀ ks xs, d ≠ .dct ks xs) → ∃ v u, Z.mg x = some u ∧ RelV v u ∧ ∀ F, RD Z.K Z.mg F d v
  dcs : ∀ x ks xs, p.G x = some (.dct ks xs) → ∃ a us, Z.mg x = some (.ref a) ∧ KD Z.K w a ks us ∧ ∀ F, ∃ vs, RDs Z.K Z.mg F xs vs ∧ Vals vs us
  dcm : ∀ x ks xs, p.G x = some (.dct ks xs) → (dc.any fun y => decide (y = x)) = true
  xcs : ∀ c wd fn, xc c = some (wd, fn) → XFacts P w base Z.K Z.mg c wd fn
  fvs : ∀ q ∈ fv, df q.1 = some q.2
  lvl : p.lv = lv
  xis : ∀ q ∈ xi, ∃ C Y, Z.mg q.1.1 = some (.ref C) ∧ Z.mg q.1.2 = some (.ref Y) ∧ IsXC Z.K C Y q.2
  tus : ∀ x ∈ tu, ∃ a o, Z.mg x = some (.ref a) ∧ Z.K.lookup a = some o ∧ o.cls = .type "tuple" ∧ o.dict = none
structure Gz (P : Program) (w : World) (base : Heap) (tc : Tc) (Z : Jd) (lv : Nat) (p : Pg) : Prop where
  g : ∀ X, Z.G X → Gd P w base tc Z lv X
  md : Md P w base tc.df tc.bl tc.dk tc.xc tc.fv tc.dc tc.xi tc.tu Z lv p

section
variable {P : Program} {w : World} {base : Heap} {tc : Tc} {Z : Jd} {lv : Nat} {X : Cx}
theorem Gd.here (g : Gd P w base tc Z lv X) : Here X Z.mg := ⟨by rw [g.mP, g.prog], by rw [g.mw, g.wd], g.room.units⟩
theorem Gd.vis (g : Gd P w base tc Z lv X) {x : Str} (h : visB tc.sc x = true) : Vis X.env.scope x := by
  unfold visB at h
  split at h
  · rename_i e; exact .inl (g.fl x e)
  · rename_i e; exact .inr (.inl (g.fc x e))
  · rename_i e
    rcases g.ff x e with q | q
    · exact .inr (.inl q)
    · exact .inr (.inr q)
  · cases h
theorem Gd.asg (g : Gd P w base tc Z lv X) {x : Str} (h : asgB tc.sc x = true) : Loc X.env.scope x ∧ (X.fn x = true ∨ X.env.scope.names.lookup x = some .local) := by
  unfold asgB at h
  split at h
  · rename_i e; exact ⟨.inl (g.fl x e), .inr (g.fl x e)⟩
  · rename_i e; exact ⟨.inr (g.fc x e), .inl (g.fn x e)⟩
  · cases h
theorem Gd.gl (g : Gd P w base tc Z lv X) {x : Str} (h : glB tc.sc x = true) : Gl X x := by
  unfold glB at h
  split at h
  · rename_i e; exact g.fg x e
  · cases h
theorem plainN_of {x : Str} (h : plainN x = true) : (x == ("__debug__" : Str)) = false ∧ (x == ("__classdict__" : Str)) = false ∧ x ≠ "__name__" := by
  unfold plainN at h
  rw [Bool.and_eq_true, Bool.and_eq_true] at h
  exact ⟨by simpa using h.1.1, by simpa using h.1.2, of_decide_eq_true h.2⟩
theorem Gd.slot (g : Gd P w base tc Z lv X) {x : Str} {i : Nat} (h : tc.slot x = some i) (pos : Pos) : PE X (.Name x pos) (tVar i) := by
  unfold Tc.slot at h
  split at h
  · rename_i hv
    rw [Bool.and_eq_true] at hv
    obtain ⟨h1, h2, _⟩ := plainN_of hv.2
    exact pe_var (by rw [g.eN]; exact ixOf_get h) (g.vis hv.1) h1 h2
  · cases h
theorem Gd.store (g : Gd P w base tc Z lv X) {x : Str} {i : Nat} (h : tc.store x = some i) : X.N[i]? = some x ∧ Loc X.env.scope x ∧ (X.fn x = true ∨ X.env.scope.names.lookup x = some .local) := by
  unfold Tc.store at h
  split at h
  · rename_i hv
    rw [Bool.and_eq_true] at hv
    obtain ⟨h1, h2⟩ := g.asg hv.1
    exact ⟨by rw [g.eN]; exact ixOf_get h, h1, h2⟩
  · cases h
theorem Gd.ndX (g : Gd P w base tc Z lv X) : X.N.Nodup := by rw [g.eN]; exact g.nd
end

/-! ### the pieces -/
abbrev TrE := Expr → Option SE
abbrev TrT := Expr → Option ST
def trName (tc : Tc) (x : Str) : Option SE := match tc.slot x with
  | some i => some (eVar i)
  | none => if glB tc.sc x && plainN x && !tc.isD x then some (eGlob x) else none
def trConst : Const → Option SE
  | .none => some (eCst .non)
  | .bool b => some (eCst (.bl b))
  | .int i => some (eCst (.int i))
  | .str s => some (eCst (.str s))
  | _ => none
abbrev notStar : Expr → Bool := notStarE
def trA (f : TrE) : List Expr → Option SA
  | [] => some eNil
  | e :: es => if notStar e then match f e, trA f es with
    | some x, some y => some (eCons x y)
    | _, _ => none
    else none
def trBop : Operator → Option BOp
  | .Add => some .add | .Sub => some .sub | .Mult => some .mul | .FloorDiv => some .fdiv | .Mod => some .mod | .Pow => some .pow
  | _ => none
def trCop : CmpOp → COp
  | .Eq => .eq | .NotEq => .ne | .Lt => .lt | .LtE => .le | .Gt => .gt | .GtE => .ge | .Is => .is | .IsNot => .isnot | .In => .mem | .NotIn => .notmem
def notSet : Expr → Bool
  | .Set _ _ _ => false
  | _ => true
def trCmp (f : TrE) (a : Expr) : List CmpOp → List Expr → Option SE
  | [op], [b] => if notSet b then match f a, f b with
    | some x, some y => some (eCmp (trCop op) x y)
    | _, _ => none
    else none
  | [op, op'], [b, c] => if notSet c then match f a, f b, f c with
    | some x, some y, some z => some (eChain (trCop op) (trCop op') x y z)
    | _, _, _ => none
    else none
  | _, _ => none
def trAndE (f : TrE) : List Expr → Option SE
  | [] => none
  | [a] => f a
  | a :: es => match f a, trAndE f es with
    | some x, some y => some (eAnd x y)
    | _, _ => none
def trOrE (f : TrE) : List Expr → Option SE
  | [] => none
  | [a] => f a
  | a :: es => match f a, trOrE f es with
    | some x, some y => some (eOr x y)
    | _, _ => none
def trAndT (f : TrT) : List Expr → Option ST
  | [] => none
  | [a] => f a
  | a :: es => match f a, trAndT f es with
    | some x, some y => some (tAnd x y)
    | _, _ => none
def trOrT (f : TrT) : List Expr → Option ST
  | [] => none
  | [a] => f a
  | a :: es => match f a, trOrT f es with
    | some x, some y => some (tOr x y)
    | _, _ => none
def trO (f : TrE) : Option Expr → Option SO
  | none => some oNone
  | some e => (f e).map oSome
def notSlice : Expr → Bool
  | .Slice _ _ _ _ => false
  | _ => true
def trSub (f : TrE) (a i : Expr) : Option SE := match i with
  | .Slice lo hi none _ => match f a, trO f lo, trO f hi with
    | some x, some y, some z => some (eSlice x y z)
    | _, _, _ => none
  | i => if notSlice i then match f a, f i with
    | some x, some y => some (eSub x y)
    | _, _ => none
    else none
/-- built in, by its name -/
def trBlt1 (x : Str) : Option (List D → Option C) :=
  if x = "len" then some lenD else if x = "all" then some allD else if x = "any" then some anyD else if x = "sum" then some sumD
  else if x = "max" then some maxD else if x = "min" then some minD else if x = "list" then some listD else if x = "tuple" then some tupleD
  else if x = "sorted" then some sortedD else if x = "str" then some strD else if x = "int" then some intD else if x = "ord" then some ordD else none
def trBlt (x : Str) : Option (List D → Option C) := if x = "dict" then some dictD else trBlt1 x
def tyName : Expr → Option String
  | .Name x _ => if x = "int" then some "int" else if x = "str" then some "str" else if x = "bool" then some "bool" else if x = "list" then some "list" else if x = "tuple" then some "tuple" else none
  | _ => none
def exprName : Expr → Str
  | .Name x _ => x
  | _ => Str.empty
def tyOk (tc : Tc) (e : Expr) : Bool := glB tc.sc (exprName e) && tc.bl (exprName e)
def trTys (tc : Tc) : List Expr → Option (List String)
  | [] => some []
  | e :: es => if tyOk tc e then match tyName e, trTys tc es with
    | some x, some y => some (x :: y)
    | _, _ => none
    else none
def trIsi (tc : Tc) (f : TrE) : List Expr → Option SE
  | [a, .Tuple es _ _] => if notStar a && decide (es.length ≤ 8) then match f a, trTys tc es with
    | some x, some ts => some (eIsi ts x)
    | _, _ => none
    else none
  | [a, t] => if notStar a && tyOk tc t then match f a, tyName t with
    | some x, some s => some (eIsi [s] x)
    | _, _ => none
    else none
  | _ => none
/-- list(range(..)) -/
def trLRng (tc : Tc) (f : TrE) : List Expr → Option SE
  | [.Call (.Name y _) [a] [] _] => if decide (y = "range") && glB tc.sc y && tc.bl y && notStar a then (f a).map fun x => eBlt lrngD (eCons x eNil) else none
  | [.Call (.Name y _) [a, b] [] _] => if decide (y = "range") && glB tc.sc y && tc.bl y && notStar a && notStar b then match f a, f b with
    | some x, some z => some (eBlt lrngD (eCons x (eCons z eNil)))
    | _, _ => none
    else none
  | _ => none
def kwNames : List Keyword → Option (List Str)
  | [] => some []
  | k :: ks => match k.arg, kwNames ks with
    | some x, some xs => some (x :: xs)
    | _, _ => none
def trKw (f : TrE) : List Keyword → Option SA
  | [] => some eNil
  | k :: ks => match f k.value, trKw f ks with
    | some x, some y => some (eCons x y)
    | _, _ => none
def trCallD (tc : Tc) (f : TrE) (x : Str) (as : List Expr) : Option SE :=
  if glB tc.sc x && plainN x then match tc.dk x as.length [] with
    | some src => (trA f as).map (eCallS x src)
    | none => none
  else none
def trCallK (tc : Tc) (f : TrE) (x : Str) (as : List Expr) (kws : List Keyword) : Option SE :=
  if glB tc.sc x && plainN x && !as.isEmpty && !kws.isEmpty then match kwNames kws with
    | some ks => match tc.dk x as.length ks with
      | some src => match trA f as, trKw f kws with
        | some a, some b => some (eCallK x src a b)
        | _, _ => none
      | none => none
    | none => none
  else none
def trCallN (tc : Tc) (f : TrE) (x : Str) (as : List Expr) : Option SE :=
  if glB tc.sc x && plainN x && !as.isEmpty then
    match tc.df x with
    | some n => if as.length = n then (trA f as).map (eCall x) else none
    | none => if tc.bl x then (if x = "isinstance" then trIsi tc f as else match trBlt x with
        | some op => (trA f as).map (eBlt op)
        | none => none) else none
  else none
def trSM (m : Str) : Option SM :=
  if m = "upper" then some .upper else if m = "startswith" then some .starts else if m = "find" then some .find else if m = "index" then some .index else if m = "join" then some .join else none
def trLM (m : Str) : Option LM :=
  if m = "append" then some .append else if m = "extend" then some .extend else if m = "clear" then some .clear else if m = "reverse" then some .reverse else if m = "pop" then some .pop else none
def baseOk : Expr → Bool
  | .Call (.Name _ _) [] [] _ => false
  | _ => true
/-- o.m(..): the dot and the bracket stand on one row -/
def trMeth (tc : Tc) (f : TrE) (o : Expr) (m : Str) (as : List Expr) (apos pos : Pos) : Option SE :=
  if apos.endLine == pos.line && decide (as.length < 30) then
    match trLM m with
    | some lm => match o with
      | .Name x _ => match tc.slot x with
        | some i => (trA f as).map (eChL lm i)
        | none => none
      | _ => none
    | none => match trSM m with
      | some sm => if baseOk o then match f o, trA f as with
        | some x, some y => some (eMt sm x y)
        | _, _ => none
        else none
      | none => none
  else none
/-- targets; io: the slots that are not stored -/
def trGs (f : Expr → Option SG) : List Expr → Option (List D → Env → Option Env)
  | [] => some gNil
  | e :: es => if notStar e then match f e, trGs f es with
    | some x, some y => some (gCons x y)
    | _, _ => none
    else none
/-- the names ahead of a starred one at the end -/
def starEnd : List Expr → Option (List Expr × Expr)
  | [] => none
  | e :: es => match es, e with
    | [], .Starred e0 _ => some ([], e0)
    | _, _ => match starEnd es with
      | some (xs, y) => some (e :: xs, y)
      | none => none
def trG (tc : Tc) (io : Nat → Bool) : Nat → Expr → Option SG
  | 0, _ => none
  | n + 1, e => match e with
    | .Name x _ => match tc.store x with
      | some i => if io i then none else some (gName i)
      | none => none
    | .Tuple es _ _ => match starEnd es with
      | some (xs, y) => if xs.all notStar && notStar y then (match trGs (trG tc io n) (xs ++ [y]) with
        | some h => some (gTupS xs.length h)
        | none => none) else none
      | none => match trGs (trG tc io n) es with
        | some h => some (gTup h)
        | none => none
    | _ => none
/-- what is walked by a name -/
def trI (tc : Tc) (f : TrE) (e : Expr) : Option SI := match e with
  | .Call (.Name x _) as [] _ =>
    if x = "range" then (if glB tc.sc x && tc.bl x && decide (1 ≤ as.length ∧ as.length ≤ 2) then (trA f as).map iRng else none) else (f e).map iSeq
  | .Set _ _ _ => none
  | e => (f e).map iSeq
/-- enumerate -/
def trEn (tc : Tc) (f : TrE) (tg e : Expr) : Option SI := match tg, e with
  | .Tuple _ _ _, .Call (.Name x _) [a] [] _ => if decide (x = "enumerate") && glB tc.sc x && tc.bl x then (trA f [a]).map (iEn 0) else none
  | .Tuple _ _ _, .Call (.Name x _) [a] [⟨some y, .Constant (.int k) _ _, _⟩] _ => if decide (x = "enumerate" ∧ y = "start" ∧ 0 ≤ k ∧ k ≤ 1000) && glB tc.sc x && tc.bl x then (trA f [a]).map (iEn k) else none
  | _, _ => none
/-- the parts of an f-string -/
def trFs (f : TrE) : List Expr → Option (List SE)
  | [] => some []
  | .Constant (.str s) _ _ :: es => if szOk s.length then (trFs f es).map (eCst (.str s) :: ·) else none
  | .FormattedValue e (-1) none _ :: es => match f e, trFs f es with
    | some x, some xs => some (x :: xs)
    | _, _ => none
  | _ => none
/-- the block of a comprehension -/
def Tc.blk (tc : Tc) (scope : Scope) : Tc := { tc with sc := scope }
/-- the slots of the block's own names -/
def ownOf (N : List Str) : List (Str × NameKind) → List Nat
  | [] => []
  | (x, k) :: ys => match k, ixOf x N with
    | .local, some i => i :: ownOf N ys
    | .cell, some i => i :: ownOf N ys
    | _, _ => ownOf N ys
def nodupB : List Nat → Bool
  | [] => true
  | x :: xs => !xs.contains x && nodupB xs
def fnKind : ScopeKind → Bool
  | .function => true
  | _ => false
def isCF : Option NameKind → Bool
  | some .cell => true
  | some .free => true
  | _ => false
/-- the block's names: each once, its captured ones cells of the text around -/
def blkB (tc : Tc) (scope : Scope) : Bool := fnKind scope.kind && (scope.names.all fun y => decide (scope.names.lookup y.1 = some y.2)) && (scope.names.all fun y => decide (y.2 ≠ .free) || isCF (tc.sc.names.lookup y.1))
def trComp (tc : Tc) (fo fi : TrE) (ti : TrT) (elt : Expr) (gens : List Comprehension) (scope : Scope) : Option SE := match gens with
  | [⟨tg, iter, ifs, 0⟩] =>
    if blkB tc scope && nodupB (ownOf tc.N scope.names) then
      match trG (tc.blk scope) (notIn (ownOf tc.N scope.names)) 5 tg, (match ifs with | [] => some tTrue | [c] => ti c | _ => none), fi elt with
      | some g, some t, some e => match iter with
        | .Name x _ => match tc.slot x with
          | some i => if (ownOf tc.N scope.names).contains i then none else some (eCompV (ownOf tc.N scope.names) i g t e)
          | none => match trI tc fo iter with
            | some it => some (eComp (ownOf tc.N scope.names) it g t e)
            | none => none
        | iter => match trI tc fo iter with
          | some it => some (eComp (ownOf tc.N scope.names) it g t e)
          | none => none
      | _, _, _ => none
    else none
  | _ => none
/-- two clauses -/
def trIf1 (ti : TrT) : List Expr → Option ST
  | [] => some tTrue
  | [c] => ti c
  | _ => none
def trComp2 (tc : Tc) (fo fi : TrE) (ti : TrT) (elt : Expr) (gens : List Comprehension) (scope : Scope) : Option SE := match gens with
  | [⟨tg, iter, ifs, 0⟩, ⟨.Name y yp, iter1, ifs1, 0⟩] =>
    if blkB tc scope && nodupB (ownOf tc.N scope.names) then
      match (tc.blk scope).store y with
      | some j => if (ownOf tc.N scope.names).contains j then
          match trG (tc.blk scope) (notIn (ownOf tc.N scope.names)) 5 tg, trIf1 ti ifs, trI (tc.blk scope) fi iter1, trG (tc.blk scope) (notIn [j]) 5 (.Name y yp), trIf1 ti ifs1, fi elt with
          | some g, some t, some it1, some g1, some t1, some e => match iter with
            | .Name x _ => match tc.slot x with
              | some i => if (ownOf tc.N scope.names).contains i then none else some (eComp2V (ownOf tc.N scope.names) [j] i g t it1 g1 t1 e)
              | none => none
            | iter => match trI tc fo iter with
              | some it => some (eComp2 (ownOf tc.N scope.names) [j] it g t it1 g1 t1 e)
              | none => none
          | _, _, _, _, _, _ => none
        else none
      | none => none
    else none
  | _ => none
/-- {k: e, ..} -/
def trKeys : List (Option Expr) → Option (List Str)
  | [] => some []
  | some (.Constant (.str s) _ _) :: ks => (trKeys ks).map (s :: ·)
  | _ => none
def trDct (f : TrE) (keys : List (Option Expr)) (es : List Expr) : Option SE :=
  if decide (keys.length = es.length ∧ keys.length ≤ 15 ∧ keys ≠ []) then match trKeys keys, trA f es with
    | some ks, some g => some (eDct ks g)
    | _, _ => none
  else none
/-- x.index(..), x a written tuple -/
def trTIx (tc : Tc) (f : TrE) (o : Expr) (m : Str) (as : List Expr) (apos pos : Pos) : Option SE := match o, as with
  | .Name x _, [a] => if decide (m = "index") && glB tc.sc x && plainN x && (tc.tu.any fun y => decide (y = x)) && (apos.endLine == pos.line) then (trA f [a]).map (eTIx x) else none
  | _, _ => none
/-- d.get(..) -/
def trDG (f : TrE) (o : Expr) (m : Str) (as : List Expr) (apos pos : Pos) : Option SE :=
  if decide (m = "get" ∧ 1 ≤ as.length ∧ as.length ≤ 2) && (apos.endLine == pos.line) && baseOk o then match f o, trA f as with
    | some x, some y => some (eDG x y)
    | _, _ => none
  else none
/-- {} or a display -/
def trDsp (f : TrE) (keys : List (Option Expr)) (es : List Expr) : Option SE := match keys, es with
  | [], [] => some eDNew
  | keys, es => trDct f keys es
/-- x[..] of a written dict -/
def trGSub (tc : Tc) (f : TrE) (a i : Expr) : Option SE := match a with
  | .Name x _ => if glB tc.sc x && plainN x && tc.isD x && notSlice i then (f i).map (eGIx x) else none
  | _ => none
/-- .. in x, .. not in x -/
def trGIn (tc : Tc) (f : TrE) (a : Expr) (ops : List CmpOp) (cs : List Expr) : Option SE := match ops, cs with
  | [.In], [.Name x _] => if glB tc.sc x && plainN x && tc.isD x then (f a).map (eGIn false x) else none
  | [.NotIn], [.Name x _] => if glB tc.sc x && plainN x && tc.isD x then (f a).map (eGIn true x) else none
  | _, _ => none
/-- y(..), y a slot that holds a def -/
def trCallV (tc : Tc) (f : TrE) (y : Str) (as : List Expr) : Option SE := match tc.slot y with
  | some i => if as.isEmpty then none else (trA f as).map (eCallV tc.fv i as.length)
  | none => none
def trX : Nat → (Tc → TrE) × (Tc → TrT)
  | 0 => (fun _ _ => none, fun _ _ => none)
  | n + 1 => (fun tc e => match e with
      | .Name x _ => trName tc x
      | .Constant c _ _ => trConst c
      | .Tuple es _ _ => (trA ((trX n).1 tc) es).map eTup
      | .List es _ => (trA ((trX n).1 tc) es).map eLst
      | .BinOp a op b _ => match trBop op, (trX n).1 tc a, (trX n).1 tc b with
        | some o, some x, some y => some (eBin o x y)
        | _, _, _ => none
      | .UnaryOp .USub a _ => ((trX n).1 tc a).map eNeg
      | .UnaryOp .Not a _ => ((trX n).1 tc a).map eNot
      | .Compare a ops cs _ => match trGIn tc ((trX n).1 tc) a ops cs with
        | some g => some g
        | none => trCmp ((trX n).1 tc) a ops cs
      | .BoolOp .And es _ => trAndE ((trX n).1 tc) es
      | .BoolOp .Or es _ => trOrE ((trX n).1 tc) es
      | .IfExp c a b _ => match (trX n).2 tc c, (trX n).1 tc a, (trX n).1 tc b with
        | some t, some x, some y => some (eIf t x y)
        | _, _, _ => none
      | .Subscript a i _ => match trGSub tc ((trX n).1 tc) a i with
        | some g => some g
        | none => trSub ((trX n).1 tc) a i
      | .JoinedStr (v1 :: v2 :: vs) _ => (trFs ((trX n).1 tc) (v1 :: v2 :: vs)).map eFs
      | .Call (.Name x _) as [] _ => match trCallD tc ((trX n).1 tc) x as with
        | some g => some g
        | none => match (if x = "list" && glB tc.sc x && tc.bl x then trLRng tc ((trX n).1 tc) as else none) with
          | some g => some g
          | none => match trCallV tc ((trX n).1 tc) x as with
            | some g => some g
            | none => trCallN tc ((trX n).1 tc) x as
      | .Call (.Name x _) as (kw :: kws) _ => trCallK tc ((trX n).1 tc) x as (kw :: kws)
      | .Call (.Attribute o m apos) as [] pos => match trTIx tc ((trX n).1 tc) o m as apos pos with
        | some g => some g
        | none => match trDG ((trX n).1 tc) o m as apos pos with
          | some g => some g
          | none => trMeth tc ((trX n).1 tc) o m as apos pos
      | .ListComp elt gens scope _ => match trComp2 tc ((trX n).1 tc) ((trX n).1 (tc.blk scope)) ((trX n).2 (tc.blk scope)) elt gens scope with
        | some g => some g
        | none => trComp tc ((trX n).1 tc) ((trX n).1 (tc.blk scope)) ((trX n).2 (tc.blk scope)) elt gens scope
      | .Dict keys es _ => trDsp ((trX n).1 tc) keys es
      | _ => none,
    fun tc e => match e with
      | .UnaryOp .Not a _ => ((trX n).2 tc a).map tNot
      | .BoolOp .And es _ => trAndT ((trX n).2 tc) es
      | .BoolOp .Or es _ => trOrT ((trX n).2 tc) es
      | .Compare a ops cs _ => match trGIn tc ((trX n).1 tc) a ops cs with
        | some g => some (tVal g)
        | none => (trCmp ((trX n).1 tc) a ops cs).map tVal
      | .IfExp _ _ _ _ => none
      | e => ((trX n).1 tc e).map tVal)
end Mi

set_option Elab.async false
set_option linter.all false
set_option maxRecDepth 100000
set_option maxHeartbeats 1000000
/-! Mi: the translation of expressions is sound. -/
namespace Mi
open PySem L2
section
variable {P : Program} {w : World} {base : Heap} {tc : Tc} {Z : Jd} {lv : Nat} {p : Pg}
theorem snd_name (gz : Gz P w base tc Z lv p) {x : Str} {pos : Pos} {f : SE} (h : trName tc x = some f) : OkE Z (.Name x pos) (f p) := by
  unfold trName at h
  split at h
  · rename_i i hi
    cases h
    exact ok_var fun X hX => (gz.g X hX).slot hi pos
  · split at h
    · rename_i hg
      cases h
      rw [Bool.and_eq_true] at hg
      obtain ⟨hg, hnd⟩ := hg
      rw [Bool.and_eq_true] at hg
      by_cases hd : ∃ d, p.G x = some d
      · obtain ⟨d, hd⟩ := hd
        obtain ⟨v, u, h1, h2, h3⟩ := gz.md.gls x d hd (fun ks xs z => by
          subst z
          have := gz.md.dcm x ks xs hd
          unfold Tc.isD at hnd
          rw [this] at hnd
          cases hnd)
        refine ok_glob (v := v) (fun X hX => ?_) fun d' hd' F => ?_
        · have g := gz.g X hX
          exact pe_glob (g.gl hg.1) (by rw [g.emg]; exact h1) h2 (plainN_of hg.2).1
        · rw [hd] at hd'
          cases hd'
          exact h3 F
      · refine ⟨fun _ _ _ => False, fun X _ => ⟨fun _ _ _ _ _ _ z => z.elim⟩, fun r σ F H cs R Q rv s po => ?_⟩
        unfold eGlob at po
        split at po
        · rename_i d e
          exact hd ⟨d, e⟩
        · exact po
    · cases h
theorem snd_const {c : Const} {k : Nat} {pos : Pos} {f : SE} (h : trConst c = some f) : OkE Z (.Constant c k pos) (f p) := by
  unfold trConst at h
  split at h
  · cases h; exact ok_val (fun _ _ => pe_non) fun _ => .non
  · cases h; exact ok_val (fun _ _ => pe_bl) fun _ => .bl _
  · cases h; exact ok_val (fun _ _ => pe_int) fun _ => .int _
  · cases h; exact ok_val (fun _ _ => pe_str) fun _ => .str _
  · cases h
theorem star_cons {e : Expr} {es : List Expr} (h : notStar e = true) (env : PySem.Env) : starEach (e :: es) env = (false, eval e env) :: starEach es env := by
  cases e <;> first | rfl | (simp [notStarE] at h; done)
theorem snd_args {f : TrE} (hf : ∀ e x, f e = some x → OkE Z e (x p)) : ∀ {es : List Expr} {g : SA}, trA f es = some g → OkA Z es (g p) ∧ (∀ e ∈ es, notStar e = true) ∧ ∀ r as r', g p r = .ok as r' → as.length = es.length
  | [], g, h => by
    cases h
    exact ⟨ok_nil, fun _ h => (by cases h), fun r as r' e => by cases e; rfl⟩
  | e :: es, g, h => by
    unfold trA at h
    split at h
    · rename_i hs
      split at h
      · rename_i x y h1 h2
        cases h
        obtain ⟨a1, a2, a3⟩ := snd_args hf h2
        refine ⟨ok_cons (star_cons hs) (hf e x h1) a1, fun e' he => ?_, fun r as r' q => ?_⟩
        · rcases List.mem_cons.mp he with rfl | he
          · exact hs
          · exact a2 e' he
        · unfold eCons at q
          cases e1 : x p r with
          | bad => rw [e1] at q; cases q
          | exn _ _ => rw [e1] at q; cases q
          | ok b r1 =>
            rw [e1] at q
            simp only [Out.bind_ok] at q
            cases e2 : y p r1 with
            | bad => rw [e2] at q; cases q
            | exn _ _ => rw [e2] at q; cases q
            | ok bs r2 =>
              rw [e2] at q
              have hl := a3 r1 bs r2 e2
              cases q
              rw [List.length_cons, List.length_cons, hl]
      · cases h
    · cases h
theorem backTo_plain (pos : Pos) (env : PySem.Env) : ∀ {es : List Expr}, (∀ e ∈ es, notStar e = true) → (backTo pos (starEach es env)).any (·.1) = false
  | [], _ => rfl
  | e :: es, h => by
    rw [star_cons (h e List.mem_cons_self)]
    show (false || (backTo pos (starEach es env)).any (·.1)) = false
    rw [backTo_plain pos env fun e' he => h e' (List.mem_cons_of_mem _ he)]
    rfl
theorem backTo_all (pos : Pos) (env : PySem.Env) : ∀ {es : List Expr}, (∀ e ∈ es, notStar e = true) → (backTo pos (starEach es env)).all (fun x => !x.1) = true
  | [], _ => rfl
  | e :: es, h => by
    rw [star_cons (h e List.mem_cons_self)]
    show (!false && (backTo pos (starEach es env)).all (fun x => !x.1)) = true
    rw [backTo_all pos env fun e' he => h e' (List.mem_cons_of_mem _ he)]
    rfl
theorem snd_bin {op : Operator} {o : BOp} {a b : Expr} {x y : SE} {pos : Pos} (hK : ∀ X, Z.G X → X.K = Z.K) (ho : trBop op = some o) (ha : OkE Z a (x p)) (hb : OkE Z b (y p)) : OkE Z (.BinOp a op b pos) (eBin o x y p) := by
  cases op <;> cases ho
  · exact ok_op2 ops_add (fun X hX ta tb h1 h2 => by rw [← hK X hX]; exact pe_op op_addA h1 h2) ha hb
  · exact ok_op2 ops_sub (fun X hX ta tb h1 h2 => pe_op op_sub h1 h2) ha hb
  · exact ok_op2 ops_mul (fun X hX ta tb h1 h2 => pe_op op_mulA h1 h2) ha hb
  · exact ok_op2 ops_mod (fun X hX ta tb h1 h2 => pe_op op_mod h1 h2) ha hb
  · exact ok_op2 ops_pow (fun X hX ta tb h1 h2 => pe_op op_pow h1 h2) ha hb
  · exact ok_op2 ops_fdiv (fun X hX ta tb h1 h2 => pe_op op_fdiv h1 h2) ha hb
/-- each comparison has its rule -/
theorem cmp_rule (gz : Gz P w base tc Z lv p) (op : CmpOp) : ∃ r : R2, CmS Z.K Z.mg r (cmpB (trCop op)) ∧ ∀ X, Z.G X → OpR X (compareOp op) r := by
  have hu : ∀ X, Z.G X → X.A.units + 64 < cLine := fun X hX => (gz.g X hX).room.units
  cases op with
  | Eq => exact ⟨_, cms_eq, fun X hX => by rw [← (gz.g X hX).eK]; exact op_eqA (hu X hX)⟩
  | NotEq => exact ⟨_, cms_ne, fun X hX => by rw [← (gz.g X hX).eK]; exact op_neA (hu X hX)⟩
  | Lt => exact ⟨_, cms_lt, fun X hX => op_ltA⟩
  | LtE => exact ⟨_, cms_le, fun X hX => op_le.or (by
      intro pins s σ H x y v u Q I rx ry h
      obtain ⟨i, j, rfl, rfl, q⟩ := h
      exact op_le_str pins s σ H _ _ v u Q I rx ry ⟨i, j, rfl, rfl, q⟩)⟩
  | Gt => exact ⟨_, cms_gt, fun X hX => op_gtA⟩
  | GtE => exact ⟨_, cms_ge, fun X hX => op_ge.or (by
      intro pins s σ H x y v u Q I rx ry h
      obtain ⟨i, j, rfl, rfl, q⟩ := h
      exact op_ge_str pins s σ H _ _ v u Q I rx ry ⟨i, j, rfl, rfl, q⟩)⟩
  | Is => exact ⟨_, cms_is, fun X hX => op_isN⟩
  | IsNot => exact ⟨_, cms_isnot, fun X hX => op_notN⟩
  | In => exact ⟨_, cms_in, fun X hX => by rw [← (gz.g X hX).eK]; exact op_inA (gz.g X hX).here⟩
  | NotIn => exact ⟨_, cms_notin, fun X hX => by rw [← (gz.g X hX).eK]; exact op_notInA (gz.g X hX).here⟩
theorem mark_of {b : Expr} (h : notSet b = true) (op : CmpOp) : behindInMarks op b = false := by
  cases b <;> first | rfl | (simp [notSet] at h; done)
theorem snd_cmp (gz : Gz P w base tc Z lv p) {f : TrE} (hf : ∀ e x, f e = some x → OkE Z e (x p)) {a : Expr} {ops : List CmpOp} {cs : List Expr} {pos : Pos} {g : SE} (h : trCmp f a ops cs = some g) : OkE Z (.Compare a ops cs pos) (g p) ∧ OkT Z (.Compare a ops cs pos) (tVal g p) := by
  unfold trCmp at h
  split at h
  · rename_i op b
    split at h
    · rename_i hs
      split at h
      · rename_i x y h1 h2
        cases h
        obtain ⟨r, c1, c2⟩ := cmp_rule gz op
        exact ⟨ok_op2 c1.op (fun X hX ta tb q1 q2 => pe_cmpR (c2 X hX) q1 q2 (mark_of hs op)) (hf _ _ h1) (hf _ _ h2),
          ok_tcmp c1 (fun X hX ta tb q1 q2 => pt_cmpR (c2 X hX) q1 q2 (mark_of hs op)) (hf _ _ h1) (hf _ _ h2)⟩
      · cases h
    · cases h
  · rename_i op op' b c
    split at h
    · rename_i hs
      split at h
      · rename_i x y z h1 h2 h3
        cases h
        obtain ⟨r, c1, c2⟩ := cmp_rule gz op
        obtain ⟨r', c1', c2'⟩ := cmp_rule gz op'
        have hm : lastMarks [op, op'] [b, c] = false := mark_of hs op'
        exact ⟨ok_chain c1 c1' (fun X hX ta tb td q1 q2 q3 => pe_chain (c2 X hX) (c2' X hX) q1 q2 q3 hm) (hf _ _ h1) (hf _ _ h2) (hf _ _ h3),
          ok_tchain c1 c1' (fun X hX ta tb td q1 q2 q3 => pt_chain (c2 X hX) (c2' X hX) q1 q2 q3 hm) (hf _ _ h1) (hf _ _ h2) (hf _ _ h3)⟩
      · cases h
    · cases h
  · cases h
theorem snd_andE {f : TrE} (hf : ∀ e x, f e = some x → OkE Z e (x p)) {pos : Pos} : ∀ {es : List Expr} {g : SE}, trAndE f es = some g → OkE Z (.BoolOp .And es pos) (g p)
  | [], g, h => by cases h
  | [a], g, h => by
    obtain ⟨t, p1, s1⟩ := hf a g h
    exact ⟨t, fun X hX => pe_one (p1 X hX), s1⟩
  | a :: b :: es, g, h => by
    unfold trAndE at h
    split at h
    · rename_i x y h1 h2
      cases h
      exact ok_and (fun X hX ta tb q1 q2 => pe_and q1 q2) (hf a x h1) (snd_andE hf h2)
    · cases h
theorem snd_orE {f : TrE} (hf : ∀ e x, f e = some x → OkE Z e (x p)) {pos : Pos} : ∀ {es : List Expr} {g : SE}, trOrE f es = some g → OkE Z (.BoolOp .Or es pos) (g p)
  | [], g, h => by cases h
  | [a], g, h => by
    obtain ⟨t, p1, s1⟩ := hf a g h
    exact ⟨t, fun X hX => pe_one (p1 X hX), s1⟩
  | a :: b :: es, g, h => by
    unfold trOrE at h
    split at h
    · rename_i x y h1 h2
      cases h
      exact ok_or (fun X hX ta tb q1 q2 => pe_or q1 q2) (hf a x h1) (snd_orE hf h2)
    · cases h
theorem snd_andT {f : TrT} (hf : ∀ e x, f e = some x → OkT Z e (x p)) {pos : Pos} : ∀ {es : List Expr} {g : ST}, trAndT f es = some g → ∃ t, (∀ X, Z.G X → PW X (.BoolOp .And es pos) t) ∧ SnT Z.K Z.mg Z.W t (g p)
  | [], g, h => by cases h
  | [a], g, h => by
    obtain ⟨t, p1, s1⟩ := hf a g h
    exact ⟨t, fun X hX => pw_and1 (p1 X hX), s1⟩
  | a :: b :: es, g, h => by
    unfold trAndT at h
    split at h
    · rename_i x y h1 h2
      cases h
      obtain ⟨t, p1, s1⟩ := hf a x h1
      obtain ⟨u, p2, s2⟩ := snd_andT hf (pos := pos) h2
      exact ⟨_, fun X hX => pw_and (p1 X hX) (p2 X hX), snt_and s1 s2⟩
    · cases h
theorem snd_orT {f : TrT} (hf : ∀ e x, f e = some x → OkT Z e (x p)) {pos : Pos} : ∀ {es : List Expr} {g : ST}, trOrT f es = some g → ∃ t, (∀ X, Z.G X → PW X (.BoolOp .Or es pos) t) ∧ SnT Z.K Z.mg Z.W t (g p)
  | [], g, h => by cases h
  | [a], g, h => by
    obtain ⟨t, p1, s1⟩ := hf a g h
    exact ⟨t, fun X hX => pw_or1 (p1 X hX), s1⟩
  | a :: b :: es, g, h => by
    unfold trOrT at h
    split at h
    · rename_i x y h1 h2
      cases h
      obtain ⟨t, p1, s1⟩ := hf a x h1
      obtain ⟨u, p2, s2⟩ := snd_orT hf (pos := pos) h2
      exact ⟨_, fun X hX => pw_or (p1 X hX) (p2 X hX), snt_or s1 s2⟩
    · cases h
theorem snd_o {f : TrE} (hf : ∀ e x, f e = some x → OkE Z e (x p)) {o : Option Expr} {g : SO} (h : trO f o = some g) : OkO Z o (g p) := by
  cases o with
  | none => cases h; exact ok_onone
  | some e =>
    simp only [trO] at h
    cases e1 : f e with
    | none => rw [e1] at h; cases h
    | some x => rw [e1] at h; cases h; exact ok_osome (hf e x e1)
theorem snd_sub (hK : ∀ X, Z.G X → X.K = Z.K) (hH : ∀ X, Z.G X → Here X Z.mg) {f : TrE} (hf : ∀ e x, f e = some x → OkE Z e (x p)) {a i : Expr} {pos : Pos} {g : SE} (h : trSub f a i = some g) : OkE Z (.Subscript a i pos) (g p) := by
  unfold trSub at h
  split at h
  · split at h
    · rename_i x y z h1 h2 h3
      cases h
      exact ok_slice hK (hf _ _ h1) (snd_o hf h2) (snd_o hf h3)
    · cases h
  · split at h
    · rename_i hs
      split at h
      · rename_i x y h1 h2
        cases h
        refine ok_op2 ops_ix (fun X hX ta tb q1 q2 => ?_) (hf _ _ h1) (hf _ _ h2)
        rw [← hK X hX]
        refine pe_ix (ix_all2 (hH X hX)) q1 q2 fun o j => ?_
        cases i <;> first | rfl | (simp [notSlice] at hs; done)
      · cases h
    · cases h
/-! ### calls -/
theorem hu_of' (gz : Gz P w base tc Z lv p) : ∀ X, Z.G X → X.A.units + 64 < cLine := fun X hX => (gz.g X hX).room.units
/-- a call's argument list that is not empty -/
theorem snd_call (gz : Gz P w base tc Z lv p) {x : Str} {n : Nat} {e : Expr} {es : List Expr} {g : SA} {p1 pos : Pos} (hg : glB tc.sc x = true) (hpl : plainN x = true) (hd : tc.df x = some n) (hl : (e :: es).length = n)
    (ha : OkA Z (e :: es) (g p)) (hs : ∀ e' ∈ e :: es, notStar e' = true) (hn : ∀ r as r', g p r = .ok as r' → as.length = (e :: es).length) : OkE Z (.Call (.Name x p1) (e :: es) [] pos) (eCall x g p) := by
  obtain ⟨f, fd, ps, h1, h2, h3, h4, h5⟩ := gz.md.fns x n hd
  refine ok_call (n := n) (fun X hX t q => ?_) (fun r as r' q => (hn r as r' q).trans hl) ha
  have g := gz.g X hX
  have e1 := g.eK
  have e2 := g.emg
  have e3 := g.prog
  have e4 := g.wd
  have e5 := g.bs
  have F : FnOk X.prog X.w X.K X.mg X.base (L2.CX X.prog X.w) lv f fd ps (spOf Z.K Z.mg (p.F x) n) := by rw [e1, e2, e3, e4, e5]; exact h3
  exact pe_callS F g.room (g.gl hg) (by rw [e2]; exact h1) (by rw [e1]; exact h2) (by rw [e1]; exact h5) (fun σ => passAt g.tk σ) q (plainN_of hpl).1 (star_cons (hs e List.mem_cons_self) _) (backTo_plain _ _ fun e' he => hs e' (List.mem_cons_of_mem _ he))
theorem snd_callD (gz : Gz P w base tc Z lv p) {x : Str} {src : List (Option D)} {e : Expr} {es : List Expr} {g : SA} {p1 pos : Pos} (hg : glB tc.sc x = true) (hpl : plainN x = true) (hd : tc.dk x (e :: es).length [] = some src)
    (ha : OkA Z (e :: es) (g p)) (hs : ∀ e' ∈ e :: es, notStar e' = true) (hn : ∀ r as r', g p r = .ok as r' → as.length = (e :: es).length) : OkE Z (.Call (.Name x p1) (e :: es) [] pos) (eCallS x src g p) := by
  obtain ⟨f, fd, ps, dvs, ds, h1, h2, h3, h4, h5, h6⟩ := gz.md.fnd x (e :: es).length src hd
  refine ok_callS (n := (e :: es).length) (dvs := dvs) (fun X hX t q => ?_) hn h6 ha
  have g := gz.g X hX
  have e1 := g.eK
  have e2 := g.emg
  have e3 := g.prog
  have e4 := g.wd
  have e5 := g.bs
  have F : FnOk X.prog X.w X.K X.mg X.base (L2.CX X.prog X.w) lv f fd ps (spOf Z.K Z.mg (p.F x) src.length) := by rw [e1, e2, e3, e4, e5]; exact h3
  exact pe_callSD F g.room (g.gl hg) (by rw [e2]; exact h1) (by rw [e1]; exact h2) (by rw [e1]; exact h4) h5 (fun σ => passAt g.tk σ) q (plainN_of hpl).1 (star_cons (hs e List.mem_cons_self) _) (backTo_plain _ _ fun e' he => hs e' (List.mem_cons_of_mem _ he))
/-- nothing is written -/
theorem snd_callD0 (gz : Gz P w base tc Z lv p) {x : Str} {src : List (Option D)} {p1 pos : Pos} (hg : glB tc.sc x = true) (hpl : plainN x = true) (hd : tc.dk x 0 [] = some src) : OkE Z (.Call (.Name x p1) [] [] pos) (eCallS x src eNil p) := by
  obtain ⟨f, fd, ps, dvs, ds, h1, h2, h3, h4, h5, h6⟩ := gz.md.fnd x 0 src hd
  refine ⟨tCallSD (spOf Z.K Z.mg (p.F x) src.length) dvs (fun σ => WE Z.W σ) tNil, fun X hX => ?_, sn_callS (n := 0) (fun r as r' e => by cases e; rfl) h6 fun r σ F H cs R Q rv s po => po F H [] [] cs (Ex.refl F) .nil rv s⟩
  have g := gz.g X hX
  have e1 := g.eK
  have e2 := g.emg
  have e3 := g.prog
  have e4 := g.wd
  have e5 := g.bs
  have F : FnOk X.prog X.w X.K X.mg X.base (L2.CX X.prog X.w) lv f fd ps (spOf Z.K Z.mg (p.F x) src.length) := by rw [e1, e2, e3, e4, e5]; exact h3
  refine ⟨fun pins s σ H Q I h => ?_⟩
  refine wpAny_Call_Name_kw (ld_glob I (g.gl hg) (by rw [e2]; exact h1) ?_ (plainN_of hpl).1)
  exact PySem.W.callWith_K0 I.kIn (by rw [e1]; exact h2) (run_fnSD (E := fun σ => WE Z.W σ) (us := []) F g.room (by rw [e1]; exact h4) h5 (passAt g.tk σ) I .nil h)
/-- the names and the room of keywords -/
theorem kw_facts (pos : Pos) (env : PySem.Env) : ∀ {kws : List Keyword} {ks : List Str}, kwNames kws = some ks →
    (backToKw pos (keywordEach kws env)).all (·.1.isSome) = true ∧ (backToKw pos (keywordEach kws env)).filterMap (·.1) = ks ∧ (backToKw pos (keywordEach kws env)).any (·.1.isNone) = false
  | [], ks, h => by cases h; exact ⟨rfl, rfl, rfl⟩
  | ⟨nm, v, kp⟩ :: kws, ks, h => by
    unfold kwNames at h
    cases nm with
    | none => cases h
    | some x =>
      dsimp only at h
      cases e : kwNames kws with
      | none => rw [e] at h; cases h
      | some xs =>
        rw [e] at h
        cases h
        obtain ⟨h1, h2, h3⟩ := kw_facts pos env e
        refine ⟨?_, ?_, ?_⟩
        · show (true && (backToKw pos (keywordEach kws env)).all (·.1.isSome)) = true
          rw [h1]; rfl
        · show x :: (backToKw pos (keywordEach kws env)).filterMap (·.1) = _
          rw [h2]
        · show (false || (backToKw pos (keywordEach kws env)).any (·.1.isNone)) = false
          rw [h3]; rfl
theorem snd_kw {f : TrE} (hf : ∀ e x, f e = some x → OkE Z e (x p)) : ∀ {kws : List Keyword} {g : SA}, trKw f kws = some g → OkK Z kws (g p) ∧ ∀ r as r', g p r = .ok as r' → as.length = kws.length
  | [], g, h => by
    cases h
    exact ⟨okk_nil, fun r as r' e => by cases e; rfl⟩
  | ⟨nm, v, kp⟩ :: kws, g, h => by
    unfold trKw at h
    split at h
    · rename_i x y h1 h2
      cases h
      obtain ⟨q1, q2⟩ := snd_kw hf h2
      refine ⟨okk_cons (hf _ _ h1) q1, fun r as r' e => ?_⟩
      unfold eCons at e
      cases e1 : x p r with
      | bad => rw [e1] at e; cases e
      | exn _ _ => rw [e1] at e; cases e
      | ok a r1 =>
        rw [e1] at e
        simp only [Out.bind_ok] at e
        cases e2 : y p r1 with
        | bad => rw [e2] at e; cases e
        | exn _ _ => rw [e2] at e; cases e
        | ok as1 r2 =>
          rw [e2] at e
          cases e
          simp [q2 _ _ _ e2]
    · cases h
theorem kwNames_len : ∀ {kws : List Keyword} {ks : List Str}, kwNames kws = some ks → ks.length = kws.length
  | [], ks, h => by cases h; rfl
  | k :: kws, ks, h => by
    unfold kwNames at h
    split at h
    · rename_i x xs h1 h2
      cases h
      simp [kwNames_len h2]
    · cases h
theorem snd_callK (gz : Gz P w base tc Z lv p) {x : Str} {src : List (Option D)} {e : Expr} {es : List Expr} {kws : List Keyword} {ks : List Str} {g gk : SA} {p1 pos : Pos} (hg : glB tc.sc x = true) (hpl : plainN x = true) (hks : kwNames kws = some ks) (hne : kws ≠ []) (hd : tc.dk x (e :: es).length ks = some src)
    (ha : OkA Z (e :: es) (g p)) (hs : ∀ e' ∈ e :: es, notStar e' = true) (hn : ∀ r as r', g p r = .ok as r' → as.length = (e :: es).length) (hk : OkK Z kws (gk p)) (hm : ∀ r as r', gk p r = .ok as r' → as.length = kws.length) : OkE Z (.Call (.Name x p1) (e :: es) kws pos) (eCallK x src g gk p) := by
  have hl := kwNames_len hks
  obtain ⟨f, fd, ps, gg, gV, h1, h2, h3, h4, h5⟩ := gz.md.fnk x (e :: es).length ks src (fun h => hne (by rw [h] at hl; exact List.length_eq_zero_iff.mp hl.symm)) hd
  refine ok_callK (n := (e :: es).length) (m := ks.length) (gV := gV) (fun X hX t tk q qk => ?_) hn (fun r as r' z => (hm r as r' z).trans hl.symm) h5 ha hk
  have g := gz.g X hX
  have e1 := g.eK
  have e2 := g.emg
  have e3 := g.prog
  have e4 := g.wd
  have e5 := g.bs
  have F : FnOk X.prog X.w X.K X.mg X.base (L2.CX X.prog X.w) lv f fd ps (spOf Z.K Z.mg (p.F x) src.length) := by rw [e1, e2, e3, e4, e5]; exact h3
  have hb : KBn X.K fd ps (e :: es).length ks gg gV := by rw [e1]; exact h4
  obtain ⟨k1, k2, k3⟩ := kw_facts pos X.env hks
  have hall : (backTo pos (starEach (e :: es) X.env)).any (·.1) = false := backTo_plain _ _ hs
  refine ⟨fun pins s σ H Q I h => ?_⟩
  refine wpAny_Call_Name_kw (ld_glob I (g.gl hg) (by rw [e2]; exact h1) ?_ (plainN_of hpl).1)
  refine PySem.W.callWith_KW (h₀ := X.base) I.ok.mod.kin (by rw [e1]; exact h2) k1 (thn (q.run pos pins s σ H _ I h) fun us s1 ⟨vs, H1, I1, r, z⟩ => ?_) (by rw [hall, k3]; rfl) (star_cons (hs e List.mem_cons_self) _)
  refine thn (qk.run pos pins s1 σ H1 _ I1 z) fun ws s2 ⟨zs, H2, I2, rz, l1, l2, q2⟩ => ⟨I2.kIn, ?_⟩
  rw [k2]
  have r2 := hb.rel r rz
  refine wpAny_call (codeAny_mono (F.run X.A X.stack s2 H2 ⟨us, ks.zip ws⟩ (gg us ws) (gV vs zs) Q (WE Z.W σ) g.room I2.env0 (hb.to s2 us ws I2.kIn (r.length.symm.trans l1) (rz.length.symm.trans l2)) r2 q2) fun r s' hq => ?_)
  cases r with
  | error e => exact passAt g.tk σ pins H2 s2 e s' I2 hq
  | ok fl =>
    cases fl with
    | ret u => exact I2.after hq
    | next => exact False.elim hq
    | brk => exact False.elim hq
    | cont => exact False.elim hq
theorem snd_blt (gz : Gz P w base tc Z lv p) {x : Str} {op : List D → Option C} {e : Expr} {es : List Expr} {g : SA} {p1 pos : Pos} (hg : glB tc.sc x = true) (hpl : plainN x = true) (hb : tc.bl x = true) (ho : trBlt x = some op)
    (ha : OkA Z (e :: es) (g p)) (hs : ∀ e' ∈ e :: es, notStar e' = true) : OkE Z (.Call (.Name x p1) (e :: es) [] pos) (eBlt op g p) := by
  have hm : ∀ X, Z.G X → X.mg x = none := fun X hX => by rw [(gz.g X hX).emg]; exact gz.md.blt x hb
  have st : ∀ X : Cx, starEach (e :: es) X.env = (false, eval e X.env) :: starEach es X.env := fun X => star_cons (hs e List.mem_cons_self) _
  have bt : ∀ X : Cx, (backTo pos (starEach es X.env)).any (·.1) = false := fun X => backTo_plain _ _ fun e' he => hs e' (List.mem_cons_of_mem _ he)
  obtain ⟨d1, _, d3⟩ := plainN_of hpl
  have B : ∀ {id : String} {r : List V → Hp → VK → Prop} {op : List D → Option C}, bootBuiltins x = some (.builtin id) → CaS Z.K Z.mg r op → (∀ X, Z.G X → CallR X (.builtin id) r) → OkE Z (.Call (.Name x p1) (e :: es) [] pos) (eBlt op g p) := fun hv c1 c2 =>
    ok_blt c1 (fun X hX t q => pe_callB (c2 X hX) ((gz.g X hX).gl hg) (hm X hX) hv q d3 d1 (st X) (bt X)) ha
  have T : ∀ {id : String} {r : List V → Hp → VK → Prop} {op : List D → Option C}, bootBuiltins x = some (.type id) → CaS Z.K Z.mg r op → (∀ X, Z.G X → CallR X (.type id) r) → OkE Z (.Call (.Name x p1) (e :: es) [] pos) (eBlt op g p) := fun hv c1 c2 =>
    ok_blt c1 (fun X hX t q => pe_callTy (c2 X hX) ((gz.g X hX).gl hg) (hm X hX) hv q d3 d1 (st X) (bt X)) ha
  unfold trBlt at ho
  split at ho
  · rename_i ex
    subst ex
    cases ho
    exact T (id := "dict") (by decide +kernel) cas_dict fun X hX => call_dictD
  unfold trBlt1 at ho
  split at ho
  · rename_i ex
    subst ex
    cases ho
    exact B (id := "len") (by decide +kernel) cas_lenA fun X hX => by rw [← (gz.g X hX).eK]; exact call_len.or (cr_lenD (gz.g X hX).here)
  split at ho
  · rename_i ex
    subst ex
    cases ho
    exact B (id := "all") (by decide +kernel) cas_all fun X hX => by rw [← (gz.g X hX).eK]; exact cr_all (gz.g X hX).calm
  split at ho
  · rename_i ex
    subst ex
    cases ho
    exact B (id := "any") (by decide +kernel) cas_any fun X hX => by rw [← (gz.g X hX).eK]; exact cr_any (gz.g X hX).calm
  split at ho
  · rename_i ex
    subst ex
    cases ho
    exact B (id := "sum") (by decide +kernel) cas_sum fun X hX => by rw [← (gz.g X hX).eK]; exact cr_sum (gz.g X hX).calm
  split at ho
  · rename_i ex
    subst ex
    cases ho
    exact B (id := "max") (by decide +kernel) cas_max fun X hX => by rw [← (gz.g X hX).eK]; exact cr_maxA (gz.g X hX).calm
  split at ho
  · rename_i ex
    subst ex
    cases ho
    exact B (id := "min") (by decide +kernel) cas_min fun X hX => by rw [← (gz.g X hX).eK]; exact cr_minA (gz.g X hX).calm
  split at ho
  · rename_i ex
    subst ex
    cases ho
    exact T (id := "list") (by decide +kernel) cas_listA fun X hX => by rw [← (gz.g X hX).eK]; exact call_list_of.or (cr_listD (gz.g X hX).here (gz.g X hX).calm)
  split at ho
  · rename_i ex
    subst ex
    cases ho
    exact T (id := "tuple") (by decide +kernel) cas_tuple fun X hX => by rw [← (gz.g X hX).eK]; exact call_tuple_of
  split at ho
  · rename_i ex
    subst ex
    cases ho
    exact B (id := "sorted") (by decide +kernel) cas_sortedA fun X hX => by rw [← (gz.g X hX).eK]; exact ((cr_sorted.or (cr_sortedG ((gz.g X hX).room.units))).or (cr_sortedT ((gz.g X hX).room.units))).or (cr_sortedD (gz.g X hX).here (gz.g X hX).calm)
  split at ho
  · rename_i ex
    subst ex
    cases ho
    exact T (id := "str") (by decide +kernel) cas_str fun X hX => cr_strA
  split at ho
  · rename_i ex
    subst ex
    cases ho
    exact T (id := "int") (by decide +kernel) cas_int fun X hX => cr_intA
  split at ho
  · rename_i ex
    subst ex
    cases ho
    exact B (id := "ord") (by decide +kernel) cas_ord fun X hX => call_ord
  · cases ho
end
end Mi

set_option Elab.async false
set_option linter.all false
set_option maxRecDepth 100000
set_option maxHeartbeats 2000000
/-! Mi: the translation of expressions is sound (isinstance, methods, comprehensions, all together). -/
namespace Mi
open PySem L2
def tysX : List String := ["NoneType", "bool", "int", "str", "tuple", "list"]
def tysC : List String := ["int", "str", "bool", "list", "tuple"]
theorem kit_all : ∀ t ∈ tysX, ∀ c ∈ tysC, kitB t c = some (isiOne t c) := by decide +kernel
theorem tyx_of {K : PySem.W.Frag} {mg : MT} {F H : Hp} {x : D} {v : V} {t : String} (hx : VW K mg F H x v) (ex : Ex F H) (e : tyD x = some t) : TyX K H v (.type t) ∧ t ∈ tysX := by
  cases x <;> first | (simp [tyD] at e; done) | skip
  all_goals (simp only [tyD] at e; cases e)
  · cases hx.non; exact ⟨.base .non, by decide⟩
  · cases hx.bl; exact ⟨.base (.bl _), by decide⟩
  · cases hx.int; exact ⟨.base (.int _), by decide⟩
  · cases hx.str; exact ⟨.base (.str _), by decide⟩
  · obtain ⟨a, vs, rfl, h1, _, _⟩ := hx.tup ex
    refine ⟨?_, by decide⟩
    rcases h1 with (h1 | ⟨o, h1⟩) | ⟨o, its, n, h1, h2, _⟩
    · exact .base (.tup h1)
    · exact .fTuple h1
    · exact .kTuple h1 h2
  · obtain ⟨a, vs, rfl, h1, _⟩ := hx.lst ex
    exact ⟨.base (.lst h1), by decide⟩
theorem VW.up {K : PySem.W.Frag} {mg : MT} {F H H' : Hp} {x : D} {v : V} (e : Ex H H') (h : VW K mg F H x v) : VW K mg F H' x v := by
  cases h with
  | f r => exact .f r
  | l h r => exact .l (e _ _ h) r
  | d h r => exact .d (e _ _ h) r
theorem cls_all : ∀ ts : List String, Paired ClsV (ts.map V.ty) (ts.map Value.type)
  | [] => .nil
  | t :: ts => .cons (.ty t) (cls_all ts)
theorem kitAny_of {K : PySem.W.Frag} {t : String} (ht : t ∈ tysX) : ∀ {cs : List String}, (∀ c ∈ cs, c ∈ tysC) → PySem.W.kitAny K (.type t) (cs.map Value.type) = some (cs.any fun c => isiOne t c)
  | [], _ => rfl
  | c :: cs, h => by
    have h1 := kit_ty (K := K) (kit_all t ht c (h c List.mem_cons_self))
    have h2 := kitAny_of (K := K) ht fun c' hc => h c' (List.mem_cons_of_mem _ hc)
    rw [List.map_cons, List.any_cons]
    refine kitAny_cons h1 (fun e => ?_) fun e => ?_
    · rw [e, Bool.false_or]; exact h2
    · rw [e]; rfl
section
variable {P : Program} {w : World} {base : Heap} {tc : Tc} {Z : Jd} {lv : Nat} {p : Pg}
/-- the names of built-in types, as values -/
theorem ty_pe (gz : Gz P w base tc Z lv p) {e : Expr} {s : String} (ho : tyOk tc e = true) (hs : tyName e = some s) : s ∈ tysC ∧ notStar e = true ∧ ∀ X, Z.G X → PE X e (tC (.ty s)) := by
  unfold tyOk at ho
  rw [Bool.and_eq_true] at ho
  unfold tyName at hs
  split at hs
  · rename_i x pos
    have hm : ∀ X, Z.G X → X.mg x = none := fun X hX => by rw [(gz.g X hX).emg]; exact gz.md.blt x ho.2
    have go : ∀ {s : String}, x = Str.ofString s → bootBuiltins x = some (.type s) → x ≠ "__name__" → (x == ("__debug__" : Str)) = false → ∀ X, Z.G X → PE X (.Name x pos) (tC (.ty s)) := fun _ hv hn hd X hX => pe_bltn ((gz.g X hX).gl ho.1) (hm X hX) hv rfl hn hd
    split at hs
    · rename_i e; subst e; cases hs
      exact ⟨by decide, rfl, go rfl (by decide +kernel) (by decide +kernel) (by decide +kernel)⟩
    split at hs
    · rename_i e; subst e; cases hs
      exact ⟨by decide, rfl, go rfl (by decide +kernel) (by decide +kernel) (by decide +kernel)⟩
    split at hs
    · rename_i e; subst e; cases hs
      exact ⟨by decide, rfl, go rfl (by decide +kernel) (by decide +kernel) (by decide +kernel)⟩
    split at hs
    · rename_i e; subst e; cases hs
      exact ⟨by decide, rfl, go rfl (by decide +kernel) (by decide +kernel) (by decide +kernel)⟩
    split at hs
    · rename_i e; subst e; cases hs
      exact ⟨by decide, rfl, go rfl (by decide +kernel) (by decide +kernel) (by decide +kernel)⟩
    · cases hs
  · cases hs
def tTys : List String → TA
  | [] => tNil
  | s :: ss => tCons (tC (.ty s)) (tTys ss)
theorem tTys_run {ss : List String} : ∀ {σ : L2.St} {H : Hp} {Q : List V → Hp → Prop}, Q (ss.map V.ty) H → tTys ss σ H Q := by
  induction ss with
  | nil => intro σ H Q q; exact q
  | cons s ss ih => intro σ H Q q; exact ih (Q := fun xs H2 => Q (.ty s :: xs) H2) q
theorem tys_pa (gz : Gz P w base tc Z lv p) : ∀ {es : List Expr} {ts : List String}, trTys tc es = some ts → (∀ s ∈ ts, s ∈ tysC) ∧ ∀ X, Z.G X → PA X es (tTys ts)
  | [], ts, h => by cases h; exact ⟨fun _ h => (by cases h), fun X _ => pa_nil⟩
  | e :: es, ts, h => by
    unfold trTys at h
    split at h
    · rename_i ho
      split at h
      · rename_i x y h1 h2
        cases h
        obtain ⟨a1, a2, a3⟩ := ty_pe gz ho h1
        obtain ⟨b1, b2⟩ := tys_pa gz h2
        refine ⟨fun s hs => ?_, fun X hX => pa_cons (a3 X hX) (b2 X hX) (star_cons a2 _)⟩
        rcases List.mem_cons.mp hs with rfl | hs
        · exact a1
        · exact b1 s hs
      · cases h
    · cases h
theorem tys_len : ∀ {es : List Expr} {ts : List String}, trTys tc es = some ts → ts.length = es.length := by
  intro es
  induction es with
  | nil => intro ts h; cases h; rfl
  | cons e es ih =>
    intro ts h
    unfold trTys at h
    split at h
    · split at h
      · rename_i x y h1 h2; cases h; simp [ih h2]
      · cases h
    · cases h
theorem snd_isi (gz : Gz P w base tc Z lv p) {f : TrE} (hf : ∀ e x, f e = some x → OkE Z e (x p)) {as : List Expr} {g : SE} {p1 pos : Pos} (hg : glB tc.sc "isinstance" = true) (hb : tc.bl "isinstance" = true) (h : trIsi tc f as = some g) : OkE Z (.Call (.Name "isinstance" p1) as [] pos) (g p) := by
  have hm : ∀ X, Z.G X → X.mg "isinstance" = none := fun X hX => by rw [(gz.g X hX).emg]; exact gz.md.blt _ hb
  have hv : bootBuiltins "isinstance" = some (.builtin "isinstance") := by decide +kernel
  unfold trIsi at h
  split at h
  · rename_i a es k tp
    split at h
    · rename_i hs
      rw [Bool.and_eq_true] at hs
      split at h
      · rename_i x ts h1 h2
        cases h
        obtain ⟨c1, c2⟩ := tys_pa gz h2
        obtain ⟨ta, pa, sa⟩ := hf a x h1
        refine ⟨tCB (rIsiT Z.K) (tCons ta (tCons (tTup (tTys ts)) tNil)), fun X hX => ?_, fun r0 σ F H cs R Q rv s po => ?_⟩
        · have g := gz.g X hX
          rw [← g.eK]
          exact pe_callB call_isiT (g.gl hg) (hm X hX) hv (pa_cons (pa X hX) (pa_cons (pe_tup (c2 X hX)) pa_nil (star_cons rfl _)) (star_cons hs.1 _)) (by decide +kernel) (by decide +kernel) (star_cons hs.1 _) rfl
        · unfold eIsi eOp1 at po
          refine sa r0 σ F H cs R _ rv s ?_
          cases ea : x p r0 with
          | bad => rw [ea] at po; exact po
          | exn x r1 => rw [ea] at po; exact po
          | ok a1 r1 =>
            rw [ea] at po
            simp only [Out.bind_ok] at po
            intro F1 H1 v1 k1 cs1 e1 ra1 rv1 s1
            split at po
            · rename_i d hd
              split at po
              · rename_i c hc
                have w1 := view_ok ra1 rv1 s1 (fun c => by simp only [cnt_append]; omega) hd
                unfold isiD at hc
                cases et : tyD d with
                | none => rw [et] at hc; cases hc
                | some t =>
                  rw [et] at hc
                  cases hc
                  refine tTys_run ⟨?_, fun q hq => ?_⟩
                  · rw [List.length_map, tys_len h2]
                    have := of_decide_eq_true hs.2
                    have hz : sizeLine = 16777216 := sizeLine_eq
                    omega
                  · have ex2 : Ex H1 (upd H1 q (.tup (ts.map V.ty))) := Ex.new hq
                    obtain ⟨y1, y2⟩ := tyx_of (w1.up ex2) (s1.ex.trans ex2) et
                    refine ⟨v1, q, ts.map V.ty, .type t, ts.map Value.type, _, rfl, upd_same, cls_all ts, y1, kitAny_of y2 c1, ?_⟩
                    have fq := s1.ex.free hq
                    exact po (upd F1 q (.tup (ts.map V.ty))) _ _ [] cs1 (e1.trans (Ex.new fq)) (.val (.bl _)) (rv1.mono (Ex.new fq)) ((s1.newF hq).sub fun c => by simp only [cnt_append, cnt_nil]; omega)
              · exact po.elim
            · exact po.elim
      · cases h
    · cases h
  · rename_i a t hnt
    split at h
    · rename_i hs
      rw [Bool.and_eq_true] at hs
      split at h
      · rename_i x s h1 h2
        cases h
        obtain ⟨c1, c2, c3⟩ := ty_pe gz hs.2 h2
        obtain ⟨ta, pa, sa⟩ := hf a x h1
        refine ⟨tCB (rIsi Z.K) (tCons ta (tCons (tC (.ty s)) tNil)), fun X hX => ?_, fun r0 σ F H cs R Q rv s0 po => ?_⟩
        · have g := gz.g X hX
          rw [← g.eK]
          exact pe_callB call_isi (g.gl hg) (hm X hX) hv (pa_cons (pa X hX) (pa_cons (c3 X hX) pa_nil (star_cons c2 _)) (star_cons hs.1 _)) (by decide +kernel) (by decide +kernel) (star_cons hs.1 _) (backTo_plain _ _ fun e' he => by
            rcases List.mem_cons.mp he with rfl | he
            · exact c2
            · cases he)
        · unfold eIsi eOp1 at po
          refine sa r0 σ F H cs R _ rv s0 ?_
          cases ea : x p r0 with
          | bad => rw [ea] at po; exact po
          | exn x r1 => rw [ea] at po; exact po
          | ok a1 r1 =>
            rw [ea] at po
            simp only [Out.bind_ok] at po
            intro F1 H1 v1 k1 cs1 e1 ra1 rv1 s1
            split at po
            · rename_i d hd
              split at po
              · rename_i c hc
                have w1 := view_ok ra1 rv1 s1 (fun c => by simp only [cnt_append]; omega) hd
                unfold isiD at hc
                cases et : tyD d with
                | none => rw [et] at hc; cases hc
                | some t =>
                  rw [et] at hc
                  cases hc
                  obtain ⟨y1, y2⟩ := tyx_of w1 s1.ex et
                  have hk := kit_ty (K := Z.K) (kit_all t y2 s c1)
                  refine ⟨v1, .ty s, .type t, .type s, _, rfl, .ty s, y1, hk, ?_⟩
                  have e9 : ([s].any fun c => isiOne t c) = isiOne t s := by simp
                  simp only [e9] at po
                  exact po F1 H1 _ [] cs1 e1 (.val (.bl _)) rv1 (s1.sub fun c => by simp only [cnt_append, cnt_nil]; omega)
              · exact po.elim
            · exact po.elim
      · cases h
    · cases h
  · cases h
/-! ### methods -/
theorem base_ok {o : Expr} {m : Str} (hb : baseOk o = true) (env : PySem.Env) : attributeBase o m env (eval o env) = eval o env := by
  unfold baseOk at hb
  split at hb
  · cases hb
  · rename_i hn
    unfold attributeBase
    split
    · rename_i id pp pp2
      exact absurd rfl (hn _ _ _)
    · rfl
theorem snd_dg (gz : Gz P w base tc Z lv p) {f : TrE} (hf : ∀ e x, f e = some x → OkE Z e (x p)) {o : Expr} {m : Str} {as : List Expr} {apos pos : Pos} {g : SE} (h : trDG f o m as apos pos = some g) : OkE Z (.Call (.Attribute o m apos) as [] pos) (g p) := by
  unfold trDG at h
  split at h
  · rename_i hc
    rw [Bool.and_eq_true, Bool.and_eq_true] at hc
    obtain ⟨⟨c1, c2⟩, c3⟩ := hc
    obtain ⟨rfl, c4, c5⟩ := of_decide_eq_true c1
    split at h
    · rename_i x y h1 h2
      cases h
      obtain ⟨oka, hst, _⟩ := snd_args hf h2
      cases as with
      | nil => simp at c4
      | cons e es =>
        refine ok_dg (fun X hX ta t q1 q => ?_) (hf o x h1) oka
        have hh := (gz.g X hX).here
        rw [← (gz.g X hX).eK]
        refine pe_dm hh PySem.F.slot_dict_get PySem.F.type_dict_get (mt_getX hh) q1 q (base_ok c3 _) ?_ c2 (star_cons (hst e List.mem_cons_self) _) (backTo_plain _ _ fun e' he => hst e' (List.mem_cons_of_mem _ he))
        rw [backTo_all pos X.env hst]
        show (true && true && decide ((e :: es).length + 0 + 0 < 30)) = true
        simp only [Bool.true_and]
        exact decide_eq_true (by omega)
    · cases h
  · cases h
theorem snd_meth (gz : Gz P w base tc Z lv p) {f : TrE} (hf : ∀ e x, f e = some x → OkE Z e (x p)) {o : Expr} {m : Str} {as : List Expr} {apos pos : Pos} {g : SE} (h : trMeth tc f o m as apos pos = some g) : OkE Z (.Call (.Attribute o m apos) as [] pos) (g p) := by
  unfold trMeth at h
  split at h
  · rename_i hl
    rw [Bool.and_eq_true] at hl
    have hl1 := hl.1
    have hl2 := of_decide_eq_true hl.2
    split at h
    · -- a list's
      rename_i lm hlm
      split at h
      · rename_i x xp
        split at h
        · rename_i i hi
          cases ha : trA f as with
          | none => rw [ha] at h; cases h
          | some ga =>
            rw [ha] at h
            cases h
            obtain ⟨oka, hst, _⟩ := snd_args hf ha
            have pv : ∀ X, Z.G X → PE X (.Name x xp) (tVar i) := fun X hX => (gz.g X hX).slot hi xp
            have go : ∀ {id : String} {rd : V → List V → Hp → VK → Prop}, Slot "list" m id → typeOf (.builtin id) = pure (.type "method_descriptor") → (∀ X, Z.G X → MtR X id rd) → ChS Z.K Z.mg lm rd → OkE Z (.Call (.Attribute (.Name x xp) m apos) as [] pos) (eChL lm i ga p) := fun {id rd} sl ty mt ch => by
              cases as with
              | nil =>
                have e0 : ga = eNil := by cases ha; rfl
                rw [e0]
                exact ok_chl0 ch fun X hX => by
                  rw [← (gz.g X hX).eK]
                  exact pe_bm0 PySem.F.plainAttrs_list sl ty (mt X hX) (pv X hX) rfl hl1
              | cons e es =>
                refine ok_chl ch (fun X hX t q => ?_) oka
                rw [← (gz.g X hX).eK]
                refine pe_bm PySem.F.plainAttrs_list sl ty (mt X hX) (pv X hX) q rfl ?_ hl1 (star_cons (hst e List.mem_cons_self) _) (backTo_plain _ _ fun e' he => hst e' (List.mem_cons_of_mem _ he))
                rw [backTo_all pos X.env hst]
                show (true && true && decide ((e :: es).length + 0 + 0 < 30)) = true
                simp only [Bool.true_and]
                exact decide_eq_true (by omega)
            unfold trLM at hlm
            split at hlm
            · rename_i e; subst e; cases hlm
              exact go PySem.F.slot_list_append PySem.F.type_list_append (fun X hX => mt_append) chs_append
            split at hlm
            · rename_i e; subst e; cases hlm
              exact go PySem.F.slot_list_extend PySem.F.type_list_extend (fun X hX => mt_extend) chs_extend
            split at hlm
            · rename_i e; subst e; cases hlm
              exact go PySem.F.slot_list_clear PySem.F.type_list_clear (fun X hX => mt_clear) chs_clear
            split at hlm
            · rename_i e; subst e; cases hlm
              exact go PySem.F.slot_list_reverse PySem.F.type_list_reverse (fun X hX => mt_reverse) chs_reverse
            split at hlm
            · rename_i e; subst e; cases hlm
              exact go PySem.F.slot_list_pop PySem.F.type_list_pop (fun X hX => mt_pop) chs_pop
            · cases hlm
        · cases h
      · cases h
    · -- a text's
      split at h
      · rename_i sm hsm
        split at h
        · rename_i hb
          split at h
          · rename_i x y h1 h2
            cases h
            obtain ⟨oka, hst, _⟩ := snd_args hf h2
            have oko := hf o x h1
            have hbase : ∀ env : PySem.Env, attributeBase o m env (eval o env) = eval o env := fun env => by
              unfold baseOk at hb
              split at hb
              · cases hb
              · rename_i hn
                unfold attributeBase
                split
                · rename_i id pp pp2
                  exact absurd rfl (hn _ _ _)
                · rfl
            have go : ∀ {id : String} {rd : V → List V → Hp → VK → Prop}, Slot "str" m id → typeOf (.builtin id) = pure (.type "method_descriptor") → (∀ X, Z.G X → MtR X id rd) → MtS2 Z.K Z.mg sm rd → OkE Z (.Call (.Attribute o m apos) as [] pos) (eMt sm x y p) := fun {id rd} sl ty mt ch => by
              cases as with
              | nil =>
                have e0 : y = eNil := by cases h2; rfl
                rw [e0]
                exact ok_mt0 ch (fun X hX ta q => by
                  rw [← (gz.g X hX).eK]
                  exact pe_bm0 PySem.F.plainAttrs_str sl ty (mt X hX) q (hbase _) hl1) oko
              | cons e es =>
                refine ok_mt ch (fun X hX ta t q1 q => ?_) oko oka
                rw [← (gz.g X hX).eK]
                refine pe_bm PySem.F.plainAttrs_str sl ty (mt X hX) q1 q (hbase _) ?_ hl1 (star_cons (hst e List.mem_cons_self) _) (backTo_plain _ _ fun e' he => hst e' (List.mem_cons_of_mem _ he))
                rw [backTo_all pos X.env hst]
                show (true && true && decide ((e :: es).length + 0 + 0 < 30)) = true
                simp only [Bool.true_and]
                exact decide_eq_true (by omega)
            unfold trSM at hsm
            split at hsm
            · rename_i e; subst e; cases hsm
              exact go PySem.F.slot_str_upper PySem.F.type_str_upper (fun X hX => mt_upper) mts_upper
            split at hsm
            · rename_i e; subst e; cases hsm
              exact go PySem.F.slot_str_startswith PySem.F.type_str_startswith (fun X hX => mt_startswith) mts_starts
            split at hsm
            · rename_i e; subst e; cases hsm
              exact go PySem.F.slot_str_find PySem.F.type_str_find (fun X hX => mt_find) mts_find
            split at hsm
            · rename_i e; subst e; cases hsm
              exact go PySem.F.slot_str_index PySem.F.type_str_index (fun X hX => mt_sindex) mts_index
            split at hsm
            · rename_i e; subst e; cases hsm
              exact go PySem.F.slot_str_join PySem.F.type_str_join (fun X hX => by rw [← (gz.g X hX).eK]; exact mt_join) mts_join
            · cases hsm
          · cases h
        · cases h
      · cases h
  · cases h
theorem rds_rng {K : PySem.W.Frag} {mg : MT} {F : Hp} (lo : Int) : ∀ l : List Nat, RDs K mg F (l.map fun (k : Nat) => D.int (lo + (k : Int))) (l.map fun (i : Nat) => V.int (lo + (i : Nat)))
  | [] => .nil
  | k :: l => .cons (.int _) (rds_rng lo l)
theorem rgB_ok {i j : Int} (h : rgB i j = true) : RgOk i j := by
  unfold rgB at h
  obtain ⟨h1, h2, h3, h4, h5⟩ := of_decide_eq_true h
  exact ⟨h1, h2, h3, h4, h5⟩
theorem snd_lrng (gz : Gz P w base tc Z lv p) {f : TrE} (hf : ∀ e x, f e = some x → OkE Z e (x p)) {as : List Expr} {g : SE} {p1 pos : Pos} (hg : glB tc.sc "list" = true) (hb : tc.bl "list" = true) (h : trLRng tc f as = some g) : OkE Z (.Call (.Name "list" p1) as [] pos) (g p) := by
  unfold trLRng at h
  split at h
  · rename_i y yp a cpos
    split at h
    · rename_i hc
      simp only [Bool.and_eq_true, decide_eq_true_eq] at hc
      obtain ⟨⟨⟨hy, hg2⟩, hb2⟩, hs⟩ := hc
      subst hy
      cases ha : f a with
      | none => rw [ha] at h; cases h
      | some x =>
        rw [ha] at h
        cases h
        obtain ⟨ta, pa, sa⟩ := hf a x ha
        refine ⟨tLstRg (tRg1 ta), fun X hX => ?_, fun r0 σ F H cs R Q rv s po => ?_⟩
        · have g := gz.g X hX
          exact pe_listRg g.calm (g.gl hg) (by rw [g.emg]; exact gz.md.blt _ hb) (prg_1 (g.gl hg2) (by rw [g.emg]; exact gz.md.blt _ hb2) (pa X hX) (star_cons hs _)) rfl
        · unfold eBlt eCons eNil at po; dsimp only at po
          refine sa r0 σ F H cs R _ rv s ?_
          cases ea : x p r0 with
          | bad => rw [ea] at po; exact po
          | exn _ r1 => rw [ea] at po; exact po
          | ok a1 r1 =>
            rw [ea] at po
            simp only [Out.bind_ok] at po
            intro F1 H1 v1 k1 cs1 e1 ra1 rv1 s1
            split at po
            · rename_i ds hd
              unfold views views at hd
              split at hd
              · rename_i d ds' hv hd'
                cases hd'
                cases hd
                split at po
                · rename_i c hc
                  have w1 := view_ok ra1 rv1 s1 (fun c => by simp only [cnt_append]; omega) hv
                  cases d <;> first | (simp [lrngD] at hc; done) | skip
                  rename_i n
                  cases w1.int
                  simp only [lrngD] at hc
                  obtain ⟨hz, rfl⟩ := ite_some hc
                  refine ⟨n, rfl, rgB_ok hz, fun q hq => ?_⟩
                  refine po F1 _ _ _ cs1 e1 (.ls (a := q) (vs := rgV 0 n) ?_) rv1 (Sat.newO (s1.sub (cs' := cs1.flatten ++ R) fun c => by simp only [cnt_append]; omega) hq)
                  unfold rgV rngL
                  rw [Int.sub_zero]
                  exact rds_rng 0 _
                · exact po.elim
              · cases hd
            · exact po.elim
    · cases h
  · rename_i y yp a b cpos
    split at h
    · rename_i hc
      simp only [Bool.and_eq_true, decide_eq_true_eq] at hc
      obtain ⟨⟨⟨⟨hy, hg2⟩, hb2⟩, hs⟩, hs2⟩ := hc
      subst hy
      split at h
      · rename_i x z ha hz
        cases h
        obtain ⟨ta, pa, sa⟩ := hf a x ha
        obtain ⟨tb, pb, sb⟩ := hf b z hz
        refine ⟨tLstRg (tRg2 ta tb), fun X hX => ?_, fun r0 σ F H cs R Q rv s po => ?_⟩
        · have g := gz.g X hX
          exact pe_listRg g.calm (g.gl hg) (by rw [g.emg]; exact gz.md.blt _ hb) (prg_2 (g.gl hg2) (by rw [g.emg]; exact gz.md.blt _ hb2) (pa X hX) (pb X hX) (star_cons hs _) (star_cons hs2 _) (backTo_plain _ _ fun e' he => by simp only [List.mem_singleton] at he; subst he; exact hs2)) rfl
        · unfold eBlt eCons eNil at po
          refine sa r0 σ F H cs R _ rv s ?_
          cases ea : x p r0 with
          | bad => rw [ea] at po; exact po
          | exn _ r1 => rw [ea] at po; exact po
          | ok a1 r1 =>
            rw [ea] at po
            simp only [Out.bind_ok] at po
            intro F1 H1 v1 k1 cs1 e1 ra1 rv1 s1
            refine sb r1 σ F1 H1 cs1 (k1 ++ R) _ rv1 (s1.sub fun c => by simp only [cnt_append]; omega) ?_
            cases eb : z p r1 with
            | bad => rw [eb] at po; exact po
            | exn _ r2 => rw [eb] at po; exact PoX.back e1 po fun c => by simp only [cnt_append]; omega
            | ok b1 r2 =>
              rw [eb] at po
              simp only [Out.bind_ok] at po
              intro F2 H2 v2 k2 cs2 e2 rb2 rv2 s2
              split at po
              · rename_i ds hd
                unfold views views views at hd
                split at hd
                · rename_i d ds' hv hd'
                  cases hd
                  split at hd'
                  · rename_i d2 ds2 hv2 hd2
                    cases hd2
                    cases hd'
                    split at po
                    · rename_i c hc
                      have w1 := view_ok (ra1.mono e2) rv2 s2 (fun c => by simp only [cnt_append]; omega) hv
                      have w2 := view_ok rb2 rv2 s2 (fun c => by simp only [cnt_append]; omega) hv2
                      cases d <;> first | (simp [lrngD] at hc; done) | skip
                      cases d2 <;> first | (simp [lrngD] at hc; done) | skip
                      rename_i n m
                      cases w1.int
                      cases w2.int
                      simp only [lrngD] at hc
                      obtain ⟨hz, rfl⟩ := ite_some hc
                      refine ⟨n, m, rfl, rfl, rgB_ok hz, fun q hq => ?_⟩
                      refine po F2 _ _ _ cs2 (e1.trans e2) (.ls (a := q) (vs := rgV n m) ?_) rv2 (Sat.newO (s2.sub (cs' := cs2.flatten ++ R) fun c => by simp only [cnt_append]; omega) hq)
                      unfold rgV rngL
                      exact rds_rng n _
                    · exact po.elim
                  · cases hd'
                · cases hd
              · exact po.elim
      · cases h
    · cases h
  · cases h
end
end Mi

set_option Elab.async false
set_option linter.all false
set_option maxRecDepth 100000
set_option maxHeartbeats 2000000
/-! Mi: the translation of expressions is sound (comprehensions, all together). -/
namespace Mi
open PySem L2
theorem lookup_rel_free {sc : Scope} : ∀ {names : List (Str × NameKind)} {x : Str}, names.lookup x = some .free →
    (names.map fun (n, k) => if (k == NameKind.free && sc.kind == .function && sc.names.lookup n == some .cell) then (n, NameKind.cell) else (n, k)).lookup x = some .cell ∨
    (names.map fun (n, k) => if (k == NameKind.free && sc.kind == .function && sc.names.lookup n == some .cell) then (n, NameKind.cell) else (n, k)).lookup x = some .free
  | [], _, h => by simp at h
  | (n, k₀) :: r, x, h => by
    have ih := @lookup_rel_free sc r x
    show List.lookup x ((if (k₀ == NameKind.free && sc.kind == .function && sc.names.lookup n == some .cell) = true then (n, NameKind.cell) else (n, k₀)) :: (r.map _)) = some .cell ∨ List.lookup x ((if (k₀ == NameKind.free && sc.kind == .function && sc.names.lookup n == some .cell) = true then (n, NameKind.cell) else (n, k₀)) :: (r.map _)) = some .free
    cases hx : x == n with
    | true =>
      simp only [List.lookup_cons, hx] at h
      cases h
      by_cases hc : (NameKind.free == NameKind.free && sc.kind == .function && sc.names.lookup n == some .cell) = true
      · rw [if_pos hc]; simp only [List.lookup_cons, hx]; exact .inl trivial
      · rw [if_neg hc]; simp only [List.lookup_cons, hx]; exact .inr trivial
    | false =>
      simp only [List.lookup_cons, hx] at h
      by_cases hc : (k₀ == NameKind.free && sc.kind == .function && sc.names.lookup n == some .cell) = true
      · rw [if_pos hc]; simp only [List.lookup_cons, hx]; exact ih h
      · rw [if_neg hc]; simp only [List.lookup_cons, hx]; exact ih h
section
variable {P : Program} {w : World} {base : Heap} {tc : Tc} {Z : Jd} {lv : Nat} {p : Pg}
/-- the contexts of a block -/
def Zblk (Z : Jd) (scope : Scope) : Jd := { Z with G := fun Y => ∃ X s H C cl fp, Z.G X ∧ Y = X.blk s H scope (compEnvC scope cl C X.env) fp, W := WNo }
theorem Gz.blk (gz : Gz P w base tc Z lv p) {scope : Scope} (hk : fnKind scope.kind = true) : Gz P w base (tc.blk scope) (Zblk Z scope) lv p where
  g := by
    rintro Y ⟨X, s, H, C, cl, fp, hX, rfl⟩
    have g := gz.g X hX
    have hs : ∀ x, (X.blk s H scope (compEnvC scope cl C X.env) fp).env.scope.names.lookup x = (scope.names.map fun (n, k) => if (k == NameKind.free && X.env.scope.kind == .function && X.env.scope.names.lookup n == some .cell) then (n, NameKind.cell) else (n, k)).lookup x := fun x => rfl
    refine ⟨g.prog, g.wd, g.bs, g.eK, g.emg, g.eN, g.nd, g.calm, ?_, fun x hx => ?_, fun x hx => ?_, fun x hx => ?_, fun x hx => ?_, fun x hx => ?_, g.room, fun u s' z => ?_, PassesOwn.never, g.mP, g.mw⟩
    · show scope.kind = .function
      unfold fnKind at hk
      split at hk
      · assumption
      · cases hk
    · rw [hs]; exact lookup_relS_keep (by decide) hx
    · rw [hs]; exact lookup_relS_keep (by decide) hx
    · rw [hs]; exact lookup_rel_free hx
    · rw [hs]; exact lookup_relS_keep (by decide) hx
    · show (scope.names.lookup x == some .cell) = true
      have hx' : scope.names.lookup x = some .cell := hx
      rw [hx']; rfl
    · obtain ⟨_, _, _, _, _, _, _, _, _, _, _, _, _, _, _, _, q⟩ := z
      exact (show False from q).elim
  md := ⟨gz.md.fns, gz.md.fnd, gz.md.fnk, gz.md.blt, gz.md.gls, gz.md.dcs, gz.md.dcm, gz.md.xcs, gz.md.fvs, gz.md.lvl, gz.md.xis, gz.md.tus⟩
theorem nodup_of : ∀ {l : List Nat}, nodupB l = true → l.Nodup
  | [], _ => List.nodup_nil
  | x :: xs, h => by
    unfold nodupB at h
    rw [Bool.and_eq_true] at h
    refine List.nodup_cons.mpr ⟨fun q => ?_, nodup_of h.2⟩
    have := h.1
    rw [List.contains_iff_mem.mpr q] at this
    cases this
theorem own_mem {N : List Str} {i : Nat} {x : Str} {k : NameKind} : ∀ {names : List (Str × NameKind)}, (x, k) ∈ names → (k = .local ∨ k = .cell) → ixOf x N = some i → i ∈ ownOf N names
  | [], h, _, _ => by cases h
  | (y, k') :: ys, h, hk, hi => by
    unfold ownOf
    rcases List.mem_cons.mp h with e | h
    · cases e
      rcases hk with rfl | rfl
      · rw [hi]; exact List.mem_cons_self
      · rw [hi]; exact List.mem_cons_self
    · have ih := own_mem h hk hi
      split
      · exact List.mem_cons_of_mem _ ih
      · exact List.mem_cons_of_mem _ ih
      · exact ih
theorem ixOf_none {x : Str} : ∀ {N : List Str}, ixOf x N = none → x ∉ N
  | [], _, h => by cases h
  | y :: ys, h, hm => by
    unfold ixOf at h
    split at h
    · cases h
    · rename_i ne
      cases e : ixOf x ys with
      | some j => rw [e] at h; cases h
      | none =>
        rcases List.mem_cons.mp hm with q | q
        · exact ne q.symm
        · exact ixOf_none e q
theorem mem_of_lookup' {x : Str} {k : NameKind} : ∀ {l : List (Str × NameKind)}, l.lookup x = some k → (x, k) ∈ l
  | [], h => by cases h
  | (y, k') :: ys, h => by
    rw [List.lookup_cons] at h
    cases hx : x == y with
    | true =>
      rw [hx] at h
      cases h
      have : x = y := by simpa using hx
      subst this
      exact List.mem_cons_self
    | false =>
      rw [hx] at h
      exact List.mem_cons_of_mem _ (mem_of_lookup' h)
/-- the block's own names with their slots -/
def ownP (N : List Str) : List (Str × NameKind) → List (Str × Nat)
  | [] => []
  | (x, k) :: ys => match k, ixOf x N with
    | .local, some i => (x, i) :: ownP N ys
    | .cell, some i => (x, i) :: ownP N ys
    | _, _ => ownP N ys
theorem ownP_snd (N : List Str) : ∀ names : List (Str × NameKind), (ownP N names).map (·.2) = ownOf N names
  | [] => rfl
  | (x, k) :: ys => by
    have ih := ownP_snd N ys
    cases k <;> cases hi : ixOf x N <;> simp only [ownP, ownOf, hi, List.map_cons, ih]
theorem ownP_ix {N : List Str} {q : Str × Nat} : ∀ {names : List (Str × NameKind)}, q ∈ ownP N names → N[q.2]? = some q.1
  | [], h => by cases h
  | (x, k) :: ys, h => by
    unfold ownP at h
    split at h
    · rename_i i hi
      rcases List.mem_cons.mp h with e | h
      · subst e; exact ixOf_get hi
      · exact ownP_ix h
    · rename_i i hi
      rcases List.mem_cons.mp h with e | h
      · subst e; exact ixOf_get hi
      · exact ownP_ix h
    · exact ownP_ix h
theorem ownP_fst {N : List Str} {x : Str} {k : NameKind} : ∀ {names : List (Str × NameKind)}, (x, k) ∈ names → (k = .local ∨ k = .cell) → x ∈ (ownP N names).map (·.1) ∨ x ∉ N
  | [], h, _ => by cases h
  | (y, k') :: ys, h, hk => by
    unfold ownP
    rcases List.mem_cons.mp h with e | h
    · cases e
      cases hi : ixOf x N with
      | none => exact .inr (ixOf_none hi)
      | some i =>
        left
        rcases hk with rfl | rfl <;> exact List.mem_cons_self
    · have ih := ownP_fst (N := N) h hk
      rcases ih with ih | ih
      · left
        split
        · exact List.mem_cons_of_mem _ ih
        · exact List.mem_cons_of_mem _ ih
        · exact ih
      · exact .inr ih
theorem blkOk_of (gz : Gz P w base tc Z lv p) {scope : Scope} (h : blkB tc scope = true) {X : Cx} (hX : Z.G X) : BlkOk X.N X.env.scope scope (ownP tc.N scope.names) := by
  have g := gz.g X hX
  unfold blkB at h
  rw [Bool.and_eq_true, Bool.and_eq_true] at h
  obtain ⟨⟨h1, h2⟩, h3⟩ := h
  refine ⟨?_, fun y hy => ?_, fun q hq => ?_, fun y hy e => ?_, fun y hy e => ?_⟩
  · unfold fnKind at h1
    split at h1
    · assumption
    · cases h1
  · exact of_decide_eq_true (List.all_eq_true.mp h2 y hy)
  · rw [g.eN]; exact ownP_ix hq
  · have q := List.all_eq_true.mp h3 y hy
    rw [Bool.or_eq_true] at q
    rcases q with q | q
    · exact absurd e (of_decide_eq_true q)
    · unfold isCF at q
      split at q
      · rename_i z; exact .inl (g.fc _ z)
      · rename_i z; exact g.ff _ z
      · cases q
  · rw [g.eN]
    obtain ⟨x, k⟩ := y
    exact ownP_fst hy e
/-! ### targets -/
theorem each_plain {e : Expr} {es : List Expr} (h : notStar e = true) (env : PySem.Env) : assignEach (e :: es) env = (false, assign e env) :: assignEach es env := by
  cases e <;> first | rfl | (simp [notStarE] at h; done)
theorem each_len (env : PySem.Env) : ∀ {es : List Expr}, (∀ e ∈ es, notStar e = true) → (assignEach es env).length = es.length ∧ (assignEach es env).findIdx? (·.1) = none
  | [], _ => ⟨rfl, rfl⟩
  | e :: es, h => by
    obtain ⟨h1, h2⟩ := each_len env (es := es) fun e' he => h e' (List.mem_cons_of_mem _ he)
    rw [each_plain (h e List.mem_cons_self)]
    refine ⟨by rw [List.length_cons, List.length_cons, h1], ?_⟩
    rw [List.findIdx?_cons, h2]
    rfl
theorem gs_length {f : Expr → Option SG} : ∀ {es : List Expr} {h : List D → Env → Option Env}, trGs f es = some h → ∀ ds r r', h ds r = some r' → ds.length = es.length
  | [], h, e, ds, r, r', q => by
    cases e
    cases ds with
    | nil => rfl
    | cons d ds => cases q
  | e :: es, h, eq, ds, r, r', q => by
    unfold trGs at eq
    split at eq
    · split at eq
      · rename_i x y h1 h2
        cases eq
        cases ds with
        | nil => cases q
        | cons d ds =>
          simp only [gCons] at q
          split at q
          · rw [List.length_cons, List.length_cons, gs_length h2 ds _ r' q]
          · cases q
      · cases eq
    · cases eq
theorem snd_gs {io : Nat → Bool} {f : Expr → Option SG} (hf : ∀ e g, f e = some g → ∃ t, (∀ X, Z.G X → PG X e t) ∧ SnG Z.K Z.mg io t g) : ∀ {es : List Expr} {h : List D → Env → Option Env}, trGs f es = some h →
    (∀ e ∈ es, notStar e = true) ∧ ∃ t, (∀ X, Z.G X → PGs X es t) ∧ SnGs Z.K Z.mg io t h
  | [], h, e => by cases e; exact ⟨fun _ h => (by cases h), _, fun X _ => pgs_nil, sng_nil⟩
  | e :: es, h, eq => by
    unfold trGs at eq
    split at eq
    · rename_i hs
      split at eq
      · rename_i x y h1 h2
        cases eq
        obtain ⟨t, p1, s1⟩ := hf e x h1
        obtain ⟨q, u, p2, s2⟩ := snd_gs hf h2
        refine ⟨fun e' he => ?_, _, fun X hX => pgs_cons (p1 X hX) (p2 X hX) (by rw [each_plain hs]; rfl), sng_cons s1 s2⟩
        rcases List.mem_cons.mp he with rfl | he
        · exact hs
        · exact q e' he
      · cases eq
    · cases eq
theorem starEnd_ok : ∀ {es xs : List Expr} {y : Expr}, starEnd es = some (xs, y) → ∃ q, es = xs ++ [.Starred y q]
  | [], _, _, h => by cases h
  | e :: es, xs, y, h => by
    unfold starEnd at h
    split at h
    · cases h
      exact ⟨_, rfl⟩
    · split at h
      · rename_i xs' y' he
        cases h
        obtain ⟨q, rfl⟩ := starEnd_ok he
        exact ⟨q, rfl⟩
      · cases h
theorem snd_g (gz : Gz P w base tc Z lv p) {io : Nat → Bool} : ∀ {n : Nat} {tg : Expr} {g : SG}, trG tc io n tg = some g → ∃ t, (∀ X, Z.G X → PG X tg t) ∧ SnG Z.K Z.mg io t g
  | 0, _, _, h => by cases h
  | n + 1, tg, g, h => by
    unfold trG at h
    split at h
    · rename_i x pos
      split at h
      · rename_i i hi
        split at h
        · cases h
        · rename_i hio
          cases h
          refine ⟨_, fun X hX => ?_, sng_name (by simpa using hio)⟩
          obtain ⟨a1, a2, a3⟩ := (gz.g X hX).store hi
          exact pg_name (gz.g X hX).ndX a1 a2 a3
      · cases h
    · rename_i es k pos
      split at h
      · rename_i xs y hst
        obtain ⟨q0, rfl⟩ := starEnd_ok hst
        split at h
        · rename_i hns
          rw [Bool.and_eq_true, List.all_eq_true] at hns
          split at h
          · rename_i hs he
            cases h
            obtain ⟨q, u, p2, s2⟩ := snd_gs (fun e g => snd_g gz) he
            refine ⟨gStarN Z.K xs.length u, fun X hX => ?_, sng_star s2⟩
            have g := gz.g X hX
            rw [← g.eK]
            exact pg_starN g.calm (p2 X hX) hns.1 hns.2
          · cases h
        · cases h
      · split at h
        · rename_i hs he
          cases h
          obtain ⟨q, u, p2, s2⟩ := snd_gs (fun e g => snd_g gz) he
          refine ⟨L2.gTup Z.K es.length u, fun X hX => ?_, sng_tup (gs_length he) s2⟩
          have g := gz.g X hX
          obtain ⟨l1, l2⟩ := each_len X.env q
          rw [← g.eK]
          exact pg_tup g.calm (p2 X hX) l1 l2
        · cases h
    · cases h
/-! ### what is walked -/
theorem pi_ext {X : Cx} {tg e : Expr} {t : TI} (h : PI X tg e t) : PI X tg e t := h
theorem snd_i (gz : Gz P w base tc Z lv p) {f : TrE} (hf : ∀ e x, f e = some x → OkE Z e (x p)) {tg e : Expr} {it : SI} (h : trI tc f e = some it) : OkI Z tg e (it p) ∧ notSet e = true := by
  have hK : ∀ X, Z.G X → X.K = Z.K := fun X hX => (gz.g X hX).eK
  have go : ∀ {e : Expr} {it : SI}, (f e).map iSeq = some it → OkI Z tg e (it p) := fun {e it} h => by
    cases e1 : f e with
    | none => rw [e1] at h; cases h
    | some x => rw [e1] at h; cases h; exact ok_iseq hK (hf e x e1)
  unfold trI at h
  split at h
  · rename_i x xp as pos
    split at h
    · rename_i ex
      subst ex
      split at h
      · rename_i hc
        rw [Bool.and_eq_true, Bool.and_eq_true] at hc
        obtain ⟨⟨hg, hb⟩, hl⟩ := hc
        have hl := of_decide_eq_true hl
        have hm : ∀ X, Z.G X → X.mg "range" = none := fun X hX => by rw [(gz.g X hX).emg]; exact gz.md.blt _ hb
        cases ha : trA f as with
        | none => rw [ha] at h; cases h
        | some ga =>
          rw [ha] at h
          cases h
          obtain ⟨oka, hst, hn⟩ := snd_args hf ha
          refine ⟨?_, rfl⟩
          match as, oka, hst, hn, hl with
          | [], _, _, _, hl => simp at hl
          | [a], oka, hst, hn, _ =>
            exact ok_irng1 (fun X hX t q => pi_range1 ((gz.g X hX).gl hg) (hm X hX) q (star_cons (hst a List.mem_cons_self) _)) hn oka
          | [a, b], oka, hst, hn, _ =>
            exact ok_irng2 (fun X hX t q => pi_range2 ((gz.g X hX).gl hg) (hm X hX) q (by
              rw [star_cons (hst a List.mem_cons_self), star_cons (hst b (List.mem_cons_of_mem _ List.mem_cons_self))]; rfl) (star_cons (hst b (List.mem_cons_of_mem _ List.mem_cons_self)) _)) hn oka
          | _ :: _ :: _ :: _, _, _, _, hl => simp at hl
      · cases h
    · exact ⟨go h, rfl⟩
  · cases h
  · rename_i h1 h2
    refine ⟨go h, ?_⟩
    cases e <;> first | rfl | (exfalso; exact h2 _ _ _ rfl)
theorem snd_en (gz : Gz P w base tc Z lv p) {f : TrE} (hf : ∀ e x, f e = some x → OkE Z e (x p)) {tg e : Expr} {it : SI} (h : trEn tc f tg e = some it) : OkI Z tg e (it p) ∧ notSet e = true := by
  have hK : ∀ X, Z.G X → X.K = Z.K := fun X hX => (gz.g X hX).eK
  unfold trEn at h
  split at h
  · rename_i a1 a2 a3 x xp a pos
    split at h
    · rename_i hc
      rw [Bool.and_eq_true, Bool.and_eq_true] at hc
      obtain ⟨⟨hx, hg⟩, hb⟩ := hc
      have hx := of_decide_eq_true hx
      subst hx
      have hm : ∀ X, Z.G X → X.mg "enumerate" = none := fun X hX => by rw [(gz.g X hX).emg]; exact gz.md.blt _ hb
      cases ha : trA f [a] with
      | none => rw [ha] at h; cases h
      | some ga =>
        rw [ha] at h
        cases h
        obtain ⟨oka, hst, hn⟩ := snd_args hf ha
        exact ⟨ok_ien (fun X hX t q => by rw [← hK X hX]; exact pi_en0 ((gz.g X hX).gl hg) (hm X hX) q (star_cons (hst a List.mem_cons_self) _)) oka, rfl⟩
    · cases h
  · rename_i a1 a2 a3 x xp a y k b1 b2 b3 pos
    split at h
    · rename_i hc
      rw [Bool.and_eq_true, Bool.and_eq_true] at hc
      obtain ⟨⟨hx, hg⟩, hb⟩ := hc
      obtain ⟨hx, hy, k0, k1⟩ := of_decide_eq_true hx
      subst hx
      subst hy
      have hm : ∀ X, Z.G X → X.mg "enumerate" = none := fun X hX => by rw [(gz.g X hX).emg]; exact gz.md.blt _ hb
      cases ha : trA f [a] with
      | none => rw [ha] at h; cases h
      | some ga =>
        rw [ha] at h
        cases h
        obtain ⟨oka, hst, hn⟩ := snd_args hf ha
        exact ⟨ok_ien (fun X hX t q => by rw [← hK X hX]; exact pi_enK k0 k1 ((gz.g X hX).gl hg) (hm X hX) q (star_cons (hst a List.mem_cons_self) _)) oka, rfl⟩
    · cases h
  · cases h
theorem folded_of {e : Expr} (h : notSet e = true) (env : PySem.Env) : ∀ x, foldedSetIterable e env x = pure x := fun x => by
  cases e <;> first | rfl | (simp [notSet] at h; done)
/-! ### comprehensions -/
/-- the rules of a comprehension: as a value, and stored in a name on one row -/
def PhC (e : Expr) (X : Cx) (t : TE) : Prop := PE X e t ∧ ∀ (y : Str) (py spos : Pos) (i : Nat), X.N[i]? = some y → X.env.scope.names.lookup y = some .local → swapsWith e (some (.Name y py)) spos.line X.env = pure true → PS X (.Assign [.Name y py] e spos) (tAsg t (L2.gName i))
theorem snd_comp (gz : Gz P w base tc Z lv p) {fo fi : TrE} {ti : TrT} {elt : Expr} {gens : List Comprehension} {scope : Scope} {pos : Pos} {g : SE} (ho : ∀ e x, fo e = some x → OkE Z e (x p)) (hi : ∀ e x, fi e = some x → OkE (Zblk Z scope) e (x p)) (ht : ∀ e x, ti e = some x → OkT (Zblk Z scope) e (x p))
    (h : trComp tc fo fi ti elt gens scope = some g) : OkEP Z (PhC (.ListComp elt gens scope pos)) (g p) := by
  unfold trComp at h
  split at h
  · rename_i tg iter ifs
    split at h
    · rename_i hb
      rw [Bool.and_eq_true] at hb
      have nd := nodup_of hb.2
      have hk : fnKind scope.kind = true := by
        have := hb.1
        unfold blkB at this
        rw [Bool.and_eq_true, Bool.and_eq_true] at this
        exact this.1.1
      have gb := gz.blk hk
      split at h
      · rename_i gg tt ee hg htt hee
        obtain ⟨gt, pg, sg⟩ := snd_g gb hg
        have oke := hi elt ee hee
        have okt : ∃ t, (∀ Y, (Zblk Z scope).G Y → PTs Y ifs t) ∧ SnT (Zblk Z scope).K (Zblk Z scope).mg (Zblk Z scope).W t (tt p) := by
          match ifs, htt with
          | [], htt => cases htt; exact ⟨_, fun Y _ => pts_nil, fun r σ F H cs R Q rv s po => po F H cs (Ex.refl F) rv s⟩
          | [c], htt =>
            obtain ⟨t, p1, s1⟩ := ht c tt htt
            exact ⟨t, fun Y hY => pts_one (p1 Y hY), s1⟩
        have pe : ∀ X, Z.G X → notSet iter = true → ∀ wi tt te, PI X tg iter wi → (∀ Y, (Zblk Z scope).G Y → PTs Y ifs tt) → (∀ Y, (Zblk Z scope).G Y → PE Y elt te) → PhC (.ListComp elt [⟨tg, iter, ifs, 0⟩] scope pos) X (tLc wi gt tt te (ownOf tc.N scope.names)) :=
          fun X hX hns wi t2 te q1 q2 q3 => by
            have g := gz.g X hX
            rw [← ownP_snd]
            refine ⟨pe_lc g.calm g.ndX q1 (blkOk_of gz hb.1 hX) (fun s H C cl fp => pg _ ⟨X, s, H, C, cl, fp, hX, rfl⟩) (fun s H C cl fp => q2 _ ⟨X, s, H, C, cl, fp, hX, rfl⟩) (fun s H C cl fp => q3 _ ⟨X, s, H, C, cl, fp, hX, rfl⟩) (folded_of hns X.env), fun y py spos i hy hyl hsw => ?_⟩
            exact ps_setLc g.calm g.ndX hy hyl hsw q1 (blkOk_of gz hb.1 hX) (fun s H C cl fp => pg _ ⟨X, s, H, C, cl, fp, hX, rfl⟩) (fun s H C cl fp => q2 _ ⟨X, s, H, C, cl, fp, hX, rfl⟩) (fun s H C cl fp => q3 _ ⟨X, s, H, C, cl, fp, hX, rfl⟩) (folded_of hns X.env)
        have gen : ∀ {it : SI}, trI tc fo iter = some it → OkEP Z (PhC (.ListComp elt [⟨tg, iter, ifs, 0⟩] scope pos)) (eComp (ownOf tc.N scope.names) it gg tt ee p) := fun {it} hit => by
          obtain ⟨oki, hns⟩ := snd_i (tg := tg) gz ho hit
          exact ok_comp (Zb := Zblk Z scope) nd ⟨rfl, rfl, rfl⟩ sg (fun X hX wi t2 te q1 q2 q3 => pe X hX hns wi t2 te q1 q2 q3) oki okt oke
        split at h
        · rename_i x xp
          split at h
          · rename_i i hi'
            split at h
            · cases h
            · rename_i hc
              cases h
              refine ok_compv (Zb := Zblk Z scope) (fun X hX => (gz.g X hX).eK) nd (fun q => hc (List.contains_iff_mem.mpr q)) ⟨rfl, rfl, rfl⟩ sg (fun X hX wi t2 te q1 q2 q3 => pe X hX rfl wi t2 te q1 q2 q3) (fun X hX => (gz.g X hX).slot hi' xp) okt oke
          · split at h
            · rename_i it hit
              cases h
              exact gen hit
            · cases h
        · split at h
          · rename_i it hit
            cases h
            exact gen hit
          · cases h
      · cases h
    · cases h
  · cases h
theorem okt_if1 (Zb : Jd) {ti : TrT} (ht : ∀ e x, ti e = some x → OkT Zb e (x p)) {ifs : List Expr} {tt : ST} (htt : trIf1 ti ifs = some tt) : ∃ t, (∀ Y, Zb.G Y → PTs Y ifs t) ∧ SnT Zb.K Zb.mg Zb.W t (tt p) := by
  match ifs, htt with
  | [], htt => cases htt; exact ⟨_, fun Y _ => pts_nil, fun r σ F H cs R Q rv s po => po F H cs (Ex.refl F) rv s⟩
  | [c], htt =>
    obtain ⟨t, p1, s1⟩ := ht c tt htt
    exact ⟨t, fun Y hY => pts_one (p1 Y hY), s1⟩
theorem snd_comp2 (gz : Gz P w base tc Z lv p) {fo fi : TrE} {ti : TrT} {elt : Expr} {gens : List Comprehension} {scope : Scope} {pos : Pos} {g : SE} (ho : ∀ e x, fo e = some x → OkE Z e (x p)) (hi : ∀ e x, fi e = some x → OkE (Zblk Z scope) e (x p)) (ht : ∀ e x, ti e = some x → OkT (Zblk Z scope) e (x p))
    (h : trComp2 tc fo fi ti elt gens scope = some g) : OkEP Z (PhC (.ListComp elt gens scope pos)) (g p) := by
  unfold trComp2 at h
  split at h
  · rename_i tg iter ifs y yp iter1 ifs1
    split at h
    · rename_i hb
      rw [Bool.and_eq_true] at hb
      have nd := nodup_of hb.2
      have hk : fnKind scope.kind = true := by
        have := hb.1
        unfold blkB at this
        rw [Bool.and_eq_true, Bool.and_eq_true] at this
        exact this.1.1
      have gb := gz.blk hk
      split at h
      · rename_i j hj
        split at h
        · rename_i hjo
          have hjm := List.contains_iff_mem.mp hjo
          split at h
          · rename_i gg tt ii gg1 tt1 ee hg htt hii hg1 htt1 hee
            obtain ⟨gt, pg, sg⟩ := snd_g gb hg
            obtain ⟨gt1, pg1, sg1⟩ := snd_g gb hg1
            have oke := hi elt ee hee
            have okt := okt_if1 (Zblk Z scope) ht htt
            have okt1 := okt_if1 (Zblk Z scope) ht htt1
            obtain ⟨oki1, hns1⟩ := snd_i (tg := .Name y yp) gb hi hii
            have sub : ∀ k ∈ [j], k ∈ ownOf tc.N scope.names := fun k hk => by
              rw [List.mem_singleton] at hk
              rw [hk]
              exact hjm
            have pe : ∀ X, Z.G X → notSet iter = true → ∀ wi tt wi1 tt1 te, PI X tg iter wi → (∀ Y, (Zblk Z scope).G Y → PTs Y ifs tt) → (∀ Y, (Zblk Z scope).G Y → PI Y (.Name y yp) iter1 wi1) → (∀ Y, (Zblk Z scope).G Y → PTs Y ifs1 tt1) → (∀ Y, (Zblk Z scope).G Y → PE Y elt te) → PhC (.ListComp elt [⟨tg, iter, ifs, 0⟩, ⟨.Name y yp, iter1, ifs1, 0⟩] scope pos) X (tLc2 wi gt tt wi1 gt1 tt1 te (ownOf tc.N scope.names) [j]) :=
              fun X hX hns wi t2 wi1 t21 te q1 q2 q3 q4 q5 => by
                have g := gz.g X hX
                rw [← ownP_snd] at sub ⊢
                refine ⟨pe_lc2 g.calm g.ndX q1 (blkOk_of gz hb.1 hX) sub (fun s H C cl fp => pg _ ⟨X, s, H, C, cl, fp, hX, rfl⟩) (fun s H C cl fp => q2 _ ⟨X, s, H, C, cl, fp, hX, rfl⟩) (fun s H C cl fp => q3 _ ⟨X, s, H, C, cl, fp, hX, rfl⟩) (fun s H C cl fp => pg1 _ ⟨X, s, H, C, cl, fp, hX, rfl⟩) (fun s H C cl fp => q4 _ ⟨X, s, H, C, cl, fp, hX, rfl⟩) (fun s H C cl fp => q5 _ ⟨X, s, H, C, cl, fp, hX, rfl⟩) (folded_of hns X.env) (fun env => folded_of hns1 env), fun y py spos i hy hyl hsw => ?_⟩
                exact ps_setLc2 g.calm g.ndX hy hyl hsw q1 (blkOk_of gz hb.1 hX) sub (fun s H C cl fp => pg _ ⟨X, s, H, C, cl, fp, hX, rfl⟩) (fun s H C cl fp => q2 _ ⟨X, s, H, C, cl, fp, hX, rfl⟩) (fun s H C cl fp => q3 _ ⟨X, s, H, C, cl, fp, hX, rfl⟩) (fun s H C cl fp => pg1 _ ⟨X, s, H, C, cl, fp, hX, rfl⟩) (fun s H C cl fp => q4 _ ⟨X, s, H, C, cl, fp, hX, rfl⟩) (fun s H C cl fp => q5 _ ⟨X, s, H, C, cl, fp, hX, rfl⟩) (folded_of hns X.env) (fun env => folded_of hns1 env)
            split at h
            · rename_i x xp
              split at h
              · rename_i i hi'
                split at h
                · cases h
                · rename_i hc
                  cases h
                  exact ok_comp2v (Zb := Zblk Z scope) (fun X hX => (gz.g X hX).eK) nd sub ⟨rfl, rfl, rfl⟩ sg sg1 (fun X hX wi t2 wi1 t21 te q1 q2 q3 q4 q5 => pe X hX rfl wi t2 wi1 t21 te q1 q2 q3 q4 q5) (fun X hX => (gz.g X hX).slot hi' xp) okt oki1 okt1 oke
              · cases h
            · split at h
              · rename_i it hit
                cases h
                obtain ⟨oki, hns⟩ := snd_i (tg := tg) gz ho hit
                exact ok_comp2 (Zb := Zblk Z scope) nd sub ⟨rfl, rfl, rfl⟩ sg sg1 (fun X hX wi t2 wi1 t21 te q1 q2 q3 q4 q5 => pe X hX hns wi t2 wi1 t21 te q1 q2 q3 q4 q5) oki okt oki1 okt1 oke
              · cases h
          · cases h
        · cases h
      · cases h
    · cases h
  · cases h
theorem keys_all : ∀ {keys : List (Option Expr)} {ks : List Str}, trKeys keys = some ks → keys.all (·.isSome) = true
  | [], _, _ => rfl
  | k :: keys, ks, h => by
    unfold trKeys at h
    split at h
    · rename_i e; cases e
    · rename_i s j q ks' e
      cases e
      cases hr : trKeys keys with
      | none => rw [hr] at h; cases h
      | some r => rw [List.all_cons, keys_all hr]; rfl
    · cases h
theorem snd_pairs {f : TrE} (hf : ∀ e x, f e = some x → OkE Z e (x p)) : ∀ {keys : List (Option Expr)} {ks : List Str} {es : List Expr} {g : SA}, trKeys keys = some ks → trA f es = some g → keys.length = es.length → OkP Z ks keys es (g p)
  | [], ks, [], g, h1, h2, _ => by cases h1; cases h2; exact ok_pnil
  | [], _, _ :: _, _, _, _, hl => by cases hl
  | _ :: _, _, [], _, _, _, hl => by cases hl
  | k :: keys, ks, e :: es, g, h1, h2, hl => by
    unfold trKeys at h1
    split at h1
    · rename_i e'; cases e'
    · rename_i s j q ks' e'
      cases e'
      cases hr : trKeys keys with
      | none => rw [hr] at h1; cases h1
      | some r =>
        rw [hr] at h1
        cases h1
        unfold trA at h2
        split at h2
        · split at h2
          · rename_i x y hx hy
            cases h2
            exact ok_pcons (hf e x hx) (snd_pairs hf hr hy (by simpa using hl))
          · cases h2
        · cases h2
    · cases h1
theorem snd_dct {f : TrE} (hf : ∀ e x, f e = some x → OkE Z e (x p)) {keys : List (Option Expr)} {es : List Expr} {g : SE} {pos : Pos} (h : trDct f keys es = some g) : OkE Z (.Dict keys es pos) (g p) := by
  unfold trDct at h
  split at h
  · rename_i hc
    obtain ⟨h1, h2, h3⟩ := of_decide_eq_true hc
    split at h
    · rename_i ks ga hk ha
      cases h
      exact ok_dct (keys_all hk) h1 h3 h2 (snd_pairs hf hk ha h1)
    · cases h
  · cases h
theorem snd_tix (gz : Gz P w base tc Z lv p) {f : TrE} (hf : ∀ e x, f e = some x → OkE Z e (x p)) {o : Expr} {m : Str} {as : List Expr} {apos pos : Pos} {g : SE} (h : trTIx tc f o m as apos pos = some g) : OkE Z (.Call (.Attribute o m apos) as [] pos) (g p) := by
  unfold trTIx at h
  split at h
  · rename_i x xp a
    split at h
    · rename_i hc
      rw [Bool.and_eq_true, Bool.and_eq_true, Bool.and_eq_true, Bool.and_eq_true] at hc
      obtain ⟨⟨⟨⟨c1, c2⟩, c3⟩, c4⟩, c5⟩ := hc
      have c1 := of_decide_eq_true c1
      obtain ⟨y, hy, hyx⟩ := List.any_eq_true.mp c4
      have hyx := of_decide_eq_true hyx
      subst hyx
      obtain ⟨b', o', w1, w2, w3, w4⟩ := gz.md.tus y hy
      subst c1
      cases ha : trA f [a] with
      | none => rw [ha] at h; cases h
      | some ga =>
        rw [ha] at h
        cases h
        obtain ⟨oka, hst, hn⟩ := snd_args hf ha
        by_cases hx : ∃ ds, p.G y = some (.tup ds)
        · obtain ⟨ds, hx⟩ := hx
          obtain ⟨v, u, m1, m2, m3⟩ := gz.md.gls y (.tup ds) hx (fun _ _ z => by cases z)
          have r0 := m3 (fun _ => none)
          cases r0 with
          | @tup b vs _ hs rs =>
            cases m2
            rcases hs with (hs | ⟨o, hs⟩) | hs
            · cases hs
            · cases hs
            · refine ok_tix (a := b) (fun ds' hd => ?_) (fun X hX t q => ?_) oka
              · rw [hx] at hd
                cases hd
                refine ⟨?_, vs, fun H => .inr hs, fun ys hy => rs.strs hy⟩
                rw [w1] at m1
                cases m1
                exact ⟨o', w2, w3, w4⟩
              · have g := gz.g X hX
                rw [← g.eK]
                refine pe_bm PySem.F.plainAttrs_tuple PySem.F.slot_tuple_index PySem.F.type_tuple_index mt_tup_index (pe_glob (g.gl c2) (by rw [g.emg]; exact m1) rfl (plainN_of c3).1) q rfl ?_ c5 (star_cons (hst a List.mem_cons_self) _) rfl
                rw [backTo_all pos X.env hst]
                rfl
        · have hbad : ∀ r, eTIx y ga p r = .bad := fun r => by
            unfold eTIx
            split
            · rename_i ds e
              exact absurd ⟨ds, e⟩ hx
            · rfl
          exact ⟨fun _ _ _ => False, fun X _ => ⟨fun _ _ _ _ _ _ z => z.elim⟩, fun r σ F H cs R Q rv s po => by rw [hbad r] at po; exact po⟩
    · cases h
  · cases h
/-! ### all together -/
theorem plain_test {e : Expr} (h : ∀ a pos, e ≠ .UnaryOp .Not a pos) (h2 : ∀ op es pos, e ≠ .BoolOp op es pos) (h3 : ∀ a ops cs pos, e ≠ .Compare a ops cs pos) (h4 : ∀ c a b pos, e ≠ .IfExp c a b pos) (env : PySem.Env) :
    ∀ whole, isTrue e env whole = (do let v ← whole; standAt e.pos; holding [v] (truthy v)) := fun whole => by
  cases e with
  | UnaryOp op a pos =>
    cases op with
    | Not => exact absurd rfl (h a pos)
    | _ => rfl
  | BoolOp op es pos => exact absurd rfl (h2 op es pos)
  | Compare a ops cs pos => exact absurd rfl (h3 a ops cs pos)
  | IfExp c a b pos => exact absurd rfl (h4 c a b pos)
  | _ => rfl
theorem snd_callN (gz : Gz P w base tc Z lv p) {n : Nat} (ihE : ∀ e x, (trX n).1 tc e = some x → OkE Z e (x p)) {x : Str} {as : List Expr} {g : SE} {xp pos : Pos} (h : trCallN tc ((trX n).1 tc) x as = some g) : OkE Z (.Call (.Name x xp) as [] pos) (g p) := by
  unfold trCallN at h
  split at h
  · rename_i hc
    rw [Bool.and_eq_true, Bool.and_eq_true] at hc
    obtain ⟨⟨hg, hpl⟩, hne⟩ := hc
    match as, hne with
    | [], hne => simp at hne
    | e :: es, _ =>
      split at h
      · rename_i m hm
        split at h
        · rename_i hl
          cases ha : trA ((trX n).1 tc) (e :: es) with
          | none => rw [ha] at h; cases h
          | some g =>
            rw [ha] at h
            cases h
            obtain ⟨a1, a2, a3⟩ := snd_args ihE ha
            exact snd_call gz hg hpl hm hl a1 a2 a3
        · cases h
      · split at h
        · rename_i hb
          split at h
          · rename_i ex
            subst ex
            exact snd_isi gz ihE hg hb h
          · split at h
            · rename_i op hop
              cases ha : trA ((trX n).1 tc) (e :: es) with
              | none => rw [ha] at h; cases h
              | some g =>
                rw [ha] at h
                cases h
                obtain ⟨a1, a2, a3⟩ := snd_args ihE ha
                exact snd_blt gz hg hpl hb hop a1 a2
            · cases h
        · cases h
  · cases h
/-! ### f-strings -/
def PoJ (Z : Jd) (σ : L2.St) (F : Hp) (R : List Cell) (Q : Str → Hp → Prop) : Out Str → Prop
  | .ok s r1 => ∀ F' H' cs', Ex F F' → RV Z.K Z.mg F' r1 σ cs' → Sat Z.mg F' H' (cs'.flatten ++ R) → Q s H'
  | .exn x r1 => PoX Z.K Z.mg Z.W σ F R x r1
  | .bad => False
def OkJ (Z : Jd) (es : List Expr) (f : Str → Env → Out Str) : Prop := ∃ ts, (∀ X, Z.G X → PJ X es ts) ∧ ∀ acc r σ F H cs R (Q : Str → Hp → Prop), RV Z.K Z.mg F r σ cs → Sat Z.mg F H (cs.flatten ++ R) → PoJ Z σ F R Q (f acc r) → tJs ts acc σ H Q
theorem okj_nil : OkJ Z [] (fun acc => eFsG [] acc p) := ⟨[], fun _ _ => .nil, fun acc r σ F H cs R Q rv s po => po F H cs (Ex.refl F) rv s⟩
theorem okj_cons {e part : Expr} {es : List Expr} {f : SE} {fs : List SE} (hp : ∀ X, Z.G X → ∀ t, PE X e t → PE X part (tFmt t)) (h1 : OkE Z e (f p)) (h2 : OkJ Z es (fun acc => eFsG fs acc p)) : OkJ Z (part :: es) (fun acc => eFsG (f :: fs) acc p) := by
  obtain ⟨t, p1, s1⟩ := h1
  obtain ⟨ts, p2, s2⟩ := h2
  refine ⟨tFmt t :: ts, fun X hX => .cons (hp X hX t (p1 X hX)) (p2 X hX), fun acc r σ F H cs R Q rv s po0 => ?_⟩
  have po : PoJ Z σ F R Q (eFsG (f :: fs) acc p r) := po0
  unfold eFsG at po
  refine s1 r σ F H cs R _ rv s ?_
  cases ea : f p r with
  | bad => rw [ea] at po; exact po
  | exn x r1 => rw [ea] at po; exact po
  | ok a1 r1 =>
    rw [ea] at po
    simp only [Out.bind_ok] at po
    intro F1 H1 v1 k1 cs1 e1 ra1 rv1 q1
    cases hv : view a1 r1 with
    | none => rw [hv] at po; exact po.elim
    | some d =>
      rw [hv] at po
      dsimp only at po
      have w1 := view_ok ra1 rv1 q1 (fun c => by simp only [cnt_append]; omega) hv
      cases hd : fmtD d with
      | none => rw [hd] at po; exact po.elim
      | some y =>
        rw [hd] at po
        dsimp only at po
        by_cases hz : szOk (acc ++ y).length = true
        · rw [if_pos hz] at po
          have rest : tJs ts (acc ++ y) σ H1 Q := s2 (acc ++ y) r1 σ F1 H1 cs1 R Q rv1 (q1.sub fun c => by simp only [cnt_append]; omega) (by
            show PoJ Z σ F1 R Q (eFsG fs (acc ++ y) p r1)
            cases eb : eFsG fs (acc ++ y) p r1 with
            | bad => rw [eb] at po; exact po
            | exn x r2 => rw [eb] at po; exact po.back e1 fun c => Nat.le_refl _
            | ok z r2 => rw [eb] at po; exact fun F2 H2 cs2 e2 rv2 q2 => po F2 H2 cs2 (e1.trans e2) rv2 q2)
          have hz' : (acc ++ y).length ≤ sizeLine := of_decide_eq_true hz
          unfold fmtD at hd
          split at hd
          · obtain ⟨hw, rfl⟩ := ite_some hd
            cases w1.str
            exact .inl ⟨_, rfl, of_decide_eq_true hw, _, rfl, hz', rest⟩
          · obtain ⟨hw, rfl⟩ := ite_some hd
            cases w1.int
            exact .inr ⟨_, rfl, of_decide_eq_true hw, _, rfl, hz', rest⟩
          · cases hd
        · rw [if_neg hz] at po
          exact po.elim
theorem okj_cst {s0 : Str} {j : Nat} {p1 : Pos} {es : List Expr} {fs : List SE} (hs : szOk s0.length = true) (h2 : OkJ Z es (fun acc => eFsG fs acc p)) : OkJ Z (.Constant (.str s0) j p1 :: es) (fun acc => eFsG (eCst (.str s0) :: fs) acc p) := by
  obtain ⟨ts, p2, s2⟩ := h2
  refine ⟨tC (.str s0) :: ts, fun X hX => .cons pe_str (p2 X hX), fun acc r σ F H cs R Q rv s po0 => ?_⟩
  have po : PoJ Z σ F R Q (eFsG (eCst (.str s0) :: fs) acc p r) := po0
  unfold eFsG at po
  have e1 : fmtD (C.val (D.str s0)).frz = some s0 := by
    show (if szOk s0.length then some s0 else none) = _
    rw [if_pos hs]
  simp only [eCst, Out.bind_ok, view, e1] at po
  by_cases hz : szOk (acc ++ s0).length = true
  · rw [if_pos hz] at po
    exact ⟨s0, rfl, of_decide_eq_true hz, s2 (acc ++ s0) r σ F H cs R Q rv s po⟩
  · rw [if_neg hz] at po
    exact po.elim
theorem snd_fs {f : TrE} (hf : ∀ e x, f e = some x → OkE Z e (x p)) : ∀ {es : List Expr} {fs : List SE}, trFs f es = some fs → OkJ Z es (fun acc => eFsG fs acc p)
  | [], fs, h => by
    cases h
    exact okj_nil
  | e :: es, fs, h => by
    unfold trFs at h
    split at h
    · rename_i hh
      cases hh
    · rename_i s0 j p1 es' hh
      cases hh
      split at h
      · rename_i hs
        cases hr : trFs f es with
        | none => rw [hr] at h; cases h
        | some xs => rw [hr] at h; cases h; exact okj_cst hs (snd_fs hf hr)
      · cases h
    · rename_i e0 p1 es' hh
      cases hh
      split at h
      · rename_i x xs h1 h2
        cases h
        exact okj_cons (fun X hX t q => pe_fmt q) (hf _ _ h1) (snd_fs hf h2)
      · cases h
    · cases h
theorem ok_fs {v1 v2 : Expr} {vs : List Expr} {fs : List SE} {pos : Pos} (h : OkJ Z (v1 :: v2 :: vs) (fun acc => eFsG fs acc p)) : OkE Z (.JoinedStr (v1 :: v2 :: vs) pos) (eFs fs p) := by
  obtain ⟨ts, p1, s1⟩ := h
  refine ⟨_, fun X hX => pe_joined (p1 X hX), fun r σ F H cs R Q rv s po => ?_⟩
  refine s1 Str.empty r σ F H cs R _ rv s ?_
  show PoJ Z σ F R _ (eFsG fs Str.empty p r)
  unfold eFs at po
  cases ea : eFsG fs Str.empty p r with
  | bad => rw [ea] at po; exact po
  | exn x r1 => rw [ea] at po; exact po
  | ok z r1 =>
    rw [ea] at po
    exact fun F1 H1 cs1 e1 rv1 q1 => po F1 H1 (.str z) [] cs1 e1 (.val (.str _)) rv1 q1
theorem isD_of {x : Str} {p : Pg} : True := True.intro
theorem dict_of (gz : Gz P w base tc Z lv p) (x : Str) (hx : ∃ ks xs, p.G x = some (.dct ks xs)) : ∃ a us, Z.mg x = some (.ref a) ∧ ∀ ks xs, p.G x = some (.dct ks xs) → KD Z.K w a ks us ∧ ∀ F, ∃ vs, RDs Z.K Z.mg F xs vs ∧ Vals vs us := by
  obtain ⟨ks, xs, h⟩ := hx
  obtain ⟨a, us, h1, h2, h3⟩ := gz.md.dcs x ks xs h
  refine ⟨a, us, h1, fun ks' xs' h' => ?_⟩
  rw [h] at h'
  cases h'
  exact ⟨h2, h3⟩
theorem ok_no {f : SE} {e : Expr} (h : ∀ r, f p r = .bad) : OkE Z e (f p) := ⟨fun _ _ _ => False, fun X _ => ⟨fun _ _ _ _ _ _ z => z.elim⟩, fun r σ F H cs R Q rv s po => by rw [h r] at po; exact po⟩
theorem snd_gsub (gz : Gz P w base tc Z lv p) {f : TrE} (hf : ∀ e x, f e = some x → OkE Z e (x p)) {a i : Expr} {pos : Pos} {g : SE} (h : trGSub tc f a i = some g) : OkE Z (.Subscript a i pos) (g p) := by
  unfold trGSub at h
  split at h
  · rename_i x xp
    split at h
    · rename_i hc
      rw [Bool.and_eq_true, Bool.and_eq_true, Bool.and_eq_true] at hc
      obtain ⟨⟨⟨hg, hpl⟩, _⟩, hs⟩ := hc
      cases hi : f i with
      | none => rw [hi] at h; cases h
      | some fi =>
        rw [hi] at h
        cases h
        by_cases hx : ∃ ks xs, p.G x = some (.dct ks xs)
        · obtain ⟨b, us, h1, h2⟩ := dict_of gz x hx
          refine ok_gix h2 (fun X hX t q => ?_) (hf _ _ hi)
          have g := gz.g X hX
          rw [← g.eK, ← g.wd]
          refine pe_ix ix_kdict (pe_glob (g.gl hg) (by rw [g.emg]; exact h1) rfl (plainN_of hpl).1) q fun o j => ?_
          cases i <;> first | rfl | (simp [notSlice] at hs; done)
        · refine ok_no fun r => ?_
          unfold eGIx
          split
          · rename_i ks xs e
            exact absurd ⟨ks, xs, e⟩ hx
          · rfl
    · cases h
  · cases h
theorem ok_noT {f : SE} {e : Expr} (h : ∀ r, f p r = .bad) : OkT Z e (tVal f p) := ⟨fun _ _ _ => False, fun X _ => ⟨fun _ _ _ _ _ _ z => z.elim⟩, fun r σ F H cs R Q rv s po => by
  unfold tVal at po
  rw [h r] at po
  exact po⟩
theorem snd_gin (gz : Gz P w base tc Z lv p) {f : TrE} (hf : ∀ e x, f e = some x → OkE Z e (x p)) {a : Expr} {ops : List CmpOp} {cs : List Expr} {pos : Pos} {g : SE} (h : trGIn tc f a ops cs = some g) : OkE Z (.Compare a ops cs pos) (g p) ∧ OkT Z (.Compare a ops cs pos) (tVal g p) := by
  have go : ∀ {neg : Bool} {op : CmpOp} {x : Str} {xp : Pos} {fi : SE}, glB tc.sc x = true → plainN x = true → f a = some fi → (∀ X : Cx, OpR X (compareOp op) (rKIn neg X.K X.w)) → behindInMarks op (.Name x xp) = false → OkE Z (.Compare a [op] [.Name x xp] pos) (eGIn neg x fi p) ∧ OkT Z (.Compare a [op] [.Name x xp] pos) (tVal (eGIn neg x fi) p) := fun {neg op x xp fi} hg hpl hi ho hb => by
    by_cases hx : ∃ ks xs, p.G x = some (.dct ks xs)
    · obtain ⟨b, us, h1, h2⟩ := dict_of gz x hx
      refine ⟨ok_gin h2 (fun X hX t q => ?_) (hf _ _ hi), ok_tgin h2 (fun X hX t q => ?_) (hf _ _ hi)⟩
      · have g := gz.g X hX
        rw [← g.eK, ← g.wd]
        exact pe_cmpR (ho X) q (pe_glob (g.gl hg) (by rw [g.emg]; exact h1) rfl (plainN_of hpl).1) hb
      · have g := gz.g X hX
        rw [← g.eK, ← g.wd]
        exact pt_cmpR (ho X) q (pe_glob (g.gl hg) (by rw [g.emg]; exact h1) rfl (plainN_of hpl).1) hb
    · have hbad : ∀ r, eGIn neg x fi p r = .bad := fun r => by
        unfold eGIn
        split
        · rename_i ks xs e
          exact absurd ⟨ks, xs, e⟩ hx
        · rfl
      exact ⟨ok_no hbad, ok_noT hbad⟩
  unfold trGIn at h
  split at h
  · rename_i x xp
    split at h
    · rename_i hc
      rw [Bool.and_eq_true, Bool.and_eq_true] at hc
      cases hi : f a with
      | none => rw [hi] at h; cases h
      | some fi => rw [hi] at h; cases h; exact go hc.1.1 hc.1.2 hi (fun X => op_kin) rfl
    · cases h
  · rename_i x xp
    split at h
    · rename_i hc
      rw [Bool.and_eq_true, Bool.and_eq_true] at hc
      cases hi : f a with
      | none => rw [hi] at h; cases h
      | some fi => rw [hi] at h; cases h; exact go hc.1.1 hc.1.2 hi (fun X => op_knotin) rfl
    · cases h
  · cases h
theorem snd_callV (gz : Gz P w base tc Z lv p) {f : TrE} (hf : ∀ e x, f e = some x → OkE Z e (x p)) {y : Str} {as : List Expr} {g : SE} {xp pos : Pos} (h : trCallV tc f y as = some g) : OkE Z (.Call (.Name y xp) as [] pos) (g p) := by
  unfold trCallV at h
  split at h
  · rename_i i hi
    split at h
    · cases h
    · rename_i he
      cases as with
      | nil => exact absurd rfl he
      | cons e es =>
        cases ha : trA f (e :: es) with
        | none => rw [ha] at h; cases h
        | some ga =>
          rw [ha] at h
          cases h
          obtain ⟨oka, hst, hn⟩ := snd_args hf ha
          refine ok_callV (P := P) (w := w) (base := base) (lv := lv) (fun q hq => ?_) (fun X hX t q => ?_) hn oka
          · obtain ⟨f', fd, ps, h1, h2, h3, h4, h5⟩ := gz.md.fns q.1 q.2 (gz.md.fvs q hq)
            exact ⟨f', fd, ps, h1, h2, h3, h5⟩
          · have g := gz.g X hX
            have := pe_callV (X := X) (W := Z.W) (lv := lv) (pos := pos) (g.slot hi xp) g.room g.tk q (star_cons (hst e List.mem_cons_self) _) (backTo_plain _ _ fun e' he' => hst e' (List.mem_cons_of_mem _ he'))
            rw [g.prog, g.wd, g.eK, g.emg, g.bs] at this
            exact this
  · cases h
theorem snd_callDD (gz : Gz P w base tc Z lv p) {n : Nat} (ihE : ∀ e x, (trX n).1 tc e = some x → OkE Z e (x p)) {x : Str} {as : List Expr} {g : SE} {xp pos : Pos} (h : trCallD tc ((trX n).1 tc) x as = some g) : OkE Z (.Call (.Name x xp) as [] pos) (g p) := by
  unfold trCallD at h
  split at h
  · rename_i hc
    rw [Bool.and_eq_true] at hc
    split at h
    · rename_i src hd
      cases as with
      | nil => cases h; exact snd_callD0 gz hc.1 hc.2 hd
      | cons e es =>
        cases ha : trA ((trX n).1 tc) (e :: es) with
        | none => rw [ha] at h; cases h
        | some g =>
          rw [ha] at h
          cases h
          obtain ⟨a1, a2, a3⟩ := snd_args ihE ha
          exact snd_callD gz hc.1 hc.2 hd a1 a2 a3
    · cases h
  · cases h
theorem snd_callKK (gz : Gz P w base tc Z lv p) {n : Nat} (ihE : ∀ e x, (trX n).1 tc e = some x → OkE Z e (x p)) {x : Str} {as : List Expr} {kws : List Keyword} {g : SE} {xp pos : Pos} (h : trCallK tc ((trX n).1 tc) x as kws = some g) : OkE Z (.Call (.Name x xp) as kws pos) (g p) := by
  unfold trCallK at h
  split at h
  · rename_i hc
    rw [Bool.and_eq_true, Bool.and_eq_true, Bool.and_eq_true] at hc
    obtain ⟨⟨⟨hg, hpl⟩, h1⟩, h2⟩ := hc
    split at h
    · rename_i ks hks
      split at h
      · rename_i src hd
        split at h
        · rename_i a b ha hb
          cases h
          cases as with
          | nil => simp at h1
          | cons e es =>
            obtain ⟨a1, a2, a3⟩ := snd_args ihE ha
            obtain ⟨b1, b2⟩ := snd_kw ihE hb
            exact snd_callK gz hg hpl hks (by intro q; subst q; simp at h2) hd a1 a2 a3 b1 b2
        · cases h
      · cases h
    · cases h
  · cases h
theorem snd_x : ∀ (n : Nat) {tc : Tc} {Z : Jd}, Gz P w base tc Z lv p → (∀ e f, (trX n).1 tc e = some f → OkE Z e (f p)) ∧ ∀ e t, (trX n).2 tc e = some t → OkT Z e (t p)
  | 0, tc, Z, gz => ⟨fun _ _ h => (by cases h), fun _ _ h => (by cases h)⟩
  | n + 1, tc, Z, gz => by
    obtain ⟨ihE, ihT⟩ := snd_x n gz
    have hK : ∀ X, Z.G X → X.K = Z.K := fun X hX => (gz.g X hX).eK
    have main : ∀ e f, (trX (n + 1)).1 tc e = some f → OkE Z e (f p) := by
      intro e f h
      unfold trX at h
      dsimp only at h
      split at h
      · exact snd_name gz h
      · exact snd_const h
      · rename_i es k pos
        cases ha : trA ((trX n).1 tc) es with
        | none => rw [ha] at h; cases h
        | some g => rw [ha] at h; cases h; exact ok_tup (fun X hX t q => pe_tup q) (snd_args ihE ha).1
      · rename_i es pos
        cases ha : trA ((trX n).1 tc) es with
        | none => rw [ha] at h; cases h
        | some g => rw [ha] at h; cases h; exact ok_lst (fun X hX t q => pe_lst q) (snd_args ihE ha).1
      · split at h
        · rename_i o x y h1 h2 h3
          cases h
          exact snd_bin hK h1 (ihE _ _ h2) (ihE _ _ h3)
        · cases h
      · rename_i a pos
        cases ha : (trX n).1 tc a with
        | none => rw [ha] at h; cases h
        | some x =>
          rw [ha] at h
          cases h
          refine ok_op1 (r := rU fun i => .int (-i)) (fun F H d v c Q hx ex hc new => ?_) (fun X hX ta q => pe_un un_neg q) (ihE _ _ ha)
          cases d <;> first | (simp [negI] at hc; done) | skip
          cases hc
          cases hx.int
          exact ⟨_, rfl, new.flat (.int _)⟩
      · rename_i a pos
        cases ha : (trX n).1 tc a with
        | none => rw [ha] at h; cases h
        | some x =>
          rw [ha] at h
          cases h
          refine ok_op1 (r := fun x H Q => ∃ c, x = .bl c ∧ Q (.bl (!c)) H) (fun F H d v c Q hx ex hc new => ?_) (fun X hX ta q => pe_not q) (ihE _ _ ha)
          cases d <;> first | (simp [notB] at hc; done) | skip
          cases hc
          cases hx.bl
          exact ⟨_, rfl, new.flat (.bl _)⟩
      · split at h
        · rename_i g1 hG
          cases h
          exact (snd_gin gz ihE hG).1
        · exact (snd_cmp gz ihE h).1
      · exact snd_andE ihE h
      · exact snd_orE ihE h
      · split at h
        · rename_i t x y h1 h2 h3
          cases h
          exact ok_if (fun X hX tt ta tb q1 q2 q3 => pe_ifExp q1 q2 q3) (ihT _ _ h1) (ihE _ _ h2) (ihE _ _ h3)
        · cases h
      · split at h
        · rename_i g1 hG
          cases h
          exact snd_gsub gz ihE hG
        · exact snd_sub hK (fun X hX => (gz.g X hX).here) ihE h
      · rename_i v1 v2 vs pos
        cases hr : trFs ((trX n).1 tc) (v1 :: v2 :: vs) with
        | none => rw [hr] at h; cases h
        | some fs => rw [hr] at h; cases h; exact ok_fs (snd_fs ihE hr)
      · rename_i x xp as pos
        split at h
        · rename_i g1 hD
          cases h
          exact snd_callDD gz ihE hD
        · split at h
          · rename_i g1 hL
            cases h
            split at hL
            · rename_i hc
              rw [Bool.and_eq_true, Bool.and_eq_true] at hc
              obtain ⟨⟨hx, hg⟩, hb⟩ := hc
              have hx := of_decide_eq_true hx
              subst hx
              exact snd_lrng gz ihE hg hb hL
            · cases hL
          · split at h
            · rename_i g1 hV
              cases h
              exact snd_callV gz ihE hV
            · exact snd_callN gz ihE h
      · exact snd_callKK gz ihE h
      · split at h
        · rename_i g1 hT
          cases h
          exact snd_tix gz ihE hT
        · split at h
          · rename_i g2 hD
            cases h
            exact snd_dg gz ihE hD
          · exact snd_meth gz ihE h
      · rename_i elt gens scope pos
        by_cases hk : fnKind scope.kind = true
        · obtain ⟨bE, bT⟩ := snd_x n (gz.blk hk)
          split at h
          · rename_i g1 h2
            cases h
            obtain ⟨t, q1, q2⟩ := snd_comp2 (pos := pos) gz ihE bE bT h2
            exact ⟨t, fun X hX => (q1 X hX).1, q2⟩
          · obtain ⟨t, q1, q2⟩ := snd_comp (pos := pos) gz ihE bE bT h
            exact ⟨t, fun X hX => (q1 X hX).1, q2⟩
        · exfalso
          have kb : ∀ b : Bool, (blkB tc scope && b) = true → False := fun b hb => by
            rw [Bool.and_eq_true] at hb
            have := hb.1
            unfold blkB at this
            rw [Bool.and_eq_true, Bool.and_eq_true] at this
            exact hk this.1.1
          split at h
          · rename_i g1 h2
            unfold trComp2 at h2
            split at h2
            · split at h2
              · rename_i hb
                exact kb _ hb
              · cases h2
            · cases h2
          · unfold trComp at h
            split at h
            · split at h
              · rename_i hb
                exact kb _ hb
              · cases h
            · cases h
      · unfold trDsp at h
        split at h
        · cases h
          exact ok_dnew
        · exact snd_dct ihE h
      · cases h
    refine ⟨main, fun e t h => ?_⟩
    unfold trX at h
    dsimp only at h
    split at h
    · rename_i a pos
      cases ha : (trX n).2 tc a with
      | none => rw [ha] at h; cases h
      | some x => rw [ha] at h; cases h; exact ok_tnot (fun X hX t q => pt_not q) (ihT _ _ ha)
    · obtain ⟨t, p1, s1⟩ := snd_andT ihT (pos := _) h
      exact ⟨t, fun X hX => (p1 X hX).pt, s1⟩
    · obtain ⟨t, p1, s1⟩ := snd_orT ihT (pos := _) h
      exact ⟨t, fun X hX => (p1 X hX).pt, s1⟩
    · rename_i a ops cs pos
      split at h
      · rename_i g1 hG
        cases h
        exact (snd_gin gz ihE hG).2
      · cases ha : trCmp ((trX n).1 tc) a ops cs with
        | none => rw [ha] at h; cases h
        | some x => rw [ha] at h; cases h; exact (snd_cmp gz ihE ha).2
    · cases h
    · rename_i h1 h2 h3 h4 h5
      cases ha : (trX n).1 tc e with
      | none => rw [ha] at h; cases h
      | some x =>
        rw [ha] at h
        cases h
        refine ok_tval (fun X hX ta q => ?_) (ihE _ _ ha)
        rw [← hK X hX]
        exact pt_truth q (plain_test h1 (fun op es pos e1 => by
          cases op
          · exact h2 es pos e1
          · exact h3 es pos e1) h4 h5 X.env)
end
end Mi

set_option Elab.async false
set_option linter.all false
set_option maxRecDepth 100000
set_option maxHeartbeats 2000000
/-! Mi: statements. -/
namespace Mi
open PySem L2
def isComp : Expr → Bool
  | .ListComp _ _ _ _ => true
  | .SetComp _ _ _ _ => true
  | .DictComp _ _ _ _ _ => true
  | _ => false
def isTupE : Expr → Bool
  | .Tuple _ _ _ => true
  | _ => false
/-- is a comprehension stored within its own block -/
def swB (tc : Tc) (x : Str) (py pos : Pos) (scope : Scope) : Bool := decide (tc.sc.names.lookup x = some .local) && py.line == pos.line && !(scope.names.any fun (n, k) => n == x && (k == .local || k == .cell))
def trB (f : Stmt → Option SS) : List Stmt → Option SS
  | [] => some sNil
  | s :: ss => match f s, trB f ss with
    | some x, some y => some (sCons x y)
    | _, _ => none
def augOp : Operator → Option BOp
  | .Add => some .add
  | .Sub => some .sub
  | _ => none
def trAsg (n : Nat) (tc : Tc) (io : Nat → Bool) (tg e : Expr) : Option SS := match tg with
  | .Name x _ => match tc.store x with
    | some i => if io i then none else ((trX n).1 tc e).map (sSet i)
    | none => none
  | .Tuple _ _ _ => if isTupE e then none else match trG tc io 5 tg, (trX n).1 tc e with
    | some g, some x => some (sUnp g x)
    | _, _ => none
  | .Subscript (.Name x _) k _ => if notSlice k && !isComp e then match tc.slot x, (trX n).1 tc k, (trX n).1 tc e with
    | some i, some kk, some x => some (sSetIx i kk x)
    | _, _, _ => none
    else none
  | _ => none
def trFor (n : Nat) (tc : Tc) (io : Nat → Bool) (tg iter : Expr) (body : (Nat → Bool) → Option SS) : Option SS := match trEn tc ((trX n).1 tc) tg iter with
  | some it => match trG tc io 5 tg, body io with
    | some g, some b => some (sFor it g b)
    | _, _ => none
  | none => match iter with
  | .Name x _ => match tc.slot x with
    | some i => match trG tc (fun j => io j || j == i) 5 tg, body (fun j => io j || j == i) with
      | some g, some b => some (sForV i g b)
      | _, _ => none
    | none => match trI tc ((trX n).1 tc) iter, trG tc io 5 tg, body io with
      | some it, some g, some b => some (sFor it g b)
      | _, _, _ => none
  | iter => match trI tc ((trX n).1 tc) iter, trG tc io 5 tg, body io with
    | some it, some g, some b => some (sFor it g b)
    | _, _, _ => none
/-- raise c(e) -/
def trRaise (tc : Tc) (f : TrE) (c : Str) (a : Expr) : Option SS := match tc.xc c with
  | some (wd, fn) => if glB tc.sc c && plainN c then (trA f [a]).map (sRaise c wd fn) else none
  | none => none
def trHPs (tc : Tc) (c n : Str) : List Expr → Option (List HP)
  | [] => some []
  | .Constant (.str s) _ _ :: es => (trHPs tc c n es).map (.cst (.str s) :: ·)
  | .Attribute (.Name x _) f _ :: es => if x = n then (trHPs tc c n es).map (.fld f :: ·) else none
  | .Call (.Name f _) [.Name x _, .Name y _] [] _ :: es => if f = "isinstance" ∧ x = n ∧ (glB tc.sc f && tc.bl f && glB tc.sc y && plainN y) = true then match tc.xi.find? (fun q => decide (q.1 = (c, y))) with
      | some q => (trHPs tc c n es).map (.isx y q.2 :: ·)
      | none => none
    else none
  | _ => none
def hpFields : List HP → List Str
  | [] => []
  | .fld f :: hs => f :: hpFields hs
  | _ :: hs => hpFields hs
def locB (sc : Scope) (x : Str) : Bool := match sc.names.lookup x with
  | some .local => true
  | _ => false
/-- the row of a handler: where it goes, its parts -/
def trHd (tc : Tc) (io : Nat → Bool) (c n : Str) (i : Nat) : Stmt → Option (Option Nat × List HP)
  | .Assign [.Name y _] (.Tuple es _ _) _ => match tc.store y with
    | some j => if io j || j == i then none else (trHPs tc c n es).map fun hs => (some j, hs)
    | none => none
  | .Return (some (.Tuple es _ _)) _ => (trHPs tc c n es).map fun hs => (none, hs)
  | _ => none
def trTry (tc : Tc) (io : Nat → Bool) (c n : Str) (st : Stmt) (b : Option SS) : Option SS := match tc.xc c, tc.store n, b with
  | some (wd, fn), some i, some body => if glB tc.sc c && plainN c && locB tc.sc n && !io i then match trHd tc io c n i st with
      | some (o, hs) => if (hpFields hs).all fun f => decide (f = fn) || decide (f = "word") then some (sTry body c i o hs) else none
      | none => none
    else none
  | _, _, _ => none
def isStar : Expr → Bool
  | .Starred _ _ => true
  | _ => false
/-- names beside one another that are stored from the right -/
def parB (tc : Tc) (xs : List Str) (l : List Nat) (vs : List Expr) : Bool := xs.all (fun x => locB tc.sc x) && l.all (fun k => k == l.headD 0) && !(vs.any isStar) && !(vs.all (foldedForSure 8)) && !(vs.all (constantsAlone 8))
def trPar (n : Nat) (tc : Tc) (io : Nat → Bool) : Stmt → Option SS
  | .Assign [.Tuple [.Name x px, .Name y py] _ _] (.Tuple [a, b] _ _) _ => match tc.store x, tc.store y, trA ((trX n).1 tc) [a, b] with
    | some i, some j, some f => if parB tc [x, y] [px.line, py.line] [a, b] && decide (x ≠ y) && !io i && !io j then some (sPar i j f) else none
    | _, _, _ => none
  | .Assign [.Tuple [.Name x px, .Name y py, .Name z pz] _ _] (.Tuple [a, b, c] _ _) _ => match tc.store x, tc.store y, tc.store z, trA ((trX n).1 tc) [a, b, c] with
    | some i, some j, some l, some f => if parB tc [x, y, z] [px.line, py.line, pz.line] [a, b, c] && decide (x ≠ y ∧ x ≠ z ∧ y ≠ z) && !io i && !io j && !io l then some (sPar3 i j l f) else none
    | _, _, _, _ => none
  | .Assign [.Name x _, .Name y _] e _ => match tc.store x, tc.store y, (trX n).1 tc e with
    | some i, some j, some f => if !io i && !io j then some (sSet2 i j f) else none
    | _, _, _ => none
  | _ => none
def trS (n : Nat) (tc : Tc) : Nat → (Nat → Bool) → Stmt → Option SS
  | 0, _, _ => none
  | m + 1, io, st => match st with
    | .Pass _ => some sPass
    | .Break _ => some sBrk
    | .Continue _ => some sCont
    | .Return none _ => some sRetN
    | .Return (some e) _ => ((trX n).1 tc e).map sRet
    | .Expr e _ => if isComp e then none else ((trX n).1 tc e).map sExpr
    | .If c a b _ => match (trX n).2 tc c, trB (trS n tc m io) a, trB (trS n tc m io) b with
      | some t, some x, some y => some (sIf t x y)
      | _, _, _ => none
    | .Raise (some (.Call (.Name c _) [a] [] _)) none _ => trRaise tc ((trX n).1 tc) c a
    | .Try body [.ExceptHandler (some (.Name c _)) (some x) [st] _] [] [] _ => trTry tc io c x st (trB (trS n tc m io) body)
    | .Assign [.Tuple [.Name x _, .Starred (.Name y _) _] _ _] e _ => match tc.store x, tc.store y, (trX n).1 tc e with
      | some i, some j, some f => if io i || io j || isTupE e || isComp e then none else some (sUnpS i j f)
      | _, _, _ => none
    | .Assign [tg] e ps => match trPar n tc io (.Assign [tg] e ps) with
      | some g => some g
      | none => trAsg n tc io tg e
    | .Assign ts e ps => trPar n tc io (.Assign ts e ps)
    | .While c b [] _ => match (trX n).2 tc c, trB (trS n tc m io) b with
      | some t, some x => some (sWhile t x)
      | _, _ => none
    | .AugAssign (.Name x _) op e _ => match tc.store x, augOp op, (trX n).1 tc e with
      | some i, some o, some f => if io i then none else some (sAug o i f)
      | _, _, _ => none
    | .For tg iter body [] _ => trFor n tc io tg iter fun io' => trB (trS n tc m io') body
    | _ => none
section
variable {P : Program} {w : World} {base : Heap} {tc : Tc} {Z : Jd} {lv : Nat} {p : Pg}
theorem sw_false {e : Expr} (h : isComp e = false) (t : Option Expr) (l : Nat) (env : PySem.Env) : swapsWith e t l env = pure false := by
  cases e <;> first | rfl | (simp [isComp] at h; done)
theorem sw_tup {e : Expr} {ts : List Expr} {k : Nat} {pos : Pos} (l : Nat) (env : PySem.Env) : swapsWith e (some (.Tuple ts k pos)) l env = pure false := by
  cases e <;> rfl
theorem sw_sub {e o i : Expr} {pos : Pos} (l : Nat) (env : PySem.Env) : swapsWith e (some (.Subscript o i pos)) l env = pure false := by
  cases e <;> rfl
theorem st_none {e : Expr} {ts : List Expr} {k : Nat} {pos : Pos} (h : isTupE e = false) (env : PySem.Env) : swappedStores [.Tuple ts k pos] e env = pure none := by
  cases e <;> first | rfl | (simp [isTupE] at h; done)
theorem st_sub {e o i : Expr} {pos : Pos} (env : PySem.Env) : swappedStores [.Subscript o i pos] e env = pure none := by
  cases e <;> rfl
theorem snd_b {io : Nat → Bool} {f : Stmt → Option SS} (hf : ∀ s x, f s = some x → OkS Z io s (x p)) : ∀ {ss : List Stmt} {g : SS}, trB f ss = some g → OkB Z io ss (g p)
  | [], g, h => by cases h; exact oks_nil
  | s :: ss, g, h => by
    unfold trB at h
    split at h
    · rename_i x y h1 h2
      cases h
      exact oks_cons (hf s x h1) (snd_b hf h2)
    · cases h
theorem snd_asg (gz : Gz P w base tc Z lv p) {n : Nat} {io : Nat → Bool} {tg e : Expr} {pos : Pos} {g : SS} (h : trAsg n tc io tg e = some g) : OkS Z io (.Assign [tg] e pos) (g p) := by
  obtain ⟨ihE, ihT⟩ := snd_x (p := p) n gz
  unfold trAsg at h
  split at h
  · rename_i x py
    split at h
    · rename_i i hi
      split at h
      · cases h
      · rename_i hio
        cases he : (trX n).1 tc e with
        | none => rw [he] at h; cases h
        | some f =>
          rw [he] at h
          cases h
          have hio' : io i = false := by simpa using hio
          by_cases hc : isComp e = false
          · refine ok_set hio' (fun X hX t q => ?_) (ihE e f he)
            obtain ⟨a1, a2, a3⟩ := (gz.g X hX).store hi
            exact ps_set (gz.g X hX).ndX a1 a2 q (sw_false hc _ _ _) a3
          · -- a comprehension
            cases n with
            | zero => cases he
            | succ n =>
              cases e <;> first | (simp [isComp] at hc; done) | skip
              all_goals (unfold trX at he; dsimp only at he)
              · rename_i elt gens scope cpos
                obtain ⟨oE, oT⟩ := snd_x (p := p) n gz
                have kb : ∀ b : Bool, (blkB tc scope && b) = true → fnKind scope.kind = true := fun b hb => by
                  rw [Bool.and_eq_true] at hb
                  have := hb.1
                  unfold blkB at this
                  rw [Bool.and_eq_true, Bool.and_eq_true] at this
                  exact this.1.1
                have hq : OkEP Z (PhC (.ListComp elt gens scope cpos)) (f p) := by
                  split at he
                  · rename_i g1 h2
                    cases he
                    have hk : fnKind scope.kind = true := by
                      unfold trComp2 at h2
                      split at h2
                      · split at h2
                        · rename_i hb; exact kb _ hb
                        · cases h2
                      · cases h2
                    obtain ⟨bE, bT⟩ := snd_x (p := p) n (gz.blk hk)
                    exact snd_comp2 (pos := cpos) gz oE bE bT h2
                  · have hk : fnKind scope.kind = true := by
                      unfold trComp at he
                      split at he
                      · split at he
                        · rename_i hb; exact kb _ hb
                        · cases he
                      · cases he
                    obtain ⟨bE, bT⟩ := snd_x (p := p) n (gz.blk hk)
                    exact snd_comp (pos := cpos) gz oE bE bT he
                obtain ⟨t, q1, q2⟩ := hq
                have kx : ∀ X, Z.G X → X.env.blockKind = .function := fun X hX => by unfold Env.blockKind; rw [(gz.g X hX).kind]; rfl
                by_cases hs : swB tc x py cpos scope = true
                · unfold swB at hs
                  rw [Bool.and_eq_true, Bool.and_eq_true] at hs
                  obtain ⟨⟨s1, s2⟩, s3⟩ := hs
                  have s1 := of_decide_eq_true s1
                  refine ok_set0 hio' (fun X hX => ?_) q2
                  obtain ⟨a1, a2, a3⟩ := (gz.g X hX).store hi
                  have hl := (gz.g X hX).fl x s1
                  exact (q1 X hX).2 x py pos i a1 hl (sw_true (gz.g X hX).kind hl s2 (by simpa using s3))
                · refine ok_set hio' (fun X hX t' q' => ?_) ⟨t, fun X hX => (q1 X hX).1, q2⟩
                  have g := gz.g X hX
                  obtain ⟨a1, a2, a3⟩ := g.store hi
                  refine ps_set g.ndX a1 a2 q' ?_ a3
                  show swapsWith (.ListComp elt gens scope cpos) (some (.Name x py)) pos.line X.env = pure false
                  unfold swapsWith
                  show (pure (X.env.blockKind == .function && X.env.kindOf x == some .local && py.line == cpos.line && !(scope.names.any fun (n, k) => n == x && (k == .local || k == .cell))) : Sem Bool) = pure false
                  congr 1
                  rw [kx X hX]
                  have hkf : X.env.kindOf x = X.env.scope.names.lookup x := rfl
                  rw [hkf]
                  unfold Tc.store at hi
                  split at hi
                  · rename_i hv
                    rw [Bool.and_eq_true] at hv
                    have hv1 := hv.1
                    unfold asgB at hv1
                    split at hv1
                    · rename_i hloc
                      rw [g.fl x hloc]
                      have : ¬ (py.line == cpos.line && !(scope.names.any fun (n, k) => n == x && (k == .local || k == .cell))) = true := fun z => hs (by
                        unfold swB
                        rw [decide_eq_true hloc]
                        rw [Bool.and_eq_true] at z
                        rw [z.1, z.2]; rfl)
                      have := Bool.eq_false_iff.mpr this
                      rw [show ((ScopeKind.function == ScopeKind.function) = true) from rfl, show ((some NameKind.local == some NameKind.local) = true) from rfl, Bool.true_and, Bool.true_and]
                      exact this
                    · rename_i hcell
                      rw [g.fc x hcell]
                      rfl
                    · cases hv1
                  · cases hi
              · cases he
              · cases he
    · cases h
  · rename_i ts k tp
    split at h
    · cases h
    · rename_i ht
      split at h
      · rename_i gg f h1 h2
        cases h
        obtain ⟨gt, pg, sg⟩ := snd_g gz h1
        refine ok_unp sg (fun X hX t q => ?_) (ihE e f h2)
        exact ps_asg q (pg X hX) (show swapsWithSole [.Tuple ts k tp] e pos.line X.env = pure false from sw_tup (ts := ts) (k := k) (pos := tp) pos.line X.env) (st_none (by simpa using ht) _) (by rw [each_plain rfl]; rfl)
      · cases h
  · rename_i x xp k sp
    split at h
    · rename_i hs
      rw [Bool.and_eq_true] at hs
      split at h
      · rename_i i kk f h1 h2 h3
        cases h
        refine ok_setix (fun X hX ta tk q1 q2 => ?_) (ihE e f h3) (ihE k kk h2)
        rw [← (gz.g X hX).eK]
        refine ps_asg q1 (pg_sub ((gz.g X hX).slot h1 xp) q2 (set_any (gz.g X hX).here) fun v => ?_) (show swapsWithSole [.Subscript (.Name x xp) k sp] e pos.line X.env = pure false from sw_sub (o := .Name x xp) (i := k) (pos := sp) pos.line X.env) (st_sub _) (by rw [each_plain rfl]; rfl)
        have hk := hs.1
        cases k <;> first | rfl | (simp [notSlice] at hk; done)
      · cases h
    · cases h
  · cases h
/-! ### op= -/
def rAugAdd : TIp := fun x y H Q => rI0 (fun i j => .int (i + j)) x y H Q ∨ ∃ i j, x = .str i ∧ y = .str j ∧ i.length + j.length ≤ sizeLine ∧ Q (.str (i ++ j)) H
theorem Gz.tr (gz : Gz P w base tc Z lv p) (W : WX) : Gz P w base tc (Z.tr W) lv p where
  g := by
    rintro Y ⟨X, pn, xe, hX, rfl, tk, pw⟩
    have g := gz.g X hX
    exact ⟨g.prog, g.wd, g.bs, g.eK, g.emg, g.eN, g.nd, g.calm, g.kind, g.fl, g.fc, g.ff, g.fg, g.fn, g.room, tk, pw, g.mP, g.mw⟩
  md := ⟨gz.md.fns, gz.md.fnd, gz.md.fnk, gz.md.blt, gz.md.gls, gz.md.dcs, gz.md.dcm, gz.md.xcs, gz.md.fvs, gz.md.lvl, gz.md.xis, gz.md.tus⟩
def gNm (tc : Tc) (y : Str) : Prop := (glB tc.sc y && plainN y) = true
theorem hps_ok (gz : Gz P w base tc Z lv p) {C : Addr} {c n : Str} (hc : Z.mg c = some (.ref C)) : ∀ {es : List Expr} {hs : List HP}, trHPs tc c n es = some hs → (∀ f ∈ hpFields hs, PySem.W.findIn Z.K (.ref C) f = some none) → HPok Z.K Z.mg (gNm tc) C n es hs
  | [], hs, h, _ => by
    cases h
    exact .nil
  | e :: es, hs, h, hf => by
    unfold trHPs at h
    split at h
    · rename_i hh
      cases hh
    · rename_i s0 j q es' hh
      cases hh
      cases hr : trHPs tc c n es with
      | none => rw [hr] at h; cases h
      | some xs => rw [hr] at h; cases h; exact .cst (hps_ok gz hc hr hf)
    · rename_i x q1 f q2 es' hh
      cases hh
      split at h
      · rename_i hx
        subst hx
        cases hr : trHPs tc c x es with
        | none => rw [hr] at h; cases h
        | some xs => rw [hr] at h; cases h; exact .fld (hf f (List.mem_cons_self ..)) (hps_ok gz hc hr fun z hz => hf z (List.mem_cons_of_mem _ hz))
      · cases h
    · rename_i f q1 x q2 y q3 q4 es' hh
      cases hh
      split at h
      · rename_i hx
        obtain ⟨rfl, rfl, hx⟩ := hx
        rw [Bool.and_eq_true, Bool.and_eq_true, Bool.and_eq_true] at hx
        obtain ⟨⟨⟨x1, x2⟩, x3⟩, x4⟩ := hx
        split at h
        · rename_i q hq
          cases hr : trHPs tc c x es with
          | none => rw [hr] at h; cases h
          | some xs =>
            rw [hr] at h
            cases h
            have hm := List.mem_of_find?_eq_some hq
            have he : q.1 = (c, y) := by have := List.find?_some hq; simpa using this
            obtain ⟨C', Y, m1, m2, ic⟩ := gz.md.xis q hm
            rw [he] at m1 m2
            rw [hc] at m1
            cases m1
            exact .isx ic (by unfold gNm; rw [x1]; decide +kernel) (gz.md.blt _ x2) (by unfold gNm; rw [x3, x4]; rfl) m2 (plainN_of x4).1 (hps_ok gz hc hr hf)
        · cases h
      · cases h
    · cases h
def FrO (Z : Jd) : Prop := ∀ X, Z.G X → X.stack = X.env :: X.outer ∧ X.env.frame = some X.env.locals
theorem FrO.tr (fr : FrO Z) (W : WX) : FrO (Z.tr W) := by
  rintro Y ⟨X, pn, xe, hX, rfl, tk, pw⟩
  exact fr X hX
theorem snd_raise (gz : Gz P w base tc Z lv p) {f : TrE} (hf : ∀ e x, f e = some x → OkE Z e (x p)) {io : Nat → Bool} {c : Str} {a : Expr} {g : SS} {p1 p2 p3 : Pos} (h : trRaise tc f c a = some g) : OkS Z io (.Raise (some (.Call (.Name c p1) [a] [] p2)) none p3) (g p) := by
  unfold trRaise at h
  split at h
  · rename_i wd fn hx
    split at h
    · rename_i hc
      rw [Bool.and_eq_true] at hc
      cases ha : trA f [a] with
      | none => rw [ha] at h; cases h
      | some ga =>
        rw [ha] at h
        cases h
        obtain ⟨oka, hst, hn⟩ := snd_args hf ha
        obtain ⟨C, fI, fd, m1, T, no1, no2, iC, tI, F1, hb, xf, ex⟩ := (gz.md.xcs c wd fn hx).ex
        refine ok_raise m1 T no1 no2 (fun h3 X hX t q => ?_) (fun X hX => ⟨(gz.g X hX).calm, (gz.g X hX).tk⟩) oka
        have g := gz.g X hX
        have hr : Room 3 X.A := g.room.mono (by rw [← gz.md.lvl]; exact h3)
        have h0 : Passes (L2.CX X.prog X.w) X (fun _ _ _ => False) := fun pins σ H s u s' I z => no_exc rfl rfl pins H s u s' I z
        have e1 := g.eK
        have e2 := g.emg
        have e3 := g.prog
        have e4 := g.wd
        have e5 := g.bs
        rw [← e1] at T iC tI hb ⊢
        exact pmk_oex (CX := L2.CX X.prog X.w) (k := 2) (fd := fd) (ps := ["self", fn]) (ds := []) (dvs := []) T iC tI (by rw [e1, e2, e3, e4, e5]; exact F1) hr hb .nil h0 (g.gl hc.1) (by rw [e2]; exact m1) q (plainN_of hc.2).1 (star_cons (hst a List.mem_cons_self) _) rfl
    · cases h
  · cases h
theorem snd_try (gz : Gz P w base tc Z lv p) (fr : FrO Z) {io : Nat → Bool} {c n : Str} {st : Stmt} {body : List Stmt} {b : Option SS} {g : SS} {p1 p2 p3 : Pos} (h : trTry tc io c n st b = some g) (hb : ∀ bb, b = some bb → ∀ W, OkB (Z.tr W) io body (bb p)) :
    OkS Z io (.Try body [.ExceptHandler (some (.Name c p1)) (some n) [st] p2] [] [] p3) (g p) := by
  have hK : ∀ X, Z.G X → X.K = Z.K := fun X hX => (gz.g X hX).eK
  have hM : ∀ X, Z.G X → X.mg = Z.mg := fun X hX => (gz.g X hX).emg
  have hG : ∀ X, Z.G X → ∀ y, gNm tc y → Gl X y := fun X hX y hy => by
    unfold gNm at hy
    rw [Bool.and_eq_true] at hy
    exact (gz.g X hX).gl hy.1
  unfold trTry at h
  split at h
  · rename_i wd fn i bb hx hi
    split at h
    · rename_i hc
      rw [Bool.and_eq_true, Bool.and_eq_true, Bool.and_eq_true] at hc
      obtain ⟨⟨⟨hg, hpl⟩, hloc⟩, hio⟩ := hc
      have hio' : io i = false := by simpa using hio
      obtain ⟨C, fI, fd, m1, T, no1, no2, iC, tI, F1, hbd, xf, ex⟩ := (gz.md.xcs c wd fn hx).ex
      split at h
      · rename_i o hs hhd
        split at h
        · rename_i hfs
          cases h
          have hno : ∀ f ∈ hpFields hs, PySem.W.findIn Z.K (.ref C) f = some none := fun f hf => by
            have := List.all_eq_true.mp hfs f hf
            rw [Bool.or_eq_true] at this
            rcases this with q | q
            · rw [of_decide_eq_true q]; exact no2
            · rw [of_decide_eq_true q]; exact no1
          have hX : ∀ X, Z.G X → X.stack = X.env :: X.outer ∧ X.env.frame = some X.env.locals ∧ X.N.Nodup ∧ X.N[i]? = some n ∧ X.env.kindOf n = some .local ∧ Names X c (.ref C) ∧ Takes X Z.W := fun X hX' => by
            have g := gz.g X hX'
            obtain ⟨a1, a2, a3⟩ := g.store hi
            refine ⟨(fr X hX').1, (fr X hX').2, g.ndX, a1, ?_, ⟨g.gl hg, (plainN_of hpl).1, .inl (by rw [g.emg]; exact m1)⟩, g.tk⟩
            show X.env.scope.names.lookup n = some .local
            unfold locB at hloc
            split at hloc
            · rename_i e; exact g.fl n e
            · cases hloc
          have hv : ∀ X, Z.G X → ∀ (a : Addr) (oe : Obj) (pn : List (Addr × Obj)) (q : Pos), PE (X.suite a ((a, oe) :: pn)) (.Name n q) (tVar i) := fun X hX' a oe pn q => by
            obtain ⟨_, _, _, a4, a5, _⟩ := hX X hX'
            have hp : plainN n = true := by
              unfold Tc.store at hi
              split at hi
              · rename_i z; rw [Bool.and_eq_true] at z; exact z.2
              · cases hi
            exact pe_var (X := X.suite a ((a, oe) :: pn)) a4 (.inl a5) (plainN_of hp).1 (plainN_of hp).2.1
          unfold trHd at hhd
          split at hhd
          · rename_i y yp es k ep sp
            split at hhd
            · rename_i j hj
              split at hhd
              · cases hhd
              · rename_i hjj
                cases hr : trHPs tc c n es with
                | none => rw [hr] at hhd; cases hhd
                | some hs' =>
                  rw [hr] at hhd
                  cases hhd
                  rw [Bool.or_eq_true, not_or] at hjj
                  refine ok_try (es := es) m1 xf hio' (fun j' e => by cases e; exact ⟨by simpa using hjj.1, by simpa using hjj.2⟩) hK ex (g := gNm tc) hG hM (hps_ok gz m1 hr hno) hX hv (fun X hX' a oe pn t q => ?_) (hb bb rfl)
                  obtain ⟨a1, a2, a3⟩ := (gz.g X hX').store hj
                  exact pss_one (ps_set (X := X.suite a ((a, oe) :: pn)) (gz.g X hX').ndX a1 a2 (pe_tup q) (sw_false rfl _ _ _) a3)
            · cases hhd
          · rename_i es k ep sp
            cases hr : trHPs tc c n es with
            | none => rw [hr] at hhd; cases hhd
            | some hs' =>
              rw [hr] at hhd
              cases hhd
              exact ok_try (es := es) m1 xf hio' (fun j' e => by cases e) hK ex (g := gNm tc) hG hM (hps_ok gz m1 hr hno) hX hv (fun X hX' a oe pn t q => pss_one (ps_ret (pe_tup q))) (hb bb rfl)
          · cases hhd
        · cases h
      · cases h
    · cases h
  · cases h
theorem star_no {vs : List Expr} (h : vs.any isStar = false) (f : Expr → Bool) (hf : ∀ e, f e = isStar e) : ¬ (vs.any f = true) := by
  rw [show f = isStar from funext hf, h]
  exact Bool.false_ne_true
theorem locB_of (gz : Gz P w base tc Z lv p) {X : Cx} (hX : Z.G X) {x : Str} (h : locB tc.sc x = true) : X.env.scope.names.lookup x = some .local := by
  unfold locB at h
  split at h
  · rename_i e; exact (gz.g X hX).fl x e
  · cases h
theorem ix_ne {X : Cx} {i j : Nat} {x y : Str} (h : x ≠ y) (hi : X.N[i]? = some x) (hj : X.N[j]? = some y) : i ≠ j := fun e => by
  subst e
  rw [hi] at hj
  exact h (Option.some.inj hj)
theorem stores2 {env : PySem.Env} {x y : Str} {px py pt pt2 : Pos} {kt k2 : Nat} {a b : Expr} (hb : env.blockKind = .function) (hx : env.scope.names.lookup x = some .local) (hy : env.scope.names.lookup y = some .local) (hl : py.line = px.line) (hn : x ≠ y) (h1 : [a, b].any isStar = false) (h2 : [a, b].all (foldedForSure 8) = false) (h3 : [a, b].all (constantsAlone 8) = false) :
    swappedStores [.Tuple [.Name x px, .Name y py] kt pt] (.Tuple [a, b] k2 pt2) env = pure (some [x, y]) := by
  unfold swappedStores
  dsimp only
  rw [if_neg (by simp [hb]), if_neg (star_no h1 _ fun e => by cases e <;> rfl), h2, h3]
  simp [Env.kindOf, hx, hy, hl, Expr.pos, List.filterMap, List.eraseDups, List.eraseDupsBy, List.eraseDupsBy.loop, hn, Ne.symm hn, beq_false_of_ne (Ne.symm hn)]
theorem stores3 {env : PySem.Env} {x y z : Str} {px py pz pt pt2 : Pos} {kt k2 : Nat} {a b c : Expr} (hb : env.blockKind = .function) (hx : env.scope.names.lookup x = some .local) (hy : env.scope.names.lookup y = some .local) (hz : env.scope.names.lookup z = some .local) (hl : py.line = px.line) (hl' : pz.line = px.line) (hn : x ≠ y) (hn' : x ≠ z) (hn'' : y ≠ z) (h1 : [a, b, c].any isStar = false) (h2 : [a, b, c].all (foldedForSure 8) = false) (h3 : [a, b, c].all (constantsAlone 8) = false) :
    swappedStores [.Tuple [.Name x px, .Name y py, .Name z pz] kt pt] (.Tuple [a, b, c] k2 pt2) env = pure (some [x, y, z]) := by
  unfold swappedStores
  dsimp only
  rw [if_neg (by simp [hb]), if_neg (star_no h1 _ fun e => by cases e <;> rfl), h2, h3]
  simp [Env.kindOf, hx, hy, hz, hl, hl', Expr.pos, List.filterMap, List.eraseDups, List.eraseDupsBy, List.eraseDupsBy.loop, hn, Ne.symm hn, hn', Ne.symm hn', hn'', Ne.symm hn'', beq_false_of_ne (Ne.symm hn), beq_false_of_ne (Ne.symm hn'), beq_false_of_ne (Ne.symm hn'')]
theorem snd_par (gz : Gz P w base tc Z lv p) {n : Nat} {io : Nat → Bool} {st : Stmt} {g : SS} (h : trPar n tc io st = some g) : OkS Z io st (g p) := by
  obtain ⟨ihE, ihT⟩ := snd_x (p := p) n gz
  have kx : ∀ X, Z.G X → X.env.blockKind = .function := fun X hX => by unfold Env.blockKind; rw [(gz.g X hX).kind]; rfl
  unfold trPar at h
  split at h
  · rename_i x px y py kt pt a b k2 pt2 pos
    split at h
    · rename_i i j f h1 h2 h3
      split at h
      · rename_i hc
        cases h
        simp only [Bool.and_eq_true, parB, List.all_cons, List.all_nil, Bool.and_true, Bool.not_eq_true', decide_eq_true_eq, List.headD_cons, beq_iff_eq] at hc
        obtain ⟨⟨⟨⟨⟨⟨⟨⟨c1, c2⟩, _, c3⟩, c4⟩, c5⟩, c6⟩, c7⟩, c8⟩, c9⟩ := hc
        refine ok_par c8 c9 (fun X hX t q => ?_) (snd_args ihE h3).1
        have g := gz.g X hX
        obtain ⟨a1, a2, a3⟩ := g.store h1
        obtain ⟨b1, b2, b3⟩ := g.store h2
        exact ps_par g.calm g.ndX a1 b1 (ix_ne c7 a1 b1) (locB_of gz hX c1) (locB_of gz hX c2) q (stores2 (kx X hX) (locB_of gz hX c1) (locB_of gz hX c2) c3 c7 c4 (by simpa using c5) (by simpa using c6)) (by rfl)
      · cases h
    · cases h
  · rename_i x px y py z pz kt pt a b c k2 pt2 pos
    split at h
    · rename_i i j l f h1 h2 h3 h4
      split at h
      · rename_i hc
        cases h
        simp only [Bool.and_eq_true, parB, List.all_cons, List.all_nil, Bool.and_true, Bool.not_eq_true', decide_eq_true_eq, List.headD_cons, beq_iff_eq] at hc
        obtain ⟨⟨⟨⟨⟨⟨⟨⟨⟨c1, c2, c2'⟩, _, c3, c3'⟩, c4⟩, c5⟩, c6⟩, c7, c7', c7''⟩, c8⟩, c9⟩, c10⟩ := hc
        refine ok_par3 c8 c9 c10 (fun X hX t q => ?_) (snd_args ihE h4).1
        have g := gz.g X hX
        obtain ⟨a1, a2, a3⟩ := g.store h1
        obtain ⟨b1, b2, b3⟩ := g.store h2
        obtain ⟨d1, d2, d3⟩ := g.store h3
        exact ps_par3 g.calm g.ndX a1 b1 d1 (ix_ne c7 a1 b1) (ix_ne c7' a1 d1) (ix_ne c7'' b1 d1) (locB_of gz hX c1) (locB_of gz hX c2) (locB_of gz hX c2') q (stores3 (kx X hX) (locB_of gz hX c1) (locB_of gz hX c2) (locB_of gz hX c2') c3 c3' c7 c7' c7'' c4 (by simpa using c5) (by simpa using c6)) (by rfl)
      · cases h
    · cases h
  · rename_i x px y py e pos
    split at h
    · rename_i i j f h1 h2 h3
      split at h
      · rename_i hc
        cases h
        rw [Bool.and_eq_true] at hc
        refine ok_set2 (by simpa using hc.1) (by simpa using hc.2) (fun X hX t q => ?_) (ihE e f h3)
        have g := gz.g X hX
        obtain ⟨a1, a2, a3⟩ := g.store h1
        obtain ⟨b1, b2, b3⟩ := g.store h2
        exact ps_asg2 q (pg_name (pos := px) g.ndX a1 a2 a3) (pg_name (pos := py) g.ndX b1 b2 b3) (by rfl) (by cases e <;> rfl)
      · cases h
    · cases h
  · cases h
theorem snd_s' {n : Nat} : ∀ (m : Nat) {Z : Jd}, Gz P w base tc Z lv p → FrO Z → ∀ {io : Nat → Bool} {st : Stmt} {g : SS}, trS n tc m io st = some g → OkS Z io st (g p)
  | 0, _, _, _, _, _, _, h => by cases h
  | m + 1, Z, gz, fr, io, st, g, h => by
    obtain ⟨ihE, ihT⟩ := snd_x (p := p) n gz
    have hK : ∀ X, Z.G X → X.K = Z.K := fun X hX => (gz.g X hX).eK
    unfold trS at h
    split at h
    · cases h; exact ok_pass
    · cases h; exact ok_brk
    · cases h; exact ok_cont
    · cases h; exact ok_retN
    · rename_i e pos
      cases he : (trX n).1 tc e with
      | none => rw [he] at h; cases h
      | some f => rw [he] at h; cases h; exact ok_ret (ihE e f he)
    · rename_i e pos
      split at h
      · cases h
      · rename_i hc
        cases he : (trX n).1 tc e with
        | none => rw [he] at h; cases h
        | some f =>
          rw [he] at h
          cases h
          exact ok_expr (fun X hX t q => ps_expr q (sw_false (by simpa using hc) _ _ _)) (ihE e f he)
    · split at h
      · rename_i t x y h1 h2 h3
        cases h
        exact ok_ifs (ihT _ _ h1) (snd_b (fun s x => snd_s' m gz fr) h2) (snd_b (fun s x => snd_s' m gz fr) h3)
      · cases h
    · exact snd_raise gz ihE h
    · refine snd_try gz fr h fun bb hbb W => ?_
      exact snd_b (fun s x => snd_s' m (gz.tr W) (fr.tr W)) hbb
    · rename_i x xp y yp sp k tp e pos
      split at h
      · rename_i i j f h1 h2 h3
        split at h
        · cases h
        · rename_i hc
          cases h
          rw [Bool.or_eq_true, Bool.or_eq_true, Bool.or_eq_true, not_or, not_or, not_or] at hc
          obtain ⟨⟨⟨c1, c2⟩, c3⟩, c4⟩ := hc
          refine ok_unps (by simpa using c1) (by simpa using c2) (fun X hX t q => ?_) (ihE e f h3)
          have g := gz.g X hX
          obtain ⟨a1, a2, a3⟩ := g.store h1
          obtain ⟨b1, b2, b3⟩ := g.store h2
          have pg := pg_star (X := X) (k := k) (p3 := sp) (pos := tp) g.calm (pg_name (pos := xp) g.ndX a1 a2 a3) (pg_name (pos := yp) g.ndX b1 b2 b3)
          rw [g.eK] at pg
          exact ps_asg q pg (show swapsWithSole [.Tuple [.Name x xp, .Starred (.Name y yp) sp] k tp] e pos.line X.env = pure false from sw_tup (ts := [.Name x xp, .Starred (.Name y yp) sp]) (k := k) (pos := tp) pos.line X.env) (st_none (by simpa using c3) _) (by rw [each_plain rfl]; rfl)
      · cases h
    · split at h
      · rename_i g' hg'
        cases h
        exact snd_par gz hg'
      · exact snd_asg gz h
    · exact snd_par gz h
    · rename_i c b pos
      split at h
      · rename_i t x h1 h2
        cases h
        exact ok_while (fun X hX tc tb q1 q2 => ps_while (gz.g X hX).pass q1 q2) (ihT _ _ h1) (snd_b (fun s x => snd_s' m gz fr) h2)
      · cases h
    · rename_i x xp op e pos
      split at h
      · rename_i i o f h1 h2 h3
        split at h
        · cases h
        · rename_i hio
          cases h
          have hio' : io i = false := by simpa using hio
          have go : ∀ {ti : TIp}, (∀ X : Cx, PIp X op ti) → OpS Z.K Z.mg ti (augD o) → (o = .add → ∀ x y H Q, rIaddL x y H Q → ti x y H Q) → OkS Z io (.AugAssign (.Name x xp) op e pos) (sAug o i f p) := fun {ti} hp ho hl =>
            ok_aug hio' ho hl (fun X hX t q => by
              obtain ⟨a1, a2, a3⟩ := (gz.g X hX).store h1
              exact ps_aug (gz.g X hX).ndX a1 a2 q (hp X) a3) (ihE e f h3)
          unfold augOp at h2
          split at h2
          · cases h2
            refine go (ti := fun x y H Q => rAugAdd x y H Q ∨ rIaddL x y H Q) (fun X => pip_or (iop_add.or iop_add_str) pip_iaddL) (fun F H x y v u c Q hx hy ex hc new => ?_) fun _ x y H Q z => .inr z
            cases x <;> cases y <;> first | (simp [augD] at hc; done) | skip
            all_goals simp only [augD] at hc
            · cases hc
              cases hx.int; cases hy.int
              exact .inl (.inl ⟨_, _, rfl, rfl, new.flat (.int _)⟩)
            · obtain ⟨hz, rfl⟩ := ite_some hc
              cases hx.str; cases hy.str
              exact .inl (.inr ⟨_, _, rfl, rfl, szOk_le hz, new.flat (.str _)⟩)
          · cases h2
            refine go (ti := rI0 fun i j => .int (i - j)) (fun X => iop_sub) (fun F H x y v u c Q hx hy ex hc new => ?_) fun z => by cases z
            cases x <;> cases y <;> first | (simp [augD] at hc; done) | skip
            simp only [augD] at hc
            cases hc
            cases hx.int; cases hy.int
            exact ⟨_, _, rfl, rfl, new.flat (.int _)⟩
          · cases h2
      · cases h
    · rename_i tg iter body pos
      unfold trFor at h
      have gen : ∀ {it : SI} {g : SG} {b : SS}, trI tc ((trX n).1 tc) iter = some it → trG tc io 5 tg = some g → trB (trS n tc m io) body = some b → OkS Z io (.For tg iter body [] pos) (sFor it g b p) := fun {it g b} q1 q2 q3 => by
        obtain ⟨gt, pg, sg⟩ := snd_g gz q2
        obtain ⟨oki, hns⟩ := snd_i (tg := tg) gz ihE q1
        exact ok_for sg (fun X hX wi tb r1 r2 => ps_for (gz.g X hX).pass (gz.g X hX).calm r1 (pg X hX) r2 (folded_of hns X.env)) oki (snd_b (fun s x => snd_s' m gz fr) q3)
      split at h
      · rename_i it hen
        split at h
        · rename_i g b q2 q3
          cases h
          obtain ⟨gt, pg, sg⟩ := snd_g gz q2
          obtain ⟨oki, hns⟩ := snd_en gz ihE hen
          exact ok_for sg (fun X hX wi tb r1 r2 => ps_for (gz.g X hX).pass (gz.g X hX).calm r1 (pg X hX) r2 (folded_of hns X.env)) oki (snd_b (fun s x => snd_s' m gz fr) q3)
        · cases h
      split at h
      · rename_i x xp _
        split at h
        · rename_i i hi
          split at h
          · rename_i gg b q2 q3
            cases h
            obtain ⟨gt, pg, sg⟩ := snd_g gz q2
            have ok1 : OkS Z (fun j => io j || j == i) (.For tg (.Name x xp) body [] pos) (sForV i gg b p) :=
              ok_forv hK (by simp) sg (fun X hX wi tb r1 r2 => ps_for (gz.g X hX).pass (gz.g X hX).calm r1 (pg X hX) r2 (folded_of rfl X.env)) (fun X hX => (gz.g X hX).slot hi xp) (snd_b (fun s x => snd_s' m gz fr) q3)
            obtain ⟨t, p1, s1⟩ := ok1
            refine ⟨t, p1, fun r σ F H cs R D rv s po => s1 r σ F H cs R D rv s ?_⟩
            have wk : ∀ σ', Pin (fun j => io j || j == i) σ σ' → Pin io σ σ' := fun σ' pn => ⟨pn.len, fun j hj => pn.get j (by simp [hj])⟩
            cases ef : sForV i gg b p r with
            | bad => rw [ef] at po; exact po
            | exn x r1 => rw [ef] at po; exact fun σ2 F2 H2 cls d k cs e2 rx rv p2 s => po σ2 F2 H2 cls d k cs e2 rx rv (wk _ p2) s
            | ok fl r1 =>
              rw [ef] at po
              cases fl with
              | nx => exact fun σ2 F2 H2 cs e2 rv p2 s => po σ2 F2 H2 cs e2 rv (wk _ p2) s
              | brk => exact fun σ2 F2 H2 cs e2 rv p2 s => po σ2 F2 H2 cs e2 rv (wk _ p2) s
              | ct => exact fun σ2 F2 H2 cs e2 rv p2 s => po σ2 F2 H2 cs e2 rv (wk _ p2) s
              | ret c => exact fun σ2 F2 H2 v k cs e2 rc rv p2 s => po σ2 F2 H2 v k cs e2 rc rv (wk _ p2) s
          · cases h
        · split at h
          · rename_i it g b q1 q2 q3
            cases h
            exact gen q1 q2 q3
          · cases h
      · split at h
        · rename_i it g b q1 q2 q3
          cases h
          exact gen q1 q2 q3
        · cases h
    · cases h
theorem snd_s (gz : Gz P w base tc Z lv p) (fr : FrO Z) {n m : Nat} {io : Nat → Bool} {st : Stmt} {g : SS} (h : trS n tc m io st = some g) : OkS Z io st (g p) := snd_s' m gz fr h
end
end Mi

set_option Elab.async false
set_option linter.all false
set_option maxRecDepth 100000
set_option maxHeartbeats 2000000
/-! Mi: defs, the whole program by levels, the law. -/
namespace Mi
open PySem L2
/-- a def of the text: its name, its statement, its names by slot, its parameters, its meaning -/
structure Ent where
  x : Str
  st : Stmt
  N : List Str
  ps : List Str
  d : Def
  /-- called by place alone, no defaults -/
  po : Bool
  /-- the other calls: values by place, keywords, how the parameters are filled -/
  sh : List ((Nat × List Str) × List (Option D))
def ioF (io : List Bool) : Nat → Bool := fun i => io.getD i false
/-- own exceptions, defs that are values, written dicts -/
structure Xt where
  xc : Str → Option (Str × Str) := fun _ => none
  fv : List (Str × Nat) := []
  dc : List Str := []
  xi : List ((Str × Str) × Bool) := []
  tu : List Str := []
def trDef (df : Str → Option Nat) (bl : Str → Bool) (dk : Str → Nat → List Str → Option (List (Option D))) (xt : Xt) (N : List Str) (io : List Bool) (st : Stmt) : Option SS := trB (trS 40 ⟨N, defScope st, df, bl, dk, xt.xc, xt.fv, xt.dc, xt.xi, xt.tu⟩ 40 (ioF io)) (defBody st)
def entOf (L : List Ent) (x : Str) : Option Ent := L.find? fun e => decide (e.x = x)
def dfOf (L : List Ent) (x : Str) : Option Nat := match entOf L x with
  | some e => if e.po then some e.ps.length else none
  | none => none
def dkOf (L : List Ent) (x : Str) (n : Nat) (ks : List Str) : Option (List (Option D)) := match entOf L x with
  | some e => (e.sh.find? fun q => decide (q.1 = (n, ks))).map (·.2)
  | none => none
/-- the program, down to a depth -/
def pgN (L : List Ent) (G : Str → Option D) : Nat → Pg
  | 0 => ⟨G, fun _ _ => .bad, 0⟩
  | n + 1 => ⟨G, fun x cs => match entOf L x with
    | some e => runDef (pgN L G n) e.d cs
    | none => .bad, n + 1⟩
/-- a def behind the top -/
structure FunG (K : PySem.W.Frag) (x : Str) (st : Stmt) (f : Addr) (fd : FuncData) (dV kV : Value) : Prop where
  ex : ∃ (oc : Value) (od : Option Addr) (doc pm : Value) (an : Option Addr) (cdv ct : Value) (osl : Array (Option Value)), fd = PySem.W.fnOf x x (defArgs st) (defBody st) (defScope st) dV kV doc pm an cdv ct ∧ K.lookup f = some ⟨oc, od, .func fd, osl⟩ ∧ PySem.W.codeIn K cdv x = true
  kp : PySem.W.keepIn K (.ref f) = true
/-- what its other calls bind -/
def ShOk (K : PySem.W.Frag) (mg : MT) (e : Ent) (fd : FuncData) : Prop :=
  (∀ n src, ((n, []), src) ∈ e.sh → src.length = e.ps.length ∧ ∃ dvs ds, Binds K fd e.ps ds ∧ Vals dvs ds ∧ ∀ F vs, vs.length = n → FillV K mg F src vs (vs ++ dvs)) ∧
  ∀ n ks src, ks ≠ [] → ((n, ks), src) ∈ e.sh → src.length = e.ps.length ∧ ∃ g gV, KBn K fd e.ps n ks g gV ∧ ∀ F vs zs, vs.length = n → zs.length = ks.length → FillV K mg F src (vs ++ zs) (gV vs zs)
structure EntOk (K : PySem.W.Frag) (mg : MT) (df : Str → Option Nat) (bl : Str → Bool) (dk : Str → Nat → List Str → Option (List (Option D))) (xt : Xt) (e : Ent) : Prop where
  ex : ∃ f fd dV kV, FunG K e.x e.st f fd dV kV ∧ mg e.x = some (.ref f) ∧ (e.po = true → dV = .none) ∧ ShOk K mg e fd
  sc : FnScope e.N e.ps (defScope e.st)
  tr : trDef df bl dk xt e.N e.d.io e.st = some e.d.body
  io : e.d.io.length = e.ps.length
  n : e.d.n = e.N.length
  bd : e.po = true → ∀ (kV doc pm : Value) (an : Option Addr) (cdv ct : Value) (us : List Value), us.length = e.ps.length → bindArgs (PySem.W.fnOf e.x e.x (defArgs e.st) (defBody e.st) (defScope e.st) .none kV doc pm an cdv ct) ⟨us, []⟩ = pure (e.ps.zip us)
section
variable {K : PySem.W.Frag} {mg : MT}
theorem rv_app {F : Hp} {r r' : Env} {σ σ' : L2.St} {cs cs' : List (List Cell)} (h : RV K mg F r σ cs) (h' : RV K mg F r' σ' cs') : RV K mg F (r ++ r') (σ ++ σ') (cs ++ cs') := by
  induction h with
  | nil => exact h'
  | no t ih => exact .no ih
  | yes h t ih => exact .yes h ih
theorem rv_none {F : Hp} : ∀ n : Nat, RV K mg F (List.replicate n none) (List.replicate n none) (List.replicate n [])
  | 0 => .nil
  | n + 1 => .no (rv_none n)
theorem mask_ok {F : Hp} : ∀ {io : List Bool} {vs : List V} {r : Env} {σ : L2.St} {cs : List (List Cell)}, io.length = vs.length → vs.length ≤ r.length → RV K mg F r σ cs → (∀ (i : Nat) (v : V), io[i]? = some true → vs[i]? = some v → σ[i]? = some (some v)) →
    ∃ cs', RV K mg F (mask io r) (vs.map some) cs' ∧ ∀ c, cnt c cs'.flatten ≤ cnt c cs.flatten
  | [], [], r, σ, cs, _, _, h, _ => ⟨[], by cases r <;> exact .nil, fun c => by simp [cnt_nil]⟩
  | b :: io, v :: vs, r, σ, cs, hl, hr, h, hp => by
    cases h with
    | nil => simp at hr
    | @no o r σ cs t =>
      obtain ⟨cs', g1, g2⟩ := mask_ok (io := io) (vs := vs) (by simpa using hl) (by simpa using hr) t fun i w h1 h2 => by
        have := hp (i + 1) w (by simpa using h1) (by simpa using h2)
        simpa using this
      cases b with
      | true => exact ⟨[] :: cs', .no g1, fun c => by simpa using g2 c⟩
      | false => exact ⟨[] :: cs', .no g1, fun c => by simpa using g2 c⟩
    | @yes c0 w k r σ cs hc t =>
      obtain ⟨cs', g1, g2⟩ := mask_ok (io := io) (vs := vs) (by simpa using hl) (by simpa using hr) t fun i w h1 h2 => by
        have := hp (i + 1) w (by simpa using h1) (by simpa using h2)
        simpa using this
      cases b with
      | true =>
        have := hp 0 v rfl rfl
        simp at this
        subst this
        exact ⟨k :: cs', .yes hc g1, fun c => by have := g2 c; simp only [List.flatten_cons, cnt_append]; omega⟩
      | false => exact ⟨[] :: cs', .no g1, fun c => by have := g2 c; simp only [List.flatten_cons, cnt_append, cnt_nil]; omega⟩
  | [], _ :: _, _, _, _, hl, _, _, _ => by simp at hl
  | _ :: _, [], _, _, _, hl, _, _, _ => by simp at hl
theorem start_rv {F : Hp} {N : List Str} {ds : List C} {vs : List V} {cs : List (List Cell)} (h : RV K mg F (ds.map some) (vs.map some) cs) : ∃ cs', RV K mg F (ds.map some ++ List.replicate (N.length - ds.length) none) (L2.start N vs) cs' ∧ ∀ c, cnt c cs'.flatten = cnt c cs.flatten := by
  have hl : ds.length = vs.length := by have := h.len.1; simpa using this.symm
  refine ⟨cs ++ List.replicate (N.length - ds.length) [], ?_, fun c => ?_⟩
  · unfold L2.start
    rw [hl]
    exact rv_app h (rv_none _)
  · have : (List.replicate (N.length - ds.length) ([] : List Cell)).flatten = [] := by
      generalize N.length - ds.length = m
      induction m with
      | zero => rfl
      | succ m ih => rw [List.replicate_succ, List.flatten_cons, ih]; rfl
    rw [List.flatten_append, cnt_append, this, cnt_nil]; omega
end
section
variable {P : Program} {w : World} {K : PySem.W.Frag} {mg : MT} {base : Heap}
theorem def_ok (hP : mg.P = P) (hw : mg.w = w) {df : Str → Option Nat} {bl : Str → Bool} {dk : Str → Nat → List Str → Option (List (Option D))} {xt : Xt} {e : Ent} {lv : Nat} {p : Pg} {f : Addr} {fd : FuncData} {dV kV0 : Value} (E : EntOk K mg df bl dk xt e) (hF : FunG K e.x e.st f fd dV kV0)
    (md : ∀ W : WX, Md P w base df bl dk xt.xc xt.fv xt.dc xt.xi xt.tu ⟨fun _ => False, K, mg, W⟩ lv p) : FnOk P w K mg base (L2.CX P w) (lv + 1) f fd e.ps (spOf K mg (runDef p e.d) e.ps.length) := by
  obtain ⟨oc, od, doc, pm, an, cdv, ct, osl, rfl, lk, hcd⟩ := hF.ex
  refine fn_of lk hcd E.sc (fun vs H Q W h => ?_) fun A outer s H vs Q W hr hsp => ?_
  · obtain ⟨_, _, _, _, h, _⟩ := h
    exact h
  · obtain ⟨F, cs, R, ds, hlen, rv, sat, po⟩ := hsp
    let X := cxOf (L2.CX P w) P w K mg base e.N e.x (defScope e.st) f cdv A outer s H W
    let Z : Jd := ⟨fun Y => Y = X, K, mg, fun cls d _ H => W cls d H⟩
    have gz : Gz P w base ⟨e.N, defScope e.st, df, bl, dk, xt.xc, xt.fv, xt.dc, xt.xi, xt.tu⟩ Z lv p := by
      refine ⟨?_, ?_⟩
      · rintro Y rfl
        exact ⟨rfl, rfl, rfl, rfl, rfl, rfl, E.sc.nd, rfl, E.sc.kind, fun _ h => h, fun _ h => h, fun _ h => .inr h, fun _ h => h, fun _ _ => rfl, hr, takes_of rfl rfl rfl rfl, passes_of rfl, hP, hw⟩
      · have := md fun cls d _ H => W cls d H
        exact ⟨this.fns, this.fnd, this.fnk, this.blt, this.gls, this.dcs, this.dcm, this.xcs, this.fvs, this.lvl, this.xis, this.tus⟩
    have fr : FrO Z := by
      rintro Y rfl
      exact ⟨rfl, rfl⟩
    obtain ⟨t, ht, sn⟩ : OkB Z (ioF e.d.io) (defBody e.st) (e.d.body p) := snd_b (fun st x h => snd_s gz fr h) E.tr
    refine ⟨t, ht X rfl, ?_⟩
    obtain ⟨cs', rv', hcnt⟩ := start_rv (N := e.N) rv
    have hdl : ds.length = vs.length := by have := rv.len.1; simpa using this.symm
    have hNl : vs.length ≤ e.N.length := by
      have := congrArg List.length E.sc.pre
      rw [List.length_take] at this
      omega
    refine sn _ (L2.start e.N vs) F H cs' R _ rv' (sat.sub fun c => by have := hcnt c; simp only [cnt_append]; omega) ?_
    unfold runDef at po
    rw [if_pos (by rw [E.io, hdl, hlen]), E.n] at po
    -- what the parameters hold behind the body
    have fin : ∀ {r2 : Env} {σ2 : L2.St} {F2 : Hp} {cs2 : List (List Cell)}, RV K mg F2 r2 σ2 cs2 → Pin (ioF e.d.io) (L2.start e.N vs) σ2 → ∃ cs3, RV K mg F2 (mask e.d.io r2) (vs.map some) cs3 ∧ ∀ c, cnt c cs3.flatten ≤ cnt c cs2.flatten := fun {r2 σ2 F2 cs2} h pn => by
      have hl : r2.length = e.N.length := by
        rw [← h.len.1, pn.len]
        unfold L2.start
        rw [List.length_append, List.length_map, List.length_replicate]
        omega
      refine mask_ok (by rw [E.io, hlen]) (by rw [hl]; exact hNl) h fun i v h1 h2 => ?_
      have hi : i < vs.length := (List.getElem?_eq_some_iff.mp h2).1
      rw [pn.get i (by unfold ioF; rw [List.getD_eq_getElem?_getD, h1]; rfl)]
      unfold L2.start
      rw [List.getElem?_append_left (by simpa using hi), List.getElem?_map, h2]
      rfl
    cases eb : e.d.body p (ds.map some ++ List.replicate (e.N.length - ds.length) none) with
    | bad => rw [eb] at po; exact po
    | exn x r2 =>
      rw [eb] at po
      intro σ2 F2 H2 cls d k cs2 e2 rx rv2 pn s2
      obtain ⟨cs3, g1, g2⟩ := fin rv2 pn
      exact po F2 H2 cls d k cs3 e2 rx g1 (s2.sub fun c => by have := g2 c; simp only [cnt_append]; omega)
    | ok fl r2 =>
      rw [eb] at po
      cases fl with
      | brk => exact po.elim
      | ct => exact po.elim
      | nx =>
        intro σ2 F2 H2 cs2 e2 rv2 pn s2
        obtain ⟨cs3, g1, g2⟩ := fin rv2 pn
        exact po F2 H2 .non [] cs3 e2 (.val .non) g1 (s2.sub fun c => by have := g2 c; simp only [cnt_append, cnt_nil]; omega)
      | ret c =>
        intro σ2 F2 H2 v k cs2 e2 rc rv2 pn s2
        obtain ⟨cs3, g1, g2⟩ := fin rv2 pn
        exact po F2 H2 v k cs3 e2 rc g1 (s2.sub fun c => by have := g2 c; simp only [cnt_append]; omega)
/-- what the module's names are to be -/
structure ModOk (w : World) (K : PySem.W.Frag) (mg : MT) (L : List Ent) (bl : Str → Bool) (G : Str → Option D) (xt : Xt) : Prop where
  ents : ∀ e ∈ L, EntOk K mg (dfOf L) bl (dkOf L) xt e
  blt : ∀ x, bl x = true → mg x = none
  gls : ∀ x d, G x = some d → (∀ ks xs, d ≠ .dct ks xs) → ∃ v u, mg x = some u ∧ RelV v u ∧ ∀ F, RD K mg F d v
  dcs : ∀ x ks xs, G x = some (.dct ks xs) → ∃ a us, mg x = some (.ref a) ∧ KD K w a ks us ∧ ∀ F, ∃ vs, RDs K mg F xs vs ∧ Vals vs us
  dcm : ∀ x ks xs, G x = some (.dct ks xs) → (xt.dc.any fun y => decide (y = x)) = true
  xcs : ∀ (P : Program) (base : Heap) c wd fn, xt.xc c = some (wd, fn) → XFacts P w base K mg c wd fn
  fvs : ∀ q ∈ xt.fv, dfOf L q.1 = some q.2
  xis : ∀ q ∈ xt.xi, ∃ C Y, mg q.1.1 = some (.ref C) ∧ mg q.1.2 = some (.ref Y) ∧ IsXC K C Y q.2
  tus : ∀ x ∈ xt.tu, ∃ a o, mg x = some (.ref a) ∧ K.lookup a = some o ∧ o.cls = .type "tuple" ∧ o.dict = none
theorem entOf_mem {L : List Ent} {x : Str} {e : Ent} (h : entOf L x = some e) : e ∈ L ∧ e.x = x := by
  unfold entOf at h
  exact ⟨List.mem_of_find?_eq_some h, by have := List.find?_some h; simpa using this⟩
theorem pgN_G (L : List Ent) (G : Str → Option D) (n : Nat) : (pgN L G n).G = G := by cases n <;> rfl
theorem pgN_lv (L : List Ent) (G : Str → Option D) (n : Nat) : (pgN L G n).lv = n := by cases n <;> rfl
theorem level_ok (hP : mg.P = P) (hw : mg.w = w) {L : List Ent} {bl : Str → Bool} {G : Str → Option D} {xt : Xt} (M : ModOk w K mg L bl G xt) : ∀ (n : Nat) (x : Str) (e : Ent), entOf L x = some e → ∀ f fd dV kV, FunG K x e.st f fd dV kV → FnOk P w K mg base (L2.CX P w) n f fd e.ps (spOf K mg ((pgN L G n).F x) e.ps.length)
  | 0, x, e, h, f, fd, dV, kV, hF => by
    refine ⟨fun vs H Q W z => ?_, fun A outer s H args us vs Q W _ _ _ _ z => ?_⟩
    · obtain ⟨_, _, _, _, _, _, _, z⟩ := z
      exact (show False from z).elim
    · obtain ⟨_, _, _, _, _, _, _, z⟩ := z
      exact (show False from z).elim
  | n + 1, x, e, h, f, fd, dV, kV, hF => by
    obtain ⟨hm, hx⟩ := entOf_mem h
    have E := M.ents e hm
    have md : ∀ W : WX, Md P w base (dfOf L) bl (dkOf L) xt.xc xt.fv xt.dc xt.xi xt.tu ⟨fun _ => False, K, mg, W⟩ n (pgN L G n) := fun W => by
      refine ⟨fun y k hk => ?_, fun y m src hk => ?_, fun y m ks src hne hk => ?_, M.blt, fun y d hd => M.gls y d (by rw [pgN_G] at hd; exact hd), fun y ks xs hd => M.dcs y ks xs (by rw [pgN_G] at hd; exact hd), fun y ks xs hd => M.dcm y ks xs (by rw [pgN_G] at hd; exact hd), M.xcs P base, M.fvs, pgN_lv L G n, M.xis, M.tus⟩
      · unfold dfOf at hk
        split at hk
        · rename_i e' he
          split at hk
          · rename_i hpo
            cases hk
            obtain ⟨hm', hx'⟩ := entOf_mem he
            have E' := M.ents e' hm'
            obtain ⟨f', fd', dV', kV', hF', hmg', hdv, _⟩ := E'.ex
            have ok := level_ok hP hw M n y e' he f' fd' dV' kV' (by rw [← hx']; exact hF')
            refine ⟨f', fd', e'.ps, by rw [← hx']; exact hmg', hF'.kp, ok, rfl, ?_⟩
            obtain ⟨_, _, doc, pm, an, cdv, ct, _, rfl, _, _⟩ := hF'.ex
            rw [hdv hpo]
            exact .all (E'.bd hpo kV' doc pm an cdv ct)
          · cases hk
        · cases hk
      · unfold dkOf at hk
        split at hk
        · rename_i e' he
          obtain ⟨hm', hx'⟩ := entOf_mem he
          have E' := M.ents e' hm'
          obtain ⟨f', fd', dV', kV', hF', hmg', _, hs, _⟩ := E'.ex
          cases hq : e'.sh.find? fun q => decide (q.1 = (m, [])) with
          | none => rw [hq] at hk; cases hk
          | some q =>
            rw [hq] at hk
            cases hk
            have h1 := List.mem_of_find?_eq_some hq
            have h2 : q.1 = (m, []) := by have := List.find?_some hq; simpa using this
            obtain ⟨l, dvs, ds, b1, b2, b3⟩ := hs m q.2 (by rw [← h2]; exact h1)
            have ok := level_ok hP hw M n y e' he f' fd' dV' kV' (by rw [← hx']; exact hF')
            exact ⟨f', fd', e'.ps, dvs, ds, by rw [← hx']; exact hmg', hF'.kp, by rw [l]; exact ok, b1, b2, b3⟩
        · cases hk
      · unfold dkOf at hk
        split at hk
        · rename_i e' he
          obtain ⟨hm', hx'⟩ := entOf_mem he
          have E' := M.ents e' hm'
          obtain ⟨f', fd', dV', kV', hF', hmg', _, _, hs⟩ := E'.ex
          cases hq : e'.sh.find? fun q => decide (q.1 = (m, ks)) with
          | none => rw [hq] at hk; cases hk
          | some q =>
            rw [hq] at hk
            cases hk
            have h1 := List.mem_of_find?_eq_some hq
            have h2 : q.1 = (m, ks) := by have := List.find?_some hq; simpa using this
            obtain ⟨l, g, gV, b1, b2⟩ := hs m ks q.2 hne (by rw [← h2]; exact h1)
            have ok := level_ok hP hw M n y e' he f' fd' dV' kV' (by rw [← hx']; exact hF')
            exact ⟨f', fd', e'.ps, g, gV, by rw [← hx']; exact hmg', hF'.kp, by rw [l]; exact ok, b1, b2⟩
        · cases hk
    subst hx
    have ok := def_ok hP hw (lv := n) (p := pgN L G n) E hF md
    have e1 : (pgN L G (n + 1)).F e.x = runDef (pgN L G n) e.d := by
      funext cs
      show (match entOf L e.x with | some e => runDef (pgN L G n) e.d cs | none => FOut.bad) = _
      rw [h]
    rw [e1]
    exact ok
end
/-- THE END: the law by its meaning -/
theorem law_of {l : PySem.W.OpenLaw} {k : Nat} {q : Program} {loose : List Str} {XP : (Str → Option Value) → Heap → Prop} {YP : World → Heap → Prop} {d : DefRec} {K : Params → PySem.W.Frag} {L : List Ent} {bl : Str → Bool} {G : Str → Option D} {xt : Xt} {e : Ent} {x : Str}
    (hn : l.most = some 63) (hdf : d.params.defaults = []) (hr : Room k callerA) (hY : ∀ (w : World) (h : Heap), YP w h → (K w.params).In h) (he : entOf L d.name = some e) (hps : e.ps = [x]) (hpo : e.po = true)
    (M : ∀ (w : World) (mg : Str → Option Value) (h : Heap), (K w.params).In h → h.Ns mainGlobals mg → ∀ (P : Program) (T : List (Addr × Str)), ModOk w (K w.params) ⟨mg, P, w, T⟩ L bl G xt)
    (law : ∀ ns : List Int, ns.length ≤ 63 → ∃ ps, (pgN L G k).F d.name [.val (.scr ns)] = .ok (.val (.bl true)) ps) :
    PySem.W.WalkO q loose XP YP l.row.toRowW d [] (fun f vs => PySem.call f vs) := by
  refine L2.walk_of (n := 63) (k := k) (x := x) (K := K) (CX := fun w => L2.CX l.prog w) (sp := fun w vs H Q E => vs.length = 1 ∧ ∀ mg, spOf (K w.params) ⟨mg, l.prog, w, []⟩ ((pgN L G k).F d.name) 1 vs H Q E) hn (by decide) hdf hr hY (fun w mg fa h KX hns hmg => ?_) (fun w H a ns hl hO hS => ?_) (fun w H s e s' h => ?_)
  · have M1 := M w mg h KX hns l.prog []
    obtain ⟨hm, hx⟩ := entOf_mem he
    have E := M1.ents e hm
    obtain ⟨f, fd, dV, kV, hF, hmg', hdv, _⟩ := E.ex
    rw [hx] at hmg'
    have hmg' : mg d.name = some (.ref f) := hmg'
    rw [hmg] at hmg'
    cases hmg'
    refine ⟨fd, fun s u => ?_, fun base KB hB => ?_⟩
    · obtain ⟨oc, od, doc, pm, an, cdv, ct, osl, rfl, lk, hcd⟩ := hF.ex
      rw [hdv hpo]
      have := E.bd hpo kV doc pm an cdv ct [u] (by rw [hps]; rfl)
      rw [hps] at this
      exact .of_eq this
    · have ok := level_ok (P := l.prog) (w := w) (base := base) rfl rfl M1 k d.name e he fa fd dV kV (by rw [← hx]; exact hF)
      rw [hps] at ok
      exact ok.imp fun vs H Q E z => z.2 mg
  · refine ⟨rfl, fun mg => ⟨H, [[]], [], [.val (.scr ns)], rfl, .yes (.val (.scr hS)) .nil, ⟨Ex.refl H, fun c h => ?_, fun c => ?_, fun c h => ?_, fun c h => ?_, fun p hp => by cases hp⟩, ?_⟩⟩
    · simp [cnt_nil] at h
    · simp [cnt_nil]
    · simp [cnt_nil] at h
    · simp [cnt_nil] at h
    · obtain ⟨ps, e1⟩ := law ns hl
      rw [e1]
      intro F' H' v k' cs _ rc _ _
      cases rc with
      | val q => cases q; rfl
  · obtain ⟨_, _, _, _, _, _, _, _, _, _, _, _, z⟩ := h
    exact z
end Mi

set_option Elab.async false
set_option linter.all false
set_option maxRecDepth 100000
set_option maxHeartbeats 2000000
/-! Mi: what the module's classes and written dicts are, from their records. -/
namespace Mi
open PySem L2
def dEnt (P : Params) : List (Str × Tok) → List Value → List DictEntry
  | (k, t) :: ks, u :: us => ⟨PyData.keyHash P k, .str k t, u⟩ :: dEnt P ks us
  | _, _ => []
theorem dent_lit (P : Params) : ∀ (ks : List (Str × Tok)) (us : List Value), PySem.W.KeysLit P (dEnt P ks us)
  | [], _ => trivial
  | (_, _) :: _, [] => trivial
  | (k, t) :: ks, u :: us => ⟨⟨k, t, rfl, rfl⟩, dent_lit P ks us⟩
theorem dent_ref (P : Params) : ∀ (ks : List (Str × Tok)) (us : List Value), (dEnt P ks us).any (·.refKey) = false
  | [], _ => rfl
  | (_, _) :: _, [] => rfl
  | (k, t) :: ks, u :: us => by
    show (_ || _) = false
    rw [dent_ref P ks us]
    rfl
theorem dent_find (P : Params) (z : Str) : ∀ (ks : List (Str × Tok)) (us : List Value), ((dEnt P ks us).find? (·.key.isStr z)).map (·.val) = lkD (ks.map (·.1)) us z
  | [], _ => rfl
  | (_, _) :: _, [] => rfl
  | (k, t) :: ks, u :: us => by
    unfold lkD dEnt
    rw [List.map_cons, List.zip_cons_cons, List.lookup_cons, List.find?_cons]
    show Option.map _ (match (k == z) with | true => _ | false => _) = _
    by_cases h : k = z
    · subst h
      simp
    · have h1 : (k == z) = false := beq_false_of_ne h
      have h2 : (z == k) = false := beq_false_of_ne (Ne.symm h)
      rw [h1, h2]
      exact dent_find P z ks us
theorem kd_of {K : PySem.W.Frag} {w : World} {a : Addr} {ks : List Str} {ts : List (Str × Tok)} {us : List Value} {n : Nat} (h : K.lookup a = some ⟨.type "dict", none, .dict (dEnt w.params ts us).toArray n, #[]⟩) (hk : ts.map (·.1) = ks) (low : (a == sysModules) = false) : KD K w a ks us := by
  subst hk
  refine ⟨⟨_, n, h, by rw [List.toList_toArray]; exact dent_lit _ _ _⟩, low, fun z => ?_⟩
  unfold PySem.W.nsIn
  rw [h]
  dsimp only
  rw [← dent_find w.params z ts us]
  cases e : (dEnt w.params ts us).find? (·.key.isStr z) with
  | none => rw [dent_ref]; rfl
  | some x => rfl
def clsBody : Stmt → List Stmt
  | .ClassDef (body := b) .. => b
  | _ => []
/-- the __init__ of a class's text -/
def iniOf (st : Stmt) : Stmt := (clsBody st).headD (.Pass ⟨0, 0, 0, 0⟩)
section
variable {K : PySem.W.Frag} {mg : MT}
/-- an __init__ behind the top -/
def IniAt (K : PySem.W.Frag) (f : Addr) (st : Stmt) (q : Str) : Prop := ∃ (oc : Value) (od : Option Addr) (kV doc pm : Value) (an : Option Addr) (cdv ct : Value) (osl : Array (Option Value)), K.lookup f = some ⟨oc, od, .func (PySem.W.fnOf "__init__" q (defArgs st) (defBody st) (defScope st) .none kV doc pm an cdv ct), osl⟩ ∧ PySem.W.codeIn K cdv q = true
/-- an own class of exceptions, from its records -/
structure OwnX (K : PySem.W.Frag) (C : Addr) : Prop where
  cls : ∃ nm q N bs bm sn sub ab col dd k0 k1 k2 k3 k5, K.lookup C = some (excClassObj nm q C N bs bm true sn sub ab col dd k0 k1 k2 k3 k5 "ValueError.__new__") ∧ PySem.HandSPX.refsVE bm = true
  sa : PySem.W.findIn K (.ref C) "__setattr__" = some (some (.builtin "object.__setattr__"))
  exC : PySem.W.subIn K (.ref C) (.type "BaseException") = some true
  tyC : PySem.W.typeIn K (.ref C) = some (.type "type")
  kC : PySem.W.keepIn K (.ref C) = true
  wd : PySem.W.findIn K (.ref C) "word" = some none
  ga : PySem.W.findIn K (.ref C) "__getattribute__" = some (some (.builtin "BaseException.__getattribute__"))
  gg : PySem.W.findIn K (.ref C) "__getattr__" = some none
  hd : PySem.W.hasDictIn K C = true
  me : PySem.W.subIn K (.ref C) (.ref C) = some true
theorem OwnX.oex {C : Addr} (o : OwnX K C) : OexC K C := ⟨o.cls, o.sa, o.exC, o.tyC, o.kC⟩
theorem OwnX.xf {C : Addr} (o : OwnX K C) : XfC K C := ⟨o.ga, o.gg, o.exC, o.hd⟩
theorem OwnX.clsI {C : Addr} (o : OwnX K C) : (PySem.W.clsIn K C).isSome = true := by
  obtain ⟨_, _, _, _, _, _, _, _, _, _, _, _, _, _, _, l, _⟩ := o.cls
  unfold PySem.W.clsIn
  rw [l]
  rfl
theorem OwnX.exm {C : Addr} (o : OwnX K C) : PySem.W.exmOne K (.ref C) (.ref C) = some true := by
  unfold PySem.W.exmOne PySem.W.kitCls
  rw [o.exC]
  dsimp only
  rw [o.clsI, o.tyC, o.me]
  rfl
/-- isinstance(e, Y), e of the class at C -/
theorem isx_of {C Y : Addr} {b : Bool} {cd : ClassData} (o : OwnX K C) (ca : PySem.W.findIn K (.ref C) "__class__" = some (some (.builtin "object.__class__"))) (sp : PySem.W.specialIn K (.builtin "object.__class__") "__get__" = some (some (.builtin "getset_descriptor.__get__")))
    (tk : PySem.W.takesIn K (.builtin "object.__class__") = some true) (mr : PySem.W.mroIn K C (.type "object") = some true) (hc : PySem.W.clsIn K Y = some cd) (ht : PySem.W.typeIn K (.ref Y) = some (.type "type")) (hs : PySem.W.subIn K (.ref C) (.ref Y) = some b) (ne : (Value.ref C == Value.ref Y) = false) : IsXC K C Y b := by
  refine ⟨o.clsI, o.ga, o.gg, o.exC, ca, sp, tk, mr, ?_⟩
  unfold PySem.W.kitOne PySem.W.kitCls
  rw [ne]
  dsimp only
  rw [hc, ht, hs]
  rfl
/-- the base class, whose __init__ is called -/
structure BaseX (K : PySem.W.Frag) (mg : MT) (bn : Str) (B fB : Addr) (sB : Stmt) (qB : Str) : Prop where
  rd : PySem.W.readsIn K B (.type "type") = true
  ga : PySem.W.specialIn K (.ref B) "__getattribute__" = some (some (.builtin "type.__getattribute__"))
  ini : PySem.W.findCls K (.ref B) (.type "type") "__init__" = some (.val (.ref fB))
  kp : PySem.W.keepIn K (.ref fB) = true
  f : IniAt K fB sB qB
  m : mg bn = some (.ref B)
/-- one field -/
theorem xfacts {P : Program} {w : World} {base : Heap} {c wd fn bn qC qB : Str} {sC sB : Stmt} {C B fI fB : Addr} (mC : mg c = some (.ref C)) (o : OwnX K C) (hf : PySem.W.findIn K (.ref C) fn = some none) (hi : PySem.W.findIn K (.ref C) "__init__" = some (some (.ref fI))) (tI : PySem.W.typeIn K (.ref fI) = some (.type "function"))
    (lI : IniAt K fI sC qC) (bx : BaseX K mg bn B fB sB qB)
    (bB : ∀ (kV doc pm : Value) (an : Option Addr) (cdv ct : Value) (us : List Value), us.length = 2 → bindArgs (PySem.W.fnOf "__init__" qB (defArgs sB) (defBody sB) (defScope sB) .none kV doc pm an cdv ct) ⟨us, []⟩ = pure ((["self", "word"] : List Str).zip us))
    (bC : ∀ (kV doc pm : Value) (an : Option Addr) (cdv ct : Value) (us : List Value), us.length = 2 → bindArgs (PySem.W.fnOf "__init__" qC (defArgs sC) (defBody sC) (defScope sC) .none kV doc pm an cdv ct) ⟨us, []⟩ = pure ((["self", fn] : List Str).zip us))
    (SB : FnScope ["self", "word"] ["self", "word"] (defScope sB)) (SC : FnScope ["self", fn] ["self", fn] (defScope sC))
    (b1 : (defScope sB).names.lookup (Str.ofString "self") = some .local) (b2 : (defScope sB).names.lookup (Str.ofString "word") = some .local)
    (c1 : (defScope sC).names.lookup (Str.ofString "self") = some .local) (c2 : (defScope sC).names.lookup fn = some .local) (c3 : (defScope sC).names.lookup bn = some .globalImplicit)
    (hfd : (fn == ("__debug__" : Str)) = false) (hfc : (fn == ("__classdict__" : Str)) = false) (hdb : (bn == ("__debug__" : Str)) = false)
    {r1 r2 r3 r4 : Pos} (hbB : defBody sB = [.Assign [.Attribute (.Name "self" r1) "word" r2] (.Name "word" r3) r4])
    {q1 q2 q3 q4 q5 q6 q7 q8 q9 q10 : Pos} {j : Nat} (hbC : defBody sC = [.Expr (.Call (.Attribute (.Name bn q1) "__init__" q2) [.Name "self" q3, .Constant (.str wd) j q4] [] q5) q6, .Assign [.Attribute (.Name "self" q7) fn q8] (.Name fn q9) q10])
    (hc : ∀ env : PySem.Env, ∃ pl : Sem Bool, eval (.Call (.Attribute (.Name bn q1) "__init__" q2) [.Name "self" q3, .Constant (.str wd) j q4] [] q5) env = (do
      let ov ← eval (.Name bn q1) env
      standAt q2.atName
      let (g, first) ← holding [ov] (getMethod ov "__init__" pl)
      callWith q5 g first (backTo q5 (starEach [.Name "self" q3, .Constant (.str wd) j q4] env)) (backToKw q5 (keywordEach [] env)))) : XFacts P w base K mg c wd fn := by
  obtain ⟨oc, od, kV, doc, pm, an, cdv, ct, osl, lk, hcd⟩ := lI
  obtain ⟨oc2, od2, kV2, doc2, pm2, an2, cdv2, ct2, osl2, lk2, hcd2⟩ := bx.f
  have FB : FnOk P w K mg base (L2.CX P w) 1 fB _ ["self", "word"] (spB K) := base_fn (k := 0) lk2 hcd2 SB b1 b2 hbB
  refine ⟨C, fI, _, mC, o.oex, o.wd, hf, hi, tI, der_fn lk hcd SC c1 c2 (fun X e => ?_) hfd hfc bx.m ⟨bx.rd, bx.ga⟩ bx.ini bx.kp hdb FB (.all (bB kV2 doc2 pm2 an2 cdv2 ct2)) hbC hc, .all (bC kV doc pm an cdv ct), o.xf, o.exm⟩
  unfold Gl PySem.Env.kindOf
  rw [e]
  exact c3
end
end Mi

set_option Elab.async false
set_option linter.all false
set_option maxRecDepth 100000
/-! Mi: the meanings, step by step, for simp. -/
namespace Mi
open PySem L2
def retO : Option C → Env → Out Rf
  | some c, r => .ok (.tmp c) r
  | none, _ => .bad
@[simp] theorem retO_some (c : C) (r : Env) : retO (some c) r = .ok (.tmp c) r := rfl
def vw : Option (Option C) → Option D
  | some (some c) => some c.frz
  | _ => none
@[simp] theorem vw_some (c : C) : vw (some (some c)) = some c.frz := rfl
@[simp] theorem frz_val (d : D) : (C.val d).frz = d := rfl
@[simp] theorem frz_ls (d : List D) : (C.ls d).frz = .lst d := rfl
@[simp] theorem frz_dc (ks xs : List D) : (C.dc ks xs).frz = .dic ks xs := rfl
@[simp] theorem frz_int (i : Int) : (intV i).frz = .int i := rfl
@[simp] theorem frz_bl (i : Bool) : (blV i).frz = .bl i := rfl
@[simp] theorem frz_str (i : Str) : (strV i).frz = .str i := rfl
@[simp] theorem view_tmp (c : C) (r : Env) : view (.tmp c) r = some c.frz := rfl
@[simp] theorem view_slot (i : Nat) (r : Env) : view (.slot i) r = vw r[i]? := rfl
@[simp] theorem views_nil (r : Env) : views [] r = some [] := rfl
def vcons : Option D → Option (List D) → Option (List D)
  | some d, some ds => some (d :: ds)
  | _, _ => none
@[simp] theorem vcons_some (d : D) (ds : List D) : vcons (some d) (some ds) = some (d :: ds) := rfl
@[simp] theorem views_cons (a : Rf) (as : List Rf) (r : Env) : views (a :: as) r = vcons (view a r) (views as r) := rfl
def takeK (i : Nat) (r : Env) : Option (Option C) → Option (C × Env)
  | some (some (.val d)) => some (.val d, r)
  | some (some c) => some (.val c.frz, r.set i (some (.val c.frz)))
  | _ => none
@[simp] theorem takeK_val (i : Nat) (r : Env) (d : D) : takeK i r (some (some (.val d))) = some (.val d, r) := rfl
@[simp] theorem takeK_int (i : Nat) (r : Env) (d : Int) : takeK i r (some (some (intV d))) = some (intV d, r) := rfl
@[simp] theorem takeK_str (i : Nat) (r : Env) (d : Str) : takeK i r (some (some (strV d))) = some (strV d, r) := rfl
@[simp] theorem takeK_bl (i : Nat) (r : Env) (d : Bool) : takeK i r (some (some (blV d))) = some (blV d, r) := rfl
@[simp] theorem takeK_ls (i : Nat) (r : Env) (d : List D) : takeK i r (some (some (.ls d))) = some (.val (.lst d), r.set i (some (.val (.lst d)))) := rfl
@[simp] theorem takeK_dc (i : Nat) (r : Env) (ks d : List D) : takeK i r (some (some (.dc ks d))) = some (.val (.dic ks d), r.set i (some (.val (.dic ks d)))) := rfl
@[simp] theorem take_tmp (c : C) (r : Env) : take (.tmp c) r = some (c, r) := rfl
@[simp] theorem take_slot (i : Nat) (r : Env) : take (.slot i) r = takeK i r r[i]? := by
  unfold take takeK
  rfl
def fzK : Option (C × Env) → Option (D × Env)
  | some (c, r') => some (c.frz, r')
  | none => none
@[simp] theorem fzK_some (c : C) (r : Env) : fzK (some (c, r)) = some (c.frz, r) := rfl
@[simp] theorem fz_eq (a : Rf) (r : Env) : fz a r = fzK (take a r) := rfl
@[simp] theorem fzs_nil (r : Env) : fzs [] r = some ([], r) := rfl
def fzsK2 (d : D) : Option (List D × Env) → Option (List D × Env)
  | some (ds, r2) => some (d :: ds, r2)
  | none => none
def fzsK (as : List Rf) : Option (D × Env) → Option (List D × Env)
  | some (d, r1) => fzsK2 d (fzs as r1)
  | none => none
@[simp] theorem fzsK2_some (d : D) (ds : List D) (r : Env) : fzsK2 d (some (ds, r)) = some (d :: ds, r) := rfl
@[simp] theorem fzsK_some (as : List Rf) (d : D) (r : Env) : fzsK as (some (d, r)) = fzsK2 d (fzs as r) := rfl
@[simp] theorem fzs_cons (a : Rf) (as : List Rf) (r : Env) : fzs (a :: as) r = fzsK as (fz a r) := by
  show fzs (a :: as) r = fzsK as (fz a r)
  rw [fzs.eq_2]
  cases fz a r with
  | none => rfl
  | some q =>
    rcases q with ⟨d, r1⟩
    show _ = fzsK2 d (fzs as r1)
    generalize e : fzs as r1 = o
    cases o with
    | none => simp only [e]; all_goals rfl
    | some z => rcases z with ⟨z1, z2⟩; simp only [e]; all_goals rfl
def moveK (i : Nat) (r : Env) : Option (Option C) → Option (C × Env)
  | some (some (.val d)) => some (.val d, r)
  | some (some c) => some (c, r.set i none)
  | _ => none
@[simp] theorem moveK_val (i : Nat) (r : Env) (d : D) : moveK i r (some (some (.val d))) = some (.val d, r) := rfl
@[simp] theorem moveK_int (i : Nat) (r : Env) (d : Int) : moveK i r (some (some (intV d))) = some (intV d, r) := rfl
@[simp] theorem moveK_str (i : Nat) (r : Env) (d : Str) : moveK i r (some (some (strV d))) = some (strV d, r) := rfl
@[simp] theorem moveK_bl (i : Nat) (r : Env) (d : Bool) : moveK i r (some (some (blV d))) = some (blV d, r) := rfl
@[simp] theorem moveK_ls (i : Nat) (r : Env) (d : List D) : moveK i r (some (some (.ls d))) = some (.ls d, r.set i none) := rfl
@[simp] theorem moveK_dc (i : Nat) (r : Env) (ks d : List D) : moveK i r (some (some (.dc ks d))) = some (.dc ks d, r.set i none) := rfl
@[simp] theorem move_tmp (c : C) (r : Env) : move (.tmp c) r = some (c, r) := rfl
@[simp] theorem move_slot (i : Nat) (r : Env) : move (.slot i) r = moveK i r r[i]? := by
  unfold move moveK
  rfl
/-! expressions -/
def varK (i : Nat) (r : Env) : Option (Option C) → Out Rf
  | some (some _) => .ok (.slot i) r
  | _ => .bad
@[simp] theorem varK_some (i : Nat) (r : Env) (c : C) : varK i r (some (some c)) = .ok (.slot i) r := rfl
@[simp] theorem eVar_eq (i : Nat) (p : Pg) (r : Env) : eVar i p r = varK i r r[i]? := rfl
@[simp] theorem eCst_eq (d : D) (p : Pg) (r : Env) : eCst d p r = .ok (.tmp (.val d)) r := rfl
def globK (r : Env) : Option D → Out Rf
  | some d => .ok (.tmp (.val d)) r
  | none => .bad
@[simp] theorem globK_some (r : Env) (d : D) : globK r (some d) = .ok (.tmp (.val d)) r := rfl
@[simp] theorem eGlob_eq (x : Str) (p : Pg) (r : Env) : eGlob x p r = globK r (p.G x) := by
  unfold eGlob globK; rfl
@[simp] theorem eNil_eq (p : Pg) (r : Env) : eNil p r = .ok [] r := rfl
def consK2 (a : Rf) : List Rf → Env → Out (List Rf) := fun as r => .ok (a :: as) r
def consK (g : SA) (p : Pg) : Rf → Env → Out (List Rf) := fun a r => (g p r).bind (consK2 a)
@[simp] theorem consK2_eq (a : Rf) (as : List Rf) (r : Env) : consK2 a as r = .ok (a :: as) r := rfl
@[simp] theorem consK_eq (g : SA) (p : Pg) (a : Rf) (r : Env) : consK g p a r = (g p r).bind (consK2 a) := rfl
@[simp] theorem eCons_eq (f : SE) (g : SA) (p : Pg) (r : Env) : eCons f g p r = (f p r).bind (consK g p) := rfl
def seqK (c : List D → C) : Option (List D × Env) → Out Rf
  | some (ds, r2) => if szOk ds.length then .ok (.tmp (c ds)) r2 else .bad
  | none => .bad
@[simp] theorem seqK_some (c : List D → C) (ds : List D) (r : Env) : seqK c (some (ds, r)) = if szOk ds.length then .ok (.tmp (c ds)) r else .bad := rfl
def tupC (ds : List D) : C := .val (.tup ds)
def lstC (ds : List D) : C := .ls ds
@[simp] theorem tupC_eq (ds : List D) : tupC ds = .val (.tup ds) := rfl
@[simp] theorem lstC_eq (ds : List D) : lstC ds = .ls ds := rfl
def tupK : List Rf → Env → Out Rf := fun as r => seqK tupC (fzs as r)
def lstK : List Rf → Env → Out Rf := fun as r => seqK lstC (fzs as r)
@[simp] theorem tupK_eq (as : List Rf) (r : Env) : tupK as r = seqK tupC (fzs as r) := rfl
@[simp] theorem lstK_eq (as : List Rf) (r : Env) : lstK as r = seqK lstC (fzs as r) := rfl
@[simp] theorem eTup_eq (g : SA) (p : Pg) (r : Env) : eTup g p r = (g p r).bind tupK := rfl
@[simp] theorem eLst_eq (g : SA) (p : Pg) (r : Env) : eLst g p r = (g p r).bind lstK := rfl
def op2F (op : D → D → Option C) (r : Env) : Option D → Option D → Out Rf
  | some x, some y => retO (op x y) r
  | _, _ => .bad
@[simp] theorem op2F_some (op : D → D → Option C) (r : Env) (x y : D) : op2F op r (some x) (some y) = retO (op x y) r := rfl
def op2K2 (op : D → D → Option C) (a : Rf) : Rf → Env → Out Rf := fun b r => op2F op r (view a r) (view b r)
def op2K (op : D → D → Option C) (g : SE) (p : Pg) : Rf → Env → Out Rf := fun a r => (g p r).bind (op2K2 op a)
@[simp] theorem op2K2_eq (op : D → D → Option C) (a b : Rf) (r : Env) : op2K2 op a b r = op2F op r (view a r) (view b r) := rfl
@[simp] theorem op2K_eq (op : D → D → Option C) (g : SE) (p : Pg) (a : Rf) (r : Env) : op2K op g p a r = (g p r).bind (op2K2 op a) := rfl
theorem eOp2_eq (op : D → D → Option C) (f g : SE) (p : Pg) (r : Env) : eOp2 op f g p r = (f p r).bind (op2K op g p) := by
  unfold eOp2
  congr 1
  funext a r1
  show (g p r1).bind _ = (g p r1).bind _
  congr 1
  funext b r2
  show _ = op2F op r2 (view a r2) (view b r2)
  cases view a r2 <;> cases view b r2 <;> try rfl
  rename_i x y
  show _ = retO (op x y) r2
  dsimp only
  cases op x y <;> rfl
@[simp] theorem eBin_eq (op : BOp) (f g : SE) (p : Pg) (r : Env) : eBin op f g p r = (f p r).bind (op2K (binD op) g p) := eOp2_eq _ f g p r
@[simp] theorem eCmp_eq (op : COp) (f g : SE) (p : Pg) (r : Env) : eCmp op f g p r = (f p r).bind (op2K (cmpD op) g p) := eOp2_eq _ f g p r
@[simp] theorem eSub_eq (f g : SE) (p : Pg) (r : Env) : eSub f g p r = (f p r).bind (op2K ixD g p) := eOp2_eq _ f g p r
def op1F (op : D → Option C) (r : Env) : Option D → Out Rf
  | some x => retO (op x) r
  | _ => .bad
@[simp] theorem op1F_some (op : D → Option C) (r : Env) (x : D) : op1F op r (some x) = retO (op x) r := rfl
def op1K (op : D → Option C) : Rf → Env → Out Rf := fun a r => op1F op r (view a r)
@[simp] theorem op1K_eq (op : D → Option C) (a : Rf) (r : Env) : op1K op a r = op1F op r (view a r) := rfl
theorem eOp1_eq (op : D → Option C) (f : SE) (p : Pg) (r : Env) : eOp1 op f p r = (f p r).bind (op1K op) := by
  unfold eOp1
  congr 1
  funext a r2
  show _ = op1F op r2 (view a r2)
  cases view a r2 <;> try rfl
  rename_i x
  show _ = retO (op x) r2
  dsimp only
  cases op x <;> rfl
@[simp] theorem eIsi_eq (cs : List String) (f : SE) (p : Pg) (r : Env) : eIsi cs f p r = (f p r).bind (op1K (isiD cs)) := eOp1_eq _ f p r
@[simp] theorem eNot_eq (f : SE) (p : Pg) (r : Env) : eNot f p r = (f p r).bind (op1K notB) := eOp1_eq _ f p r
@[simp] theorem eNeg_eq (f : SE) (p : Pg) (r : Env) : eNeg f p r = (f p r).bind (op1K negI) := eOp1_eq _ f p r
/-! tests -/
def valF (r : Env) : Option Bool → Out Bool
  | some b => .ok b r
  | none => .bad
@[simp] theorem valF_some (r : Env) (b : Bool) : valF r (some b) = .ok b r := rfl
def valK : Rf → Env → Out Bool := fun a r => valF r ((view a r).bind truD)
@[simp] theorem valK_eq (a : Rf) (r : Env) : valK a r = valF r ((view a r).bind truD) := rfl
@[simp] theorem tVal_eq (f : SE) (p : Pg) (r : Env) : tVal f p r = (f p r).bind valK := by
  unfold tVal
  congr 1
  funext a r1
  unfold valK
  cases view a r1 with
  | none => rfl
  | some x => dsimp only [Option.bind]; cases truD x <;> rfl
def tAndK (g : ST) (p : Pg) : Bool → Env → Out Bool
  | true, r => g p r
  | false, r => .ok false r
@[simp] theorem tAndK_t (g : ST) (p : Pg) (r : Env) : tAndK g p true r = g p r := rfl
@[simp] theorem tAndK_f (g : ST) (p : Pg) (r : Env) : tAndK g p false r = .ok false r := rfl
@[simp] theorem tAnd_eq (f g : ST) (p : Pg) (r : Env) : tAnd f g p r = (f p r).bind (tAndK g p) := by
  unfold tAnd
  congr 1
  funext a r1
  cases a <;> rfl
def tOrK (g : ST) (p : Pg) : Bool → Env → Out Bool
  | true, r => .ok true r
  | false, r => g p r
@[simp] theorem tOrK_t (g : ST) (p : Pg) (r : Env) : tOrK g p true r = .ok true r := rfl
@[simp] theorem tOrK_f (g : ST) (p : Pg) (r : Env) : tOrK g p false r = g p r := rfl
@[simp] theorem tOr_eq (f g : ST) (p : Pg) (r : Env) : tOr f g p r = (f p r).bind (tOrK g p) := by
  unfold tOr
  congr 1
  funext a r1
  cases a <;> rfl
def tNotK : Bool → Env → Out Bool := fun a r => .ok (!a) r
@[simp] theorem tNotK_eq (a : Bool) (r : Env) : tNotK a r = .ok (!a) r := rfl
@[simp] theorem tNot_eq (f : ST) (p : Pg) (r : Env) : tNot f p r = (f p r).bind tNotK := rfl
@[simp] theorem tTrue_eq (p : Pg) (r : Env) : tTrue p r = .ok true r := rfl
def andF (g : SE) (p : Pg) (r : Env) : Option Bool → Out Rf
  | some true => g p r
  | some false => .ok (.tmp (blV false)) r
  | none => .bad
@[simp] theorem andF_t (g : SE) (p : Pg) (r : Env) : andF g p r (some true) = g p r := rfl
@[simp] theorem andF_f (g : SE) (p : Pg) (r : Env) : andF g p r (some false) = .ok (.tmp (blV false)) r := rfl
def andK (g : SE) (p : Pg) : Rf → Env → Out Rf := fun a r => andF g p r ((view a r).bind isB)
@[simp] theorem andK_eq (g : SE) (p : Pg) (a : Rf) (r : Env) : andK g p a r = andF g p r ((view a r).bind isB) := rfl
@[simp] theorem eAnd_eq (f g : SE) (p : Pg) (r : Env) : eAnd f g p r = (f p r).bind (andK g p) := by
  unfold eAnd
  congr 1
def orF (g : SE) (p : Pg) (r : Env) : Option Bool → Out Rf
  | some true => .ok (.tmp (blV true)) r
  | some false => g p r
  | none => .bad
@[simp] theorem orF_t (g : SE) (p : Pg) (r : Env) : orF g p r (some true) = .ok (.tmp (blV true)) r := rfl
@[simp] theorem orF_f (g : SE) (p : Pg) (r : Env) : orF g p r (some false) = g p r := rfl
def orK (g : SE) (p : Pg) : Rf → Env → Out Rf := fun a r => orF g p r ((view a r).bind isB)
@[simp] theorem orK_eq (g : SE) (p : Pg) (a : Rf) (r : Env) : orK g p a r = orF g p r ((view a r).bind isB) := rfl
@[simp] theorem eOr_eq (f g : SE) (p : Pg) (r : Env) : eOr f g p r = (f p r).bind (orK g p) := by
  unfold eOr
  congr 1
@[simp] theorem isB_bl (b : Bool) : isB (.bl b) = some b := rfl
def ifEK (f g : SE) (p : Pg) : Bool → Env → Out Rf
  | true, r => f p r
  | false, r => g p r
@[simp] theorem ifEK_t (f g : SE) (p : Pg) (r : Env) : ifEK f g p true r = f p r := rfl
@[simp] theorem ifEK_f (f g : SE) (p : Pg) (r : Env) : ifEK f g p false r = g p r := rfl
@[simp] theorem eIf_eq (t : ST) (f g : SE) (p : Pg) (r : Env) : eIf t f g p r = (t p r).bind (ifEK f g p) := by
  unfold eIf
  congr 1
  funext a r1
  cases a <;> rfl
/-! slices -/
@[simp] theorem oNone_eq (p : Pg) (r : Env) : oNone p r = .ok none r := rfl
def oSomeF (r : Env) : Option D → Out (Option Int)
  | some (.int i) => .ok (some i) r
  | _ => .bad
@[simp] theorem oSomeF_int (r : Env) (i : Int) : oSomeF r (some (.int i)) = .ok (some i) r := rfl
def oSomeK : Rf → Env → Out (Option Int) := fun a r => oSomeF r (view a r)
@[simp] theorem oSomeK_eq (a : Rf) (r : Env) : oSomeK a r = oSomeF r (view a r) := rfl
@[simp] theorem oSome_eq (f : SE) (p : Pg) (r : Env) : oSome f p r = (f p r).bind oSomeK := by
  unfold oSome
  congr 1
def slF (l h : Option Int) (r : Env) : Option D → Out Rf
  | some x => retO (cutD x l h) r
  | none => .bad
@[simp] theorem slF_some (l h : Option Int) (r : Env) (x : D) : slF l h r (some x) = retO (cutD x l h) r := rfl
def slK3 (a : Rf) (l : Option Int) : Option Int → Env → Out Rf := fun h r => slF l h r (view a r)
def slK2 (hi : SO) (p : Pg) (a : Rf) : Option Int → Env → Out Rf := fun l r => (hi p r).bind (slK3 a l)
def slK (lo hi : SO) (p : Pg) : Rf → Env → Out Rf := fun a r => (lo p r).bind (slK2 hi p a)
@[simp] theorem slK3_eq (a : Rf) (l h : Option Int) (r : Env) : slK3 a l h r = slF l h r (view a r) := rfl
@[simp] theorem slK2_eq (hi : SO) (p : Pg) (a : Rf) (l : Option Int) (r : Env) : slK2 hi p a l r = (hi p r).bind (slK3 a l) := rfl
@[simp] theorem slK_eq (lo hi : SO) (p : Pg) (a : Rf) (r : Env) : slK lo hi p a r = (lo p r).bind (slK2 hi p a) := rfl
@[simp] theorem eSlice_eq (f : SE) (lo hi : SO) (p : Pg) (r : Env) : eSlice f lo hi p r = (f p r).bind (slK lo hi p) := by
  unfold eSlice
  congr 1
  funext a r1
  show (lo p r1).bind _ = (lo p r1).bind _
  congr 1
  funext l r2
  show (hi p r2).bind _ = (hi p r2).bind _
  congr 1
  funext h r3
  show _ = slF l h r3 (view a r3)
  cases view a r3 <;> try rfl
  rename_i x
  show _ = retO (cutD x l h) r3
  dsimp only
  cases cutD x l h <;> rfl
/-! calls -/
def lendK1 (c : C) : Option (List C × Env × List (Option Nat)) → Option (List C × Env × List (Option Nat))
  | some (cs, r', is) => some (c :: cs, r', none :: is)
  | none => none
def lendK2 (i : Nat) (c : C) : Option (List C × Env × List (Option Nat)) → Option (List C × Env × List (Option Nat))
  | some (cs, r', is) => some (c :: cs, r', some i :: is)
  | none => none
@[simp] theorem lendK1_some (c : C) (cs : List C) (r : Env) (is : List (Option Nat)) : lendK1 c (some (cs, r, is)) = some (c :: cs, r, none :: is) := rfl
@[simp] theorem lendK2_some (i : Nat) (c : C) (cs : List C) (r : Env) (is : List (Option Nat)) : lendK2 i c (some (cs, r, is)) = some (c :: cs, r, some i :: is) := rfl
def lendS (as : List Rf) (i : Nat) (r : Env) : Option (Option C) → Option (List C × Env × List (Option Nat))
  | some (some (.val d)) => lendK1 (.val d) (lend as r)
  | some (some c) => lendK2 i c (lend as (r.set i none))
  | _ => none
@[simp] theorem lendS_val (as : List Rf) (i : Nat) (r : Env) (d : D) : lendS as i r (some (some (.val d))) = lendK1 (.val d) (lend as r) := rfl
@[simp] theorem lendS_int (as : List Rf) (i : Nat) (r : Env) (d : Int) : lendS as i r (some (some (intV d))) = lendK1 (intV d) (lend as r) := rfl
@[simp] theorem lendS_str (as : List Rf) (i : Nat) (r : Env) (d : Str) : lendS as i r (some (some (strV d))) = lendK1 (strV d) (lend as r) := rfl
@[simp] theorem lendS_bl (as : List Rf) (i : Nat) (r : Env) (d : Bool) : lendS as i r (some (some (blV d))) = lendK1 (blV d) (lend as r) := rfl
@[simp] theorem lendS_ls (as : List Rf) (i : Nat) (r : Env) (d : List D) : lendS as i r (some (some (.ls d))) = lendK2 i (.ls d) (lend as (r.set i none)) := rfl
@[simp] theorem lendS_dc (as : List Rf) (i : Nat) (r : Env) (ks d : List D) : lendS as i r (some (some (.dc ks d))) = lendK2 i (.dc ks d) (lend as (r.set i none)) := rfl
@[simp] theorem lend_nil (r : Env) : lend [] r = some ([], r, []) := rfl
@[simp] theorem lend_tmp (c : C) (as : List Rf) (r : Env) : lend (.tmp c :: as) r = lendK1 c (lend as r) := by
  rw [lend.eq_def]
  rfl
@[simp] theorem lend_slot (i : Nat) (as : List Rf) (r : Env) : lend (.slot i :: as) r = lendS as i r r[i]? := by
  rw [lend.eq_def]
  unfold lendS
  dsimp only
  cases r[i]? with
  | none => rfl
  | some c => cases c with
    | none => rfl
    | some c => cases c with
      | val d => dsimp only; unfold lendK1; rfl
      | ls xs => dsimp only; unfold lendK2; rfl
      | dc ks xs => dsimp only; unfold lendK2; rfl
@[simp] theorem back_nil (ps r : Env) : back [] ps r = r := by cases ps <;> rfl
@[simp] theorem back_none (is : List (Option Nat)) (c : Option C) (ps r : Env) : back (none :: is) (c :: ps) r = back is ps r := rfl
@[simp] theorem back_some (i : Nat) (is : List (Option Nat)) (c : Option C) (ps r : Env) : back (some i :: is) (c :: ps) r = back is ps (r.set i c) := rfl
def callK2 (is : List (Option Nat)) (r : Env) : FOut → Out Rf
  | .ok c ps => .ok (.tmp c) (back is ps r)
  | .exn x ps => .exn x (back is ps r)
  | .bad => .bad
@[simp] theorem callK2_ok (is : List (Option Nat)) (r : Env) (c : C) (ps : Env) : callK2 is r (.ok c ps) = .ok (.tmp c) (back is ps r) := rfl
@[simp] theorem callK2_exn (is : List (Option Nat)) (r : Env) (x : Exc) (ps : Env) : callK2 is r (.exn x ps) = .exn x (back is ps r) := rfl
def callK1 (F : List C → FOut) : Option (List C × Env × List (Option Nat)) → Out Rf
  | some (cs, r1, is) => callK2 is r1 (F cs)
  | none => .bad
@[simp] theorem callK1_some (F : List C → FOut) (cs : List C) (r : Env) (is : List (Option Nat)) : callK1 F (some (cs, r, is)) = callK2 is r (F cs) := rfl
@[simp] theorem callF_eq (F : List C → FOut) (as : List Rf) (r : Env) : callF F as r = callK1 F (lend as r) := rfl
def callK (x : Str) (p : Pg) : List Rf → Env → Out Rf := fun as r => callK1 (p.F x) (lend as r)
@[simp] theorem callK_eq (x : Str) (p : Pg) (as : List Rf) (r : Env) : callK x p as r = callK1 (p.F x) (lend as r) := rfl
@[simp] theorem eCall_eq (x : Str) (g : SA) (p : Pg) (r : Env) : eCall x g p r = (g p r).bind (callK x p) := rfl
def bltF (op : List D → Option C) (r : Env) : Option (List D) → Out Rf
  | some ds => retO (op ds) r
  | none => .bad
@[simp] theorem bltF_some (op : List D → Option C) (r : Env) (ds : List D) : bltF op r (some ds) = retO (op ds) r := rfl
def bltK (op : List D → Option C) : List Rf → Env → Out Rf := fun as r => bltF op r (views as r)
@[simp] theorem bltK_eq (op : List D → Option C) (as : List Rf) (r : Env) : bltK op as r = bltF op r (views as r) := rfl
@[simp] theorem eBlt_eq (op : List D → Option C) (g : SA) (p : Pg) (r : Env) : eBlt op g p r = (g p r).bind (bltK op) := by
  unfold eBlt
  congr 1
  funext a r2
  show _ = bltF op r2 (views a r2)
  cases views a r2 <;> try rfl
  rename_i x
  show _ = retO (op x) r2
  dsimp only
  cases op x <;> rfl
def mtK (m : SM) (s : Str) : List Rf → Env → Out Rf := fun as r => bltF (mtS m s) r (views as r)
@[simp] theorem mtK_eq (m : SM) (s : Str) (as : List Rf) (r : Env) : mtK m s as r = bltF (mtS m s) r (views as r) := rfl
def mtF (m : SM) (g : SA) (p : Pg) (r : Env) : Option D → Out Rf
  | some (.str s) => (g p r).bind (mtK m s)
  | _ => .bad
@[simp] theorem mtF_str (m : SM) (g : SA) (p : Pg) (r : Env) (s : Str) : mtF m g p r (some (.str s)) = (g p r).bind (mtK m s) := rfl
def mtKK (m : SM) (g : SA) (p : Pg) : Rf → Env → Out Rf := fun a r => mtF m g p r (view a r)
@[simp] theorem mtKK_eq (m : SM) (g : SA) (p : Pg) (a : Rf) (r : Env) : mtKK m g p a r = mtF m g p r (view a r) := rfl
@[simp] theorem eMt_eq (m : SM) (f : SE) (g : SA) (p : Pg) (r : Env) : eMt m f g p r = (f p r).bind (mtKK m g p) := by
  unfold eMt
  congr 1
  funext a r1
  show _ = mtF m g p r1 (view a r1)
  cases view a r1 with
  | none => rfl
  | some d =>
    cases d <;> try rfl
    rename_i s
    show (g p r1).bind _ = (g p r1).bind _
    congr 1
    funext as r2
    show _ = bltF (mtS m s) r2 (views as r2)
    cases views as r2 <;> try rfl
    rename_i x
    show _ = retO (mtS m s x) r2
    dsimp only
    cases mtS m s x <;> rfl
/-! targets, walks -/
@[simp] theorem gName_eq (i : Nat) (d : D) (r : Env) : gName i d r = some (r.set i (some (.val d))) := rfl
@[simp] theorem gNil_eq (r : Env) : gNil [] r = some r := rfl
def gK (h : List D → Env → Option Env) (ds : List D) : Option Env → Option Env
  | some r => h ds r
  | none => none
@[simp] theorem gK_some (h : List D → Env → Option Env) (ds : List D) (r : Env) : gK h ds (some r) = h ds r := rfl
@[simp] theorem gCons_eq (g : SG) (h : List D → Env → Option Env) (d : D) (ds : List D) (r : Env) : gCons g h (d :: ds) r = gK h ds (g d r) := rfl
@[simp] theorem gTup_eq (h : List D → Env → Option Env) (ds : List D) (r : Env) : gTup h (.tup ds) r = h ds r := rfl
def seqF (r : Env) : Option (List D) → Out (List D)
  | some xs => .ok xs r
  | none => .bad
@[simp] theorem seqF_some (r : Env) (xs : List D) : seqF r (some xs) = .ok xs r := rfl
def iSeqS (r : Env) : Option (Option C) → Out (List D)
  | some (some (.val d)) => seqF r (itD d)
  | _ => .bad
@[simp] theorem iSeqS_val (r : Env) (d : D) : iSeqS r (some (some (.val d))) = seqF r (itD d) := rfl
@[simp] theorem iSeqS_str (r : Env) (d : Str) : iSeqS r (some (some (strV d))) = seqF r (itD (.str d)) := rfl
def iSeqK : Rf → Env → Out (List D) := fun a r => match a with
  | .tmp c => seqF r (itD c.frz)
  | .slot i => iSeqS r r[i]?
@[simp] theorem iSeqK_tmp (c : C) (r : Env) : iSeqK (.tmp c) r = seqF r (itD c.frz) := rfl
@[simp] theorem iSeqK_slot (i : Nat) (r : Env) : iSeqK (.slot i) r = iSeqS r r[i]? := rfl
@[simp] theorem iSeq_eq (f : SE) (p : Pg) (r : Env) : iSeq f p r = (f p r).bind iSeqK := by
  unfold iSeq
  congr 1
@[simp] theorem itD_lst (xs : List D) : itD (.lst xs) = some xs := rfl
@[simp] theorem itD_tup (xs : List D) : itD (.tup xs) = some xs := rfl
def rngF (r : Env) : Option (List D) → Out (List D)
  | some ds => seqF r (rngD ds)
  | none => .bad
@[simp] theorem rngF_some (r : Env) (ds : List D) : rngF r (some ds) = seqF r (rngD ds) := rfl
def rngK : List Rf → Env → Out (List D) := fun as r => rngF r (views as r)
@[simp] theorem rngK_eq (as : List Rf) (r : Env) : rngK as r = rngF r (views as r) := rfl
@[simp] theorem iRng_eq (g : SA) (p : Pg) (r : Env) : iRng g p r = (g p r).bind rngK := by
  unfold iRng
  congr 1
/-! comprehensions -/
def compF (own : List Nat) (r1 : Env) : Out (List D) → Out Rf
  | .ok acc r2 => .ok (.tmp (.ls acc)) (restE own r1 r2)
  | _ => .bad
@[simp] theorem compF_ok (own : List Nat) (r1 : Env) (acc : List D) (r2 : Env) : compF own r1 (.ok acc r2) = .ok (.tmp (.ls acc)) (restE own r1 r2) := rfl
def compK (own : List Nat) (g : SG) (t : ST) (e : SE) (p : Pg) : List D → Env → Out Rf := fun xs r1 => compF own r1 (compL own g t e p xs [] (wipeE own r1))
@[simp] theorem compK_eq (own : List Nat) (g : SG) (t : ST) (e : SE) (p : Pg) (xs : List D) (r : Env) : compK own g t e p xs r = compF own r (compL own g t e p xs [] (wipeE own r)) := rfl
@[simp] theorem eComp_eq (own : List Nat) (it : SI) (g : SG) (t : ST) (e : SE) (p : Pg) (r : Env) : eComp own it g t e p r = (it p r).bind (compK own g t e p) := by
  unfold eComp
  congr 1
@[simp] theorem wipe_nil (r : Env) : wipeE [] r = r := rfl
@[simp] theorem wipe_cons (i : Nat) (is : List Nat) (r : Env) : wipeE (i :: is) r = (wipeE is r).set i none := rfl
@[simp] theorem rest_nil (r0 r : Env) : restE [] r0 r = r := rfl
@[simp] theorem rest_cons (i : Nat) (is : List Nat) (r0 r : Env) : restE (i :: is) r0 r = (restE is r0 r).set i (r0[i]?.getD none) := rfl
def compVF (own : List Nat) (r0 : Env) (i : Nat) (xs : List D) : Out (List D) → Out Rf
  | .ok acc r2 => .ok (.tmp (.ls acc)) ((restE own r0 r2).set i (some (.ls xs)))
  | _ => .bad
@[simp] theorem compVF_ok (own : List Nat) (r0 : Env) (i : Nat) (xs acc : List D) (r2 : Env) : compVF own r0 i xs (.ok acc r2) = .ok (.tmp (.ls acc)) ((restE own r0 r2).set i (some (.ls xs))) := rfl
def compVI (own : List Nat) (g : SG) (t : ST) (e : SE) (p : Pg) (r : Env) : Option (List D) → Out Rf
  | some xs => compF own r (compL own g t e p xs [] (wipeE own r))
  | none => .bad
@[simp] theorem compVI_some (own : List Nat) (g : SG) (t : ST) (e : SE) (p : Pg) (r : Env) (xs : List D) : compVI own g t e p r (some xs) = compF own r (compL own g t e p xs [] (wipeE own r)) := rfl
def compVS (own : List Nat) (i : Nat) (g : SG) (t : ST) (e : SE) (p : Pg) (r : Env) : Option (Option C) → Out Rf
  | some (some (.val d)) => compVI own g t e p r (itD d)
  | some (some (.ls xs)) => compVF own (r.set i none) i xs (compL own g t e p xs [] (wipeE own (r.set i none)))
  | _ => .bad
@[simp] theorem compVS_val (own : List Nat) (i : Nat) (g : SG) (t : ST) (e : SE) (p : Pg) (r : Env) (d : D) : compVS own i g t e p r (some (some (.val d))) = compVI own g t e p r (itD d) := rfl
@[simp] theorem compVS_str (own : List Nat) (i : Nat) (g : SG) (t : ST) (e : SE) (p : Pg) (r : Env) (d : Str) : compVS own i g t e p r (some (some (strV d))) = compVI own g t e p r (itD (.str d)) := rfl
@[simp] theorem compVS_ls (own : List Nat) (i : Nat) (g : SG) (t : ST) (e : SE) (p : Pg) (r : Env) (xs : List D) : compVS own i g t e p r (some (some (.ls xs))) = compVF own (r.set i none) i xs (compL own g t e p xs [] (wipeE own (r.set i none))) := rfl
@[simp] theorem eCompV_eq (own : List Nat) (i : Nat) (g : SG) (t : ST) (e : SE) (p : Pg) (r : Env) : eCompV own i g t e p r = compVS own i g t e p r r[i]? := by
  unfold eCompV compVS
  rfl
/-! statements -/
@[simp] theorem sNil_eq (p : Pg) (r : Env) : sNil p r = .ok .nx r := rfl
def scK (t : SS) (p : Pg) : Fl → Env → Out Fl
  | .nx, r => t p r
  | f, r => .ok f r
@[simp] theorem scK_nx (t : SS) (p : Pg) (r : Env) : scK t p .nx r = t p r := rfl
@[simp] theorem scK_ret (t : SS) (p : Pg) (c : C) (r : Env) : scK t p (.ret c) r = .ok (.ret c) r := rfl
@[simp] theorem scK_brk (t : SS) (p : Pg) (r : Env) : scK t p .brk r = .ok .brk r := rfl
@[simp] theorem scK_ct (t : SS) (p : Pg) (r : Env) : scK t p .ct r = .ok .ct r := rfl
@[simp] theorem sCons_eq (s t : SS) (p : Pg) (r : Env) : sCons s t p r = (s p r).bind (scK t p) := by
  unfold sCons
  congr 1
  funext f r1
  cases f <;> rfl
@[simp] theorem sPass_eq (p : Pg) (r : Env) : sPass p r = .ok .nx r := rfl
@[simp] theorem sBrk_eq (p : Pg) (r : Env) : sBrk p r = .ok .brk r := rfl
@[simp] theorem sCont_eq (p : Pg) (r : Env) : sCont p r = .ok .ct r := rfl
def exK : Rf → Env → Out Fl := fun _ r => .ok .nx r
@[simp] theorem exK_eq (a : Rf) (r : Env) : exK a r = .ok .nx r := rfl
@[simp] theorem sExpr_eq (f : SE) (p : Pg) (r : Env) : sExpr f p r = (f p r).bind exK := rfl
def retF : Option (C × Env) → Out Fl
  | some (c, r) => .ok (.ret c) r
  | none => .bad
@[simp] theorem retF_some (c : C) (r : Env) : retF (some (c, r)) = .ok (.ret c) r := rfl
def retK : Rf → Env → Out Fl := fun a r => retF (move a r)
@[simp] theorem retK_eq (a : Rf) (r : Env) : retK a r = retF (move a r) := rfl
@[simp] theorem sRet_eq (f : SE) (p : Pg) (r : Env) : sRet f p r = (f p r).bind retK := by
  unfold sRet
  congr 1
@[simp] theorem sRetN_eq (p : Pg) (r : Env) : sRetN p r = .ok (.ret (.val .non)) r := rfl
def ifK (a b : SS) (p : Pg) : Bool → Env → Out Fl
  | true, r => a p r
  | false, r => b p r
@[simp] theorem ifK_t (a b : SS) (p : Pg) (r : Env) : ifK a b p true r = a p r := rfl
@[simp] theorem ifK_f (a b : SS) (p : Pg) (r : Env) : ifK a b p false r = b p r := rfl
@[simp] theorem sIf_eq (t : ST) (a b : SS) (p : Pg) (r : Env) : sIf t a b p r = (t p r).bind (ifK a b p) := by
  unfold sIf
  congr 1
  funext k r1
  cases k <;> rfl
def setF (i : Nat) : Option (C × Env) → Out Fl
  | some (c, r) => .ok .nx (r.set i (some c))
  | none => .bad
@[simp] theorem setF_some (i : Nat) (c : C) (r : Env) : setF i (some (c, r)) = .ok .nx (r.set i (some c)) := rfl
def setK (i : Nat) : Rf → Env → Out Fl := fun a r => setF i (take a r)
@[simp] theorem setK_eq (i : Nat) (a : Rf) (r : Env) : setK i a r = setF i (take a r) := rfl
@[simp] theorem sSet_eq (i : Nat) (f : SE) (p : Pg) (r : Env) : sSet i f p r = (f p r).bind (setK i) := by
  unfold sSet
  congr 1
def unpG : Option Env → Out Fl
  | some r => .ok .nx r
  | none => .bad
@[simp] theorem unpG_some (r : Env) : unpG (some r) = .ok .nx r := rfl
def unpF (g : SG) : Option (D × Env) → Out Fl
  | some (d, r) => unpG (g d r)
  | none => .bad
@[simp] theorem unpF_some (g : SG) (d : D) (r : Env) : unpF g (some (d, r)) = unpG (g d r) := rfl
def unpK (g : SG) : Rf → Env → Out Fl := fun a r => unpF g (fz a r)
@[simp] theorem unpK_eq (g : SG) (a : Rf) (r : Env) : unpK g a r = unpF g (fz a r) := rfl
@[simp] theorem sUnp_eq (g : SG) (f : SE) (p : Pg) (r : Env) : sUnp g f p r = (f p r).bind (unpK g) := by
  unfold sUnp
  congr 1
/-- x[k] = e where the index is a constant: the usual case -/
def setIxF (i : Nat) (d : D) (n : Int) (r : Env) (xs : List D) : Option Nat → Out Fl
  | some j => .ok .nx (r.set i (some (.ls (xs.set j d))))
  | none => .bad
@[simp] theorem setIxF_some (i : Nat) (d : D) (n : Int) (r : Env) (xs : List D) (j : Nat) : setIxF i d n r xs (some j) = .ok .nx (r.set i (some (.ls (xs.set j d)))) := rfl
def setIxK3 (i : Nat) (d : D) (r : Env) : Option D → Option (Option C) → Out Fl
  | some (.int n), some (some (.ls xs)) => setIxF i d n r xs (ixN xs.length n)
  | _, _ => .bad
@[simp] theorem setIxK3_eq (i : Nat) (d : D) (r : Env) (n : Int) (xs : List D) : setIxK3 i d r (some (.int n)) (some (some (.ls xs))) = setIxF i d n r xs (ixN xs.length n) := rfl
def setIxK2 (i : Nat) (d : D) : Rf → Env → Out Fl := fun b r => setIxK3 i d r (view b r) r[i]?
@[simp] theorem setIxK2_eq (i : Nat) (d : D) (b : Rf) (r : Env) : setIxK2 i d b r = setIxK3 i d r (view b r) r[i]? := rfl
def setDxF (i : Nat) (r : Env) : Option (List D × List D) → Out Fl
  | some q => .ok .nx (r.set i (some (.dc q.1 q.2)))
  | none => .bad
@[simp] theorem setDxF_some (i : Nat) (r : Env) (q : List D × List D) : setDxF i r (some q) = .ok .nx (r.set i (some (.dc q.1 q.2))) := rfl
def setDxK3 (i : Nat) (d : D) (r : Env) : Option D → Option (Option C) → Out Fl
  | some kd, some (some (.dc ks xs)) => setDxF i r (dPut ks xs kd d)
  | _, _ => .bad
@[simp] theorem setDxK3_eq (i : Nat) (d : D) (r : Env) (kd : D) (ks xs : List D) : setDxK3 i d r (some kd) (some (some (.dc ks xs))) = setDxF i r (dPut ks xs kd d) := rfl
def setDxK2 (i : Nat) (d : D) : Rf → Env → Out Fl := fun b r => setDxK3 i d r (view b r) r[i]?
@[simp] theorem setDxK2_eq (i : Nat) (d : D) (b : Rf) (r : Env) : setDxK2 i d b r = setDxK3 i d r (view b r) r[i]? := rfl
def setIxS (i : Nat) (k : SE) (p : Pg) (d : D) (r : Env) : Option (Option C) → Out Fl
  | some (some (.ls _)) => (k p r).bind (setIxK2 i d)
  | some (some (.dc _ _)) => (k p r).bind (setDxK2 i d)
  | _ => .bad
@[simp] theorem setIxS_dc (i : Nat) (k : SE) (p : Pg) (d : D) (r : Env) (ks xs : List D) : setIxS i k p d r (some (some (.dc ks xs))) = (k p r).bind (setDxK2 i d) := rfl
@[simp] theorem setIxS_ls (i : Nat) (k : SE) (p : Pg) (d : D) (r : Env) (xs : List D) : setIxS i k p d r (some (some (.ls xs))) = (k p r).bind (setIxK2 i d) := rfl
def setIxD (i : Nat) (k : SE) (p : Pg) : Option (D × Env) → Out Fl
  | some (d, r) => setIxS i k p d r r[i]?
  | none => .bad
@[simp] theorem setIxD_some (i : Nat) (k : SE) (p : Pg) (d : D) (r : Env) : setIxD i k p (some (d, r)) = setIxS i k p d r r[i]? := rfl
def setIxK (i : Nat) (k : SE) (p : Pg) : Rf → Env → Out Fl := fun a r => setIxD i k p (fz a r)
@[simp] theorem setIxK_eq (i : Nat) (k : SE) (p : Pg) (a : Rf) (r : Env) : setIxK i k p a r = setIxD i k p (fz a r) := rfl
@[simp] theorem sSetIx_eq (i : Nat) (k f : SE) (p : Pg) (r : Env) : sSetIx i k f p r = (f p r).bind (setIxK i k p) := by
  refine congrArg (Out.bind (f p r)) ?_
  funext a r1
  show _ = setIxD i k p (fz a r1)
  cases fz a r1 with
  | none => rfl
  | some q =>
    obtain ⟨d, r2⟩ := q
    show _ = setIxS i k p d r2 r2[i]?
    dsimp only
    cases r2[i]? with
    | none => rfl
    | some c =>
      cases c with
      | none => rfl
      | some c =>
        cases c with
        | val _ => rfl
        | ls _ => show (k p r2).bind _ = (k p r2).bind _; congr 1
        | dc _ _ =>
          refine congrArg (Out.bind (k p r2)) ?_
          funext b r3
          show _ = setDxK3 i d r3 (view b r3) r3[i]?
          cases view b r3 with
          | none => rfl
          | some kd =>
            cases r3[i]? with
            | none => rfl
            | some c =>
              cases c with
              | none => rfl
              | some c =>
                cases c with
                | val _ => rfl
                | ls _ => rfl
                | dc ks xs =>
                  show _ = setDxF i r3 (dPut ks xs kd d)
                  dsimp only
                  cases dPut ks xs kd d <;> rfl
@[simp] theorem eDNew_eq (p : Pg) (r : Env) : eDNew p r = .ok (.tmp (.dc [] [])) r := rfl
@[simp] theorem list_lst (xs : List D) : listD [.lst xs] = some (.ls xs) := rfl
@[simp] theorem list_tup (xs : List D) : listD [.tup xs] = some (.ls xs) := rfl
@[simp] theorem list_dic (ks xs : List D) : listD [.dic ks xs] = some (.ls ks) := rfl
@[simp] theorem len_dic (ks xs : List D) : lenD [.dic ks xs] = some (intV ks.length) := rfl
@[simp] theorem eMx_eq (k : Int) (f : SE) (p : Pg) (r : Env) : eMx k f p r = (f p r).bind (op1K (mxD k)) := eOp1_eq _ f p r
/-! d.get -/
def dgF2 (x : D) : Option (List D × Env) → Out Rf
  | some (ds, r3) => retO (dgD x ds) r3
  | none => .bad
@[simp] theorem dgF2_some (x : D) (ds : List D) (r : Env) : dgF2 x (some (ds, r)) = retO (dgD x ds) r := rfl
def dgF1 (r : Env) (as : List Rf) : Option D → Out Rf
  | some x => dgF2 x (fzs as r)
  | none => .bad
@[simp] theorem dgF1_some (r : Env) (as : List Rf) (x : D) : dgF1 r as (some x) = dgF2 x (fzs as r) := rfl
def dgK2 (a : Rf) : List Rf → Env → Out Rf := fun as r => dgF1 r as (view a r)
@[simp] theorem dgK2_eq (a : Rf) (as : List Rf) (r : Env) : dgK2 a as r = dgF1 r as (view a r) := rfl
def dgV (a : Rf) (g : SA) (p : Pg) (r : Env) : Option D → Out Rf
  | some (.dic _ _) => (g p r).bind (dgK2 a)
  | some (.dct _ _) => (g p r).bind (dgK2 a)
  | _ => .bad
@[simp] theorem dgV_dic (a : Rf) (g : SA) (p : Pg) (r : Env) (ks xs : List D) : dgV a g p r (some (.dic ks xs)) = (g p r).bind (dgK2 a) := rfl
@[simp] theorem dgV_dct (a : Rf) (g : SA) (p : Pg) (r : Env) (ks : List Str) (xs : List D) : dgV a g p r (some (.dct ks xs)) = (g p r).bind (dgK2 a) := rfl
def dgK (g : SA) (p : Pg) : Rf → Env → Out Rf := fun a r => dgV a g p r (view a r)
@[simp] theorem dgK_eq (g : SA) (p : Pg) (a : Rf) (r : Env) : dgK g p a r = dgV a g p r (view a r) := rfl
@[simp] theorem eDG_eq (f : SE) (g : SA) (p : Pg) (r : Env) : eDG f g p r = (f p r).bind (dgK g p) := by
  unfold eDG
  congr 1
  funext a r1
  show _ = dgV a g p r1 (view a r1)
  have key : ((g p r1).bind fun as r2 => match view a r2, fzs as r2 with
    | some x, some (ds, r3) => (match dgD x ds with | some c => Out.ok (Rf.tmp c) r3 | none => .bad)
    | _, _ => .bad) = (g p r1).bind (dgK2 a) := by
    congr 1
    funext as r2
    show _ = dgF1 r2 as (view a r2)
    cases view a r2 with
    | none => rfl
    | some x =>
      show _ = dgF2 x (fzs as r2)
      cases fzs as r2 with
      | none => rfl
      | some q =>
        obtain ⟨ds, r3⟩ := q
        show _ = retO (dgD x ds) r3
        dsimp only
        cases dgD x ds <;> rfl
  cases view a r1 with
  | none => rfl
  | some x =>
    cases x with
    | dic ks xs => exact key
    | dct ks xs => exact key
    | _ => rfl
/-! (a, .., *z) -/
@[simp] theorem gTupS_eq (n : Nat) (h : List D → Env → Option Env) (ds : List D) (r : Env) : gTupS n h (.tup ds) r = if decide (n ≤ ds.length ∧ ds.length ≤ 10000) then h (ds.take n ++ [.lst (ds.drop n)]) r else none := rfl
def augF (op : BOp) (x : D) (i : Nat) (r : Env) : Option D → Out Fl
  | some y => setF i ((augD op x y).map fun c => (c, r))
  | none => .bad
@[simp] theorem augF_some (op : BOp) (x : D) (i : Nat) (r : Env) (y : D) : augF op x i r (some y) = setF i ((augD op x y).map fun c => (c, r)) := rfl
def augK (op : BOp) (x : D) (i : Nat) : Rf → Env → Out Fl := fun b r => augF op x i r (view b r)
@[simp] theorem augK_eq (op : BOp) (x : D) (i : Nat) (b : Rf) (r : Env) : augK op x i b r = augF op x i r (view b r) := rfl
def augLF (i : Nat) (r : Env) : Option D → Option (Option C) → Out Fl
  | some (.lst ys), some (some (.ls xs)) => if szOk (xs.length + ys.length) then .ok .nx (r.set i (some (.ls (xs ++ ys)))) else .bad
  | _, _ => .bad
@[simp] theorem augLF_ls (i : Nat) (r : Env) (ys xs : List D) : augLF i r (some (.lst ys)) (some (some (.ls xs))) = if szOk (xs.length + ys.length) then .ok .nx (r.set i (some (.ls (xs ++ ys)))) else .bad := rfl
def augLK (i : Nat) : Rf → Env → Out Fl := fun b r => augLF i r (view b r) r[i]?
@[simp] theorem augLK_eq (i : Nat) (b : Rf) (r : Env) : augLK i b r = augLF i r (view b r) r[i]? := rfl
def augS (op : BOp) (i : Nat) (f : SE) (p : Pg) (r : Env) : Option (Option C) → Out Fl
  | some (some (.val x)) => (f p r).bind (augK op x i)
  | some (some (.ls _)) => match op with
    | .add => (f p r).bind (augLK i)
    | _ => .bad
  | _ => .bad
@[simp] theorem augS_val (op : BOp) (i : Nat) (f : SE) (p : Pg) (r : Env) (x : D) : augS op i f p r (some (some (.val x))) = (f p r).bind (augK op x i) := rfl
@[simp] theorem augS_ls (i : Nat) (f : SE) (p : Pg) (r : Env) (xs : List D) : augS .add i f p r (some (some (.ls xs))) = (f p r).bind (augLK i) := rfl
@[simp] theorem augS_int (op : BOp) (i : Nat) (f : SE) (p : Pg) (r : Env) (x : Int) : augS op i f p r (some (some (intV x))) = (f p r).bind (augK op (.int x) i) := rfl
@[simp] theorem augS_str (op : BOp) (i : Nat) (f : SE) (p : Pg) (r : Env) (x : Str) : augS op i f p r (some (some (strV x))) = (f p r).bind (augK op (.str x) i) := rfl
@[simp] theorem sAug_eq (op : BOp) (i : Nat) (f : SE) (p : Pg) (r : Env) : sAug op i f p r = augS op i f p r r[i]? := by
  unfold sAug
  cases r[i]? with
  | none => rfl
  | some c => cases c with
    | none => rfl
    | some c => cases c with
      | ls xs => cases op <;> rfl
      | dc ks xs => rfl
      | val x =>
        show (f p r).bind _ = (f p r).bind _
        congr 1
        funext b r1
        show _ = augF op x i r1 (view b r1)
        cases view b r1 with
        | none => rfl
        | some y =>
          show _ = setF i ((augD op x y).map fun c => (c, r1))
          dsimp only
          cases augD op x y <;> rfl
def forK (g : SG) (b : SS) (p : Pg) : List D → Env → Out Fl := fun xs r => forL g b p xs r
@[simp] theorem forK_eq (g : SG) (b : SS) (p : Pg) (xs : List D) (r : Env) : forK g b p xs r = forL g b p xs r := rfl
@[simp] theorem sFor_eq (it : SI) (g : SG) (b : SS) (p : Pg) (r : Env) : sFor it g b p r = (it p r).bind (forK g b p) := rfl
def forVI (g : SG) (b : SS) (p : Pg) (r : Env) : Option (List D) → Out Fl
  | some xs => forL g b p xs r
  | none => .bad
@[simp] theorem forVI_some (g : SG) (b : SS) (p : Pg) (r : Env) (xs : List D) : forVI g b p r (some xs) = forL g b p xs r := rfl
def putS (i : Nat) (c : C) (r : Env) : Env := r.set i (some c)
@[simp] theorem putS_eq (i : Nat) (c : C) (r : Env) : putS i c r = r.set i (some c) := rfl
def forVS (i : Nat) (g : SG) (b : SS) (p : Pg) (r : Env) : Option (Option C) → Out Fl
  | some (some (.val d)) => forVI g b p r (itD d)
  | some (some (.ls xs)) => (forL g b p xs (r.set i none)).mapEnv (putS i (.ls xs))
  | _ => .bad
@[simp] theorem forVS_val (i : Nat) (g : SG) (b : SS) (p : Pg) (r : Env) (d : D) : forVS i g b p r (some (some (.val d))) = forVI g b p r (itD d) := rfl
@[simp] theorem forVS_str (i : Nat) (g : SG) (b : SS) (p : Pg) (r : Env) (d : Str) : forVS i g b p r (some (some (strV d))) = forVI g b p r (itD (.str d)) := rfl
@[simp] theorem forVS_ls (i : Nat) (g : SG) (b : SS) (p : Pg) (r : Env) (xs : List D) : forVS i g b p r (some (some (.ls xs))) = (forL g b p xs (r.set i none)).mapEnv (putS i (.ls xs)) := rfl
@[simp] theorem mapEnv_ok {A : Type} (f : Env → Env) (a : A) (r : Env) : (Out.ok a r).mapEnv f = .ok a (f r) := rfl
@[simp] theorem sForV_eq (i : Nat) (g : SG) (b : SS) (p : Pg) (r : Env) : sForV i g b p r = forVS i g b p r r[i]? := by
  unfold sForV forVS
  rfl
/-! names beside one another -/
def parT (i j : Nat) (c : C) : Option (C × Env) → Out Fl
  | some (d, r) => .ok .nx ((r.set i (some c)).set j (some d))
  | none => .bad
@[simp] theorem parT_some (i j : Nat) (c d : C) (r : Env) : parT i j c (some (d, r)) = .ok .nx ((r.set i (some c)).set j (some d)) := rfl
def parF (i j : Nat) (b : Rf) : Option (C × Env) → Out Fl
  | some (c, r) => parT i j c (take b r)
  | none => .bad
@[simp] theorem parF_some (i j : Nat) (b : Rf) (c : C) (r : Env) : parF i j b (some (c, r)) = parT i j c (take b r) := rfl
def parK (i j : Nat) : List Rf → Env → Out Fl
  | [a, b], r => parF i j b (take a r)
  | _, _ => .bad
@[simp] theorem parK_eq (i j : Nat) (a b : Rf) (r : Env) : parK i j [a, b] r = parF i j b (take a r) := rfl
@[simp] theorem sPar_eq (i j : Nat) (g : SA) (p : Pg) (r : Env) : sPar i j g p r = (g p r).bind (parK i j) := by
  unfold sPar
  congr 1
  funext as r1
  unfold parK
  split
  · rename_i a b
    dsimp only
    cases take a r1 with
    | none => rfl
    | some q =>
      dsimp only [parF]
      cases take b q.2 <;> rfl
  · rename_i h
    split
    · rename_i a b; exact absurd rfl (h a b)
    · rfl
def set2F (i j : Nat) : Option (D × Env) → Out Fl
  | some (d, r) => .ok .nx ((r.set i (some (.val d))).set j (some (.val d)))
  | none => .bad
@[simp] theorem set2F_some (i j : Nat) (d : D) (r : Env) : set2F i j (some (d, r)) = .ok .nx ((r.set i (some (.val d))).set j (some (.val d))) := rfl
def set2K (i j : Nat) : Rf → Env → Out Fl := fun a r => set2F i j (fz a r)
@[simp] theorem set2K_eq (i j : Nat) (a : Rf) (r : Env) : set2K i j a r = set2F i j (fz a r) := rfl
@[simp] theorem sSet2_eq (i j : Nat) (f : SE) (p : Pg) (r : Env) : sSet2 i j f p r = (f p r).bind (set2K i j) := by
  unfold sSet2
  congr 1
def par3T (i j l : Nat) (c d : C) : Option (C × Env) → Out Fl
  | some (e, r) => .ok .nx (((r.set i (some c)).set j (some d)).set l (some e))
  | none => .bad
@[simp] theorem par3T_some (i j l : Nat) (c d e : C) (r : Env) : par3T i j l c d (some (e, r)) = .ok .nx (((r.set i (some c)).set j (some d)).set l (some e)) := rfl
def par3G (i j l : Nat) (x : C) (b : Rf) : Option (C × Env) → Out Fl
  | some (c, r) => par3T i j l x c (take b r)
  | none => .bad
@[simp] theorem par3G_some (i j l : Nat) (x : C) (b : Rf) (c : C) (r : Env) : par3G i j l x b (some (c, r)) = par3T i j l x c (take b r) := rfl
def par3F (i j l : Nat) (b d : Rf) : Option (C × Env) → Out Fl
  | some (c, r) => par3G i j l c d (take b r)
  | none => .bad
@[simp] theorem par3F_some (i j l : Nat) (b d : Rf) (c : C) (r : Env) : par3F i j l b d (some (c, r)) = par3G i j l c d (take b r) := rfl
def par3K (i j l : Nat) : List Rf → Env → Out Fl
  | [a, b, d], r => par3F i j l b d (take a r)
  | _, _ => .bad
@[simp] theorem par3K_eq (i j l : Nat) (a b d : Rf) (r : Env) : par3K i j l [a, b, d] r = par3F i j l b d (take a r) := rfl
@[simp] theorem sPar3_eq (i j l : Nat) (g : SA) (p : Pg) (r : Env) : sPar3 i j l g p r = (g p r).bind (par3K i j l) := by
  unfold sPar3
  congr 1
  funext as r1
  unfold par3K
  split
  · rename_i a b d
    dsimp only
    cases take a r1 with
    | none => rfl
    | some q =>
      dsimp only [par3F]
      cases take b q.2 with
      | none => rfl
      | some q' =>
        dsimp only [par3G]
        cases take d q'.2 <;> rfl
  · rename_i h
    split
    · rename_i a b d; exact absurd rfl (h a b d)
    · rfl
@[simp] theorem sWhile_eq (t : ST) (b : SS) (p : Pg) (r : Env) : sWhile t b p r = whL t b p whN r := rfl
/-! operations -/
@[simp] theorem bin_add (i j : Int) : binD .add (.int i) (.int j) = some (intV (i + j)) := rfl
@[simp] theorem bin_sub (i j : Int) : binD .sub (.int i) (.int j) = some (intV (i - j)) := rfl
theorem bin_mul {i j : Int} (h : (-(2 ^ 64) < i ∧ i < 2 ^ 64) ∨ (-(2 ^ 64) < j ∧ j < 2 ^ 64)) : binD .mul (.int i) (.int j) = some (intV (i * j)) := if_pos (decide_eq_true h)
theorem bin_fdiv {i j : Int} (h : 0 < j ∧ j < 1073741824) : binD .fdiv (.int i) (.int j) = some (intV (i / j)) := if_pos (decide_eq_true h)
theorem bin_mod {i j : Int} (h : 0 < j) : binD .mod (.int i) (.int j) = some (intV (i % j)) := if_pos (decide_eq_true h)
theorem bin_pow {i j : Int} (h : 0 ≤ j ∧ j ≤ 1000000 ∧ i.natAbs < 2 ^ 64) : binD .pow (.int i) (.int j) = some (intV (i ^ j.toNat)) := if_pos (decide_eq_true h)
@[simp] theorem cmp_lt (i j : Int) : cmpD .lt (.int i) (.int j) = some (blV (decide (i < j))) := rfl
@[simp] theorem cmp_le (i j : Int) : cmpD .le (.int i) (.int j) = some (blV (decide (i ≤ j))) := rfl
@[simp] theorem cmp_gt (i j : Int) : cmpD .gt (.int i) (.int j) = some (blV (decide (j < i))) := rfl
@[simp] theorem cmp_ge (i j : Int) : cmpD .ge (.int i) (.int j) = some (blV (decide (j ≤ i))) := rfl
@[simp] theorem cmp_eqI (i j : Int) : cmpD .eq (.int i) (.int j) = some (blV (decide (i = j))) := rfl
@[simp] theorem cmp_neI (i j : Int) : cmpD .ne (.int i) (.int j) = some (blV (!decide (i = j))) := rfl
@[simp] theorem cmp_eqB (i j : Bool) : cmpD .eq (.bl i) (.bl j) = some (blV (decide (i = j))) := rfl
@[simp] theorem cmp_neB (i j : Bool) : cmpD .ne (.bl i) (.bl j) = some (blV (!decide (i = j))) := rfl
@[simp] theorem cmp_eqS (i j : Str) : cmpD .eq (.str i) (.str j) = some (blV (decide (i = j))) := rfl
@[simp] theorem cmp_neS (i j : Str) : cmpD .ne (.str i) (.str j) = some (blV (!decide (i = j))) := rfl
@[simp] theorem tru_bl (b : Bool) : truD (.bl b) = some b := rfl
@[simp] theorem ix_lst (xs : List D) (i : Int) : ixD (.lst xs) (.int i) = (atI xs i).map .val := rfl
@[simp] theorem ix_tup (xs : List D) (i : Int) : ixD (.tup xs) (.int i) = (atI xs i).map .val := rfl
theorem atN {xs : List D} {j : Nat} {v : D} (h : xs[j]? = some v) : atI xs (j : Int) = some v := atI_nat h
theorem at0 (x : D) (xs : List D) : atI (x :: xs) 0 = some x := atN (j := 0) rfl
theorem at1 (x y : D) (xs : List D) : atI (x :: y :: xs) 1 = some y := atN (j := 1) rfl
theorem at2 (x y z : D) (xs : List D) : atI (x :: y :: z :: xs) 2 = some z := atN (j := 2) rfl
theorem at3 (x y z u : D) (xs : List D) : atI (x :: y :: z :: u :: xs) 3 = some u := atN (j := 3) rfl
@[simp] theorem len_lst (xs : List D) : lenD [.lst xs] = some (intV xs.length) := rfl
@[simp] theorem len_tup (xs : List D) : lenD [.tup xs] = some (intV xs.length) := rfl
theorem len_str {s : Str} (h : s.length ≤ sizeLine) : lenD [.str s] = some (intV s.length) := if_pos (decide_eq_true h)
@[simp] theorem out_map_some {A B : Type} (f : A → B) (a : A) : Option.map f (some a) = some (f a) := rfl
/-! loops -/
theorem forL_inv {g : SG} {b : SS} {p : Pg} {I : Env → Prop} : ∀ {ds : List D}, (∀ d ∈ ds, ∀ r, I r → ∃ r1 r2, g d r = some r1 ∧ b p r1 = .ok .nx r2 ∧ I r2) → ∀ {r : Env}, I r → ∃ r', forL g b p ds r = .ok .nx r' ∧ I r'
  | [], _, r, hI => ⟨r, rfl, hI⟩
  | d :: ds, h, r, hI => by
    obtain ⟨r1, r2, h1, h2, h3⟩ := h d (List.mem_cons_self ..) r hI
    obtain ⟨r', h4, h5⟩ := forL_inv (ds := ds) (fun d hd => h d (List.mem_cons_of_mem _ hd)) h3
    exact ⟨r', by unfold forL; rw [h1]; dsimp only; rw [h2]; exact h4, h5⟩
/-- with what was walked before -/
theorem forL_fold {g : SG} {b : SS} {p : Pg} {A : Type} {st : A → Env → Prop} {f : A → D → A} : ∀ {ds : List D}, (∀ d ∈ ds, ∀ a r, st a r → ∃ r1 r2, g d r = some r1 ∧ b p r1 = .ok .nx r2 ∧ st (f a d) r2) → ∀ {a : A} {r : Env}, st a r → ∃ r', forL g b p ds r = .ok .nx r' ∧ st (ds.foldl f a) r'
  | [], _, a, r, hI => ⟨r, rfl, hI⟩
  | d :: ds, h, a, r, hI => by
    obtain ⟨r1, r2, h1, h2, h3⟩ := h d (List.mem_cons_self ..) a r hI
    obtain ⟨r', h4, h5⟩ := forL_fold (ds := ds) (fun d hd => h d (List.mem_cons_of_mem _ hd)) h3
    exact ⟨r', by unfold forL; rw [h1]; dsimp only; rw [h2]; exact h4, h5⟩
inductive All2 {A B : Type} (P : A → B → Prop) : List A → List B → Prop where
  | nil : All2 P [] []
  | cons {a b as bs} : P a b → All2 P as bs → All2 P (a :: as) (b :: bs)
theorem All2.len {A B : Type} {P : A → B → Prop} {as : List A} {bs : List B} (h : All2 P as bs) : as.length = bs.length := by
  induction h with
  | nil => rfl
  | cons _ _ ih => simp [ih]
theorem All2.right {A B : Type} {P : A → B → Prop} {Q : B → Prop} {as : List A} {bs : List B} (h : All2 P as bs) (hq : ∀ a b, P a b → Q b) : ∀ b ∈ bs, Q b := by
  induction h with
  | nil => intro b hb; cases hb
  | cons h _ ih =>
    intro b hb
    rcases List.mem_cons.mp hb with rfl | hb
    · exact hq _ _ h
    · exact ih b hb
theorem compL_inv {own : List Nat} {g : SG} {t : ST} {e : SE} {p : Pg} {I : Env → Prop} {P : D → D → Prop} : ∀ {ds : List D}, (∀ d ∈ ds, ∀ r, I r → ∃ r1 r2 r3 r4 a y, g d r = some r1 ∧ t p r1 = .ok true r2 ∧ e p r2 = .ok a r3 ∧ fz a r3 = some (y, r4) ∧ P d y ∧ I (wipeE own r4)) →
    ∀ {acc : List D} {r : Env}, acc.length + ds.length ≤ sizeLine → I r → ∃ ys r', compL own g t e p ds acc r = .ok (acc ++ ys) r' ∧ All2 P ds ys ∧ I r'
  | [], _, acc, r, _, hI => ⟨[], r, by rw [List.append_nil]; rfl, .nil, hI⟩
  | d :: ds, h, acc, r, hl, hI => by
    obtain ⟨r1, r2, r3, r4, a, y, h1, h2, h3, h4, h5, h6⟩ := h d (List.mem_cons_self ..) r hI
    rw [List.length_cons] at hl
    obtain ⟨ys, r', h7, h8, h9⟩ := compL_inv (ds := ds) (fun d hd => h d (List.mem_cons_of_mem _ hd)) (acc := acc ++ [y]) (by rw [List.length_append, List.length_singleton]; omega) h6
    refine ⟨y :: ys, r', ?_, .cons h5 h8, h9⟩
    unfold compL
    rw [h1]
    dsimp only
    rw [h2]
    dsimp only
    rw [h3]
    dsimp only
    rw [h4]
    dsimp only
    rw [if_pos (decide_eq_true (by omega)), h7, List.append_assoc]
    rfl
theorem runDef_ret {p : Pg} {d : Def} {cs : List C} {c : C} {r ps : Env} (hl : cs.length = d.io.length) (h : d.body p (cs.map some ++ List.replicate (d.n - cs.length) none) = .ok (.ret c) r) (hm : mask d.io r = ps) : runDef p d cs = .ok c ps := by
  unfold runDef
  rw [if_pos hl, h, ← hm]
@[simp] theorem mask_nil (r : Env) : mask [] r = [] := by cases r <;> rfl
@[simp] theorem mask_t (bs : List Bool) (c : Option C) (r : Env) : mask (true :: bs) (c :: r) = c :: mask bs r := rfl
@[simp] theorem mask_f (bs : List Bool) (c : Option C) (r : Env) : mask (false :: bs) (c :: r) = none :: mask bs r := rfl
end Mi

set_option Elab.async false
set_option linter.all false
set_option maxRecDepth 100000
/-! Mi: the helpers that the laws share. -/
namespace Mi
open PySem L2
/-- the meaning of _law_bag: 0 _law_script -/
def s_law_bag : SS := (sCons (sRet (eLst (eCons (eBlt listD (eCons (eSlice (eVar 0) oNone (oSome (eCst (.int 63)))) eNil)) (eCons (eCst (.int 0)) (eCons (eCst (.int 0)) (eCons (eCst (.int 40127)) eNil)))))) sNil)
def d_law_bag : Def := ⟨[true], 1, s_law_bag⟩
/-- the meaning of _law_pull: 0 _law_bag_here, 1 _law_many, 2 _law_cell, 3 _law_found -/
def s_law_pull : SS := (sCons (sIf (tVal (eCmp .gt (eSub (eVar 0) (eCst (.int 2))) (eCst (.int 0)))) (sCons (sSet 3 (eBin .mod (eSub (eVar 0) (eCst (.int 2))) (eVar 1))) (sCons (sSetIx 0 (eCst (.int 2)) (eBin .fdiv (eSub (eVar 0) (eCst (.int 2))) (eVar 1))) (sCons (sRet (eVar 3)) sNil))) sNil) (sCons (sSet 2 (eCst (.int 0))) (sCons (sIf (tVal (eCmp .lt (eSub (eVar 0) (eCst (.int 1))) (eBlt lenD (eCons (eSub (eVar 0) (eCst (.int 0))) eNil)))) (sCons (sSet 2 (eSub (eSub (eVar 0) (eCst (.int 0))) (eSub (eVar 0) (eCst (.int 1))))) sNil) sNil) (sCons (sSetIx 0 (eCst (.int 1)) (eBin .add (eSub (eVar 0) (eCst (.int 1))) (eCst (.int 1)))) (sCons (sIf (tVal (eCmp .ge (eVar 2) (eBin .pow (eCst (.int 10)) (eCst (.int 18))))) (sCons (sSetIx 0 (eCst (.int 2)) (eBin .fdiv (eVar 2) (eVar 1))) (sCons (sRet (eBin .mod (eVar 2) (eVar 1))) sNil)) sNil) (sCons (sSetIx 0 (eCst (.int 3)) (eBin .mod (eBin .add (eBin .add (eBin .mul (eSub (eVar 0) (eCst (.int 3))) (eCst (.int 48271))) (eBin .mod (eVar 2) (eCst (.int 2147483629)))) (eBin .mul (eCst (.int 17)) (eSub (eVar 0) (eCst (.int 1))))) (eCst (.int 2147483647)))) (sCons (sSetIx 0 (eCst (.int 3)) (eBin .mod (eBin .add (eBin .mul (eSub (eVar 0) (eCst (.int 3))) (eCst (.int 69621))) (eCst (.int 11))) (eCst (.int 2147483647)))) (sCons (sRet (eBin .mod (eBin .fdiv (eSub (eVar 0) (eCst (.int 3))) (eCst (.int 64))) (eVar 1))) sNil))))))))
def d_law_pull : Def := ⟨[true, true], 4, s_law_pull⟩
/-- the meaning of _law_letters: 0 _law_bag_here, 1 _law_size, 2 _law_k -/
def s_law_letters : SS := (sCons (sRet (eMt .join (eCst (.str "")) (eCons (eComp [2] (iRng (eCons (eVar 1) eNil)) (gName 2) tTrue (eSub (eCst (.str "abcdefghijklmnopqrstuvwxyz")) (eCall "_law_pull" (eCons (eVar 0) (eCons (eCst (.int 26)) eNil))))) eNil))) sNil)
def d_law_letters : Def := ⟨[true, true], 3, s_law_letters⟩
/-- the meaning of _law_name: 0 _law_bag_here -/
def s_law_name : SS := (sCons (sRet (eCall "_law_letters" (eCons (eVar 0) (eCons (eSub (eLst (eCons (eCst (.int 1)) (eCons (eCst (.int 2)) (eCons (eCst (.int 8)) (eCons (eBin .add (eCst (.int 1)) (eCall "_law_pull" (eCons (eVar 0) (eCons (eCst (.int 8)) eNil)))) eNil))))) (eCall "_law_pull" (eCons (eVar 0) (eCons (eCst (.int 4)) eNil)))) eNil)))) sNil)
def d_law_name : Def := ⟨[true], 1, s_law_name⟩
/-- the meaning of _law_same: 0 _law_one, 1 _law_other, 2 _law_k -/
def s_law_same : SS := (sCons (sIf (tVal (eIsi ["list", "tuple"] (eVar 1))) (sCons (sIf (tVal (eCmp .ne (eIsi ["list"] (eVar 0)) (eIsi ["list"] (eVar 1)))) (sCons (sRet (eCst (.bl false))) sNil) sNil) (sCons (sIf (tVal (eCmp .ne (eIsi ["tuple"] (eVar 0)) (eIsi ["tuple"] (eVar 1)))) (sCons (sRet (eCst (.bl false))) sNil) sNil) (sCons (sRet (eAnd (eCmp .eq (eBlt lenD (eCons (eVar 0) eNil)) (eBlt lenD (eCons (eVar 1) eNil))) (eBlt allD (eCons (eComp [2] (iRng (eCons (eBlt lenD (eCons (eVar 1) eNil)) eNil)) (gName 2) tTrue (eCall "_law_same" (eCons (eSub (eVar 0) (eVar 2)) (eCons (eSub (eVar 1) (eVar 2)) eNil)))) eNil)))) sNil))) sNil) (sCons (sIf (tOr (tVal (eIsi ["bool"] (eVar 1))) (tVal (eIsi ["bool"] (eVar 0)))) (sCons (sRet (eAnd (eIsi ["bool"] (eVar 0)) (eAnd (eIsi ["bool"] (eVar 1)) (eCmp .eq (eVar 0) (eVar 1))))) sNil) sNil) (sCons (sIf (tVal (eCmp .is (eVar 1) (eCst .non))) (sCons (sRet (eCmp .is (eVar 0) (eCst .non))) sNil) sNil) (sCons (sIf (tOr (tVal (eCmp .ne (eIsi ["int"] (eVar 0)) (eIsi ["int"] (eVar 1)))) (tVal (eCmp .ne (eIsi ["str"] (eVar 0)) (eIsi ["str"] (eVar 1))))) (sCons (sRet (eCst (.bl false))) sNil) sNil) (sCons (sRet (eCmp .eq (eVar 0) (eVar 1))) sNil)))))
def d_law_same : Def := ⟨[true, true], 3, s_law_same⟩
/-! ### the bag -/
def bagC (cs : List Int) (i q s : Int) : C := .ls [.lst (cs.map .int), .int i, .int q, .int s]
def BagOk (b : C) : Prop := ∃ cs i q s, b = bagC cs i q s ∧ 0 ≤ i ∧ 0 ≤ q ∧ 0 ≤ s ∧ s < 2147483647
def PullS (F : List C → FOut) : Prop := ∀ (b : C) (m : Int), BagOk b → 0 < m → m < 1073741824 → ∃ r b', F [b, .val (.int m)] = .ok (.val (.int r)) [some b', some (.val (.int m))] ∧ 0 ≤ r ∧ r < m ∧ BagOk b'
@[simp] theorem intV_eq (i : Int) : intV i = .val (.int i) := rfl
@[simp] theorem blV_eq (i : Bool) : blV i = .val (.bl i) := rfl
@[simp] theorem strV_eq (i : Str) : strV i = .val (.str i) := rfl
theorem ixN_n {n j : Nat} (h : j < n) : ixN n (j : Int) = some j := by
  unfold ixN
  rw [if_pos (by omega), if_pos (by omega), Int.toNat_natCast]
theorem ixN0 (n : Nat) (h : 0 < n) : ixN n 0 = some 0 := ixN_n (j := 0) h
theorem ixN1 (n : Nat) (h : 1 < n) : ixN n 1 = some 1 := ixN_n (j := 1) h
theorem ixN2 (n : Nat) (h : 2 < n) : ixN n 2 = some 2 := ixN_n (j := 2) h
theorem ixN3 (n : Nat) (h : 3 < n) : ixN n 3 = some 3 := ixN_n (j := 3) h
theorem atInts {cs : List Int} {i : Int} (h0 : 0 ≤ i) (h : i < cs.length) : ∃ c, atI (cs.map D.int) i = some (.int c) := by
  obtain ⟨k, rfl⟩ := Int.eq_ofNat_of_zero_le h0
  have hk : k < cs.length := by omega
  exact ⟨cs[k], atN (by rw [List.getElem?_map, List.getElem?_eq_getElem hk]; rfl)⟩
theorem pow18 : binD .pow (.int 10) (.int 18) = some (intV 1000000000000000000) := rfl
def pullT : SS := (sCons (sSetIx 0 (eCst (.int 1)) (eBin .add (eSub (eVar 0) (eCst (.int 1))) (eCst (.int 1)))) (sCons (sIf (tVal (eCmp .ge (eVar 2) (eBin .pow (eCst (.int 10)) (eCst (.int 18))))) (sCons (sSetIx 0 (eCst (.int 2)) (eBin .fdiv (eVar 2) (eVar 1))) (sCons (sRet (eBin .mod (eVar 2) (eVar 1))) sNil)) sNil) (sCons (sSetIx 0 (eCst (.int 3)) (eBin .mod (eBin .add (eBin .add (eBin .mul (eSub (eVar 0) (eCst (.int 3))) (eCst (.int 48271))) (eBin .mod (eVar 2) (eCst (.int 2147483629)))) (eBin .mul (eCst (.int 17)) (eSub (eVar 0) (eCst (.int 1))))) (eCst (.int 2147483647)))) (sCons (sSetIx 0 (eCst (.int 3)) (eBin .mod (eBin .add (eBin .mul (eSub (eVar 0) (eCst (.int 3))) (eCst (.int 69621))) (eCst (.int 11))) (eCst (.int 2147483647)))) (sCons (sRet (eBin .mod (eBin .fdiv (eSub (eVar 0) (eCst (.int 3))) (eCst (.int 64))) (eVar 1))) sNil)))))
theorem pull_tail {cs : List Int} {i q s m c : Int} (hi : 0 ≤ i) (hq : 0 ≤ q) (hs : 0 ≤ s) (hs2 : s < 2147483647) (hm : 0 < m) (hm2 : m < 1073741824) (p : Pg) (y : Option C) : ∃ r b2, pullT p [some (.ls [.lst (cs.map .int), .int i, .int q, .int s]), some (.val (.int m)), some (.val (.int c)), y] = .ok (.ret (.val (.int r))) [some b2, some (.val (.int m)), some (.val (.int c)), y] ∧ 0 ≤ r ∧ r < m ∧ BagOk b2 := by
  unfold pullT
  by_cases h1 : 1000000000000000000 ≤ c
  · simp [at0, at1, at2, at3, bin_mod hm, bin_fdiv ⟨hm, hm2⟩, pow18, h1, ixN1, ixN2]
    exact ⟨_, _, ⟨rfl, rfl⟩, Int.emod_nonneg _ (by omega), Int.emod_lt_of_pos _ hm, cs, _, _, _, rfl, by omega, Int.ediv_nonneg (by omega) (by omega), hs, hs2⟩
  · have e1 : binD .mul (.int s) (.int 48271) = some (intV (s * 48271)) := bin_mul (.inr (by decide))
    have e2 : ∀ z, binD .mul (.int z) (.int 69621) = some (intV (z * 69621)) := fun z => bin_mul (.inr (by decide))
    have e3 : ∀ z, binD .mul (.int 17) (.int z) = some (intV (17 * z)) := fun z => bin_mul (.inl (by decide))
    have e4 : ∀ z, binD .mod (.int z) (.int 2147483629) = some (intV (z % 2147483629)) := fun z => bin_mod (by decide)
    have e5 : ∀ z, binD .mod (.int z) (.int 2147483647) = some (intV (z % 2147483647)) := fun z => bin_mod (by decide)
    have e6 : ∀ z, binD .fdiv (.int z) (.int 64) = some (intV (z / 64)) := fun z => bin_fdiv (by decide)
    simp [at0, at1, at2, at3, bin_mod hm, pow18, h1, ixN1, ixN2, ixN3, e1, e2, e3, e4, e5, e6]
    exact ⟨_, _, ⟨rfl, rfl⟩, Int.emod_nonneg _ (by omega), Int.emod_lt_of_pos _ hm, cs, _, _, _, rfl, by omega, hq, Int.emod_nonneg _ (by omega), Int.emod_lt_of_pos _ (by omega)⟩
theorem pull_ok (p : Pg) : PullS (runDef p d_law_pull) := by
  rintro b m ⟨cs, i, q, s, rfl, hi, hq, hs, hs2⟩ hm hm2
  have H : ∃ r b2 x y, s_law_pull p [some (bagC cs i q s), some (.val (.int m)), none, none] = .ok (.ret (.val (.int r))) [some b2, some (.val (.int m)), x, y] ∧ 0 ≤ r ∧ r < m ∧ BagOk b2 := by
    show ∃ r b2 x y, (sCons (sIf (tVal (eCmp .gt (eSub (eVar 0) (eCst (.int 2))) (eCst (.int 0)))) (sCons (sSet 3 (eBin .mod (eSub (eVar 0) (eCst (.int 2))) (eVar 1))) (sCons (sSetIx 0 (eCst (.int 2)) (eBin .fdiv (eSub (eVar 0) (eCst (.int 2))) (eVar 1))) (sCons (sRet (eVar 3)) sNil))) sNil) (sCons (sSet 2 (eCst (.int 0))) (sCons (sIf (tVal (eCmp .lt (eSub (eVar 0) (eCst (.int 1))) (eBlt lenD (eCons (eSub (eVar 0) (eCst (.int 0))) eNil)))) (sCons (sSet 2 (eSub (eSub (eVar 0) (eCst (.int 0))) (eSub (eVar 0) (eCst (.int 1))))) sNil) sNil) pullT))) p [some (bagC cs i q s), some (.val (.int m)), none, none] = .ok (.ret (.val (.int r))) [some b2, some (.val (.int m)), x, y] ∧ 0 ≤ r ∧ r < m ∧ BagOk b2
    unfold bagC
    by_cases h1 : 0 < q
    · simp [at0, at1, at2, at3, bin_mod hm, bin_fdiv ⟨hm, hm2⟩, h1, ixN2]
      exact ⟨_, _, ⟨rfl, rfl⟩, Int.emod_nonneg _ (by omega), Int.emod_lt_of_pos _ hm, cs, _, _, _, rfl, hi, Int.ediv_nonneg hq (by omega), hs, hs2⟩
    · by_cases h2 : i < cs.length
      · obtain ⟨c, e⟩ := atInts hi h2
        obtain ⟨r, b2, k1, k2⟩ := pull_tail (cs := cs) (c := c) hi hq hs hs2 hm hm2 p none
        refine ⟨r, b2, some (.val (.int c)), none, ?_, k2⟩
        simp [at0, at1, at2, at3, h1, h2, e, k1]
      · obtain ⟨r, b2, k1, k2⟩ := pull_tail (cs := cs) (c := 0) hi hq hs hs2 hm hm2 p none
        refine ⟨r, b2, some (.val (.int 0)), none, ?_, k2⟩
        simp [at0, at1, at2, at3, h1, h2, k1]
  obtain ⟨r, b2, x, y, e, h1, h2, h3⟩ := H
  exact ⟨r, b2, runDef_ret rfl e rfl, h1, h2, h3⟩
theorem szS {n : Nat} (h : n ≤ 1000) : szOk n = true := by
  unfold szOk
  exact decide_eq_true (Nat.le_trans h (by decide))
/-! the bag's making -/
def BagS (F : List C → FOut) : Prop := ∀ ns : List Int, ∃ b, F [.val (.scr ns)] = .ok b [some (.val (.scr ns))] ∧ BagOk b
theorem bag_ok (p : Pg) : BagS (runDef p d_law_bag) := by
  intro ns
  refine ⟨bagC (cutL ns none (some 63)) 0 0 40127, runDef_ret rfl (r := [some (.val (.scr ns))]) ?_ rfl, _, _, _, _, rfl, by decide, by decide, by decide, by decide⟩
  show s_law_bag p [some (.val (.scr ns))] = _
  unfold s_law_bag bagC
  simp [cutD, szS]
/-! letters -/
def LetterStr (s : Str) : Prop := ∀ c ∈ s.cps.toList, 97 ≤ c ∧ c ≤ 122
def LettersS (F : List C → FOut) : Prop := ∀ (b : C) (n : Int), BagOk b → 0 ≤ n → n ≤ 1000 → ∃ s b', F [b, .val (.int n)] = .ok (.val (.str s)) [some b', some (.val (.int n))] ∧ s.length = n.toNat ∧ LetterStr s ∧ BagOk b'
theorem BagOk.ls {b : C} (h : BagOk b) : ∃ xs, b = .ls xs := by
  obtain ⟨cs, i, q, s, rfl, _⟩ := h
  exact ⟨_, rfl⟩
theorem fold_glue : ∀ (ts : List Str) (acc : Array Nat), (ts.foldl (fun acc p => acc ++ (Str.ofString "").cps ++ p.cps) acc).toList = acc.toList ++ ts.flatMap (·.cps.toList)
  | [], acc => by simp
  | t :: ts, acc => by
    rw [List.foldl_cons, fold_glue ts]
    simp [show (Str.ofString "").cps = #[] from rfl]
theorem join0 (ts : List Str) : (Txt.join "" ts).cps.toList = ts.flatMap (·.cps.toList) := by
  show ((ts.drop 1).foldl (fun acc p => acc ++ (Str.ofString "").cps ++ p.cps) (ts.headD Str.empty).cps).toList = _
  rw [fold_glue]
  cases ts with
  | nil => rfl
  | cons t ts => rfl
def Ltr (y : D) : Prop := ∃ c : Nat, y = .str ⟨#[c]⟩ ∧ 97 ≤ c ∧ c ≤ 122
theorem ltrs : ∀ {ys : List D}, (∀ y ∈ ys, Ltr y) → ∃ ts, allStr ys = some ts ∧ (ts.map (·.length)).sum = ys.length ∧ (ts.flatMap (·.cps.toList)).length = ys.length ∧ ∀ c ∈ ts.flatMap (·.cps.toList), 97 ≤ c ∧ c ≤ 122
  | [], _ => ⟨[], rfl, rfl, rfl, fun c h => by cases h⟩
  | y :: ys, h => by
    obtain ⟨ts, h1, h2, h3, h4⟩ := ltrs fun y hy => h y (List.mem_cons_of_mem _ hy)
    obtain ⟨c, rfl, h5, h6⟩ := h y (List.mem_cons_self ..)
    refine ⟨⟨#[c]⟩ :: ts, by unfold allStr; rw [h1]; rfl, ?_, ?_, fun z hz => ?_⟩
    · rw [List.map_cons, List.sum_cons, h2, List.length_cons]
      show 1 + _ = _
      omega
    · rw [List.flatMap_cons, List.length_append, h3]
      show 1 + ys.length = ys.length + 1
      omega
    · rw [List.flatMap_cons] at hz
      rcases List.mem_append.mp hz with hz | hz
      · have : z = c := by simpa using hz
        subst this
        exact ⟨h5, h6⟩
      · exact h4 z hz
theorem letter_ix {r : Int} (h0 : 0 ≤ r) (h1 : r < 26) : ∃ c, ixD (.str "abcdefghijklmnopqrstuvwxyz") (.int r) = some (strV ⟨#[c]⟩) ∧ 97 ≤ c ∧ c ≤ 122 := by
  obtain ⟨k, rfl⟩ := Int.eq_ofNat_of_zero_le h0
  have hk : k < 26 := by omega
  have H : ∀ k < 26, (Str.ofString "abcdefghijklmnopqrstuvwxyz").cps.toList[k]? = some (97 + k) := by decide +kernel
  refine ⟨97 + k, ?_, by omega, by omega⟩
  show (if szOk (Str.ofString "abcdefghijklmnopqrstuvwxyz").length then (atI (Str.ofString "abcdefghijklmnopqrstuvwxyz").cps.toList (k : Int)).map (fun c => strV ⟨#[c]⟩) else none) = _
  rw [if_pos (by decide +kernel), atI_nat (H k hk)]
  rfl
theorem rng_ok {n : Int} (h0 : 0 ≤ n) (h1 : n ≤ 1000) : rngD [.int n] = some (rngL 0 n.toNat) := if_pos (decide_eq_true ⟨by omega, by omega⟩)
theorem rng_len (lo : Int) (n : Nat) : (rngL lo n).length = n := by unfold rngL; simp
theorem letters_ok {p : Pg} (hp : PullS (p.F "_law_pull")) : LettersS (runDef p d_law_letters) := by
  intro b n hb h0 h1
  have H : ∃ ys b', compL [2] (gName 2) tTrue (eSub (eCst (.str "abcdefghijklmnopqrstuvwxyz")) (eCall "_law_pull" (eCons (eVar 0) (eCons (eCst (.int 26)) eNil)))) p (rngL 0 n.toNat) [] [some b, some (.val (.int n)), none] = .ok ys [some b', some (.val (.int n)), none] ∧ BagOk b' ∧ ys.length = n.toNat ∧ ∀ y ∈ ys, Ltr y := by
    obtain ⟨ys, r', e, h2, b', rfl, hb'⟩ := compL_inv (own := [2]) (g := gName 2) (t := tTrue) (e := eSub (eCst (.str "abcdefghijklmnopqrstuvwxyz")) (eCall "_law_pull" (eCons (eVar 0) (eCons (eCst (.int 26)) eNil)))) (p := p) (I := fun r => ∃ b, r = [some b, some (.val (.int n)), none] ∧ BagOk b) (P := fun _ y => Ltr y) (ds := rngL 0 n.toNat)
      (fun d _ r hI => by
        obtain ⟨b, rfl, hb⟩ := hI
        obtain ⟨xs, rfl⟩ := hb.ls
        obtain ⟨r, b', e1, k1, k2, k3⟩ := hp _ 26 hb (by decide) (by decide)
        obtain ⟨c, e2, k4, k5⟩ := letter_ix k1 k2
        refine ⟨_, _, _, _, _, .str ⟨#[c]⟩, rfl, rfl, by simp [e1, e2]; exact ⟨rfl, rfl⟩, rfl, ⟨c, rfl, k4, k5⟩, b', rfl, k3⟩)
      (acc := []) (by rw [rng_len]; show 0 + _ ≤ sizeLine; have : sizeLine = 16777216 := rfl; omega) ⟨b, rfl, hb⟩
    exact ⟨ys, b', e, hb', by rw [← h2.len, rng_len], h2.right fun _ _ h => h⟩
  obtain ⟨ys, b', e, hb', hl, hy⟩ := H
  obtain ⟨ts, e1, e2, e3, e4⟩ := ltrs hy
  obtain ⟨xs, rfl⟩ := hb.ls
  have ej : mtS .join "" [.lst ys] = some (strV (Txt.join "" ts)) := by
    unfold mtS; dsimp only
    rw [e1]
    dsimp only
    rw [if_pos (decide_eq_true (by rw [e2, hl, show (Str.ofString "").length = 0 from rfl]; omega))]
  refine ⟨Txt.join "" ts, b', runDef_ret rfl (r := [some b', some (.val (.int n)), none]) ?_ rfl, ?_, ?_, hb'⟩
  · show s_law_letters p [some (.ls xs), some (.val (.int n)), none] = _
    unfold s_law_letters
    simp [rng_ok h0 h1, e, ej]
  · show (Txt.join "" ts).cps.size = _
    rw [← Array.length_toList, join0, e3, hl]
  · intro c hc
    rw [join0] at hc
    exact e4 c hc
/-! names -/
def NameS (F : List C → FOut) : Prop := ∀ b : C, BagOk b → ∃ s b', F [b] = .ok (.val (.str s)) [some b'] ∧ 1 ≤ s.length ∧ s.length ≤ 8 ∧ LetterStr s ∧ BagOk b'
theorem name_ok {p : Pg} (hp : PullS (p.F "_law_pull")) (hl : LettersS (p.F "_law_letters")) : NameS (runDef p d_law_name) := by
  intro b hb
  obtain ⟨xs, rfl⟩ := hb.ls
  obtain ⟨r, b1, e1, k1, k2, k3⟩ := hp _ 8 hb (by decide) (by decide)
  obtain ⟨x1, rfl⟩ := k3.ls
  obtain ⟨r2, b2, e2, k4, k5, k6⟩ := hp _ 4 k3 (by decide) (by decide)
  obtain ⟨x2, rfl⟩ := k6.ls
  obtain ⟨z, ez, h1, h2⟩ : ∃ z, atI [D.int 1, .int 2, .int 8, .int (1 + r)] r2 = some (.int z) ∧ 1 ≤ z ∧ z ≤ 8 := by
    obtain ⟨k, rfl⟩ := Int.eq_ofNat_of_zero_le k4
    have : k = 0 ∨ k = 1 ∨ k = 2 ∨ k = 3 := by omega
    rcases this with rfl | rfl | rfl | rfl
    · exact ⟨1, rfl, by omega, by omega⟩
    · exact ⟨2, rfl, by omega, by omega⟩
    · exact ⟨8, rfl, by omega, by omega⟩
    · exact ⟨1 + r, rfl, by omega, by omega⟩
  obtain ⟨s, b3, e3, m1, m2, m3⟩ := hl _ z k6 (by omega) (by omega)
  refine ⟨s, b3, runDef_ret rfl (r := [some b3]) ?_ rfl, by omega, by omega, m2, m3⟩
  show s_law_name p [some (.ls xs)] = _
  unfold s_law_name
  simp [e1, e2, e3, ez, szS]
/-! ### the same -/
def D.fl : D → Prop
  | .non => True | .bl _ => True | .int _ => True | .str _ => True
  | _ => False
/-- plain data of a depth -/
def Pl : Nat → D → Prop
  | 0, d => d.fl
  | n + 1, d => d.fl ∨ ∃ xs : List D, (d = .lst xs ∨ d = .tup xs) ∧ xs.length ≤ 1000 ∧ ∀ x ∈ xs, Pl n x
def SameS (n : Nat) (F : List C → FOut) : Prop := ∀ (c c' : C) (d : D), c.frz = d → c'.frz = d → Pl n d → F [c, c'] = .ok (.val (.bl true)) [some c, some c']
theorem mem_rng {d : D} {lo : Int} {n : Nat} (h : d ∈ rngL lo n) : ∃ k : Nat, k < n ∧ d = .int (lo + k) := by
  unfold rngL at h
  obtain ⟨k, hk, rfl⟩ := List.mem_map.mp h
  exact ⟨k, List.mem_range.mp hk, rfl⟩
theorem all_true : ∀ {ys : List D}, (∀ y ∈ ys, y = .bl true) → allD [.lst ys] = some (.val (.bl true))
  | [], _ => rfl
  | y :: ys, h => by
    have h1 := all_true (ys := ys) fun y hy => h y (List.mem_cons_of_mem _ hy)
    have h2 := h y (List.mem_cons_self ..)
    subst h2
    unfold allD at h1 ⊢
    dsimp only at h1 ⊢
    unfold allBl
    cases e : allBl ys with
    | none => rw [e] at h1; cases h1
    | some bs =>
      rw [e] at h1
      have : bs.all id = true := by simpa [blV] using h1
      simp [blV, this]
theorem szl {n : Nat} (h : n ≤ 1000) : ([] : List D).length + n ≤ sizeLine := by
  have : sizeLine = 16777216 := rfl
  rw [List.length_nil]
  omega
def sameE : SE := eCall "_law_same" (eCons (eSub (eVar 0) (eVar 2)) (eCons (eSub (eVar 1) (eVar 2)) eNil))
theorem same_one {p : Pg} {c c' : C} {d x : D} {i : Int} (hc : c.frz = d) (hc' : c'.frz = d) (hix : ixD d (.int i) = some (.val x)) (h : p.F "_law_same" [.val x, .val x] = .ok (.val (.bl true)) [some (.val x), some (.val x)]) :
    sameE p [some c, some c', some (.val (.int i))] = .ok (.tmp (.val (.bl true))) [some c, some c', some (.val (.int i))] := by
  unfold sameE
  simp [hc, hc', hix, h]
theorem same_comp {p : Pg} {n : Nat} (ih : SameS n (p.F "_law_same")) {c c' : C} {d : D} {xs : List D} (hc : c.frz = d) (hc' : c'.frz = d) (hd : d = .lst xs ∨ d = .tup xs) (hl : xs.length ≤ 1000) (hx : ∀ x ∈ xs, Pl n x) :
    ∃ ys, compL [2] (gName 2) tTrue sameE p (rngL 0 xs.length) [] [some c, some c', none] = .ok ys [some c, some c', none] ∧ ∀ y ∈ ys, y = .bl true := by
  have hix : ∀ k : Nat, ixD d (.int (k : Nat)) = (atI xs (k : Int)).map .val := by
    rcases hd with rfl | rfl <;> intro k <;> rfl
  obtain ⟨ys, r', e, h2, rfl⟩ := compL_inv (own := [2]) (g := gName 2) (t := tTrue) (e := sameE) (p := p) (I := fun r => r = [some c, some c', none]) (P := fun _ y => y = .bl true) (ds := rngL 0 xs.length)
      (fun dd hdd r hI => by
        subst hI
        obtain ⟨k, hk, rfl⟩ := mem_rng hdd
        rw [Int.zero_add]
        have e1 : atI xs (k : Int) = some xs[k] := atN (List.getElem?_eq_getElem hk)
        have e2 := ih (.val xs[k]) (.val xs[k]) xs[k] rfl rfl (hx _ (List.getElem_mem hk))
        exact ⟨_, _, _, _, _, .bl true, rfl, rfl, same_one hc hc' (by rw [hix, e1]; rfl) e2, rfl, rfl, rfl⟩)
      (acc := []) (by rw [rng_len]; exact szl hl) rfl
  exact ⟨ys, e, h2.right fun _ _ h => h⟩
theorem rng_nat {n : Nat} (h : n ≤ 1000) : rngD [.int (n : Nat)] = some (rngL 0 n) := by
  have := rng_ok (n := (n : Int)) (by omega) (by omega)
  rwa [Int.toNat_natCast] at this
theorem s_law_same_eq : s_law_same = (sCons (sIf (tVal (eIsi ["list", "tuple"] (eVar 1))) (sCons (sIf (tVal (eCmp .ne (eIsi ["list"] (eVar 0)) (eIsi ["list"] (eVar 1)))) (sCons (sRet (eCst (.bl false))) sNil) sNil) (sCons (sIf (tVal (eCmp .ne (eIsi ["tuple"] (eVar 0)) (eIsi ["tuple"] (eVar 1)))) (sCons (sRet (eCst (.bl false))) sNil) sNil) (sCons (sRet (eAnd (eCmp .eq (eBlt lenD (eCons (eVar 0) eNil)) (eBlt lenD (eCons (eVar 1) eNil))) (eBlt allD (eCons (eComp [2] (iRng (eCons (eBlt lenD (eCons (eVar 1) eNil)) eNil)) (gName 2) tTrue sameE) eNil)))) sNil))) sNil) (sCons (sIf (tOr (tVal (eIsi ["bool"] (eVar 1))) (tVal (eIsi ["bool"] (eVar 0)))) (sCons (sRet (eAnd (eIsi ["bool"] (eVar 0)) (eAnd (eIsi ["bool"] (eVar 1)) (eCmp .eq (eVar 0) (eVar 1))))) sNil) sNil) (sCons (sIf (tVal (eCmp .is (eVar 1) (eCst .non))) (sCons (sRet (eCmp .is (eVar 0) (eCst .non))) sNil) sNil) (sCons (sIf (tOr (tVal (eCmp .ne (eIsi ["int"] (eVar 0)) (eIsi ["int"] (eVar 1)))) (tVal (eCmp .ne (eIsi ["str"] (eVar 0)) (eIsi ["str"] (eVar 1))))) (sCons (sRet (eCst (.bl false))) sNil) sNil) (sCons (sRet (eCmp .eq (eVar 0) (eVar 1))) sNil))))) := rfl
theorem isi_ll (xs : List D) : isiD ["list", "tuple"] (.lst xs) = some (.val (.bl true)) := rfl
theorem isi_l1 (xs : List D) : isiD ["list"] (.lst xs) = some (.val (.bl true)) := rfl
theorem isi_l2 (xs : List D) : isiD ["tuple"] (.lst xs) = some (.val (.bl false)) := rfl
theorem isi_tt (xs : List D) : isiD ["list", "tuple"] (.tup xs) = some (.val (.bl true)) := rfl
theorem isi_t1 (xs : List D) : isiD ["list"] (.tup xs) = some (.val (.bl false)) := rfl
theorem isi_t2 (xs : List D) : isiD ["tuple"] (.tup xs) = some (.val (.bl true)) := rfl
theorem same_seq {p : Pg} {n : Nat} (ih : SameS n (p.F "_law_same")) {c c' : C} {d : D} {xs : List D} (hc : c.frz = d) (hc' : c'.frz = d) (hd : d = .lst xs ∨ d = .tup xs) (hl : xs.length ≤ 1000) (hx : ∀ x ∈ xs, Pl n x) :
    s_law_same p [some c, some c', none] = .ok (.ret (.val (.bl true))) [some c, some c', none] := by
  obtain ⟨ys, e, hy⟩ := same_comp ih hc hc' hd hl hx
  have ha := all_true hy
  have hr := rng_nat hl
  rw [s_law_same_eq]
  rcases hd with rfl | rfl
  · simp -implicitDefEqProofs [hc, hc', isi_ll, isi_l1, isi_l2, hr, e, ha]
  · simp -implicitDefEqProofs [hc, hc', isi_tt, isi_t1, isi_t2, hr, e, ha]
theorem same_flat {p : Pg} {c c' : C} {d : D} (hc : c.frz = d) (hc' : c'.frz = d) (hd : d.fl) : s_law_same p [some c, some c', none] = .ok (.ret (.val (.bl true))) [some c, some c', none] := by
  unfold s_law_same
  cases d <;> first | exact hd.elim | skip
  · have i1 : isiD ["list", "tuple"] .non = some (.val (.bl false)) := rfl
    have i2 : isiD ["bool"] .non = some (.val (.bl false)) := rfl
    have i3 : cmpD .is .non .non = some (.val (.bl true)) := rfl
    simp [hc, hc', i1, i2, i3]
  · rename_i b
    have i1 : isiD ["list", "tuple"] (.bl b) = some (.val (.bl false)) := rfl
    have i2 : isiD ["bool"] (.bl b) = some (.val (.bl true)) := rfl
    simp [hc, hc', i1, i2]
  · rename_i b
    have i1 : isiD ["list", "tuple"] (.int b) = some (.val (.bl false)) := rfl
    have i2 : isiD ["bool"] (.int b) = some (.val (.bl false)) := rfl
    have i3 : cmpD .is (.int b) .non = some (.val (.bl false)) := rfl
    have i4 : isiD ["int"] (.int b) = some (.val (.bl true)) := rfl
    have i5 : isiD ["str"] (.int b) = some (.val (.bl false)) := rfl
    simp [hc, hc', i1, i2, i3, i4, i5]
  · rename_i b
    have i1 : isiD ["list", "tuple"] (.str b) = some (.val (.bl false)) := rfl
    have i2 : isiD ["bool"] (.str b) = some (.val (.bl false)) := rfl
    have i3 : cmpD .is (.str b) .non = some (.val (.bl false)) := rfl
    have i4 : isiD ["int"] (.str b) = some (.val (.bl false)) := rfl
    have i5 : isiD ["str"] (.str b) = some (.val (.bl true)) := rfl
    simp [hc, hc', i1, i2, i3, i4, i5]
theorem same_ok {p : Pg} {n : Nat} (ih : ∀ m, n = m + 1 → SameS m (p.F "_law_same")) : SameS n (runDef p d_law_same) := by
  intro c c' d hc hc' hp
  refine runDef_ret rfl (r := [some c, some c', none]) ?_ rfl
  show s_law_same p [some c, some c', none] = _
  cases n with
  | zero => exact same_flat hc hc' hp
  | succ n =>
    rcases hp with hp | ⟨xs, h1, h2, h3⟩
    · exact same_flat hc hc' hp
    · exact same_seq (ih n rfl) hc hc' h1 h2 h3
end Mi

set_option Elab.async false
set_option linter.all false
set_option maxRecDepth 100000
/-! Mi: more steps; texts. -/
namespace Mi
open PySem L2
def chF2 (r : Env) : Option Bool → Out Rf
  | some k => .ok (.tmp (blV k)) r
  | none => .bad
@[simp] theorem chF2_some (r : Env) (k : Bool) : chF2 r (some k) = .ok (.tmp (blV k)) r := rfl
def chF1 (op' : COp) (r : Env) : Option D → Option D → Out Rf
  | some y, some z => chF2 r (cmpB op' y z)
  | _, _ => .bad
@[simp] theorem chF1_some (op' : COp) (r : Env) (y z : D) : chF1 op' r (some y) (some z) = chF2 r (cmpB op' y z) := rfl
def chK3 (op' : COp) (b : Rf) : Rf → Env → Out Rf := fun c r => chF1 op' r (view b r) (view c r)
@[simp] theorem chK3_eq (op' : COp) (b c : Rf) (r : Env) : chK3 op' b c r = chF1 op' r (view b r) (view c r) := rfl
def chF0 (op' : COp) (h : SE) (p : Pg) (b : Rf) (r : Env) : Option Bool → Out Rf
  | some true => (h p r).bind (chK3 op' b)
  | some false => .ok (.tmp (blV false)) r
  | none => .bad
@[simp] theorem chF0_t (op' : COp) (h : SE) (p : Pg) (b : Rf) (r : Env) : chF0 op' h p b r (some true) = (h p r).bind (chK3 op' b) := rfl
@[simp] theorem chF0_f (op' : COp) (h : SE) (p : Pg) (b : Rf) (r : Env) : chF0 op' h p b r (some false) = .ok (.tmp (blV false)) r := rfl
def chF (op op' : COp) (h : SE) (p : Pg) (b : Rf) (r : Env) : Option D → Option D → Out Rf
  | some x, some y => chF0 op' h p b r (cmpB op x y)
  | _, _ => .bad
@[simp] theorem chF_some (op op' : COp) (h : SE) (p : Pg) (b : Rf) (r : Env) (x y : D) : chF op op' h p b r (some x) (some y) = chF0 op' h p b r (cmpB op x y) := rfl
def chK2 (op op' : COp) (h : SE) (p : Pg) (a : Rf) : Rf → Env → Out Rf := fun b r => chF op op' h p b r (view a r) (view b r)
def chK1 (op op' : COp) (g h : SE) (p : Pg) : Rf → Env → Out Rf := fun a r => (g p r).bind (chK2 op op' h p a)
@[simp] theorem chK2_eq (op op' : COp) (h : SE) (p : Pg) (a b : Rf) (r : Env) : chK2 op op' h p a b r = chF op op' h p b r (view a r) (view b r) := rfl
@[simp] theorem chK1_eq (op op' : COp) (g h : SE) (p : Pg) (a : Rf) (r : Env) : chK1 op op' g h p a r = (g p r).bind (chK2 op op' h p a) := rfl
@[simp] theorem eChain_eq (op op' : COp) (f g h : SE) (p : Pg) (r : Env) : eChain op op' f g h p r = (f p r).bind (chK1 op op' g h p) := by
  unfold eChain
  congr 1
  all_goals
    funext a r1
    show (g p r1).bind _ = (g p r1).bind _
    congr 1
    funext b r2
    show _ = chF op op' h p b r2 (view a r2) (view b r2)
    cases view a r2 <;> cases view b r2 <;> try rfl
    rename_i x y
    show _ = chF0 op' h p b r2 (cmpB op x y)
    dsimp only
    cases cmpB op x y with
    | none => rfl
    | some k =>
      cases k with
      | false => rfl
      | true =>
        show (h p r2).bind _ = (h p r2).bind _
        congr 1
        funext c r3
        show _ = chF1 op' r3 (view b r3) (view c r3)
        cases view b r3 <;> cases view c r3 <;> try rfl
        rename_i y' z
        show _ = chF2 r3 (cmpB op' y' z)
        dsimp only
        cases cmpB op' y' z <;> rfl
@[simp] theorem cb_le (i j : Int) : cmpB .le (.int i) (.int j) = some (decide (i ≤ j)) := rfl
@[simp] theorem cb_lt (i j : Int) : cmpB .lt (.int i) (.int j) = some (decide (i < j)) := rfl
@[simp] theorem cm_inS (a b : Str) : cmpD .mem (.str a) (.str b) = some (.val (.bl (inS a b))) := rfl
def sgns (s : Str) : List D := s.cps.toList.map fun c => .str ⟨#[c]⟩
theorem itD_s (s : Str) : itD (.str s) = some (sgns s) := rfl
theorem szM {n : Nat} (h : n ≤ 16777216) : szOk n = true := decide_eq_true h
theorem addS {a b : Str} (h : a.length + b.length ≤ 16777216) : binD .add (.str a) (.str b) = some (.val (.str (a ++ b))) := by
  show (if szOk (a.length + b.length) then some (strV (a ++ b)) else none) = _
  rw [if_pos (szM h)]
  rfl
theorem len_add (a b : Str) : (a ++ b).length = a.length + b.length := by
  show (a.cps ++ b.cps).size = _
  rw [Array.size_append]
  rfl
theorem cut_s {s : Str} (h : s.length ≤ 16777216) (lo hi : Option Int) : cutD (.str s) lo hi = some (.val (.str (cutS s lo hi))) := by
  show (if szOk s.length then some (strV (cutS s lo hi)) else none) = _
  rw [if_pos (szM h)]
  rfl
theorem len_cut (s : Str) (lo hi : Option Int) : (cutS s lo hi).length ≤ s.length := by
  show (List.toArray _).size ≤ s.cps.size
  rw [List.size_toArray, List.length_take, List.length_drop, Array.length_toList]
  omega
theorem ltr_len {y : Str} {c : Nat} (h : y = ⟨#[c]⟩) : y.length = 1 := by subst h; rfl
/-- an item of a written text -/
theorem ix_str {s : Str} {n : Nat} (hs : s.length = n) (hn : n ≤ 1000) {i : Int} (h0 : 0 ≤ i) (h1 : i < n) : ∃ c, ixD (.str s) (.int i) = some (.val (.str ⟨#[c]⟩)) := by
  obtain ⟨k, rfl⟩ := Int.eq_ofNat_of_zero_le h0
  have hk : k < s.cps.toList.length := by rw [Array.length_toList]; show k < s.length; omega
  refine ⟨s.cps.toList[k], ?_⟩
  show (if szOk s.length then (atI s.cps.toList (k : Int)).map (fun c => strV ⟨#[c]⟩) else none) = _
  rw [if_pos (szS (by omega)), atI_nat (List.getElem?_eq_getElem hk)]
  rfl
theorem len_s {s : Str} (h : s.length ≤ 16777216) : lenD [.str s] = some (.val (.int s.length)) := len_str h
theorem allBl_map {A : Type} (f : A → Bool) : ∀ xs : List A, allBl (xs.map fun x => .bl (f x)) = some (xs.map f)
  | [] => rfl
  | x :: xs => by
    rw [List.map_cons, List.map_cons]
    unfold allBl
    rw [allBl_map f xs]
    rfl
theorem all_map {A : Type} (f : A → Bool) (xs : List A) : allD [.lst (xs.map fun x => .bl (f x))] = some (.val (.bl (xs.all f))) := by
  unfold allD
  dsimp only
  rw [allBl_map]
  simp [blV]
/-- a comprehension that maps -/
theorem compL_map {own : List Nat} {g : SG} {e : SE} {p : Pg} {r0 : Env} {f : D → D} : ∀ {ds : List D}, (∀ d ∈ ds, ∃ r1 r3 r4 a, g d r0 = some r1 ∧ e p r1 = .ok a r3 ∧ fz a r3 = some (f d, r4) ∧ wipeE own r4 = r0) →
    ∀ {acc : List D}, acc.length + ds.length ≤ sizeLine → compL own g tTrue e p ds acc r0 = .ok (acc ++ ds.map f) r0
  | [], _, acc, _ => by rw [List.map_nil, List.append_nil]; rfl
  | d :: ds, h, acc, hl => by
    obtain ⟨r1, r3, r4, a, h1, h3, h4, h6⟩ := h d (List.mem_cons_self ..)
    rw [List.length_cons] at hl
    have ih := compL_map (ds := ds) (fun d hd => h d (List.mem_cons_of_mem _ hd)) (acc := acc ++ [f d]) (by rw [List.length_append, List.length_singleton]; omega)
    unfold compL
    rw [h1]
    dsimp only [tTrue]
    rw [h3]
    dsimp only
    rw [h4]
    dsimp only
    rw [if_pos (decide_eq_true (by omega)), h6, ih, List.append_assoc]
    rfl
/-- the signs of a text, each looked up in a written text -/
theorem comp_in {p : Pg} {s w : Str} {e : SE} (he : ∀ c : Nat, e p [some (.val (.str s)), some (.val (.str ⟨#[c]⟩))] = .ok (.tmp (.val (.bl (inS ⟨#[c]⟩ w)))) [some (.val (.str s)), some (.val (.str ⟨#[c]⟩))]) (hs : s.length ≤ 16777216) :
    compL [1] (gName 1) tTrue e p (sgns s) [] [some (.val (.str s)), none] = .ok (s.cps.toList.map fun c => .bl (inS ⟨#[c]⟩ w)) [some (.val (.str s)), none] := by
  have := compL_map (own := [1]) (g := gName 1) (e := e) (p := p) (r0 := [some (.val (.str s)), none]) (f := fun d => match d with | .str t => .bl (inS t w) | d => d) (ds := sgns s) (fun d hd => by
    obtain ⟨c, hc, rfl⟩ := List.mem_map.mp hd
    exact ⟨_, _, _, _, rfl, he c, rfl, rfl⟩) (acc := []) (by rw [List.length_nil]; unfold sgns; rw [List.length_map, Array.length_toList]; show 0 + s.length ≤ 16777216; omega)
  rw [this, List.nil_append]
  unfold sgns
  rw [List.map_map]
  rfl
end Mi

set_option Elab.async false
set_option linter.all false
set_option maxRecDepth 100000
/-! Mi: calls with defaults and keywords step by step; numbers in lists. -/
namespace Mi
open PySem L2
def pickK (F : List C → FOut) (r : Env) : Option (List Rf) → Out Rf
  | some bs => callK1 F (lend bs r)
  | none => .bad
@[simp] theorem pickK_some (F : List C → FOut) (r : Env) (bs : List Rf) : pickK F r (some bs) = callK1 F (lend bs r) := rfl
def callSK (x : Str) (src : List (Option D)) (p : Pg) : List Rf → Env → Out Rf := fun as r => pickK (p.F x) r (pick src as)
@[simp] theorem callSK_eq (x : Str) (src : List (Option D)) (p : Pg) (as : List Rf) (r : Env) : callSK x src p as r = pickK (p.F x) r (pick src as) := rfl
@[simp] theorem eCallS_eq (x : Str) (src : List (Option D)) (g : SA) (p : Pg) (r : Env) : eCallS x src g p r = (g p r).bind (callSK x src p) := by
  unfold eCallS
  congr 1
def callKK2 (x : Str) (src : List (Option D)) (p : Pg) (as : List Rf) : List Rf → Env → Out Rf := fun bs r => pickK (p.F x) r (pick src (as ++ bs))
def callKK (x : Str) (src : List (Option D)) (gk : SA) (p : Pg) : List Rf → Env → Out Rf := fun as r => (gk p r).bind (callKK2 x src p as)
@[simp] theorem callKK2_eq (x : Str) (src : List (Option D)) (p : Pg) (as bs : List Rf) (r : Env) : callKK2 x src p as bs r = pickK (p.F x) r (pick src (as ++ bs)) := rfl
@[simp] theorem callKK_eq (x : Str) (src : List (Option D)) (gk : SA) (p : Pg) (as : List Rf) (r : Env) : callKK x src gk p as r = (gk p r).bind (callKK2 x src p as) := rfl
@[simp] theorem eCallK_eq (x : Str) (src : List (Option D)) (g gk : SA) (p : Pg) (r : Env) : eCallK x src g gk p r = (g p r).bind (callKK x src gk p) := by
  unfold eCallK
  congr 1
@[simp] theorem pick_nil : pick [] [] = some [] := rfl
@[simp] theorem pick_arg (s : List (Option D)) (a : Rf) (as : List Rf) : pick (none :: s) (a :: as) = (pick s as).map (a :: ·) := rfl
@[simp] theorem pick_dfl (s : List (Option D)) (d : D) (as : List Rf) : pick (some d :: s) as = (pick s as).map (.tmp (.val d) :: ·) := by cases as <;> rfl
/-! lists changed by a method -/
def chLF (i : Nat) (r : Env) : Option (D × List D) → Out Rf
  | some (d, ys) => .ok (.tmp (.val d)) (r.set i (some (.ls ys)))
  | none => .bad
@[simp] theorem chLF_ok (i : Nat) (r : Env) (d : D) (ys : List D) : chLF i r (some (d, ys)) = .ok (.tmp (.val d)) (r.set i (some (.ls ys))) := rfl
def chLS (m : LM) (i : Nat) (ds : List D) (r : Env) : Option (Option C) → Out Rf
  | some (some (.ls xs)) => chLF i r (chL m xs ds)
  | _ => .bad
@[simp] theorem chLS_ls (m : LM) (i : Nat) (ds : List D) (r : Env) (xs : List D) : chLS m i ds r (some (some (.ls xs))) = chLF i r (chL m xs ds) := rfl
def chLZ (m : LM) (i : Nat) : Option (List D × Env) → Out Rf
  | some (ds, r2) => chLS m i ds r2 r2[i]?
  | none => .bad
@[simp] theorem chLZ_some (m : LM) (i : Nat) (ds : List D) (r : Env) : chLZ m i (some (ds, r)) = chLS m i ds r r[i]? := rfl
def chLK (m : LM) (i : Nat) : List Rf → Env → Out Rf := fun as r => chLZ m i (fzs as r)
@[simp] theorem chLK_eq (m : LM) (i : Nat) (as : List Rf) (r : Env) : chLK m i as r = chLZ m i (fzs as r) := rfl
def chL0 (m : LM) (i : Nat) (g : SA) (p : Pg) (r : Env) : Option (Option C) → Out Rf
  | some (some (.ls _)) => (g p r).bind (chLK m i)
  | _ => .bad
@[simp] theorem chL0_ls (m : LM) (i : Nat) (g : SA) (p : Pg) (r : Env) (xs : List D) : chL0 m i g p r (some (some (.ls xs))) = (g p r).bind (chLK m i) := rfl
@[simp] theorem eChL_eq (m : LM) (i : Nat) (g : SA) (p : Pg) (r : Env) : eChL m i g p r = chL0 m i g p r r[i]? := by
  unfold eChL
  cases r[i]? with
  | none => rfl
  | some c => cases c with
    | none => rfl
    | some c => cases c with
      | val d => rfl
      | dc ks xs => rfl
      | ls xs =>
        show (g p r).bind _ = (g p r).bind _
        congr 1
        all_goals
          funext as r1
          show _ = chLZ m i (fzs as r1)
          cases fzs as r1 with
          | none => rfl
          | some q =>
            rcases q with ⟨ds, r2⟩
            show _ = chLS m i ds r2 r2[i]?
            dsimp only
            cases r2[i]? with
            | none => rfl
            | some c => cases c with
              | none => rfl
              | some c => cases c with
                | val d => rfl
                | ls ys =>
                  show _ = chLF i r2 (chL m ys ds)
                  dsimp only
                  cases chL m ys ds with
                  | none => rfl
                  | some z => rfl
/-! numbers in lists -/
def intsD (ns : List Int) : List D := ns.map .int
theorem allInt_ints : ∀ ns : List Int, allInt (intsD ns) = some ns
  | [] => rfl
  | n :: ns => by
    show allInt (.int n :: intsD ns) = _
    unfold allInt
    rw [allInt_ints ns]
    rfl
theorem foldMin : ∀ (ns : List Int) (n m : Int), (m = n ∨ m ∈ ns) → m ≤ n → (∀ x ∈ ns, m ≤ x) → listMin n ns = m
  | [], n, m, h, _, _ => by
    rcases h with h | h
    · exact h.symm
    · cases h
  | k :: ns, n, m, h, hn, hx => by
    show listMin (if k < n then k else n) ns = m
    have hk := hx k (List.mem_cons_self ..)
    refine foldMin ns _ m ?_ (by split <;> omega) fun x hx' => hx x (List.mem_cons_of_mem _ hx')
    rcases h with h | h
    · left; split <;> omega
    · rcases List.mem_cons.mp h with h | h
      · left; split <;> omega
      · right; exact h
theorem foldMax : ∀ (ns : List Int) (n m : Int), (m = n ∨ m ∈ ns) → n ≤ m → (∀ x ∈ ns, x ≤ m) → listMax n ns = m
  | [], n, m, h, _, _ => by
    rcases h with h | h
    · exact h.symm
    · cases h
  | k :: ns, n, m, h, hn, hx => by
    show listMax (if n < k then k else n) ns = m
    have hk := hx k (List.mem_cons_self ..)
    refine foldMax ns _ m ?_ (by split <;> omega) fun x hx' => hx x (List.mem_cons_of_mem _ hx')
    rcases h with h | h
    · left; split <;> omega
    · rcases List.mem_cons.mp h with h | h
      · left; split <;> omega
      · right; exact h
theorem min_is {ns : List Int} {m : Int} (h : m ∈ ns) (hx : ∀ x ∈ ns, m ≤ x) : minD [.lst (intsD ns)] = some (.val (.int m)) := by
  cases ns with
  | nil => cases h
  | cons n ns =>
    unfold minD
    dsimp only
    rw [allInt_ints]
    dsimp only
    rw [foldMin ns n m (by rcases List.mem_cons.mp h with h | h; exact .inl h; exact .inr h) (hx n (List.mem_cons_self ..)) fun x hx' => hx x (List.mem_cons_of_mem _ hx')]
    rfl
theorem max_is {ns : List Int} {m : Int} (h : m ∈ ns) (hx : ∀ x ∈ ns, x ≤ m) : maxD [.lst (intsD ns)] = some (.val (.int m)) := by
  cases ns with
  | nil => cases h
  | cons n ns =>
    unfold maxD
    dsimp only
    rw [allInt_ints]
    dsimp only
    rw [foldMax ns n m (by rcases List.mem_cons.mp h with h | h; exact .inl h; exact .inr h) (hx n (List.mem_cons_self ..)) fun x hx' => hx x (List.mem_cons_of_mem _ hx')]
    rfl
theorem sum_is (ns : List Int) : sumD [.lst (intsD ns)] = some (.val (.int ns.sum)) := by
  unfold sumD
  dsimp only
  rw [allInt_ints]
  rfl
theorem flat_ints (ns : List Int) : (intsD ns).all D.flat = true := by
  rw [List.all_eq_true]
  intro x hx
  obtain ⟨n, _, rfl⟩ := List.mem_map.mp hx
  rfl
theorem mem_ints (i : Int) (ns : List Int) : cmpD .mem (.int i) (.lst (intsD ns)) = some (.val (.bl (decide (i ∈ ns)))) := by
  show (inD (.int i) (.lst (intsD ns))).map blV = _
  show (memD (.int i) (intsD ns)).map blV = _
  unfold memD
  rw [flat_ints]
  show some (blV _) = _
  congr 3
  induction ns with
  | nil => rfl
  | cons n ns ih =>
    show (eqF (.int n) (.int i) || (intsD ns).any fun y => eqF y (.int i)) = _
    rw [ih]
    show (n == i || _) = _
    by_cases h : n = i
    · subst h; simp
    · have h' : ¬ i = n := fun q => h q.symm
      simp [h, h']
/-- a comprehension that picks and maps -/
theorem compL_filter {own : List Nat} {g : SG} {t : ST} {e : SE} {p : Pg} {r0 : Env} {f : D → D} {b : D → Bool} : ∀ {ds : List D}, (∀ d ∈ ds, ∃ r1 r2, g d r0 = some r1 ∧ t p r1 = .ok (b d) r2 ∧ (b d = false → wipeE own r2 = r0) ∧ (b d = true → ∃ r3 r4 a, e p r2 = .ok a r3 ∧ fz a r3 = some (f d, r4) ∧ wipeE own r4 = r0)) →
    ∀ {acc : List D}, acc.length + ds.length ≤ sizeLine → compL own g t e p ds acc r0 = .ok (acc ++ (ds.filter b).map f) r0
  | [], _, acc, _ => by rw [List.filter_nil, List.map_nil, List.append_nil]; rfl
  | d :: ds, h, acc, hl => by
    obtain ⟨r1, r2, h1, h2, h3, h4⟩ := h d (List.mem_cons_self ..)
    rw [List.length_cons] at hl
    have ih := fun {acc : List D} => compL_filter (ds := ds) (fun d hd => h d (List.mem_cons_of_mem _ hd)) (acc := acc)
    unfold compL
    rw [h1]
    dsimp only
    rw [h2]
    cases hb : b d with
    | false =>
      dsimp only
      rw [h3 hb, ih (by omega), List.filter_cons_of_neg (by simp [hb])]
    | true =>
      obtain ⟨r3, r4, a, k1, k2, k3⟩ := h4 hb
      dsimp only
      rw [k1]
      dsimp only
      rw [k2]
      dsimp only
      rw [if_pos (decide_eq_true (by omega)), k3, ih (by rw [List.length_append, List.length_singleton]; omega), List.filter_cons_of_pos hb, List.map_cons, List.append_assoc]
      rfl
def rngI (lo hi : Int) : List Int := (List.range (hi + 1 - lo).toNat).map fun (k : Nat) => lo + (k : Int)
theorem rngI_eq (lo hi : Int) : rngL lo (hi + 1 - lo).toNat = intsD (rngI lo hi) := by
  unfold rngL intsD rngI
  rw [List.map_map]
  rfl
theorem mem_rngI {lo hi x : Int} : x ∈ rngI lo hi ↔ lo ≤ x ∧ x ≤ hi := by
  unfold rngI
  constructor
  · intro h
    obtain ⟨k, hk, rfl⟩ := List.mem_map.mp h
    have := List.mem_range.mp hk
    omega
  · intro h
    exact List.mem_map.mpr ⟨(x - lo).toNat, List.mem_range.mpr (by omega), by omega⟩
theorem len_rngI (lo hi : Int) : (rngI lo hi).length = (hi + 1 - lo).toNat := by unfold rngI; simp
end Mi

set_option Elab.async false
set_option linter.all false
set_option maxRecDepth 100000
/-! Mi: names, books, rows, frames as the laws draw them. -/
namespace Mi
open PySem L2
/-- the meaning of _law_one: 0 _law_bag_here, 1 _law_row_here -/
def s_law_one : SS := (sCons (sRet (eSub (eVar 1) (eCall "_law_pull" (eCons (eVar 0) (eCons (eBlt lenD (eCons (eVar 1) eNil)) eNil))))) sNil)
def d_law_one : Def := ⟨[true, true], 2, s_law_one⟩
/-- the meaning of _law_names: 0 _law_bag_here, 1 _law_many, 2 _law_found, 3 _law_stem, 4 _law_k, 5 _law_name_here, 6 _law_sign -/
def s_law_names : SS := (sCons (sSet 2 (eLst eNil)) (sCons (sSet 3 (eBin .mul (eCall "_law_letters" (eCons (eVar 0) (eCons (eCall "_law_pull" (eCons (eVar 0) (eCons (eCst (.int 7)) eNil))) eNil))) (eCall "_law_pull" (eCons (eVar 0) (eCons (eCst (.int 2)) eNil))))) (sCons (sFor (iRng (eCons (eVar 1) eNil)) (gName 4) (sCons (sSet 5 (eSlice (eBin .add (eVar 3) (eCall "_law_name" (eCons (eVar 0) eNil))) oNone (oSome (eCst (.int 8))))) (sCons (sFor (iSeq (eCst (.str "abcdefgh"))) (gName 6) (sCons (sIf (tVal (eCmp .mem (eVar 5) (eVar 2))) (sCons (sSet 5 (eSlice (eBin .add (eVar 5) (eVar 6)) oNone (oSome (eCst (.int 8))))) sNil) sNil) (sCons (sIf (tVal (eCmp .mem (eVar 5) (eVar 2))) (sCons (sSet 5 (eBin .add (eVar 6) (eSlice (eVar 5) (oSome (eCst (.int 1))) oNone))) sNil) sNil) sNil))) (sCons (sExpr (eChL .append 2 (eCons (eVar 5) eNil))) sNil)))) (sCons (sRet (eVar 2)) sNil))))
def d_law_names : Def := ⟨[true, true], 7, s_law_names⟩
/-- the meaning of _law_book: 0 _law_bag_here, 1 _law_names_here, 2 _law_found, 3 _law_name_here, 4 _law_top -/
def s_law_book : SS := (sCons (sSet 2 (eTup eNil)) (sCons (sForV 1 (gName 3) (sCons (sSet 4 (eSub (eLst (eCons (eCst (.int 100)) (eCons (eBin .add (eCst (.int 1)) (eCall "_law_pull" (eCons (eVar 0) (eCons (eCst (.int 100)) eNil)))) (eCons (eCst (.int 1)) eNil)))) (eCall "_law_pull" (eCons (eVar 0) (eCons (eCst (.int 3)) eNil))))) (sCons (sSet 2 (eBin .add (eVar 2) (eTup (eCons (eTup (eCons (eVar 3) (eCons (eVar 4) (eCons (eCmp .eq (eCall "_law_pull" (eCons (eVar 0) (eCons (eCst (.int 2)) eNil))) (eCst (.int 1))) eNil)))) eNil)))) sNil))) (sCons (sRet (eBlt tupleD (eCons (eBlt sortedD (eCons (eVar 2) eNil)) eNil))) sNil)))
def d_law_book : Def := ⟨[true, true], 5, s_law_book⟩
/-- the meaning of _law_row: 0 _law_bag_here, 1 _law_names_here, 2 _law_book_here, 3 _law_word, 4 _law_stamp, 5 _law_name_here, 6 _law_many -/
def s_law_row : SS := (sCons (sSet 3 (eSub (eLst (eCons (eCst (.str "event")) (eCons (eCst (.str "total")) (eCons (eCst (.str "sent")) (eCons (eCst (.str "had")) (eCons (eCst (.str "call")) (eCons (eCst (.str "done")) (eCons (eCst (.str "event")) eNil)))))))) (eCall "_law_pull" (eCons (eVar 0) (eCons (eCst (.int 7)) eNil))))) (sCons (sSet 4 (eSub (eLst (eCons (eCall "_law_pull" (eCons (eVar 0) (eCons (eCst (.int 401)) eNil))) (eCons (eCst (.int 0)) (eCons (eCst (.int 400)) eNil)))) (eCall "_law_pull" (eCons (eVar 0) (eCons (eCst (.int 3)) eNil))))) (sCons (sSet 5 (eCall "_law_one" (eCons (eVar 0) (eCons (eVar 1) eNil)))) (sCons (sIf (tVal (eCmp .eq (eVar 3) (eCst (.str "event")))) (sCons (sRet (eTup (eCons (eVar 3) (eCons (eVar 4) (eCons (eSub (eCall "_law_one" (eCons (eVar 0) (eCons (eVar 2) eNil))) (eCst (.int 0))) (eCons (eSub (eLst (eCons (eCall "_law_pull" (eCons (eVar 0) (eCons (eCst (.int 101)) eNil))) (eCons (eCst (.int 100)) eNil))) (eCall "_law_pull" (eCons (eVar 0) (eCons (eCst (.int 2)) eNil)))) (eCons (eVar 5) eNil))))))) sNil) sNil) (sCons (sIf (tVal (eCmp .eq (eVar 3) (eCst (.str "total")))) (sCons (sSet 6 (eSub (eLst (eCons (eCall "_law_pull" (eCons (eVar 0) (eCons (eCst (.int 1001)) eNil))) (eCons (eCst (.int 1000)) eNil))) (eCall "_law_pull" (eCons (eVar 0) (eCons (eCst (.int 2)) eNil))))) (sCons (sRet (eTup (eCons (eVar 3) (eCons (eVar 4) (eCons (eSub (eCall "_law_one" (eCons (eVar 0) (eCons (eVar 2) eNil))) (eCst (.int 0))) (eCons (eVar 6) (eCons (eSub (eLst (eCons (eCall "_law_pull" (eCons (eVar 0) (eCons (eCst (.int 100001)) eNil))) (eCons (eCst (.int 100000)) eNil))) (eCall "_law_pull" (eCons (eVar 0) (eCons (eCst (.int 2)) eNil)))) eNil))))))) sNil)) sNil) (sCons (sIf (tVal (eCmp .eq (eVar 3) (eCst (.str "call")))) (sCons (sRet (eTup (eCons (eVar 3) (eCons (eVar 4) (eCons (eVar 5) (eCons (eSub (eLst (eCons (eCall "_law_one" (eCons (eVar 0) (eCons (eVar 1) eNil))) (eCons (eCst (.str "")) eNil))) (eCall "_law_pull" (eCons (eVar 0) (eCons (eCst (.int 2)) eNil)))) eNil)))))) sNil) sNil) (sCons (sRet (eTup (eCons (eVar 3) (eCons (eVar 4) (eCons (eVar 5) eNil))))) sNil)))))))
def d_law_row : Def := ⟨[true, true, true], 7, s_law_row⟩
/-- the meaning of _law_frame: 0 _law_bag_here, 1 _law_names_here, 2 _law_book_here, 3 _law_first, 4 _law_many, 5 _law_rows, 6 _law_k -/
def s_law_frame : SS := (sCons (sSet 3 (eSub (eLst (eCons (eCst (.int 1)) (eCons (eBin .add (eCst (.int 1)) (eCall "_law_pull" (eCons (eVar 0) (eCons (eCst (.int 40)) eNil)))) (eCons (eCst (.int 40)) (eCons (eCst (.int 29)) eNil))))) (eCall "_law_pull" (eCons (eVar 0) (eCons (eCst (.int 4)) eNil))))) (sCons (sSet 4 (eBlt minD (eCons (eBin .add (eCst (.int 1)) (eSub (eLst (eCons (eCall "_law_pull" (eCons (eVar 0) (eCons (eCst (.int 12)) eNil))) (eCons (eCst (.int 11)) (eCons (eCst (.int 0)) eNil)))) (eCall "_law_pull" (eCons (eVar 0) (eCons (eCst (.int 3)) eNil))))) (eCons (eBin .sub (eCst (.int 41)) (eVar 3)) eNil)))) (sCons (sSet 5 (eBlt tupleD (eCons (eComp [6] (iRng (eCons (eVar 4) eNil)) (gName 6) tTrue (eCall "_law_row" (eCons (eVar 0) (eCons (eVar 1) (eCons (eVar 2) eNil))))) eNil))) (sCons (sRet (eTup (eCons (eCall "_law_one" (eCons (eVar 0) (eCons (eVar 1) eNil))) (eCons (eCall "_law_pull" (eCons (eVar 0) (eCons (eCst (.int 6)) eNil))) (eCons (eVar 3) (eCons (eVar 5) eNil)))))) sNil))))
def d_law_frame : Def := ⟨[true, true, true], 7, s_law_frame⟩
theorem forL_pre {g : SG} {b : SS} {p : Pg} {I : List D → Env → Prop} : ∀ {ds pre : List D}, (∀ q d post, pre ++ ds = q ++ d :: post → ∀ r, I q r → ∃ r1 r2, g d r = some r1 ∧ b p r1 = .ok .nx r2 ∧ I (q ++ [d]) r2) → ∀ {r : Env}, I pre r → ∃ r', forL g b p ds r = .ok .nx r' ∧ I (pre ++ ds) r'
  | [], pre, _, r, hI => ⟨r, rfl, by rw [List.append_nil]; exact hI⟩
  | d :: ds, pre, h, r, hI => by
    obtain ⟨r1, r2, h1, h2, h3⟩ := h pre d ds rfl r hI
    obtain ⟨r', h4, h5⟩ := forL_pre (ds := ds) (pre := pre ++ [d]) (fun q d' post e => h q d' post (by rw [← e, List.append_assoc]; rfl)) h3
    refine ⟨r', by unfold forL; rw [h1]; dsimp only; rw [h2]; exact h4, ?_⟩
    rw [List.append_assoc] at h5
    exact h5
@[simp] theorem neg_int (i : Int) : negI (.int i) = some (intV (-i)) := rfl
/-! picking -/
theorem pick_at {xs : List D} {r : Int} (h0 : 0 ≤ r) (h1 : r < xs.length) : ∃ x, atI xs r = some x ∧ x ∈ xs := by
  obtain ⟨k, rfl⟩ := Int.eq_ofNat_of_zero_le h0
  have hk : k < xs.length := by omega
  exact ⟨xs[k], atN (List.getElem?_eq_getElem hk), List.getElem_mem hk⟩
theorem pick_rng {ns : List Int} {lo hi r : Int} (h0 : 0 ≤ r) (h1 : r < ns.length) (hb : ∀ n ∈ ns, lo ≤ n ∧ n ≤ hi) : ∃ z, atI (intsD ns) r = some (.int z) ∧ lo ≤ z ∧ z ≤ hi := by
  obtain ⟨x, e, hx⟩ := pick_at (xs := intsD ns) h0 (by unfold intsD; rw [List.length_map]; exact h1)
  obtain ⟨n, hn, rfl⟩ := List.mem_map.mp hx
  exact ⟨n, e, hb n hn⟩
theorem ints_cons (n : Int) (ns : List Int) : intsD (n :: ns) = .int n :: intsD ns := rfl
theorem ints_nil : intsD [] = [] := rfl
def OneS (F : List C → FOut) : Prop := ∀ (b c : C) (xs : List D), BagOk b → (c.frz = .lst xs ∨ c.frz = .tup xs) → xs ≠ [] → xs.length ≤ 1000 → ∃ x b', F [b, c] = .ok (.val x) [some b', some c] ∧ x ∈ xs ∧ BagOk b'
theorem one_ok {p : Pg} (hp : PullS (p.F "_law_pull")) : OneS (runDef p d_law_one) := by
  intro b c xs hb hc hx hl
  obtain ⟨ys, rfl⟩ := hb.ls
  have hpos := List.length_pos_iff.mpr hx
  obtain ⟨r, b', e1, k1, k2, k3⟩ := hp _ xs.length hb (by omega) (by omega)
  obtain ⟨x, e2, hm⟩ := pick_at (xs := xs) k1 k2
  refine ⟨x, b', runDef_ret rfl (r := [some b', some c]) ?_ rfl, hm, k3⟩
  show s_law_one p [some (.ls ys), some c] = _
  unfold s_law_one
  rcases hc with hc | hc <;> simp -implicitDefEqProofs [hc, e1, e2]
/-! names -/
def strsD (ss : List Str) : List D := ss.map .str
theorem strs_flat (ss : List Str) : (strsD ss).all D.flat = true := by
  rw [List.all_eq_true]
  intro x hx
  obtain ⟨n, _, rfl⟩ := List.mem_map.mp hx
  rfl
theorem mem_strs (s : Str) (ss : List Str) : ∃ k, cmpD .mem (.str s) (.lst (strsD ss)) = some (.val (.bl k)) := by
  refine ⟨(strsD ss).any fun y => eqF y (.str s), ?_⟩
  show (memD (.str s) (strsD ss)).map blV = _
  unfold memD
  rw [strs_flat]
  rfl
theorem LetterStr.cut {s : Str} (h : LetterStr s) (lo hi : Option Int) : LetterStr (cutS s lo hi) := by
  intro c hc
  have hc' : c ∈ (s.cps.toList.drop (HT.sIx s.length 0 lo)).take (HT.sIx s.length s.length hi - HT.sIx s.length 0 lo) := hc
  exact h c (List.mem_of_mem_drop (List.mem_of_mem_take hc'))
theorem LetterStr.app {s t : Str} (h : LetterStr s) (h' : LetterStr t) : LetterStr (s ++ t) := by
  intro c hc
  have hc' : c ∈ (s.cps ++ t.cps).toList := hc
  rw [Array.toList_append] at hc'
  rcases List.mem_append.mp hc' with q | q
  · exact h c q
  · exact h' c q
theorem cut_to (s : Str) (k : Nat) : (cutS s none (some (k : Int))).length = min k s.length := by
  show (List.toArray _).size = _
  rw [List.size_toArray, List.length_take, List.length_drop, Array.length_toList, HT.sIx_nat]
  show min (min k s.length - 0) (s.length - 0) = _
  omega
theorem cut_from (s : Str) (k : Nat) : (cutS s (some (k : Int)) none).length = s.length - k := by
  show (List.toArray _).size = _
  rw [List.size_toArray, List.length_take, List.length_drop, Array.length_toList, HT.sIx_nat]
  show min (s.length - min k s.length) (s.length - min k s.length) = _
  omega
def NmOk (s : Str) : Prop := 1 ≤ s.length ∧ s.length ≤ 8 ∧ LetterStr s
theorem ltr1 {c : Nat} (h : 97 ≤ c ∧ c ≤ 122) : LetterStr ⟨#[c]⟩ := by
  intro x hx
  have : x = c := by simpa using hx
  subst this
  exact h
def nmBody : SS := (sCons (sIf (tVal (eCmp .mem (eVar 5) (eVar 2))) (sCons (sSet 5 (eSlice (eBin .add (eVar 5) (eVar 6)) oNone (oSome (eCst (.int 8))))) sNil) sNil) (sCons (sIf (tVal (eCmp .mem (eVar 5) (eVar 2))) (sCons (sSet 5 (eBin .add (eVar 6) (eSlice (eVar 5) (oSome (eCst (.int 1))) oNone))) sNil) sNil) sNil))
theorem nm_step {p : Pg} {v0 v1 v3 v4 : Option C} {ss : List Str} {s : Str} {c : Nat} (hs : NmOk s) (hc : 97 ≤ c ∧ c ≤ 122) :
    ∃ s', nmBody p [v0, v1, some (.ls (strsD ss)), v3, v4, some (.val (.str s)), some (.val (.str ⟨#[c]⟩))] = .ok .nx [v0, v1, some (.ls (strsD ss)), v3, v4, some (.val (.str s')), some (.val (.str ⟨#[c]⟩))] ∧ NmOk s' := by
  obtain ⟨h1, h2, h3⟩ := hs
  have hl : (⟨#[c]⟩ : Str).length = 1 := rfl
  have ea : binD .add (.str s) (.str ⟨#[c]⟩) = some (.val (.str (s ++ ⟨#[c]⟩))) := addS (by omega)
  have ec : cutD (.str (s ++ ⟨#[c]⟩)) none (some 8) = some (.val (.str (cutS (s ++ ⟨#[c]⟩) none (some 8)))) := cut_s (by rw [len_add]; omega) _ _
  have lc : (cutS (s ++ ⟨#[c]⟩) none (some 8)).length = min 8 (s ++ ⟨#[c]⟩).length := cut_to _ 8
  rw [len_add, hl] at lc
  have n1 : NmOk (cutS (s ++ ⟨#[c]⟩) none (some 8)) := ⟨by omega, by omega, (h3.app (ltr1 hc)).cut _ _⟩
  have second : ∀ t : Str, NmOk t → ∃ s', binD .add (.str ⟨#[c]⟩) (.str (cutS t (some 1) none)) = some (.val (.str s')) ∧ NmOk s' := fun t ht => by
    have l1 : (cutS t (some 1) none).length = t.length - 1 := cut_from t 1
    have := ht.1
    have := ht.2.1
    refine ⟨_, addS (by omega), ?_, ?_, (ltr1 hc).app (ht.2.2.cut _ _)⟩
    · rw [len_add]; omega
    · rw [len_add]; omega
  have e1 : ∀ t : Str, NmOk t → cutD (.str t) (some 1) none = some (.val (.str (cutS t (some 1) none))) := fun t ht => cut_s (by have := ht.2.1; omega) _ _
  obtain ⟨k1, m1⟩ := mem_strs s ss
  obtain ⟨k2, m2⟩ := mem_strs (cutS (s ++ ⟨#[c]⟩) none (some 8)) ss
  unfold nmBody
  cases k1 with
  | true => cases k2 with
    | true =>
      obtain ⟨s', e2, n2⟩ := second _ n1
      refine ⟨s', ?_, n2⟩
      simp -implicitDefEqProofs [m1, ea, ec, m2, e1 _ n1, e2]
    | false =>
      refine ⟨_, ?_, n1⟩
      simp -implicitDefEqProofs [m1, ea, ec, m2]
  | false =>
    refine ⟨s, ?_, h1, h2, h3⟩
    simp -implicitDefEqProofs [m1]
theorem sg8 : ∀ d ∈ sgns "abcdefgh", ∃ c : Nat, d = .str ⟨#[c]⟩ ∧ 97 ≤ c ∧ c ≤ 122 := by
  intro d hd
  obtain ⟨c, hc, rfl⟩ := List.mem_map.mp hd
  have H : ∀ c ∈ (Str.ofString "abcdefgh").cps.toList, 97 ≤ c ∧ c ≤ 122 := by decide +kernel
  exact ⟨c, rfl, H c hc⟩
theorem nm_loop {p : Pg} {v0 v1 v3 v4 v6 : Option C} {ss : List Str} {s : Str} (hs : NmOk s) :
    ∃ s' v6', forL (gName 6) nmBody p (sgns "abcdefgh") [v0, v1, some (.ls (strsD ss)), v3, v4, some (.val (.str s)), v6] = .ok .nx [v0, v1, some (.ls (strsD ss)), v3, v4, some (.val (.str s')), v6'] ∧ NmOk s' := by
  obtain ⟨r', e, s', v6', rfl, h⟩ := forL_inv (g := gName 6) (b := nmBody) (p := p) (ds := sgns "abcdefgh") (I := fun r => ∃ s v6, r = [v0, v1, some (.ls (strsD ss)), v3, v4, some (.val (.str s)), v6] ∧ NmOk s)
    (fun d hd r hI => by
      obtain ⟨s, v6, rfl, hs⟩ := hI
      obtain ⟨c, rfl, hc⟩ := sg8 d hd
      obtain ⟨s', e, h⟩ := nm_step (p := p) (v0 := v0) (v1 := v1) (v3 := v3) (v4 := v4) (ss := ss) hs hc
      exact ⟨_, _, rfl, e, s', _, rfl, h⟩) ⟨s, v6, rfl, hs⟩
  exact ⟨s', v6', e, h⟩
def NamesS (F : List C → FOut) : Prop := ∀ (b : C) (n : Int), BagOk b → 0 ≤ n → n ≤ 100 → ∃ ss b', F [b, .val (.int n)] = .ok (.ls (strsD ss)) [some b', some (.val (.int n))] ∧ ss.length = n.toNat ∧ (∀ s ∈ ss, NmOk s) ∧ BagOk b'
theorem rep01 {s : Str} {k : Int} (h0 : 0 ≤ k) (h1 : k < 2) (hs : s.length ≤ 6) (hl : LetterStr s) : ∃ t, binD .mul (.str s) (.int k) = some (.val (.str t)) ∧ t.length ≤ 6 ∧ LetterStr t := by
  have e : binD .mul (.str s) (.int k) = some (strV (repS s k.toNat)) := by
    show (if decide (0 ≤ k ∧ k ≤ 1000 ∧ s.length ≤ 1000) then some (strV (repS s k.toNat)) else none) = _
    rw [if_pos (decide_eq_true ⟨by omega, by omega, by omega⟩)]
  refine ⟨_, e, ?_⟩
  have : k = 0 ∨ k = 1 := by omega
  rcases this with rfl | rfl
  · refine ⟨Nat.zero_le _, fun c hc => ?_⟩
    cases hc
  · have : repS s (1 : Int).toNat = s := by
      show (⟨(([s.cps.toList]).flatten).toArray⟩ : Str) = s
      simp
    rw [this]
    exact ⟨hs, hl⟩
theorem names_ok {p : Pg} (hp : PullS (p.F "_law_pull")) (hl : LettersS (p.F "_law_letters")) (hn : NameS (p.F "_law_name")) : NamesS (runDef p d_law_names) := by
  intro b n hb h0 h1
  obtain ⟨xs, rfl⟩ := hb.ls
  obtain ⟨r, b1, e1, k1, k2, k3⟩ := hp _ 7 hb (by decide) (by decide)
  obtain ⟨x1, rfl⟩ := k3.ls
  obtain ⟨s, b2, e2, l1, l2, k4⟩ := hl _ r k3 k1 (by omega)
  obtain ⟨x2, rfl⟩ := k4.ls
  obtain ⟨r3, b3, e3, k5, k6, k7⟩ := hp _ 2 k4 (by decide) (by decide)
  obtain ⟨t, e4, t1, t2⟩ := rep01 k5 k6 (by omega) l2
  have H : ∃ ss b' v4 v5 v6, forL (gName 4) (sCons (sSet 5 (eSlice (eBin .add (eVar 3) (eCall "_law_name" (eCons (eVar 0) eNil))) oNone (oSome (eCst (.int 8))))) (sCons (sFor (iSeq (eCst (.str "abcdefgh"))) (gName 6) nmBody) (sCons (sExpr (eChL .append 2 (eCons (eVar 5) eNil))) sNil))) p (rngL 0 n.toNat) [some b3, some (.val (.int n)), some (.ls (strsD [])), some (.val (.str t)), none, none, none] = .ok .nx [some b', some (.val (.int n)), some (.ls (strsD ss)), some (.val (.str t)), v4, v5, v6] ∧ ss.length = n.toNat ∧ (∀ s ∈ ss, NmOk s) ∧ BagOk b' := by
    obtain ⟨r', e, ss, b', v4, v5, v6, rfl, q1, q2, q3⟩ := forL_pre (p := p) (g := gName 4) (b := sCons (sSet 5 (eSlice (eBin .add (eVar 3) (eCall "_law_name" (eCons (eVar 0) eNil))) oNone (oSome (eCst (.int 8))))) (sCons (sFor (iSeq (eCst (.str "abcdefgh"))) (gName 6) nmBody) (sCons (sExpr (eChL .append 2 (eCons (eVar 5) eNil))) sNil))) (ds := rngL 0 n.toNat) (pre := [])
      (I := fun q r => ∃ ss b' v4 v5 v6, r = [some b', some (.val (.int n)), some (.ls (strsD ss)), some (.val (.str t)), v4, v5, v6] ∧ ss.length = q.length ∧ (∀ s ∈ ss, NmOk s) ∧ BagOk b')
      (fun q d post hq r hI => by
        obtain ⟨ss, b', v4, v5, v6, rfl, q1, q2, q3⟩ := hI
        obtain ⟨x', rfl⟩ := q3.ls
        obtain ⟨nm, b4, e5, m1, m2, m3, m4⟩ := hn _ q3
        have hql : q.length < 1000 := by
          have := congrArg List.length hq
          rw [List.nil_append, rng_len, List.length_append, List.length_cons] at this
          omega
        have ea : binD .add (.str t) (.str nm) = some (.val (.str (t ++ nm))) := addS (by omega)
        have ec : cutD (.str (t ++ nm)) none (some 8) = some (.val (.str (cutS (t ++ nm) none (some 8)))) := cut_s (by rw [len_add]; omega) _ _
        have lc : (cutS (t ++ nm) none (some 8)).length = min 8 (t ++ nm).length := cut_to _ 8
        rw [len_add] at lc
        have n1 : NmOk (cutS (t ++ nm) none (some 8)) := ⟨by omega, by omega, (t2.app m3).cut _ _⟩
        obtain ⟨s', v6', e6, n2⟩ := nm_loop (p := p) (v0 := some b4) (v1 := some (.val (.int n))) (v3 := some (.val (.str t))) (v4 := some (.val d)) (v6 := v6) (ss := ss) n1
        have ch : chL .append (strsD ss) [.str s'] = some (.non, strsD (ss ++ [s'])) := by
          show (if decide ((strsD ss).length < sizeLine) then some (D.non, strsD ss ++ [.str s']) else none) = _
          rw [if_pos (decide_eq_true (by unfold strsD; rw [List.length_map, q1]; show q.length < 16777216; omega))]
          unfold strsD
          rw [List.map_append]
          rfl
        refine ⟨_, _, rfl, ?_, ss ++ [s'], b4, some (.val d), some (.val (.str s')), v6', rfl, by rw [List.length_append, List.length_append, q1]; rfl, fun s hs => ?_, m4⟩
        · simp -implicitDefEqProofs [e5, ea, ec, itD_s, e6, ch]
        · rcases List.mem_append.mp hs with hs | hs
          · exact q2 s hs
          · rw [List.mem_singleton.mp hs]; exact n2) (r := [some b3, some (.val (.int n)), some (.ls (strsD [])), some (.val (.str t)), none, none, none]) ⟨[], b3, none, none, none, rfl, rfl, fun s hs => (nomatch hs), k7⟩
    rw [List.nil_append, rng_len] at q1
    exact ⟨ss, b', v4, v5, v6, e, q1, q2, q3⟩
  obtain ⟨ss, b', v4, v5, v6, e, q1, q2, q3⟩ := H
  refine ⟨ss, b', runDef_ret rfl (r := [some b', some (.val (.int n)), none, some (.val (.str t)), v4, v5, v6]) ?_ rfl, q1, q2, q3⟩
  show s_law_names p [some (.ls xs), some (.val (.int n)), none, none, none, none, none] = _
  have hs : s_law_names = (sCons (sSet 2 (eLst eNil)) (sCons (sSet 3 (eBin .mul (eCall "_law_letters" (eCons (eVar 0) (eCons (eCall "_law_pull" (eCons (eVar 0) (eCons (eCst (.int 7)) eNil))) eNil))) (eCall "_law_pull" (eCons (eVar 0) (eCons (eCst (.int 2)) eNil))))) (sCons (sFor (iRng (eCons (eVar 1) eNil)) (gName 4) (sCons (sSet 5 (eSlice (eBin .add (eVar 3) (eCall "_law_name" (eCons (eVar 0) eNil))) oNone (oSome (eCst (.int 8))))) (sCons (sFor (iSeq (eCst (.str "abcdefgh"))) (gName 6) nmBody) (sCons (sExpr (eChL .append 2 (eCons (eVar 5) eNil))) sNil)))) (sCons (sRet (eVar 2)) sNil)))) := rfl
  rw [hs]
  have hs0 : strsD [] = [] := rfl
  rw [hs0] at e
  simp -implicitDefEqProofs [e1, e2, e3, e4, rng_ok h0 (by omega : n ≤ 1000), e, szS]
/-! shapes -/
def Shp (n : Nat) (d : D) : Prop := ∃ x, D.py d = some x ∧ PyData.canLay0 x = true ∧ x.depth ≤ n
theorem Shp.int (n : Nat) (i : Int) : Shp n (.int i) := ⟨.int i, rfl, rfl, Nat.zero_le _⟩
theorem Shp.bl (n : Nat) (i : Bool) : Shp n (.bl i) := ⟨.bool i, rfl, rfl, Nat.zero_le _⟩
theorem Shp.non (n : Nat) : Shp n .non := ⟨.none, rfl, rfl, Nat.zero_le _⟩
theorem Shp.str (n : Nat) {s : Str} (h : ∀ c ∈ s.cps.toList, c < 1114112) : Shp n (.str s) := by
  refine ⟨.str s, rfl, ?_, Nat.zero_le _⟩
  show PyData.strOk s = true
  unfold PyData.strOk
  rw [Array.all_eq_true']
  intro c hc
  exact decide_eq_true (h c (Array.mem_toList_iff.mpr hc))
theorem Shp.pys {n : Nat} : ∀ {ds : List D}, (∀ d ∈ ds, Shp n d) → ∃ xs, D.pys ds = some xs ∧ PyData.canLayAll0 xs = true ∧ PyData.depthAll xs ≤ n
  | [], _ => ⟨[], rfl, rfl, Nat.zero_le _⟩
  | d :: ds, h => by
    obtain ⟨xs, e1, e2, e3⟩ := Shp.pys (n := n) (ds := ds) fun d hd => h d (List.mem_cons_of_mem _ hd)
    obtain ⟨x, k1, k2, k3⟩ := h d (List.mem_cons_self ..)
    refine ⟨x :: xs, by unfold D.pys; rw [k1, e1], ?_, ?_⟩
    · show (PyData.canLay0 x && PyData.canLayAll0 xs) = true
      rw [k2, e2]; rfl
    · show max x.depth (PyData.depthAll xs) ≤ n
      omega
theorem Shp.tup {n : Nat} {ds : List D} (h : ∀ d ∈ ds, Shp n d) : Shp (n + 1) (.tup ds) := by
  obtain ⟨xs, e1, e2, e3⟩ := Shp.pys h
  refine ⟨.tuple xs, by unfold D.py; rw [e1]; rfl, e2, ?_⟩
  show PyData.depthAll xs + 1 ≤ n + 1
  omega
theorem Shp.lst {n : Nat} {ds : List D} (h : ∀ d ∈ ds, Shp n d) : Shp (n + 1) (.lst ds) := by
  obtain ⟨xs, e1, e2, e3⟩ := Shp.pys h
  refine ⟨.list xs, by unfold D.py; rw [e1]; rfl, e2, ?_⟩
  show PyData.depthAll xs + 1 ≤ n + 1
  omega
theorem Shp.whole {n : Nat} {d : D} (h : Shp n d) (hn : n ≤ 64) : eqWhole d d = some true := by
  obtain ⟨x, e1, e2, e3⟩ := h
  unfold eqWhole
  rw [e1]
  dsimp only
  have hs : SeqAt.shaped x = true := by
    unfold SeqAt.shaped
    rw [e2, decide_eq_true (by omega)]
    rfl
  rw [hs]
  show some (PyData.eqv _ _) = _
  rw [SeqAt.eqv_refl _ e2]
theorem Shp.eqL {n : Nat} {ds : List D} (h : Shp n (.lst ds)) (hn : n ≤ 64) : cmpD .eq (.lst ds) (.lst ds) = some (.val (.bl true)) := by
  show (eqWhole (.lst ds) (.lst ds)).map blV = _
  rw [h.whole hn]
  rfl
theorem Shp.eqT {n : Nat} {ds : List D} (h : Shp n (.tup ds)) (hn : n ≤ 64) : cmpD .eq (.tup ds) (.tup ds) = some (.val (.bl true)) := by
  show (eqWhole (.tup ds) (.tup ds)).map blV = _
  rw [h.whole hn]
  rfl
theorem NmOk.shp (n : Nat) {s : Str} (h : NmOk s) : Shp n (.str s) := .str n fun c hc => by have := h.2.2 c hc; omega
/-! books -/
structure KindR where
  nm : Str
  top : Int
  smp : Bool
def KindR.d (k : KindR) : D := .tup [.str k.nm, .int k.top, .bl k.smp]
def KOk (k : KindR) : Prop := 1 ≤ k.top ∧ k.top ≤ 100
def bkBody : SS := (sCons (sSet 4 (eSub (eLst (eCons (eCst (.int 100)) (eCons (eBin .add (eCst (.int 1)) (eCall "_law_pull" (eCons (eVar 0) (eCons (eCst (.int 100)) eNil)))) (eCons (eCst (.int 1)) eNil)))) (eCall "_law_pull" (eCons (eVar 0) (eCons (eCst (.int 3)) eNil))))) (sCons (sSet 2 (eBin .add (eVar 2) (eTup (eCons (eTup (eCons (eVar 3) (eCons (eVar 4) (eCons (eCmp .eq (eCall "_law_pull" (eCons (eVar 0) (eCons (eCst (.int 2)) eNil))) (eCst (.int 1))) eNil)))) eNil)))) sNil))
theorem bk_step {p : Pg} (hp : PullS (p.F "_law_pull")) {b : C} (hb : BagOk b) {v1 v4 : Option C} {ks : List KindR} {s : Str} (hk : ks.length ≤ 100) :
    ∃ b' v4' k, bkBody p [some b, v1, some (.val (.tup (ks.map KindR.d))), some (.val (.str s)), v4] = .ok .nx [some b', v1, some (.val (.tup ((ks ++ [k]).map KindR.d))), some (.val (.str s)), v4'] ∧ k.nm = s ∧ KOk k ∧ BagOk b' := by
  obtain ⟨xs, rfl⟩ := hb.ls
  obtain ⟨r, b1, e1, k1, k2, k3⟩ := hp _ 100 hb (by decide) (by decide)
  obtain ⟨x1, rfl⟩ := k3.ls
  obtain ⟨r2, b2, e2, k4, k5, k6⟩ := hp _ 3 k3 (by decide) (by decide)
  obtain ⟨x2, rfl⟩ := k6.ls
  obtain ⟨r3, b3, e3, k7, k8, k9⟩ := hp _ 2 k6 (by decide) (by decide)
  obtain ⟨z, ez, z1, z2⟩ := pick_rng (ns := [100, 1 + r, 1]) (lo := 1) (hi := 100) k4 k5 (by intro n hn; simp at hn; omega)
  simp only [ints_cons, ints_nil] at ez
  have hz : szOk ((ks.map KindR.d).length + 1) = true := szS (by rw [List.length_map]; omega)
  have ea : ∀ d : D, binD .add (.tup (ks.map KindR.d)) (.tup [d]) = some (.val (.tup (ks.map KindR.d ++ [d]))) := fun d => by
    show (if szOk ((ks.map KindR.d).length + 1) then some (C.val (.tup (ks.map KindR.d ++ [d]))) else none) = _
    rw [if_pos hz]
  refine ⟨b3, some (.val (.int z)), ⟨s, z, decide (r3 = 1)⟩, ?_, rfl, ⟨z1, z2⟩, k9⟩
  unfold bkBody
  rw [List.map_append]
  simp -implicitDefEqProofs [e1, e2, e3, ez, ea, szS, KindR.d, blV, intV]
theorem pys_kinds : ∀ ks : List KindR, D.pys (ks.map KindR.d) = some (ks.map fun k => .tuple [.str k.nm, .int k.top, .bool k.smp])
  | [] => rfl
  | k :: ks => by
    show (match D.py k.d, D.pys (ks.map KindR.d) with | some x, some xs => some (x :: xs) | _, _ => none) = _
    rw [pys_kinds ks]
    rfl
theorem srt_kinds (ks : List KindR) : srtOk (ks.map fun k => .tuple [.str k.nm, .int k.top, .bool k.smp]) = true := by
  unfold srtOk
  rw [Bool.and_eq_true, Bool.and_eq_true, Bool.or_eq_true]
  refine ⟨⟨?_, .inl ?_⟩, ?_⟩
  · rw [List.all_eq_true]
    intro d hd
    rw [List.all_eq_true]
    intro e he
    obtain ⟨k, _, rfl⟩ := List.mem_map.mp hd
    obtain ⟨k', _, rfl⟩ := List.mem_map.mp he
    rfl
  · rw [List.all_eq_true]
    intro d hd
    obtain ⟨k, _, rfl⟩ := List.mem_map.mp hd
    rfl
  · rw [List.all_eq_true]
    intro d hd
    obtain ⟨k, _, rfl⟩ := List.mem_map.mp hd
    rfl
def kLe (a b : KindR) : Bool := PySem.W.dataLe false pyOf a.d b.d
theorem sort_kinds (ks : List KindR) : sortG (ks.map KindR.d) = (ks.mergeSort kLe).map KindR.d := by
  unfold sortG
  exact (List.map_mergeSort (r := kLe) (f := KindR.d) fun _ _ _ _ => rfl).symm
def BookS (F : List C → FOut) : Prop := ∀ (b c : C) (ss : List Str), BagOk b → (c = .ls (strsD ss) ∨ c = .val (.lst (strsD ss))) → ss.length ≤ 100 → ∃ (ks : List KindR) (b' : C), F [b, c] = .ok (.val (.tup ((ks.mergeSort kLe).map KindR.d))) [some b', some c] ∧ ks.map (·.nm) = ss ∧ (∀ k ∈ ks, KOk k) ∧ BagOk b'
theorem book_ok {p : Pg} (hp : PullS (p.F "_law_pull")) : BookS (runDef p d_law_book) := by
  intro b c ss hb hc hl
  have H : ∀ v1 : Option C, ∃ (ks : List KindR) (b' : C) (v3 v4 : Option C), forL (gName 3) bkBody p (strsD ss) [some b, v1, some (.val (.tup [])), none, none] = .ok .nx [some b', v1, some (.val (.tup (ks.map KindR.d))), v3, v4] ∧ ks.map (·.nm) = ss ∧ (∀ k ∈ ks, KOk k) ∧ BagOk b' := by
    intro v1
    obtain ⟨r', e, ks, b', v3, v4, rfl, q1, q2, q3⟩ := forL_pre (p := p) (g := gName 3) (b := bkBody) (ds := strsD ss) (pre := [])
      (I := fun q r => ∃ (ks : List KindR) (b' : C) (v3 v4 : Option C), r = [some b', v1, some (.val (.tup (List.map KindR.d ks))), v3, v4] ∧ strsD (ks.map (·.nm)) = q ∧ (∀ k ∈ ks, KOk k) ∧ BagOk b')
      (fun q d post hq r hI => by
        obtain ⟨ks, b', v3, v4, rfl, q1, q2, q3⟩ := hI
        rw [List.nil_append] at hq
        have hd : d ∈ strsD ss := by rw [hq]; simp
        obtain ⟨s, _, rfl⟩ := List.mem_map.mp hd
        have hkl : ks.length ≤ 100 := by
          have h1 := congrArg List.length hq
          have h2 := congrArg List.length q1
          simp [strsD] at h1 h2
          omega
        obtain ⟨b2, v4', k, e, k1, k2, k3⟩ := bk_step hp q3 (v1 := v1) (v4 := v4) (ks := ks) (s := s) hkl
        refine ⟨_, _, rfl, e, ks ++ [k], b2, some (.val (.str s)), v4', rfl, ?_, fun k' hk' => ?_, k3⟩
        · rw [← q1]
          simp [strsD, k1]
        · rcases List.mem_append.mp hk' with h | h
          · exact q2 k' h
          · rw [List.mem_singleton.mp h]; exact k2) (r := [some b, v1, some (.val (.tup [])), none, none]) ⟨[], b, none, none, rfl, rfl, fun k hk => (nomatch hk), hb⟩
    refine ⟨ks, b', v3, v4, e, ?_, q2, q3⟩
    rw [List.nil_append] at q1
    exact (List.map_inj_right fun a b h => by cases h; rfl).mp q1
  have hst : ∀ ks : List KindR, sortedD [.tup (ks.map KindR.d)] = some (.ls ((ks.mergeSort kLe).map KindR.d)) := fun ks => by
    show sortedS [.tup (ks.map KindR.d)] = _
    unfold sortedS
    dsimp only
    rw [pys_kinds]
    dsimp only
    rw [srt_kinds, sort_kinds]
    rfl
  have hs : s_law_book = (sCons (sSet 2 (eTup eNil)) (sCons (sForV 1 (gName 3) bkBody) (sCons (sRet (eBlt tupleD (eCons (eBlt sortedD (eCons (eVar 2) eNil)) eNil))) sNil))) := rfl
  have ht : ∀ xs : List D, tupleD [.lst xs] = some (.val (.tup xs)) := fun _ => rfl
  rcases hc with rfl | rfl
  · obtain ⟨ks, b', v3, v4, e, q1, q2, q3⟩ := H none
    refine ⟨ks, b', runDef_ret rfl (r := [some b', some (.ls (strsD ss)), some (.val (.tup (ks.map KindR.d))), v3, v4]) ?_ rfl, q1, q2, q3⟩
    show s_law_book p [some b, some (.ls (strsD ss)), none, none, none] = _
    rw [hs]
    simp -implicitDefEqProofs [e, szS, hst, ht]
  · obtain ⟨ks, b', v3, v4, e, q1, q2, q3⟩ := H (some (.val (.lst (strsD ss))))
    refine ⟨ks, b', runDef_ret rfl (r := [some b', some (.val (.lst (strsD ss))), some (.val (.tup (ks.map KindR.d))), v3, v4]) ?_ rfl, q1, q2, q3⟩
    show s_law_book p [some b, some (.val (.lst (strsD ss))), none, none, none] = _
    rw [hs]
    simp -implicitDefEqProofs [e, szS, hst, ht]
/-! rows -/
def RowOk (ss : List Str) (ks : List KindR) (d : D) : Prop :=
  (∃ (st v : Int) (k n : Str), d = .tup [.str "event", .int st, .str k, .int v, .str n] ∧ (0 ≤ st ∧ st ≤ 400) ∧ k ∈ ks.map (·.nm) ∧ (0 ≤ v ∧ v ≤ 100) ∧ n ∈ ss) ∨
  (∃ (st m v : Int) (k : Str), d = .tup [.str "total", .int st, .str k, .int m, .int v] ∧ (0 ≤ st ∧ st ≤ 400) ∧ k ∈ ks.map (·.nm) ∧ (0 ≤ m ∧ m ≤ 1000) ∧ (0 ≤ v ∧ v ≤ 100000)) ∨
  (∃ (w : Str) (st : Int) (n : Str), d = .tup [.str w, .int st, .str n] ∧ (w = "sent" ∨ w = "had" ∨ w = "done") ∧ (0 ≤ st ∧ st ≤ 400) ∧ n ∈ ss) ∨
  (∃ (st : Int) (n q : Str), d = .tup [.str "call", .int st, .str n, .str q] ∧ (0 ≤ st ∧ st ≤ 400) ∧ n ∈ ss ∧ (q ∈ ss ∨ q = ""))
def NmC (ss : List Str) (c : C) : Prop := c = .ls (strsD ss) ∨ c = .val (.lst (strsD ss))
theorem NmC.frz {ss : List Str} {c : C} (h : NmC ss c) : c.frz = .lst (strsD ss) := by rcases h with rfl | rfl <;> rfl
def RowS (F : List C → FOut) : Prop := ∀ (b c : C) (ss : List Str) (ks : List KindR), BagOk b → NmC ss c → ss ≠ [] → ss.length ≤ 100 → ks ≠ [] → ks.length ≤ 100 → ∃ d b', F [b, c, .val (.tup (ks.map KindR.d))] = .ok (.val d) [some b', some c, some (.val (.tup (ks.map KindR.d)))] ∧ RowOk ss ks d ∧ BagOk b'
def rowRest : SS := (sCons (sIf (tVal (eCmp .eq (eVar 3) (eCst (.str "event")))) (sCons (sRet (eTup (eCons (eVar 3) (eCons (eVar 4) (eCons (eSub (eCall "_law_one" (eCons (eVar 0) (eCons (eVar 2) eNil))) (eCst (.int 0))) (eCons (eSub (eLst (eCons (eCall "_law_pull" (eCons (eVar 0) (eCons (eCst (.int 101)) eNil))) (eCons (eCst (.int 100)) eNil))) (eCall "_law_pull" (eCons (eVar 0) (eCons (eCst (.int 2)) eNil)))) (eCons (eVar 5) eNil))))))) sNil) sNil) (sCons (sIf (tVal (eCmp .eq (eVar 3) (eCst (.str "total")))) (sCons (sSet 6 (eSub (eLst (eCons (eCall "_law_pull" (eCons (eVar 0) (eCons (eCst (.int 1001)) eNil))) (eCons (eCst (.int 1000)) eNil))) (eCall "_law_pull" (eCons (eVar 0) (eCons (eCst (.int 2)) eNil))))) (sCons (sRet (eTup (eCons (eVar 3) (eCons (eVar 4) (eCons (eSub (eCall "_law_one" (eCons (eVar 0) (eCons (eVar 2) eNil))) (eCst (.int 0))) (eCons (eVar 6) (eCons (eSub (eLst (eCons (eCall "_law_pull" (eCons (eVar 0) (eCons (eCst (.int 100001)) eNil))) (eCons (eCst (.int 100000)) eNil))) (eCall "_law_pull" (eCons (eVar 0) (eCons (eCst (.int 2)) eNil)))) eNil))))))) sNil)) sNil) (sCons (sIf (tVal (eCmp .eq (eVar 3) (eCst (.str "call")))) (sCons (sRet (eTup (eCons (eVar 3) (eCons (eVar 4) (eCons (eVar 5) (eCons (eSub (eLst (eCons (eCall "_law_one" (eCons (eVar 0) (eCons (eVar 1) eNil))) (eCons (eCst (.str "")) eNil))) (eCall "_law_pull" (eCons (eVar 0) (eCons (eCst (.int 2)) eNil)))) eNil)))))) sNil) sNil) (sCons (sRet (eTup (eCons (eVar 3) (eCons (eVar 4) (eCons (eVar 5) eNil))))) sNil))))
theorem s_row_eq : s_law_row = (sCons (sSet 3 (eSub (eLst (eCons (eCst (.str "event")) (eCons (eCst (.str "total")) (eCons (eCst (.str "sent")) (eCons (eCst (.str "had")) (eCons (eCst (.str "call")) (eCons (eCst (.str "done")) (eCons (eCst (.str "event")) eNil)))))))) (eCall "_law_pull" (eCons (eVar 0) (eCons (eCst (.int 7)) eNil))))) (sCons (sSet 4 (eSub (eLst (eCons (eCall "_law_pull" (eCons (eVar 0) (eCons (eCst (.int 401)) eNil))) (eCons (eCst (.int 0)) (eCons (eCst (.int 400)) eNil)))) (eCall "_law_pull" (eCons (eVar 0) (eCons (eCst (.int 3)) eNil))))) (sCons (sSet 5 (eCall "_law_one" (eCons (eVar 0) (eCons (eVar 1) eNil)))) rowRest))) := rfl
theorem strs_ne {ss : List Str} (h : ss ≠ []) : strsD ss ≠ [] := by
  intro q
  exact h (List.map_eq_nil_iff.mp q)
theorem strs_len (ss : List Str) : (strsD ss).length = ss.length := by unfold strsD; rw [List.length_map]
theorem one_nm {F : List C → FOut} (h : OneS F) {b c : C} {ss : List Str} (hb : BagOk b) (hc : NmC ss c) (h0 : ss ≠ []) (h1 : ss.length ≤ 100) : ∃ n b', F [b, c] = .ok (.val (.str n)) [some b', some c] ∧ n ∈ ss ∧ BagOk b' := by
  obtain ⟨x, b', e, hm, k⟩ := h b c (strsD ss) hb (.inl hc.frz) (strs_ne h0) (by rw [strs_len]; omega)
  obtain ⟨n, hn, rfl⟩ := List.mem_map.mp hm
  exact ⟨n, b', e, hn, k⟩
theorem one_kd {F : List C → FOut} (h : OneS F) {b : C} {ks : List KindR} (hb : BagOk b) (h0 : ks ≠ []) (h1 : ks.length ≤ 100) : ∃ k b', F [b, .val (.tup (ks.map KindR.d))] = .ok (.val (KindR.d k)) [some b', some (.val (.tup (ks.map KindR.d)))] ∧ k ∈ ks ∧ BagOk b' := by
  obtain ⟨x, b', e, hm, k⟩ := h b (.val (.tup (ks.map KindR.d))) (ks.map KindR.d) hb (.inr rfl) (fun q => h0 (List.map_eq_nil_iff.mp q)) (by rw [List.length_map]; omega)
  obtain ⟨n, hn, rfl⟩ := List.mem_map.mp hm
  exact ⟨n, b', e, hn, k⟩
def RowT (ss : List Str) (ks : List KindR) (c : C) (p : Pg) (r : Env) : Prop := ∃ d b' v4 v5 v6 v7, rowRest p r = .ok (.ret (.val d)) [some b', some c, some (.val (.tup (ks.map KindR.d))), v4, v5, v6, v7] ∧ RowOk ss ks d ∧ BagOk b'
theorem kd_nm (k : KindR) : atI [D.str k.nm, .int k.top, .bl k.smp] 0 = some (.str k.nm) := at0 _ _
section
variable {p : Pg} (hp : PullS (p.F "_law_pull")) (ho : OneS (p.F "_law_one")) {b c : C} {ss : List Str} {ks : List KindR} (hb : BagOk b) (hc : NmC ss c) (s0 : ss ≠ []) (s1 : ss.length ≤ 100) (k0 : ks ≠ []) (k1 : ks.length ≤ 100) {st : Int} (hst : 0 ≤ st ∧ st ≤ 400) {n : Str} (hn : n ∈ ss)
include hp ho hb hc s0 s1 k0 k1 hst hn
theorem row_event : RowT ss ks c p [some b, some c, some (.val (.tup (ks.map KindR.d))), some (.val (.str "event")), some (.val (.int st)), some (.val (.str n)), none] := by
  obtain ⟨xs, rfl⟩ := hb.ls
  obtain ⟨k, b1, e1, m1, q1⟩ := one_kd ho hb k0 k1
  obtain ⟨x1, rfl⟩ := q1.ls
  obtain ⟨r, b2, e2, r1, r2, q2⟩ := hp _ 101 q1 (by decide) (by decide)
  obtain ⟨x2, rfl⟩ := q2.ls
  obtain ⟨r', b3, e3, r3, r4, q3⟩ := hp _ 2 q2 (by decide) (by decide)
  obtain ⟨z, ez, z1, z2⟩ := pick_rng (ns := [r, 100]) (lo := 0) (hi := 100) r3 r4 (by intro n hn; simp at hn; omega)
  simp only [ints_cons, ints_nil] at ez
  refine ⟨_, b3, some (.val (.str "event")), some (.val (.int st)), some (.val (.str n)), none, ?_, .inl ⟨st, z, k.nm, n, rfl, hst, List.mem_map.mpr ⟨k, m1, rfl⟩, ⟨z1, z2⟩, hn⟩, q3⟩
  unfold rowRest
  unfold KindR.d at e1 ⊢
  simp -implicitDefEqProofs [e1, e2, e3, ez, szS, kd_nm]
theorem row_total : RowT ss ks c p [some b, some c, some (.val (.tup (ks.map KindR.d))), some (.val (.str "total")), some (.val (.int st)), some (.val (.str n)), none] := by
  obtain ⟨xs, rfl⟩ := hb.ls
  obtain ⟨r, b2, e2, r1, r2, q2⟩ := hp _ 1001 hb (by decide) (by decide)
  obtain ⟨x2, rfl⟩ := q2.ls
  obtain ⟨r', b3, e3, r3, r4, q3⟩ := hp _ 2 q2 (by decide) (by decide)
  obtain ⟨x3, rfl⟩ := q3.ls
  obtain ⟨k, b1, e1, m1, q1⟩ := one_kd ho q3 k0 k1
  obtain ⟨x1, rfl⟩ := q1.ls
  obtain ⟨r5, b4, e4, r6, r7, q4⟩ := hp _ 100001 q1 (by decide) (by decide)
  obtain ⟨x4, rfl⟩ := q4.ls
  obtain ⟨r8, b5, e5, r9, r10, q5⟩ := hp _ 2 q4 (by decide) (by decide)
  obtain ⟨z, ez, z1, z2⟩ := pick_rng (ns := [r, 1000]) (lo := 0) (hi := 1000) r3 r4 (by intro n hn; simp at hn; omega)
  obtain ⟨y, ey, y1, y2⟩ := pick_rng (ns := [r5, 100000]) (lo := 0) (hi := 100000) r9 r10 (by intro n hn; simp at hn; omega)
  simp only [ints_cons, ints_nil] at ez ey
  refine ⟨_, b5, some (.val (.str "total")), some (.val (.int st)), some (.val (.str n)), some (.val (.int z)), ?_, .inr (.inl ⟨st, z, y, k.nm, rfl, hst, List.mem_map.mpr ⟨k, m1, rfl⟩, ⟨z1, z2⟩, ⟨y1, y2⟩⟩), q5⟩
  unfold rowRest
  unfold KindR.d at e1 ⊢
  have w1 : ¬ (Str.ofString "total" = Str.ofString "event") := by decide +kernel
  simp -implicitDefEqProofs [w1, e1, e2, e3, e4, e5, ez, ey, szS, kd_nm]
theorem row_plain {w : Str} (hw : w = "sent" ∨ w = "had" ∨ w = "done") : RowT ss ks c p [some b, some c, some (.val (.tup (ks.map KindR.d))), some (.val (.str w)), some (.val (.int st)), some (.val (.str n)), none] := by
  have w1 : decide (w = "event") = false := by rcases hw with rfl | rfl | rfl <;> decide +kernel
  have w2 : decide (w = "total") = false := by rcases hw with rfl | rfl | rfl <;> decide +kernel
  have w3 : decide (w = "call") = false := by rcases hw with rfl | rfl | rfl <;> decide +kernel
  have w1' := of_decide_eq_false w1
  have w2' := of_decide_eq_false w2
  have w3' := of_decide_eq_false w3
  refine ⟨_, b, some (.val (.str w)), some (.val (.int st)), some (.val (.str n)), none, ?_, .inr (.inr (.inl ⟨w, st, n, rfl, hw, hst, hn⟩)), hb⟩
  unfold rowRest
  simp -implicitDefEqProofs [w1', w2', w3', szS]
theorem row_call : RowT ss ks c p [some b, some c, some (.val (.tup (ks.map KindR.d))), some (.val (.str "call")), some (.val (.int st)), some (.val (.str n)), none] := by
  obtain ⟨xs, rfl⟩ := hb.ls
  obtain ⟨q, b1, e1, m1, q1⟩ := one_nm ho hb hc s0 s1
  obtain ⟨x1, rfl⟩ := q1.ls
  obtain ⟨r, b2, e2, r1, r2, q2⟩ := hp _ 2 q1 (by decide) (by decide)
  obtain ⟨x, ex, hx⟩ := pick_at (xs := [.str q, .str ""]) (r := r) r1 r2
  have w1 : ¬ (Str.ofString "call" = Str.ofString "event") := by decide +kernel
  have w2 : ¬ (Str.ofString "call" = Str.ofString "total") := by decide +kernel
  have hx' : ∃ y, x = .str y ∧ (y ∈ ss ∨ y = "") := by
    rcases List.mem_cons.mp hx with rfl | hx
    · exact ⟨_, rfl, .inl m1⟩
    · rw [List.mem_singleton.mp hx]; exact ⟨_, rfl, .inr rfl⟩
  obtain ⟨y, rfl, hy⟩ := hx'
  refine ⟨_, b2, some (.val (.str "call")), some (.val (.int st)), some (.val (.str n)), none, ?_, .inr (.inr (.inr ⟨st, n, y, rfl, hst, hn, hy⟩)), q2⟩
  unfold rowRest
  rcases hc with rfl | rfl <;> simp -implicitDefEqProofs [e1, e2, ex, w1, w2, szS]
end
theorem word_pick {r : Int} (h0 : 0 ≤ r) (h1 : r < 7) : ∃ w : Str, atI [D.str "event", .str "total", .str "sent", .str "had", .str "call", .str "done", .str "event"] r = some (.str w) ∧ (w = "event" ∨ w = "total" ∨ (w = "sent" ∨ w = "had" ∨ w = "done") ∨ w = "call") := by
  obtain ⟨x, e, hx⟩ := pick_at (xs := [D.str "event", .str "total", .str "sent", .str "had", .str "call", .str "done", .str "event"]) h0 h1
  simp only [List.mem_cons, List.not_mem_nil, or_false] at hx
  rcases hx with rfl | rfl | rfl | rfl | rfl | rfl | rfl
  · exact ⟨_, e, .inl rfl⟩
  · exact ⟨_, e, .inr (.inl rfl)⟩
  · exact ⟨_, e, .inr (.inr (.inl (.inl rfl)))⟩
  · exact ⟨_, e, .inr (.inr (.inl (.inr (.inl rfl))))⟩
  · exact ⟨_, e, .inr (.inr (.inr rfl))⟩
  · exact ⟨_, e, .inr (.inr (.inl (.inr (.inr rfl))))⟩
  · exact ⟨_, e, .inl rfl⟩
theorem row_ok {p : Pg} (hp : PullS (p.F "_law_pull")) (ho : OneS (p.F "_law_one")) : RowS (runDef p d_law_row) := by
  intro b c ss ks hb hc s0 s1 k0 k1
  obtain ⟨xs, rfl⟩ := hb.ls
  obtain ⟨r, b1, e1, r1, r2, q1⟩ := hp _ 7 hb (by decide) (by decide)
  obtain ⟨x1, rfl⟩ := q1.ls
  obtain ⟨w, ew, hw⟩ := word_pick r1 r2
  obtain ⟨r', b2, e2, r3, r4, q2⟩ := hp _ 401 q1 (by decide) (by decide)
  obtain ⟨x2, rfl⟩ := q2.ls
  obtain ⟨r5, b3, e3, r6, r7, q3⟩ := hp _ 3 q2 (by decide) (by decide)
  obtain ⟨x3, rfl⟩ := q3.ls
  obtain ⟨st, es, z1, z2⟩ := pick_rng (ns := [r', 0, 400]) (lo := 0) (hi := 400) r6 r7 (by intro n hn; simp at hn; omega)
  simp only [ints_cons, ints_nil] at es
  obtain ⟨n, b4, e4, m4, q4⟩ := one_nm ho q3 hc s0 s1
  have H : RowT ss ks c p [some b4, some c, some (.val (.tup (ks.map KindR.d))), some (.val (.str w)), some (.val (.int st)), some (.val (.str n)), none] := by
    rcases hw with rfl | rfl | hw | rfl
    · exact row_event hp ho q4 hc s0 s1 k0 k1 ⟨z1, z2⟩ m4
    · exact row_total hp ho q4 hc s0 s1 k0 k1 ⟨z1, z2⟩ m4
    · exact row_plain hp ho q4 hc s0 s1 k0 k1 ⟨z1, z2⟩ m4 hw
    · exact row_call hp ho q4 hc s0 s1 k0 k1 ⟨z1, z2⟩ m4
  obtain ⟨d, b', v4, v5, v6, v7, e, hd, hb'⟩ := H
  refine ⟨d, b', runDef_ret rfl (r := [some b', some c, some (.val (.tup (ks.map KindR.d))), v4, v5, v6, v7]) ?_ rfl, hd, hb'⟩
  show s_law_row p [some (.ls xs), some c, some (.val (.tup (ks.map KindR.d))), none, none, none, none] = _
  rw [s_row_eq]
  rcases hc with rfl | rfl <;> simp -implicitDefEqProofs [e1, e2, e3, e4, ew, es, e, szS]
/-! frames -/
def FrameS (F : List C → FOut) : Prop := ∀ (b c : C) (ss : List Str) (ks : List KindR), BagOk b → NmC ss c → ss ≠ [] → ss.length ≤ 100 → ks ≠ [] → ks.length ≤ 100 → ∃ (m : Str) (era first : Int) (rows : List D) (b' : C), F [b, c, .val (.tup (ks.map KindR.d))] = .ok (.val (.tup [.str m, .int era, .int first, .tup rows])) [some b', some c, some (.val (.tup (ks.map KindR.d)))] ∧ m ∈ ss ∧ (0 ≤ era ∧ era ≤ 5) ∧ 1 ≤ first ∧ 1 ≤ rows.length ∧ rows.length ≤ 12 ∧ first + rows.length ≤ 41 ∧ (∀ d ∈ rows, RowOk ss ks d) ∧ BagOk b'
theorem rows_comp {p : Pg} (hr : RowS (p.F "_law_row")) {b c : C} {ss : List Str} {ks : List KindR} (hb : BagOk b) (hc : NmC ss c) (s0 : ss ≠ []) (s1 : ss.length ≤ 100) (k0 : ks ≠ []) (k1 : ks.length ≤ 100) {v3 v4 v5 : Option C} {m : Nat} (hm : m ≤ 100) :
    ∃ rows b', compL [6] (gName 6) tTrue (eCall "_law_row" (eCons (eVar 0) (eCons (eVar 1) (eCons (eVar 2) eNil)))) p (rngL 0 m) [] [some b, some c, some (.val (.tup (ks.map KindR.d))), v3, v4, v5, none] = .ok rows [some b', some c, some (.val (.tup (ks.map KindR.d))), v3, v4, v5, none] ∧ rows.length = m ∧ (∀ d ∈ rows, RowOk ss ks d) ∧ BagOk b' := by
  obtain ⟨ys, r', e, h2, b', rfl, hb'⟩ := compL_inv (own := [6]) (g := gName 6) (t := tTrue) (e := eCall "_law_row" (eCons (eVar 0) (eCons (eVar 1) (eCons (eVar 2) eNil)))) (p := p) (I := fun r => ∃ b, r = [some b, some c, some (.val (.tup (ks.map KindR.d))), v3, v4, v5, none] ∧ BagOk b) (P := fun _ y => RowOk ss ks y) (ds := rngL 0 m)
    (fun d _ r hI => by
      obtain ⟨b, rfl, hb⟩ := hI
      obtain ⟨xs, rfl⟩ := hb.ls
      obtain ⟨x, b1, e1, hx, hb1⟩ := hr _ c ss ks hb hc s0 s1 k0 k1
      refine ⟨_, _, [some b1, some c, some (.val (.tup (ks.map KindR.d))), v3, v4, v5, some (.val d)], _, .tmp (.val x), x, rfl, rfl, ?_, rfl, hx, b1, rfl, hb1⟩
      rcases hc with rfl | rfl <;> simp -implicitDefEqProofs [e1]) (acc := []) (by rw [rng_len]; exact szl (by omega)) ⟨b, rfl, hb⟩
  exact ⟨ys, b', e, by rw [← h2.len, rng_len], h2.right fun _ _ h => h, hb'⟩
theorem frame_ok {p : Pg} (hp : PullS (p.F "_law_pull")) (ho : OneS (p.F "_law_one")) (hr : RowS (p.F "_law_row")) : FrameS (runDef p d_law_frame) := by
  intro b c ss ks hb hc s0 s1 k0 k1
  obtain ⟨xs, rfl⟩ := hb.ls
  obtain ⟨r, b1, e1, r1, r2, q1⟩ := hp _ 40 hb (by decide) (by decide)
  obtain ⟨x1, rfl⟩ := q1.ls
  obtain ⟨r', b2, e2, r3, r4, q2⟩ := hp _ 4 q1 (by decide) (by decide)
  obtain ⟨x2, rfl⟩ := q2.ls
  obtain ⟨f, ef, f1, f2⟩ := pick_rng (ns := [1, 1 + r, 40, 29]) (lo := 1) (hi := 40) r3 r4 (by intro n hn; simp at hn; omega)
  obtain ⟨r5, b3, e3, r6, r7, q3⟩ := hp _ 12 q2 (by decide) (by decide)
  obtain ⟨x3, rfl⟩ := q3.ls
  obtain ⟨r8, b4, e4, r9, r10, q4⟩ := hp _ 3 q3 (by decide) (by decide)
  obtain ⟨g, eg, g1, g2⟩ := pick_rng (ns := [r5, 11, 0]) (lo := 0) (hi := 11) r9 r10 (by intro n hn; simp at hn; omega)
  simp only [ints_cons, ints_nil] at ef eg
  obtain ⟨m, em, m1, m2, m3⟩ : ∃ m : Int, minD [.int (1 + g), .int (41 - f)] = some (intV m) ∧ 1 ≤ m ∧ m ≤ 12 ∧ f + m ≤ 41 := ⟨_, rfl, by split <;> omega, by split <;> omega, by split <;> omega⟩
  obtain ⟨rows, b5, e5, l5, ok5, q5⟩ := rows_comp hr q4 hc s0 s1 k0 k1 (v3 := some (.val (.int f))) (v4 := some (.val (.int m))) (v5 := none) (m := m.toNat) (by omega)
  obtain ⟨x5, rfl⟩ := q5.ls
  obtain ⟨n, b6, e6, n6, q6⟩ := one_nm ho q5 hc s0 s1
  obtain ⟨x6, rfl⟩ := q6.ls
  obtain ⟨r11, b7, e7, r12, r13, q7⟩ := hp _ 6 q6 (by decide) (by decide)
  have ht : ∀ xs : List D, tupleD [.lst xs] = some (.val (.tup xs)) := fun _ => rfl
  obtain ⟨x4, rfl⟩ := q4.ls
  refine ⟨n, r11, f, rows, b7, runDef_ret rfl (r := [some b7, some c, some (.val (.tup (ks.map KindR.d))), some (.val (.int f)), some (.val (.int m)), some (.val (.tup rows)), none]) ?_ rfl, n6, ⟨r12, by omega⟩, f1, by omega, by omega, by omega, ok5, q7⟩
  show s_law_frame p [some (.ls xs), some c, some (.val (.tup (ks.map KindR.d))), none, none, none, none] = _
  unfold s_law_frame
  rcases hc with rfl | rfl <;> simp -implicitDefEqProofs [e1, e2, ef, e3, e4, eg, em, intV, rng_ok (by omega : 0 ≤ m) (by omega : m ≤ 1000), e5, ht, e6, e7, szS]
/-! sorted data -/
theorem dle_iff (a b : D) : PySem.W.dataLe false pyOf a b = !PySem.W.dataLt (pyOf b) (pyOf a) := rfl
theorem sortG_sorted (xs : List D) : (sortG xs).Pairwise fun a b => PySem.W.dataLe false pyOf a b = true := (PySem.W.sort_pairwise (PySem.W.sortLe_total _ _ _) xs).imp fun h => h
theorem sortG_perm (xs : List D) : (sortG xs).Perm xs := List.mergeSort_perm _ _
end Mi

set_option Elab.async false
set_option linter.all false
set_option maxRecDepth 100000
/-! Mi: f-strings and enumerate step by step; texts. -/
namespace Mi
open PySem L2
def enF (k : Int) (r : Env) : Option (List D) → Out (List D)
  | some ds => seqF r ((enV ds).map (enD k))
  | none => .bad
@[simp] theorem enF_some (k : Int) (r : Env) (ds : List D) : enF k r (some ds) = seqF r ((enV ds).map (enD k)) := rfl
def enK (k : Int) : List Rf → Env → Out (List D) := fun as r => enF k r (views as r)
@[simp] theorem enK_eq (k : Int) (as : List Rf) (r : Env) : enK k as r = enF k r (views as r) := rfl
@[simp] theorem iEn_eq (k : Int) (g : SA) (p : Pg) (r : Env) : iEn k g p r = (g p r).bind (enK k) := by
  unfold iEn
  congr 1
  all_goals
    funext as r1
    show _ = enF k r1 (views as r1)
    cases views as r1 with
    | none => rfl
    | some ds =>
      show _ = seqF r1 ((enV ds).map (enD k))
      dsimp only
      cases enV ds <;> rfl
@[simp] theorem enV_str (s : Str) : enV [.str s] = some (sgns s) := rfl
@[simp] theorem enV_tup (xs : List D) : enV [.tup xs] = some xs := rfl
theorem en_get {k : Int} {xs : List D} {i : Nat} {d : D} (h : (enD k xs)[i]? = some d) : ∃ x, xs[i]? = some x ∧ d = .tup [.int (k + (i : Int)), x] := by
  unfold enD at h
  rw [List.getElem?_map, List.getElem?_zipIdx] at h
  cases hx : xs[i]? with
  | none => rw [hx] at h; cases h
  | some x => rw [hx] at h; cases h; exact ⟨x, rfl, by rw [Nat.zero_add]⟩
theorem en_len (k : Int) (xs : List D) : (enD k xs).length = xs.length := by unfold enD; simp
def fsF (fs : List SE) (acc : Str) (p : Pg) (r : Env) : Option Str → Out Str
  | some y => if szOk (acc ++ y).length then eFsG fs (acc ++ y) p r else .bad
  | none => .bad
@[simp] theorem fsF_some (fs : List SE) (acc : Str) (p : Pg) (r : Env) (y : Str) : fsF fs acc p r (some y) = if szOk (acc ++ y).length then eFsG fs (acc ++ y) p r else .bad := rfl
def fsK1 (fs : List SE) (acc : Str) (p : Pg) : Rf → Env → Out Str := fun a r => fsF fs acc p r ((view a r).bind fmtD)
@[simp] theorem fsK1_eq (fs : List SE) (acc : Str) (p : Pg) (a : Rf) (r : Env) : fsK1 fs acc p a r = fsF fs acc p r ((view a r).bind fmtD) := rfl
@[simp] theorem eFsG_nil (acc : Str) (p : Pg) (r : Env) : eFsG [] acc p r = .ok acc r := rfl
@[simp] theorem eFsG_cons (f : SE) (fs : List SE) (acc : Str) (p : Pg) (r : Env) : eFsG (f :: fs) acc p r = (f p r).bind (fsK1 fs acc p) := by
  rw [eFsG.eq_2]
  congr 1
  all_goals
    funext a r1
    show _ = fsF fs acc p r1 ((view a r1).bind fmtD)
    cases view a r1 with
    | none => rfl
    | some d =>
      show _ = fsF fs acc p r1 (fmtD d)
      dsimp only
      cases fmtD d <;> rfl
def fsK : Str → Env → Out Rf := fun s r => .ok (.tmp (strV s)) r
@[simp] theorem fsK_eq (s : Str) (r : Env) : fsK s r = .ok (.tmp (strV s)) r := rfl
@[simp] theorem eFs_eq (fs : List SE) (p : Pg) (r : Env) : eFs fs p r = (eFsG fs Str.empty p r).bind fsK := rfl
theorem fmt_s {s : Str} (h : s.length ≤ 1000) : fmtD (.str s) = some s := by
  show (if szOk s.length then some s else none) = _
  rw [if_pos (szS h)]
theorem log_s {i : Int} (h0 : 0 ≤ i) (h : i ≤ 1000000000) : i.natAbs.log2 < 1920 := by
  have h1 : i.natAbs ≤ 1000000000 := by omega
  by_cases hz : i.natAbs = 0
  · rw [hz]; decide
  · exact (Nat.log2_lt hz).mpr (Nat.lt_of_le_of_lt h1 (Nat.lt_of_lt_of_le (by decide : 1000000000 < 2 ^ 64) (Nat.pow_le_pow_right (by decide) (by decide))))
theorem fmt_i {i : Int} (h0 : 0 ≤ i) (h : i ≤ 1000000000) : fmtD (.int i) = some (Str.ofString (toString i)) := if_pos (decide_eq_true (log_s h0 h))
theorem str_i {i : Int} (h0 : 0 ≤ i) (h : i ≤ 1000000000) : strD [.int i] = some (.val (.str (Str.ofString (toString i)))) := if_pos (decide_eq_true (log_s h0 h))
theorem str_s (s : Str) : strD [.str s] = some (.val (.str s)) := rfl
theorem len_i {i : Int} (h0 : 0 ≤ i) (h : i < 1000000000) : (Str.ofString (toString i)).length ≤ 9 := PyProof.Rows.toString_length_le h0 (by decide) (by simpa using h)
theorem ord1 (c : Nat) : ordD [.str ⟨#[c]⟩] = some (.val (.int c)) := rfl
theorem empty_app (s : Str) : Str.empty ++ s = s := by
  show (⟨Str.empty.cps ++ s.cps⟩ : Str) = s
  have : Str.empty.cps = #[] := rfl
  rw [this]
  cases s
  simp
theorem allStr_strs : ∀ ss : List Str, allStr (strsD ss) = some ss
  | [] => rfl
  | s :: ss => by
    show allStr (.str s :: strsD ss) = _
    unfold allStr
    rw [allStr_strs ss]
    rfl
/-! joined texts -/
theorem join_cps (sep : Str) : ∀ ts : List Str, (Txt.join sep ts).cps.toList = match ts with
    | [] => []
    | t :: ts => t.cps.toList ++ ts.flatMap fun z => sep.cps.toList ++ z.cps.toList := by
  have H : ∀ (ts : List Str) (acc : Array Nat), (ts.foldl (fun acc p => acc ++ sep.cps ++ p.cps) acc).toList = acc.toList ++ ts.flatMap fun z => sep.cps.toList ++ z.cps.toList := by
    intro ts
    induction ts with
    | nil => intro acc; simp
    | cons t ts ih => intro acc; rw [List.foldl_cons, ih]; simp
  intro ts
  show ((ts.drop 1).foldl (fun acc p => acc ++ sep.cps ++ p.cps) (ts.headD Str.empty).cps).toList = _
  rw [H]
  cases ts with
  | nil => rfl
  | cons t ts => rfl
theorem sum_le {B : Nat} : ∀ {ts : List Str}, (∀ t ∈ ts, t.length ≤ B) → (ts.map (·.length)).sum ≤ ts.length * B
  | [], _ => by simp
  | t :: ts, h => by
    have ih := sum_le (ts := ts) fun z hz => h z (List.mem_cons_of_mem _ hz)
    have := h t (List.mem_cons_self ..)
    rw [List.map_cons, List.sum_cons, List.length_cons, Nat.succ_mul]
    omega
theorem flat_le {sep : Str} {B : Nat} : ∀ {ts : List Str}, (∀ t ∈ ts, t.length ≤ B) → (ts.flatMap fun z => sep.cps.toList ++ z.cps.toList).length ≤ ts.length * (sep.length + B)
  | [], _ => by simp
  | t :: ts, h => by
    have ih := flat_le (sep := sep) (ts := ts) fun z hz => h z (List.mem_cons_of_mem _ hz)
    have h1 : t.cps.size ≤ B := h t (List.mem_cons_self ..)
    have h2 : sep.cps.size = sep.length := rfl
    rw [List.flatMap_cons, List.length_append, List.length_append, List.length_cons, Nat.succ_mul, Array.length_toList, Array.length_toList, h2]
    omega
theorem join_len {sep : Str} {ts : List Str} {B : Nat} (h : ∀ t ∈ ts, t.length ≤ B) : (Txt.join sep ts).length ≤ ts.length * (sep.length + B) := by
  show (Txt.join sep ts).cps.size ≤ _
  rw [← Array.length_toList, join_cps]
  cases ts with
  | nil => simp
  | cons t ts =>
    have h1 : t.cps.size ≤ B := h t (List.mem_cons_self ..)
    have := flat_le (sep := sep) (ts := ts) fun z hz => h z (List.mem_cons_of_mem _ hz)
    dsimp only
    rw [List.length_append, Array.length_toList, List.length_cons, Nat.succ_mul]
    omega
theorem join_is {sep : Str} {ts : List Str} {B : Nat} (h : ∀ t ∈ ts, t.length ≤ B) (hb : ts.length * (B + sep.length) ≤ 16777216) : mtS .join sep [.lst (strsD ts)] = some (.val (.str (Txt.join sep ts))) := by
  unfold mtS
  dsimp only
  rw [allStr_strs]
  dsimp only
  have := sum_le h
  rw [if_pos (decide_eq_true (by rw [Nat.mul_add] at hb; omega))]
  rfl
theorem ix_s {s : Str} {k c : Nat} (hs : s.length ≤ 16777216) (h : s.cps.toList[k]? = some c) : ixD (.str s) (.int (k : Int)) = some (.val (.str ⟨#[c]⟩)) := by
  show (if szOk s.length then (atI s.cps.toList (k : Int)).map (fun c => strV ⟨#[c]⟩) else none) = _
  rw [if_pos (szM hs), atI_nat h]
  rfl
end Mi

set_option Elab.async false
set_option linter.all false
set_option maxRecDepth 100000
/-! Mi: own exceptions, written dicts, defs as values, step by step. -/
namespace Mi
open PySem L2
def raiseF (c wd fn : Str) : Option (List D × Env) → Out Fl
  | some ([d], r2) => .exn ⟨c, [(fn, d), ("word", .str wd)]⟩ r2
  | _ => .bad
@[simp] theorem raiseF_one (c wd fn : Str) (d : D) (r : Env) : raiseF c wd fn (some ([d], r)) = .exn ⟨c, [(fn, d), ("word", .str wd)]⟩ r := rfl
def raiseK (c wd fn : Str) : List Rf → Env → Out Fl := fun as r => raiseF c wd fn (fzs as r)
@[simp] theorem raiseK_eq (c wd fn : Str) (as : List Rf) (r : Env) : raiseK c wd fn as r = raiseF c wd fn (fzs as r) := rfl
@[simp] theorem sRaise_eq (c wd fn : Str) (g : SA) (p : Pg) (r : Env) : sRaise c wd fn g p r = if 3 ≤ p.lv then (g p r).bind (raiseK c wd fn) else .bad := by
  unfold sRaise
  by_cases h : 3 ≤ p.lv
  · rw [if_pos h, if_pos h]
    congr 1
  · rw [if_neg h, if_neg h]
@[simp] theorem hps_nil (x : Exc) : hpsD x [] = some [] := rfl
@[simp] theorem hps_cst (x : Exc) (d : D) (hs : List HP) : hpsD x (.cst d :: hs) = vcons (some d) (hpsD x hs) := by
  show (match some d, hpsD x hs with | some d, some ds => some (d :: ds) | _, _ => none) = _
  cases hpsD x hs <;> rfl
@[simp] theorem hps_fld (x : Exc) (f : Str) (hs : List HP) : hpsD x (.fld f :: hs) = vcons (x.fs.lookup f) (hpsD x hs) := by
  show (match hpD x (.fld f), hpsD x hs with | some d, some ds => some (d :: ds) | _, _ => none) = _
  show (match x.fs.lookup f, hpsD x hs with | some d, some ds => some (d :: ds) | _, _ => none) = _
  cases x.fs.lookup f <;> cases hpsD x hs <;> rfl
theorem lk_one (f : Str) (d : D) (r : List (Str × D)) : ((f, d) :: r).lookup f = some d := by rw [List.lookup_cons]; simp
def tryO (i : Nat) (r1 : Env) (ds : List D) : Option Nat → Out Fl
  | some j => .ok .nx ((r1.set j (some (.val (.tup ds)))).set i none)
  | none => .ok (.ret (.val (.tup ds))) (r1.set i none)
@[simp] theorem tryO_some (i : Nat) (r1 : Env) (ds : List D) (j : Nat) : tryO i r1 ds (some j) = .ok .nx ((r1.set j (some (.val (.tup ds)))).set i none) := rfl
@[simp] theorem tryO_none (i : Nat) (r1 : Env) (ds : List D) : tryO i r1 ds none = .ok (.ret (.val (.tup ds))) (r1.set i none) := rfl
def tryF (i : Nat) (o : Option Nat) (r1 : Env) : Option (List D) → Out Fl
  | some ds => if szOk ds.length then tryO i r1 ds o else .bad
  | none => .bad
@[simp] theorem tryF_some (i : Nat) (o : Option Nat) (r1 : Env) (ds : List D) : tryF i o r1 (some ds) = if szOk ds.length then tryO i r1 ds o else .bad := rfl
def tryK (c : Str) (i : Nat) (o : Option Nat) (hs : List HP) : Out Fl → Out Fl
  | .exn x r1 => if x.cls = c ∧ i < r1.length then tryF i o r1 (hpsD x hs) else .bad
  | z => z
@[simp] theorem tryK_ok (c : Str) (i : Nat) (o : Option Nat) (hs : List HP) (f : Fl) (r : Env) : tryK c i o hs (.ok f r) = .ok f r := rfl
@[simp] theorem tryK_exn (c : Str) (i : Nat) (o : Option Nat) (hs : List HP) (x : Exc) (r1 : Env) : tryK c i o hs (.exn x r1) = if x.cls = c ∧ i < r1.length then tryF i o r1 (hpsD x hs) else .bad := rfl
@[simp] theorem sTry_eq (b : SS) (c : Str) (i : Nat) (o : Option Nat) (hs : List HP) (p : Pg) (r : Env) : sTry b c i o hs p r = tryK c i o hs (b p r) := by
  unfold sTry
  cases b p r with
  | ok f r1 => rfl
  | bad => rfl
  | exn x r1 =>
    rw [tryK_exn]
    dsimp only
    by_cases h : x.cls = c ∧ i < r1.length
    · rw [if_pos h, if_pos h]
      cases hpsD x hs with
      | none => rfl
      | some ds =>
        rw [tryF_some]
        dsimp only
        by_cases hz : szOk ds.length = true
        · rw [if_pos hz, if_pos hz]
          cases o <;> rfl
        · rw [if_neg hz, if_neg hz]
    · rw [if_neg h, if_neg h]
def unpSF (i j : Nat) : Option (D × Env) → Out Fl
  | some (.tup (x :: xs), r2) => if decide (xs.length ≤ 10000) then .ok .nx ((r2.set i (some (.val x))).set j (some (.ls xs))) else .bad
  | _ => .bad
@[simp] theorem unpSF_tup (i j : Nat) (x : D) (xs : List D) (r2 : Env) : unpSF i j (some (.tup (x :: xs), r2)) = if decide (xs.length ≤ 10000) then .ok .nx ((r2.set i (some (.val x))).set j (some (.ls xs))) else .bad := rfl
def unpSK (i j : Nat) : Rf → Env → Out Fl := fun a r => unpSF i j (fz a r)
@[simp] theorem unpSK_eq (i j : Nat) (a : Rf) (r : Env) : unpSK i j a r = unpSF i j (fz a r) := rfl
@[simp] theorem sUnpS_eq (i j : Nat) (f : SE) (p : Pg) (r : Env) : sUnpS i j f p r = (f p r).bind (unpSK i j) := by
  unfold sUnpS
  congr 1
def gixF (r : Env) : Option D → Out Rf
  | some d => .ok (.tmp (.val d)) r
  | none => .bad
@[simp] theorem gixF_some (r : Env) (d : D) : gixF r (some d) = .ok (.tmp (.val d)) r := rfl
def gixV (ks : List Str) (xs : List D) (r : Env) : Option D → Out Rf
  | some (.str z) => gixF r (lkD ks xs z)
  | _ => .bad
@[simp] theorem gixV_str (ks : List Str) (xs : List D) (r : Env) (z : Str) : gixV ks xs r (some (.str z)) = gixF r (lkD ks xs z) := rfl
def gixK (ks : List Str) (xs : List D) : Rf → Env → Out Rf := fun a r => gixV ks xs r (view a r)
@[simp] theorem gixK_eq (ks : List Str) (xs : List D) (a : Rf) (r : Env) : gixK ks xs a r = gixV ks xs r (view a r) := rfl
def gixG (f : SE) (p : Pg) (r : Env) : Option D → Out Rf
  | some (.dct ks xs) => (f p r).bind (gixK ks xs)
  | _ => .bad
@[simp] theorem gixG_dct (f : SE) (p : Pg) (r : Env) (ks : List Str) (xs : List D) : gixG f p r (some (.dct ks xs)) = (f p r).bind (gixK ks xs) := rfl
@[simp] theorem eGIx_eq (x : Str) (f : SE) (p : Pg) (r : Env) : eGIx x f p r = gixG f p r (p.G x) := by
  unfold eGIx
  cases p.G x with
  | none => rfl
  | some d =>
    cases d <;> rfl
def ginV (neg : Bool) (ks : List Str) (xs : List D) (r : Env) : Option D → Out Rf
  | some (.str z) => .ok (.tmp (.val (.bl (neg != (lkD ks xs z).isSome)))) r
  | _ => .bad
@[simp] theorem ginV_str (neg : Bool) (ks : List Str) (xs : List D) (r : Env) (z : Str) : ginV neg ks xs r (some (.str z)) = .ok (.tmp (.val (.bl (neg != (lkD ks xs z).isSome)))) r := rfl
def ginK (neg : Bool) (ks : List Str) (xs : List D) : Rf → Env → Out Rf := fun a r => ginV neg ks xs r (view a r)
@[simp] theorem ginK_eq (neg : Bool) (ks : List Str) (xs : List D) (a : Rf) (r : Env) : ginK neg ks xs a r = ginV neg ks xs r (view a r) := rfl
def ginG (neg : Bool) (f : SE) (p : Pg) (r : Env) : Option D → Out Rf
  | some (.dct ks xs) => (f p r).bind (ginK neg ks xs)
  | _ => .bad
@[simp] theorem ginG_dct (neg : Bool) (f : SE) (p : Pg) (r : Env) (ks : List Str) (xs : List D) : ginG neg f p r (some (.dct ks xs)) = (f p r).bind (ginK neg ks xs) := rfl
@[simp] theorem eGIn_eq (neg : Bool) (x : Str) (f : SE) (p : Pg) (r : Env) : eGIn neg x f p r = ginG neg f p r (p.G x) := by
  unfold eGIn
  cases p.G x with
  | none => rfl
  | some d =>
    cases d <;> rfl
def cvK (fv : List (Str × Nat)) (n : Nat) (g : SA) (p : Pg) (r : Env) : Option (Option C) → Out Rf
  | some (some (.val (.fn x))) => if fv.any fun q => decide (q = (x, n)) then (g p r).bind (callK x p) else .bad
  | _ => .bad
@[simp] theorem cvK_fn (fv : List (Str × Nat)) (n : Nat) (g : SA) (p : Pg) (r : Env) (x : Str) : cvK fv n g p r (some (some (.val (.fn x)))) = if fv.any fun q => decide (q = (x, n)) then (g p r).bind (callK x p) else .bad := rfl
@[simp] theorem eCallV_eq (fv : List (Str × Nat)) (i n : Nat) (g : SA) (p : Pg) (r : Env) : eCallV fv i n g p r = cvK fv n g p r r[i]? := by
  unfold eCallV cvK
  rfl
theorem runDef_exn {p : Pg} {d : Def} {cs : List C} {x : Exc} {r ps : Env} (hl : cs.length = d.io.length) (h : d.body p (cs.map some ++ List.replicate (d.n - cs.length) none) = .exn x r) (hm : mask d.io r = ps) : runDef p d cs = .exn x ps := by
  unfold runDef
  rw [if_pos hl, h, ← hm]
/-! dict displays, written tuples, two clauses -/
def dctK (ks : List Str) : Option (List D × Env) → Out Rf
  | some (ds, r2) => if dkOk ks ds.length then .ok (.tmp (.val (.dct ks ds))) r2 else .bad
  | none => .bad
@[simp] theorem dctK_some (ks : List Str) (ds : List D) (r : Env) : dctK ks (some (ds, r)) = if dkOk ks ds.length then .ok (.tmp (.val (.dct ks ds))) r else .bad := rfl
def dctKK (ks : List Str) : List Rf → Env → Out Rf := fun as r => dctK ks (fzs as r)
@[simp] theorem dctKK_eq (ks : List Str) (as : List Rf) (r : Env) : dctKK ks as r = dctK ks (fzs as r) := rfl
@[simp] theorem eDct_eq (ks : List Str) (g : SA) (p : Pg) (r : Env) : eDct ks g p r = (g p r).bind (dctKK ks) := rfl
@[simp] theorem ix_dct (ks : List Str) (xs : List D) (z : Str) : ixD (.dct ks xs) (.str z) = (lkD ks xs z).map .val := rfl
def tixJ (r : Env) : Option Nat → Out Rf
  | some j => .ok (.tmp (intV (j : Nat))) r
  | none => .bad
@[simp] theorem tixJ_some (r : Env) (j : Nat) : tixJ r (some j) = .ok (.tmp (intV (j : Nat))) r := rfl
def tixV (r : Env) : Option (List D) → Option (List Str) → Out Rf
  | some [.str z], some ys => tixJ r (idxS z ys)
  | _, _ => .bad
@[simp] theorem tixV_some (r : Env) (z : Str) (ys : List Str) : tixV r (some [.str z]) (some ys) = tixJ r (idxS z ys) := rfl
def tixK (xs : List D) : List Rf → Env → Out Rf := fun as r => tixV r (views as r) (allStr xs)
@[simp] theorem tixK_eq (xs : List D) (as : List Rf) (r : Env) : tixK xs as r = tixV r (views as r) (allStr xs) := rfl
def tixG (g : SA) (p : Pg) (r : Env) : Option D → Out Rf
  | some (.tup xs) => (g p r).bind (tixK xs)
  | _ => .bad
@[simp] theorem tixG_tup (g : SA) (p : Pg) (r : Env) (xs : List D) : tixG g p r (some (.tup xs)) = (g p r).bind (tixK xs) := rfl
@[simp] theorem eTIx_eq (x : Str) (g : SA) (p : Pg) (r : Env) : eTIx x g p r = tixG g p r (p.G x) := by
  unfold eTIx
  cases p.G x with
  | none => rfl
  | some d => cases d <;> rfl
def comp2VI (own own1 : List Nat) (g : SG) (t : ST) (it1 : SI) (g1 : SG) (t1 : ST) (e : SE) (p : Pg) (r : Env) : Option (List D) → Out Rf
  | some xs => compF own r (compL2 own own1 g t it1 g1 t1 e p xs [] (wipeE own r))
  | none => .bad
@[simp] theorem comp2VI_some (own own1 : List Nat) (g : SG) (t : ST) (it1 : SI) (g1 : SG) (t1 : ST) (e : SE) (p : Pg) (r : Env) (xs : List D) : comp2VI own own1 g t it1 g1 t1 e p r (some xs) = compF own r (compL2 own own1 g t it1 g1 t1 e p xs [] (wipeE own r)) := rfl
def comp2VS (own own1 : List Nat) (i : Nat) (g : SG) (t : ST) (it1 : SI) (g1 : SG) (t1 : ST) (e : SE) (p : Pg) (r : Env) : Option (Option C) → Out Rf
  | some (some (.val d)) => comp2VI own own1 g t it1 g1 t1 e p r (itD d)
  | some (some (.ls xs)) => compVF own (r.set i none) i xs (compL2 own own1 g t it1 g1 t1 e p xs [] (wipeE own (r.set i none)))
  | _ => .bad
@[simp] theorem comp2VS_val (own own1 : List Nat) (i : Nat) (g : SG) (t : ST) (it1 : SI) (g1 : SG) (t1 : ST) (e : SE) (p : Pg) (r : Env) (d : D) : comp2VS own own1 i g t it1 g1 t1 e p r (some (some (.val d))) = comp2VI own own1 g t it1 g1 t1 e p r (itD d) := rfl
@[simp] theorem comp2VS_ls (own own1 : List Nat) (i : Nat) (g : SG) (t : ST) (it1 : SI) (g1 : SG) (t1 : ST) (e : SE) (p : Pg) (r : Env) (xs : List D) : comp2VS own own1 i g t it1 g1 t1 e p r (some (some (.ls xs))) = compVF own (r.set i none) i xs (compL2 own own1 g t it1 g1 t1 e p xs [] (wipeE own (r.set i none))) := rfl
@[simp] theorem eComp2V_eq (own own1 : List Nat) (i : Nat) (g : SG) (t : ST) (it1 : SI) (g1 : SG) (t1 : ST) (e : SE) (p : Pg) (r : Env) : eComp2V own own1 i g t it1 g1 t1 e p r = comp2VS own own1 i g t it1 g1 t1 e p r r[i]? := by
  unfold eComp2V comp2VS
  rfl
def comp2K (own own1 : List Nat) (g : SG) (t : ST) (it1 : SI) (g1 : SG) (t1 : ST) (e : SE) (p : Pg) : List D → Env → Out Rf := fun xs r1 => compF own r1 (compL2 own own1 g t it1 g1 t1 e p xs [] (wipeE own r1))
@[simp] theorem comp2K_eq (own own1 : List Nat) (g : SG) (t : ST) (it1 : SI) (g1 : SG) (t1 : ST) (e : SE) (p : Pg) (xs : List D) (r : Env) : comp2K own own1 g t it1 g1 t1 e p xs r = compF own r (compL2 own own1 g t it1 g1 t1 e p xs [] (wipeE own r)) := rfl
@[simp] theorem eComp2_eq (own own1 : List Nat) (it : SI) (g : SG) (t : ST) (it1 : SI) (g1 : SG) (t1 : ST) (e : SE) (p : Pg) (r : Env) : eComp2 own own1 it g t it1 g1 t1 e p r = (it p r).bind (comp2K own own1 g t it1 g1 t1 e p) := by
  unfold eComp2
  congr 1
end Mi

set_option Elab.async false
set_option linter.all false
set_option maxRecDepth 100000
/-! Mi: what is wished of an outcome; a law's text step by step, by wishes. -/
namespace Mi
open PySem L2
abbrev XP := Exc → Env → Prop
def noX : XP := fun _ _ => False
/-- simp leaves a and b as they are -/
inductive Tg2 {α β : Type} (a : α) (b : β) : Type
  | mk
inductive Tg1 {α : Type} (a : α) : Type
  | mk
def Out.wp0 {A : Type} (o : Out A) (Q : A → Env → Prop) (X : XP) : Prop := match o with
  | .ok a r => Q a r
  | .exn x r => X x r
  | .bad => False
def FOut.wp0 (o : FOut) (Q : C → Env → Prop) (X : XP) : Prop := match o with
  | .ok a r => Q a r
  | .exn x r => X x r
  | .bad => False
structure Out.wp {A : Type} (o : Out A) (Q : A → Env → Prop) (X : XP) (t : Tg2 Q X := .mk) : Prop where
  go : o.wp0 Q X
structure FOut.wp (o : FOut) (Q : C → Env → Prop) (X : XP) (t : Tg2 Q X := .mk) : Prop where
  go : o.wp0 Q X
structure Hold (P : Prop) (t : Tg1 P := .mk) : Prop where
  go : P
theorem hold {P : Prop} (h : P) : Hold P := ⟨h⟩
@[simp] theorem wp_ok {A : Type} (a : A) (r : Env) (Q : A → Env → Prop) (X : XP) : (Out.ok a r).wp Q X = Q a r := propext ⟨fun h => h.go, fun h => ⟨h⟩⟩
@[simp] theorem wp_exn {A : Type} (x : Exc) (r : Env) (Q : A → Env → Prop) (X : XP) : (Out.exn x r : Out A).wp Q X = X x r := propext ⟨fun h => h.go, fun h => ⟨h⟩⟩
@[simp] theorem fwp_ok (a : C) (r : Env) (Q : C → Env → Prop) (X : XP) : (FOut.ok a r).wp Q X = Q a r := propext ⟨fun h => h.go, fun h => ⟨h⟩⟩
@[simp] theorem fwp_exn (x : Exc) (r : Env) (Q : C → Env → Prop) (X : XP) : (FOut.exn x r).wp Q X = X x r := propext ⟨fun h => h.go, fun h => ⟨h⟩⟩
def bindW {A B : Type} (f : A → Env → Out B) (Q : B → Env → Prop) (X : XP) : A → Env → Prop := fun a r => (f a r).wp Q X
@[simp ↓] theorem bindW_eq {A B : Type} (f : A → Env → Out B) (Q : B → Env → Prop) (X : XP) (a : A) (r : Env) : bindW f Q X a r = (f a r).wp Q X := rfl
@[simp] theorem wp_bind {A B : Type} (o : Out A) (f : A → Env → Out B) (Q : B → Env → Prop) (X : XP) : (o.bind f).wp Q X = o.wp (bindW f Q X) X := by
  cases o with
  | ok a r => exact propext ⟨fun h => ⟨h⟩, fun h => h.go⟩
  | exn x r => exact propext ⟨fun h => ⟨h.go⟩, fun h => ⟨h.go⟩⟩
  | bad => exact propext ⟨fun h => ⟨h.go⟩, fun h => ⟨h.go⟩⟩
def callW (is : List (Option Nat)) (r : Env) (Q : Rf → Env → Prop) : C → Env → Prop := fun c ps => Q (.tmp c) (back is ps r)
def callX (is : List (Option Nat)) (r : Env) (X : XP) : XP := fun x ps => X x (back is ps r)
@[simp ↓] theorem callW_eq (is : List (Option Nat)) (r : Env) (Q : Rf → Env → Prop) (c : C) (ps : Env) : callW is r Q c ps = Q (.tmp c) (back is ps r) := rfl
@[simp ↓] theorem callX_eq (is : List (Option Nat)) (r : Env) (X : XP) (x : Exc) (ps : Env) : callX is r X x ps = X x (back is ps r) := rfl
@[simp] theorem wp_callK2 (is : List (Option Nat)) (r : Env) (o : FOut) (Q : Rf → Env → Prop) (X : XP) : (callK2 is r o).wp Q X = o.wp (callW is r Q) (callX is r X) := by
  cases o <;> exact propext ⟨fun h => ⟨h.go⟩, fun h => ⟨h.go⟩⟩
theorem Out.wp_mono {A : Type} {o : Out A} {Q Q' : A → Env → Prop} {X X' : XP} (h : o.wp Q X) (hq : ∀ a r, Q a r → Q' a r) (hx : ∀ x r, X x r → X' x r) : o.wp Q' X' := by
  cases o with
  | ok a r => exact ⟨hq a r h.go⟩
  | exn x r => exact ⟨hx x r h.go⟩
  | bad => exact h.go.elim
theorem FOut.wp_mono {o : FOut} {Q Q' : C → Env → Prop} {X X' : XP} (h : o.wp Q X) (hq : ∀ a r, Q a r → Q' a r) (hx : ∀ x r, X x r → X' x r) : o.wp Q' X' := by
  cases o with
  | ok a r => exact ⟨hq a r h.go⟩
  | exn x r => exact ⟨hx x r h.go⟩
  | bad => exact h.go.elim
theorem FOut.wp_eq {o : FOut} {c : C} {ps : Env} (h : o.wp (fun a r => a = c ∧ r = ps) noX) : o = .ok c ps := by
  cases o with
  | ok a r => obtain ⟨rfl, rfl⟩ := h.go; rfl
  | exn x r => exact h.go.elim
  | bad => exact h.go.elim
/-- branches -/
@[simp] theorem wp_ifK (a b : SS) (p : Pg) (k : Bool) (r : Env) (Q : Fl → Env → Prop) (X : XP) : (ifK a b p k r).wp Q X = if k = true then (a p r).wp Q X else (b p r).wp Q X := by
  cases k <;> first | rfl | exact propext ⟨fun h => h.go, fun h => ⟨h⟩⟩
@[simp] theorem wp_ifEK (a b : SE) (p : Pg) (k : Bool) (r : Env) (Q : Rf → Env → Prop) (X : XP) : (ifEK a b p k r).wp Q X = if k = true then (a p r).wp Q X else (b p r).wp Q X := by
  cases k <;> first | rfl | exact propext ⟨fun h => h.go, fun h => ⟨h⟩⟩
@[simp] theorem wp_tAndK (g : ST) (p : Pg) (k : Bool) (r : Env) (Q : Bool → Env → Prop) (X : XP) : (tAndK g p k r).wp Q X = if k = true then (g p r).wp Q X else Q false r := by
  cases k <;> first | rfl | exact propext ⟨fun h => h.go, fun h => ⟨h⟩⟩
@[simp] theorem wp_tOrK (g : ST) (p : Pg) (k : Bool) (r : Env) (Q : Bool → Env → Prop) (X : XP) : (tOrK g p k r).wp Q X = if k = true then Q true r else (g p r).wp Q X := by
  cases k <;> first | rfl | exact propext ⟨fun h => h.go, fun h => ⟨h⟩⟩
@[simp] theorem wp_andF (g : SE) (p : Pg) (k : Bool) (r : Env) (Q : Rf → Env → Prop) (X : XP) : (andF g p r (some k)).wp Q X = if k = true then (g p r).wp Q X else Q (.tmp (.val (.bl false))) r := by
  cases k <;> first | rfl | exact propext ⟨fun h => h.go, fun h => ⟨h⟩⟩
@[simp] theorem wp_orF (g : SE) (p : Pg) (k : Bool) (r : Env) (Q : Rf → Env → Prop) (X : XP) : (orF g p r (some k)).wp Q X = if k = true then Q (.tmp (.val (.bl true))) r else (g p r).wp Q X := by
  cases k <;> first | rfl | exact propext ⟨fun h => h.go, fun h => ⟨h⟩⟩
@[simp] theorem wp_chF0 (op' : COp) (h : SE) (p : Pg) (b : Rf) (r : Env) (k : Bool) (Q : Rf → Env → Prop) (X : XP) : (chF0 op' h p b r (some k)).wp Q X = if k = true then ((h p r).bind (chK3 op' b)).wp Q X else Q (.tmp (.val (.bl false))) r := by
  cases k <;> first | rfl | exact propext ⟨fun h => h.go, fun h => ⟨h⟩⟩
theorem wp_ite {A : Type} {c : Prop} [Decidable c] {o o' : Out A} {Q : A → Env → Prop} {X : XP} (h1 : c → o.wp Q X) (h2 : ¬ c → o'.wp Q X) : (if c then o else o').wp Q X := by
  split
  · exact h1 ‹_›
  · exact h2 ‹_›
/-- a def -/
def endW (io : List Bool) (Q : C → Env → Prop) : Fl → Env → Prop
  | .nx, r => Q (.val .non) (mask io r)
  | .ret c, r => Q c (mask io r)
  | _, _ => False
def endX (io : List Bool) (X : XP) : XP := fun x r => X x (mask io r)
@[simp ↓] theorem endX_eq (io : List Bool) (X : XP) (x : Exc) (r : Env) : endX io X x r = X x (mask io r) := rfl
@[simp ↓] theorem endW_nx (io : List Bool) (Q : C → Env → Prop) (r : Env) : endW io Q .nx r = Q (.val .non) (mask io r) := rfl
@[simp ↓] theorem endW_ret (io : List Bool) (Q : C → Env → Prop) (c : C) (r : Env) : endW io Q (.ret c) r = Q c (mask io r) := rfl
theorem wp_def {p : Pg} {io : List Bool} {n : Nat} {b : SS} {cs : List C} {Q : C → Env → Prop} {X : XP} (hl : cs.length = io.length) (h : (b p (cs.map some ++ List.replicate (n - cs.length) none)).wp (endW io Q) (endX io X)) : (runDef p ⟨io, n, b⟩ cs).wp Q X := by
  unfold runDef
  rw [if_pos hl]
  show FOut.wp (match b p (cs.map some ++ List.replicate (n - cs.length) none) with
    | .ok .nx r => .ok (.val .non) (mask io r)
    | .ok (.ret c) r => .ok c (mask io r)
    | .exn x r => .exn x (mask io r)
    | _ => .bad) Q X
  revert h
  cases b p (cs.map some ++ List.replicate (n - cs.length) none) with
  | ok f r => intro h; cases f <;> first | exact ⟨h.go⟩ | exact h.go.elim
  | exn x r => intro h; exact ⟨h.go⟩
  | bad => intro h; exact h.go.elim
def stW {A : Type} (o : Pg → Env → Out A) (p : Pg) (Q : A → Env → Prop) (X : XP) : Env → Prop := fun r => (o p r).wp Q X
@[simp ↓] theorem stW_eq {A : Type} (o : Pg → Env → Out A) (p : Pg) (Q : A → Env → Prop) (X : XP) (r : Env) : stW o p Q X r = (o p r).wp Q X := rfl
/-! loops -/
def forW (I : Env → Prop) (Q : Fl → Env → Prop) : Fl → Env → Prop
  | .nx, r => I r
  | .ct, r => I r
  | .brk, r => Q .nx r
  | .ret c, r => Q (.ret c) r
@[simp ↓] theorem forW_nx (I : Env → Prop) (Q : Fl → Env → Prop) (r : Env) : forW I Q .nx r = I r := rfl
@[simp ↓] theorem forW_ct (I : Env → Prop) (Q : Fl → Env → Prop) (r : Env) : forW I Q .ct r = I r := rfl
@[simp ↓] theorem forW_brk (I : Env → Prop) (Q : Fl → Env → Prop) (r : Env) : forW I Q .brk r = Q .nx r := rfl
@[simp ↓] theorem forW_ret (I : Env → Prop) (Q : Fl → Env → Prop) (c : C) (r : Env) : forW I Q (.ret c) r = Q (.ret c) r := rfl
def gW (o : Option Env) (Q : Env → Prop) (t : Tg1 Q := .mk) : Prop := match o with
  | some r => Q r
  | none => False
@[simp] theorem gW_some (r : Env) (Q : Env → Prop) : gW (some r) Q = Q r := rfl
/-- I: what is left to be walked, the slots -/
theorem for_wp {g : SG} {b : SS} {p : Pg} {Q : Fl → Env → Prop} {X : XP} (I : List D → Env → Prop) (hs : ∀ d ds r, I (d :: ds) r → gW (g d r) (stW b p (forW (fun r => Hold (I ds r)) Q) X)) (he : ∀ r, I [] r → Q .nx r) : ∀ {ds : List D} {r : Env}, I ds r → (forL g b p ds r).wp Q X
  | [], r, h => ⟨he r h⟩
  | d :: ds, r, h => by
    have h1 := hs d ds r h
    unfold forL
    cases eg : g d r with
    | none => rw [eg] at h1; exact h1.elim
    | some r1 =>
      rw [eg] at h1
      dsimp only
      simp only [gW_some, stW_eq] at h1
      revert h1
      cases b p r1 with
      | bad => intro h; exact h.go.elim
      | exn x r2 => intro h; exact ⟨h.go⟩
      | ok f r2 =>
        intro h1
        cases f with
        | nx => exact for_wp I hs he h1.go.go
        | ct => exact for_wp I hs he h1.go.go
        | brk => exact ⟨h1.go⟩
        | ret c => exact ⟨h1.go⟩
/-- while: m turns are left at most -/
def whW (I : Env → Prop) (Q : Fl → Env → Prop) : Bool → Env → Prop
  | true, r => I r
  | false, r => Q .nx r
@[simp ↓] theorem whW_t (I : Env → Prop) (Q : Fl → Env → Prop) (r : Env) : whW I Q true r = I r := rfl
@[simp ↓] theorem whW_f (I : Env → Prop) (Q : Fl → Env → Prop) (r : Env) : whW I Q false r = Q .nx r := rfl
theorem while_wpN {t : ST} {b : SS} {p : Pg} {Q : Fl → Env → Prop} {X : XP} (I : Nat → Env → Prop) (hs : ∀ m r, I m r → (t p r).wp (whW (stW b p (forW (fun r => Hold (∃ m', m' < m ∧ I m' r)) Q) X) Q) X) : ∀ (n : Nat) {m : Nat} {r : Env}, m < n → I m r → (whL t b p n r).wp Q X
  | 0, m, r, hm, _ => absurd hm (Nat.not_lt_zero m)
  | n + 1, m, r, hm, h => by
    have h1 := hs m r h
    unfold whL
    revert h1
    cases t p r with
    | bad => intro h; exact h.go.elim
    | exn x r2 => intro h; exact ⟨h.go⟩
    | ok k r1 =>
      intro h1
      cases k with
      | false => exact ⟨h1.go⟩
      | true =>
        have h2 : (b p r1).wp (forW (fun r => Hold (∃ m', m' < m ∧ I m' r)) Q) X := h1.go
        dsimp only
        revert h2
        cases b p r1 with
        | bad => intro h; exact h.go.elim
        | exn x r2 => intro h; exact ⟨h.go⟩
        | ok f r2 =>
          intro h2
          cases f with
          | nx => obtain ⟨m', q1, q2⟩ := h2.go.go; exact while_wpN I hs n (by omega) q2
          | ct => obtain ⟨m', q1, q2⟩ := h2.go.go; exact while_wpN I hs n (by omega) q2
          | brk => exact ⟨h2.go⟩
          | ret c => exact ⟨h2.go⟩
theorem whN_gt {m : Nat} (h : m < 1000000) : m < whN := by unfold whN; exact h
theorem while_wp {t : ST} {b : SS} {p : Pg} {Q : Fl → Env → Prop} {X : XP} (I : Nat → Env → Prop) {m : Nat} {r : Env} (h0 : I m r) (hm : m < 1000000) (hs : ∀ m r, I m r → (t p r).wp (whW (stW b p (forW (fun r => Hold (∃ m', m' < m ∧ I m' r)) Q) X) Q) X) : (whL t b p whN r).wp Q X := while_wpN I hs whN (whN_gt hm) h0
/-! a walk of written things, turn by turn -/
def forR (g : SG) (b : SS) (p : Pg) (ds : List D) (Q : Fl → Env → Prop) (X : XP) : Env → Prop := fun r => (forL g b p ds r).wp Q X
@[simp ↓] theorem forR_eq (g : SG) (b : SS) (p : Pg) (ds : List D) (Q : Fl → Env → Prop) (X : XP) (r : Env) : forR g b p ds Q X r = (forL g b p ds r).wp Q X := rfl
def forT (g : SG) (b : SS) (p : Pg) (ds : List D) (Q : Fl → Env → Prop) (X : XP) : Env → Prop := fun r1 => (b p r1).wp (forW (forR g b p ds Q X) Q) X
@[simp ↓] theorem forT_eq (g : SG) (b : SS) (p : Pg) (ds : List D) (Q : Fl → Env → Prop) (X : XP) (r1 : Env) : forT g b p ds Q X r1 = (b p r1).wp (forW (forR g b p ds Q X) Q) X := rfl
@[simp] theorem wp_for_nil (g : SG) (b : SS) (p : Pg) (r : Env) (Q : Fl → Env → Prop) (X : XP) : (forL g b p [] r).wp Q X = Q .nx r := propext ⟨fun h => h.go, fun h => ⟨h⟩⟩
theorem wp_for_cons (g : SG) (b : SS) (p : Pg) (d : D) (ds : List D) (r : Env) (Q : Fl → Env → Prop) (X : XP) : (forL g b p (d :: ds) r).wp Q X = gW (g d r) (forT g b p ds Q X) := by
  rw [forL]
  cases g d r with
  | none => exact propext ⟨fun h => h.go.elim, fun h => h.elim⟩
  | some r1 =>
    dsimp only [gW_some]
    show _ = (b p r1).wp (forW (forR g b p ds Q X) Q) X
    cases b p r1 with
    | bad => exact propext ⟨fun h => h.go.elim, fun h => h.go.elim⟩
    | exn x r2 => exact propext ⟨fun h => ⟨h.go⟩, fun h => ⟨h.go⟩⟩
    | ok f r2 => cases f <;> first | exact propext ⟨fun h => ⟨h.go⟩, fun h => ⟨h.go⟩⟩ | exact propext ⟨fun h => ⟨h⟩, fun h => h.go⟩
def mapW {A : Type} (f : Env → Env) (Q : A → Env → Prop) : A → Env → Prop := fun a r => Q a (f r)
@[simp ↓] theorem mapW_eq {A : Type} (f : Env → Env) (Q : A → Env → Prop) (a : A) (r : Env) : mapW f Q a r = Q a (f r) := rfl
@[simp] theorem wp_mapEnv {A : Type} (o : Out A) (f : Env → Env) (Q : A → Env → Prop) (X : XP) : (o.mapEnv f).wp Q X = o.wp (mapW f Q) (mapW f X) := by
  cases o <;> exact propext ⟨fun h => ⟨h.go⟩, fun h => ⟨h.go⟩⟩
/-! comprehensions -/
def compW (own : List Nat) (r1 : Env) (Q : Rf → Env → Prop) : List D → Env → Prop := fun acc r2 => Q (.tmp (.ls acc)) (restE own r1 r2)
@[simp ↓] theorem compW_eq (own : List Nat) (r1 : Env) (Q : Rf → Env → Prop) (acc : List D) (r2 : Env) : compW own r1 Q acc r2 = Q (.tmp (.ls acc)) (restE own r1 r2) := rfl
def compVW (own : List Nat) (r1 : Env) (i : Nat) (xs : List D) (Q : Rf → Env → Prop) : List D → Env → Prop := fun acc r2 => Q (.tmp (.ls acc)) ((restE own r1 r2).set i (some (.ls xs)))
@[simp ↓] theorem compVW_eq (own : List Nat) (r1 : Env) (i : Nat) (xs : List D) (Q : Rf → Env → Prop) (acc : List D) (r2 : Env) : compVW own r1 i xs Q acc r2 = Q (.tmp (.ls acc)) ((restE own r1 r2).set i (some (.ls xs))) := rfl
@[simp] theorem wp_compF (own : List Nat) (r1 : Env) (o : Out (List D)) (Q : Rf → Env → Prop) (X : XP) : (compF own r1 o).wp Q X = o.wp (compW own r1 Q) noX := by
  cases o <;> exact propext ⟨fun h => ⟨h.go⟩, fun h => ⟨h.go⟩⟩
@[simp] theorem wp_compVF (own : List Nat) (r0 : Env) (i : Nat) (xs : List D) (o : Out (List D)) (Q : Rf → Env → Prop) (X : XP) : (compVF own r0 i xs o).wp Q X = o.wp (compVW own r0 i xs Q) noX := by
  cases o <;> exact propext ⟨fun h => ⟨h.go⟩, fun h => ⟨h.go⟩⟩
def fzW (o : Option (D × Env)) (Q : D → Env → Prop) (t : Tg1 Q := .mk) : Prop := match o with
  | some (d, r) => Q d r
  | none => False
@[simp] theorem fzW_some (d : D) (r : Env) (Q : D → Env → Prop) : fzW (some (d, r)) Q = Q d r := rfl
def snW (own : List Nat) (acc : List D) (I : List D → Env → Prop) : D → Env → Prop := fun y r4 => acc.length < sizeLine ∧ I (acc ++ [y]) (wipeE own r4)
@[simp ↓] theorem snW_eq (own : List Nat) (acc : List D) (I : List D → Env → Prop) (y : D) (r4 : Env) : snW own acc I y r4 = (acc.length < sizeLine ∧ I (acc ++ [y]) (wipeE own r4)) := rfl
def elW (Q : D → Env → Prop) : Rf → Env → Prop := fun a r3 => fzW (fz a r3) Q
@[simp ↓] theorem elW_eq (Q : D → Env → Prop) (a : Rf) (r : Env) : elW Q a r = fzW (fz a r) Q := rfl
def cmpW (own : List Nat) (e : SE) (p : Pg) (acc : List D) (I : List D → Env → Prop) : Bool → Env → Prop
  | true, r2 => (e p r2).wp (elW (snW own acc I)) noX
  | false, r2 => I acc (wipeE own r2)
@[simp ↓] theorem cmpW_t (own : List Nat) (e : SE) (p : Pg) (acc : List D) (I : List D → Env → Prop) (r2 : Env) : cmpW own e p acc I true r2 = (e p r2).wp (elW (snW own acc I)) noX := rfl
@[simp ↓] theorem cmpW_f (own : List Nat) (e : SE) (p : Pg) (acc : List D) (I : List D → Env → Prop) (r2 : Env) : cmpW own e p acc I false r2 = I acc (wipeE own r2) := rfl
/-- I: what is left, what was gathered, the slots -/
theorem comp_wp {own : List Nat} {g : SG} {t : ST} {e : SE} {p : Pg} {Q : List D → Env → Prop} (I : List D → List D → Env → Prop) (hs : ∀ d ds acc r, I (d :: ds) acc r → gW (g d r) (stW t p (cmpW own e p acc (fun acc r => Hold (I ds acc r))) noX)) (he : ∀ acc r, I [] acc r → Q acc r) :
    ∀ {ds acc : List D} {r : Env}, I ds acc r → (compL own g t e p ds acc r).wp Q noX
  | [], acc, r, h => ⟨he acc r h⟩
  | d :: ds, acc, r, h => by
    have h1 := hs d ds acc r h
    unfold compL
    cases eg : g d r with
    | none => rw [eg] at h1; exact h1.elim
    | some r1 =>
      rw [eg] at h1
      dsimp only
      simp only [gW_some, stW_eq] at h1
      revert h1
      cases t p r1 with
      | bad => intro h; exact h.go.elim
      | exn x r2 => intro h; exact h.go.elim
      | ok b r2 =>
        intro h1
        cases b with
        | false => exact comp_wp I hs he h1.go.go
        | true =>
          simp only [wp_ok, cmpW_t] at h1
          dsimp only
          revert h1
          cases e p r2 with
          | bad => intro h; exact h.go.elim
          | exn x r2 => intro h; exact h.go.elim
          | ok a r3 =>
            intro h1
            simp only [wp_ok, elW_eq] at h1
            dsimp only
            revert h1
            cases fz a r3 with
            | none => intro h; exact h.elim
            | some q =>
              rcases q with ⟨y, r4⟩
              intro h1
              simp only [fzW_some, snW_eq] at h1
              dsimp only
              rw [if_pos (decide_eq_true h1.1)]
              exact comp_wp I hs he h1.2.go
/-- a comprehension that changes nothing: f of each -/
theorem compM_wp {own : List Nat} {g : SG} {e : SE} {p : Pg} {Q : List D → Env → Prop} {f : D → D} {ds acc0 : List D} {r : Env} (hl : acc0.length + ds.length ≤ sizeLine) (hs : ∀ d ∈ ds, gW (g d r) (stW e p (elW fun y r4 => y = f d ∧ wipeE own r4 = r) noX)) (h : Q (acc0 ++ ds.map f) r) : (compL own g tTrue e p ds acc0 r).wp Q noX := by
  refine comp_wp (fun rest acc r' => r' = r ∧ ∃ pre, ds = pre ++ rest ∧ acc = acc0 ++ pre.map f) ?_ ?_ ⟨rfl, [], rfl, by simp⟩
  · rintro d rest acc r' ⟨rfl, pre, rfl, rfl⟩
    have h1 := hs d (by simp)
    cases eg : g d r' with
    | none => rw [eg] at h1; exact h1.elim
    | some r1 =>
      rw [eg] at h1
      simp only [gW_some, stW_eq, tTrue_eq, wp_ok, cmpW_t] at h1 ⊢
      refine Out.wp_mono h1 (fun a r3 h2 => ?_) fun _ _ h => h
      rw [elW_eq] at h2 ⊢
      revert h2
      cases fz a r3 with
      | none => intro h; exact h
      | some q =>
        rcases q with ⟨y, r4⟩
        rintro ⟨rfl, h3⟩
        refine ⟨?_, hold ⟨h3, pre ++ [d], by simp, by simp⟩⟩
        simp only [List.length_append, List.length_cons, List.length_map] at hl ⊢
        omega
  · rintro acc r' ⟨rfl, pre, rfl, rfl⟩
    simpa using h
/-- .. of those with b -/
theorem compF_wp {own : List Nat} {g : SG} {t : ST} {e : SE} {p : Pg} {Q : List D → Env → Prop} {f : D → D} {b : D → Bool} {ds acc0 : List D} {r : Env} (hl : acc0.length + ds.length ≤ sizeLine) (hs : ∀ d ∈ ds, gW (g d r) (stW t p (fun k r2 => k = b d ∧ (b d = false → wipeE own r2 = r) ∧ (b d = true → (e p r2).wp (elW fun y r4 => y = f d ∧ wipeE own r4 = r) noX)) noX)) (h : Q (acc0 ++ (ds.filter b).map f) r) : (compL own g t e p ds acc0 r).wp Q noX := by
  refine comp_wp (fun rest acc r' => r' = r ∧ ∃ pre, ds = pre ++ rest ∧ acc = acc0 ++ (pre.filter b).map f) ?_ ?_ ⟨rfl, [], rfl, by simp⟩
  · rintro d rest acc r' ⟨rfl, pre, rfl, rfl⟩
    have h1 := hs d (by simp)
    cases eg : g d r' with
    | none => rw [eg] at h1; exact h1.elim
    | some r1 =>
      rw [eg] at h1
      simp only [gW_some, stW_eq] at h1 ⊢
      refine Out.wp_mono h1 (fun k r2 h2 => ?_) fun _ _ h => h
      obtain ⟨rfl, h3, h4⟩ := h2
      cases eb : b d with
      | false => exact hold ⟨h3 eb, pre ++ [d], by simp, by simp [eb]⟩
      | true =>
        rw [cmpW_t]
        refine Out.wp_mono (h4 eb) (fun a r3 h5 => ?_) fun _ _ h => h
        rw [elW_eq] at h5 ⊢
        revert h5
        cases fz a r3 with
        | none => intro h; exact h
        | some q =>
          rcases q with ⟨y, r4⟩
          rintro ⟨rfl, h3⟩
          refine ⟨?_, hold ⟨h3, pre ++ [d], by simp, by simp [eb]⟩⟩
          have := List.length_filter_le b pre
          simp only [List.length_append, List.length_cons, List.length_map] at hl ⊢
          omega
  · rintro acc r' ⟨rfl, pre, rfl, rfl⟩
    simpa using h
/-! two clauses -/
@[simp ↓] theorem cmpW_eq (own : List Nat) (e : SE) (p : Pg) (acc : List D) (I : List D → Env → Prop) (k : Bool) (r2 : Env) : cmpW own e p acc I k r2 = if k = true then (e p r2).wp (elW (snW own acc I)) noX else I acc (wipeE own r2) := by
  cases k <;> first | rfl | exact propext ⟨fun h => h.go, fun h => ⟨h⟩⟩
def cmp2B (own own1 : List Nat) (g1 : SG) (t1 : ST) (e : SE) (p : Pg) (acc : List D) (I : List D → Env → Prop) : List D → Env → Prop := fun xs r3 => (compL own1 g1 t1 e p xs acc (wipeE own1 r3)).wp (fun acc2 r4 => I acc2 (wipeE own r4)) noX
@[simp ↓] theorem cmp2B_eq (own own1 : List Nat) (g1 : SG) (t1 : ST) (e : SE) (p : Pg) (acc : List D) (I : List D → Env → Prop) (xs : List D) (r3 : Env) : cmp2B own own1 g1 t1 e p acc I xs r3 = (compL own1 g1 t1 e p xs acc (wipeE own1 r3)).wp (fun acc2 r4 => I acc2 (wipeE own r4)) noX := rfl
def cmp2W (own own1 : List Nat) (it1 : SI) (g1 : SG) (t1 : ST) (e : SE) (p : Pg) (acc : List D) (I : List D → Env → Prop) : Bool → Env → Prop
  | true, r2 => (it1 p r2).wp (cmp2B own own1 g1 t1 e p acc I) noX
  | false, r2 => I acc (wipeE own r2)
@[simp ↓] theorem cmp2W_t (own own1 : List Nat) (it1 : SI) (g1 : SG) (t1 : ST) (e : SE) (p : Pg) (acc : List D) (I : List D → Env → Prop) (r2 : Env) : cmp2W own own1 it1 g1 t1 e p acc I true r2 = (it1 p r2).wp (cmp2B own own1 g1 t1 e p acc I) noX := rfl
@[simp ↓] theorem cmp2W_f (own own1 : List Nat) (it1 : SI) (g1 : SG) (t1 : ST) (e : SE) (p : Pg) (acc : List D) (I : List D → Env → Prop) (r2 : Env) : cmp2W own own1 it1 g1 t1 e p acc I false r2 = I acc (wipeE own r2) := rfl
@[simp ↓] theorem cmp2W_eq (own own1 : List Nat) (it1 : SI) (g1 : SG) (t1 : ST) (e : SE) (p : Pg) (acc : List D) (I : List D → Env → Prop) (k : Bool) (r2 : Env) : cmp2W own own1 it1 g1 t1 e p acc I k r2 = if k = true then (it1 p r2).wp (cmp2B own own1 g1 t1 e p acc I) noX else I acc (wipeE own r2) := by
  cases k <;> first | rfl | exact propext ⟨fun h => h.go, fun h => ⟨h⟩⟩
theorem comp2_wp {own own1 : List Nat} {g : SG} {t : ST} {it1 : SI} {g1 : SG} {t1 : ST} {e : SE} {p : Pg} {Q : List D → Env → Prop} (I : List D → List D → Env → Prop) (hs : ∀ d ds acc r, I (d :: ds) acc r → gW (g d r) (stW t p (cmp2W own own1 it1 g1 t1 e p acc (fun acc r => Hold (I ds acc r))) noX)) (he : ∀ acc r, I [] acc r → Q acc r) :
    ∀ {ds acc : List D} {r : Env}, I ds acc r → (compL2 own own1 g t it1 g1 t1 e p ds acc r).wp Q noX
  | [], acc, r, h => ⟨he acc r h⟩
  | d :: ds, acc, r, h => by
    have h1 := hs d ds acc r h
    unfold compL2
    cases eg : g d r with
    | none => rw [eg] at h1; exact h1.elim
    | some r1 =>
      rw [eg] at h1
      dsimp only
      simp only [gW_some, stW_eq] at h1
      revert h1
      cases t p r1 with
      | bad => intro h; exact h.go.elim
      | exn x r2 => intro h; exact h.go.elim
      | ok b r2 =>
        intro h1
        cases b with
        | false => exact comp2_wp I hs he h1.go.go
        | true =>
          simp only [wp_ok, cmp2W_t] at h1
          dsimp only
          revert h1
          cases it1 p r2 with
          | bad => intro h; exact h.go.elim
          | exn x r2 => intro h; exact h.go.elim
          | ok xs r3 =>
            intro h1
            simp only [wp_ok, cmp2B_eq] at h1
            dsimp only
            revert h1
            cases compL own1 g1 t1 e p xs acc (wipeE own1 r3) with
            | bad => intro h; exact h.go.elim
            | exn x r2 => intro h; exact h.go.elim
            | ok acc2 r4 =>
              intro h1
              exact comp2_wp I hs he h1.go.go
theorem sz1000 {n : Nat} (h : n ≤ 1000) : n ≤ sizeLine := Nat.le_trans h (show 1000 ≤ 16777216 by decide)
/-! written texts apart -/
theorem ne_lit {a b : Str} (h : decide (a = b) = false) : (a = b) = False := eq_false (of_decide_eq_false h)
@[simp] theorem lit_inj (a b : String) : (Str.ofString a = Str.ofString b) = (a = b) := by
  refine propext ⟨fun h => ?_, fun h => by rw [h]⟩
  rw [Str.ofString_eq_toList, Str.ofString_eq_toList] at h
  have h1 : (a.toList.map Char.toNat) = (b.toList.map Char.toNat) := by
    have := congrArg (fun s : Str => s.cps.toList) h
    simpa using this
  have h2 : a.toList = b.toList := by
    refine List.map_inj_right (f := Char.toNat) ?_ |>.mp h1
    intro x y e
    exact Char.toNat_inj.mp e
  exact String.toList_inj.mp h2
@[simp] theorem at0' (x : D) (xs : List D) : atI (x :: xs) 0 = some x := at0 x xs
@[simp] theorem at1' (x y : D) (xs : List D) : atI (x :: y :: xs) 1 = some y := at1 x y xs
@[simp] theorem at2' (x y z : D) (xs : List D) : atI (x :: y :: z :: xs) 2 = some z := at2 x y z xs
@[simp] theorem at3' (x y z u : D) (xs : List D) : atI (x :: y :: z :: u :: xs) 3 = some u := at3 x y z u xs
@[simp] theorem szS' {n : Nat} (h : n ≤ 1000) : szOk n = true := szS h
@[simp] theorem at4 (a b c d e : D) (xs : List D) : atI (a :: b :: c :: d :: e :: xs) 4 = some e := atN (j := 4) rfl
@[simp] theorem at5 (a b c d e f : D) (xs : List D) : atI (a :: b :: c :: d :: e :: f :: xs) 5 = some f := atN (j := 5) rfl
@[simp] theorem at6 (a b c d e f g : D) (xs : List D) : atI (a :: b :: c :: d :: e :: f :: g :: xs) 6 = some g := atN (j := 6) rfl
@[simp] theorem isi_str (s : Str) : isiD ["str"] (.str s) = some (.val (.bl true)) := rfl
@[simp] theorem isi_tup1 (xs : List D) : isiD ["tuple"] (.tup xs) = some (.val (.bl true)) := rfl
@[simp] theorem not_bl (b : Bool) : notB (.bl b) = some (.val (.bl (!b))) := rfl
/-! == of plain data -/
mutual
def D.eqv : D → D → Bool
  | .non, .non => true
  | .bl a, .bl b => a == b
  | .bl a, .int j => (if a then 1 else 0) == j
  | .int i, .bl b => i == (if b then 1 else 0)
  | .int i, .int j => i == j
  | .str x, .str y => x == y
  | .lst xs, .lst ys => D.eqvs xs ys
  | .tup xs, .tup ys => D.eqvs xs ys
  | _, _ => false
def D.eqvs : List D → List D → Bool
  | [], [] => true
  | x :: xs, y :: ys => D.eqv x y && D.eqvs xs ys
  | _, _ => false
end
theorem D.py_tup {xs : List D} {x : PyData} (h : D.py (.tup xs) = some x) : ∃ ys, D.pys xs = some ys ∧ x = .tuple ys := by
  unfold D.py at h
  cases e : D.pys xs with
  | none => rw [e] at h; cases h
  | some ys => rw [e] at h; cases h; exact ⟨ys, rfl, rfl⟩
theorem D.py_lst {xs : List D} {x : PyData} (h : D.py (.lst xs) = some x) : ∃ ys, D.pys xs = some ys ∧ x = .list ys := by
  unfold D.py at h
  cases e : D.pys xs with
  | none => rw [e] at h; cases h
  | some ys => rw [e] at h; cases h; exact ⟨ys, rfl, rfl⟩
mutual
theorem eqv_py : ∀ (a b : D) {x y : PyData}, D.py a = some x → D.py b = some y → D.eqv a b = PyData.eqv x y
  | a, b, x, y, ha, hb => by
    cases a with
    | tup xs =>
      obtain ⟨us, e1, rfl⟩ := D.py_tup ha
      cases b with
      | tup ys =>
        obtain ⟨ws, e2, rfl⟩ := D.py_tup hb
        show D.eqvs xs ys = PyData.eqvAll us ws
        exact eqvs_py xs ys e1 e2
      | lst ys => obtain ⟨ws, e2, rfl⟩ := D.py_lst hb; rfl
      | _ => cases hb <;> rfl
    | lst xs =>
      obtain ⟨us, e1, rfl⟩ := D.py_lst ha
      cases b with
      | lst ys =>
        obtain ⟨ws, e2, rfl⟩ := D.py_lst hb
        show D.eqvs xs ys = PyData.eqvAll us ws
        exact eqvs_py xs ys e1 e2
      | tup ys => obtain ⟨ws, e2, rfl⟩ := D.py_tup hb; rfl
      | _ => cases hb <;> rfl
    | non =>
      cases ha
      cases b with
      | lst ys => obtain ⟨ws, e2, rfl⟩ := D.py_lst hb; rfl
      | tup ys => obtain ⟨ws, e2, rfl⟩ := D.py_tup hb; rfl
      | _ => cases hb <;> rfl
    | bl k =>
      cases ha
      cases b with
      | lst ys => obtain ⟨ws, e2, rfl⟩ := D.py_lst hb; rfl
      | tup ys => obtain ⟨ws, e2, rfl⟩ := D.py_tup hb; rfl
      | _ => cases hb <;> rfl
    | int k =>
      cases ha
      cases b with
      | lst ys => obtain ⟨ws, e2, rfl⟩ := D.py_lst hb; rfl
      | tup ys => obtain ⟨ws, e2, rfl⟩ := D.py_tup hb; rfl
      | _ => cases hb <;> rfl
    | str k =>
      cases ha
      cases b with
      | lst ys => obtain ⟨ws, e2, rfl⟩ := D.py_lst hb; rfl
      | tup ys => obtain ⟨ws, e2, rfl⟩ := D.py_tup hb; rfl
      | _ => cases hb <;> rfl
    | _ => cases ha
theorem eqvs_py : ∀ (as bs : List D) {xs ys : List PyData}, D.pys as = some xs → D.pys bs = some ys → D.eqvs as bs = PyData.eqvAll xs ys
  | [], [], _, _, ha, hb => by cases ha; cases hb; rfl
  | [], b :: bs, _, _, ha, hb => by
    cases ha
    unfold D.pys at hb
    split at hb
    · cases hb; rfl
    · cases hb
  | a :: as, [], _, _, ha, hb => by
    cases hb
    unfold D.pys at ha
    split at ha
    · cases ha; rfl
    · cases ha
  | a :: as, b :: bs, _, _, ha, hb => by
    unfold D.pys at ha hb
    split at ha
    · rename_i x xs e1 e2
      cases ha
      split at hb
      · rename_i y ys e3 e4
        cases hb
        show (D.eqv a b && D.eqvs as bs) = (PyData.eqv x y && PyData.eqvAll xs ys)
        rw [eqv_py a b e1 e3, eqvs_py as bs e2 e4]
      · cases hb
    · cases ha
end
theorem Shp.shaped {n : Nat} {d : D} (h : Shp n d) (hn : n ≤ 64) : ∃ x, D.py d = some x ∧ SeqAt.shaped x = true := by
  obtain ⟨x, e1, e2, e3⟩ := h
  refine ⟨x, e1, ?_⟩
  unfold SeqAt.shaped
  rw [e2, decide_eq_true (by omega)]
  rfl
theorem Shp.eqw {n m : Nat} {a b : D} (h : Shp n a) (h' : Shp m b) (hn : n ≤ 64 := by omega) (hm : m ≤ 64 := by omega) : eqWhole a b = some (D.eqv a b) := by
  obtain ⟨x, e1, e2⟩ := h.shaped hn
  obtain ⟨y, e3, e4⟩ := h'.shaped hm
  unfold eqWhole
  rw [e1, e3]
  dsimp only
  rw [e2, e4, eqv_py a b e1 e3]
  rfl
theorem Shp.teq {n m : Nat} {xs : List D} {b : D} (h : Shp n (.tup xs)) (h' : Shp m b) (hn : n ≤ 64 := by omega) (hm : m ≤ 64 := by omega) : cmpD .eq (.tup xs) b = some (.val (.bl (D.eqv (.tup xs) b))) := by
  show (eqWhole (.tup xs) b).map blV = _
  rw [h.eqw h' hn hm]
  rfl
theorem Shp.tne {n m : Nat} {xs : List D} {b : D} (h : Shp n (.tup xs)) (h' : Shp m b) (hn : n ≤ 64 := by omega) (hm : m ≤ 64 := by omega) : cmpD .ne (.tup xs) b = some (.val (.bl (!D.eqv (.tup xs) b))) := by
  show ((eqWhole (.tup xs) b).map not).map blV = _
  rw [h.eqw h' hn hm]
  rfl
theorem Shp.leq {n m : Nat} {xs : List D} {b : D} (h : Shp n (.lst xs)) (h' : Shp m b) (hn : n ≤ 64 := by omega) (hm : m ≤ 64 := by omega) : cmpD .eq (.lst xs) b = some (.val (.bl (D.eqv (.lst xs) b))) := by
  show (eqWhole (.lst xs) b).map blV = _
  rw [h.eqw h' hn hm]
  rfl
theorem Shp.lne {n m : Nat} {xs : List D} {b : D} (h : Shp n (.lst xs)) (h' : Shp m b) (hn : n ≤ 64 := by omega) (hm : m ≤ 64 := by omega) : cmpD .ne (.lst xs) b = some (.val (.bl (!D.eqv (.lst xs) b))) := by
  show ((eqWhole (.lst xs) b).map not).map blV = _
  rw [h.eqw h' hn hm]
  rfl
@[simp] theorem eqv_tup (xs ys : List D) : D.eqv (.tup xs) (.tup ys) = D.eqvs xs ys := rfl
@[simp] theorem eqv_lst (xs ys : List D) : D.eqv (.lst xs) (.lst ys) = D.eqvs xs ys := rfl
@[simp] theorem eqv_str (x y : Str) : D.eqv (.str x) (.str y) = decide (x = y) := by
  show (x == y) = _
  by_cases h : x = y <;> simp [h]
@[simp] theorem eqv_int (x y : Int) : D.eqv (.int x) (.int y) = decide (x = y) := by
  show (x == y) = _
  by_cases h : x = y <;> simp [h]
@[simp] theorem eqvs_nil : D.eqvs [] [] = true := rfl
@[simp] theorem eqvs_cons (x y : D) (xs ys : List D) : D.eqvs (x :: xs) (y :: ys) = (D.eqv x y && D.eqvs xs ys) := rfl
@[simp] theorem eqvs_nc (y : D) (ys : List D) : D.eqvs [] (y :: ys) = false := rfl
@[simp] theorem eqvs_cn (x : D) (xs : List D) : D.eqvs (x :: xs) [] = false := rfl
/-! in: texts -/
theorem beq_dec (a b : Str) : (a == b) = decide (b = a) := by
  by_cases h : b = a
  · subst h; simp
  · have : ¬ a = b := fun e => h e.symm
    simp [h, this]
theorem memD_strs (w : Str) (ws : List Str) : memD (.str w) (strsD ws) = some (decide (w ∈ ws)) := by
  unfold memD
  rw [strs_flat]
  show some ((strsD ws).any fun y => eqF y (.str w)) = _
  congr 1
  induction ws with
  | nil => rfl
  | cons z zs ih =>
    show ((z == w) || (strsD zs).any fun y => eqF y (.str w)) = _
    rw [ih, beq_dec]
    simp
theorem mem_strsL (w : Str) (ws : List Str) : cmpD .mem (.str w) (.lst (strsD ws)) = some (.val (.bl (decide (w ∈ ws)))) := by
  show (memD (.str w) (strsD ws)).map blV = _
  rw [memD_strs]; rfl
theorem mem_strsT (w : Str) (ws : List Str) : cmpD .mem (.str w) (.tup (strsD ws)) = some (.val (.bl (decide (w ∈ ws)))) := by
  show (memD (.str w) (strsD ws)).map blV = _
  rw [memD_strs]; rfl
theorem nmem_strsL (w : Str) (ws : List Str) : cmpD .notmem (.str w) (.lst (strsD ws)) = some (.val (.bl (!decide (w ∈ ws)))) := by
  show ((memD (.str w) (strsD ws)).map not).map blV = _
  rw [memD_strs]; rfl
theorem nmem_strsT (w : Str) (ws : List Str) : cmpD .notmem (.str w) (.tup (strsD ws)) = some (.val (.bl (!decide (w ∈ ws)))) := by
  show ((memD (.str w) (strsD ws)).map not).map blV = _
  rw [memD_strs]; rfl
/-- True in, False in a list of bools -/
theorem memD_bls (b : Bool) (bs : List Bool) : memD (.bl b) (bs.map .bl) = some (decide (b ∈ bs)) := by
  unfold memD
  have hf : (bs.map D.bl).all D.flat = true := by
    rw [List.all_eq_true]
    intro x hx
    obtain ⟨n, _, rfl⟩ := List.mem_map.mp hx
    rfl
  rw [hf]
  show some ((bs.map D.bl).any fun y => eqF y (.bl b)) = _
  congr 1
  induction bs with
  | nil => rfl
  | cons z zs ih =>
    show ((z == b) || (zs.map D.bl).any fun y => eqF y (.bl b)) = _
    rw [ih (by rw [List.all_eq_true]; intro x hx; obtain ⟨n, _, rfl⟩ := List.mem_map.mp hx; rfl)]
    cases z <;> cases b <;> simp
theorem mem_bls (b : Bool) (bs : List Bool) : cmpD .mem (.bl b) (.lst (bs.map .bl)) = some (.val (.bl (decide (b ∈ bs)))) := by
  show (memD (.bl b) (bs.map .bl)).map blV = _
  rw [memD_bls]; rfl
theorem in_one (c : Nat) (x : Str) : inS ⟨#[c]⟩ x = decide (c ∈ x.cps.toList) := StrLaws.found_one x c
theorem abc_all : ∀ k < 26, decide (97 + k ∈ (Str.ofString "abcdefghijklmnopqrstuvwxyz").cps.toList) = true := by decide +kernel
theorem ltr_in {c : Nat} (h : 97 ≤ c ∧ c ≤ 122) : inS ⟨#[c]⟩ "abcdefghijklmnopqrstuvwxyz" = true := by
  rw [in_one]
  have := abc_all (c - 97) (by omega)
  rwa [show 97 + (c - 97) = c by omega] at this
theorem lit_lt (s : String) (h : (Str.ofString s).cps.toList.all (fun c => decide (c < 1114112)) = true) : ∀ c ∈ (Str.ofString s).cps.toList, c < 1114112 := fun c hc => of_decide_eq_true (List.all_eq_true.mp h c hc)
theorem Shp.mono {n m : Nat} {d : D} (h : Shp n d) (hn : n ≤ m) : Shp m d := by
  obtain ⟨x, h1, h2, h3⟩ := h
  exact ⟨x, h1, h2, by omega⟩
/-! the shared helpers, by wishes -/
def BagL (xs : List D) : Prop := BagOk (.ls xs)
def PullW (F : List C → FOut) : Prop := ∀ (xs : List D) (m : Int) (Q : C → Env → Prop) (X : XP), BagL xs → 0 < m → m < 1073741824 → (∀ (k : Int) (ys : List D), 0 ≤ k → k < m → BagL ys → Q (.val (.int k)) [some (.ls ys), some (.val (.int m))]) → (F [.ls xs, .val (.int m)]).wp Q X
theorem PullS.w {F : List C → FOut} (h : PullS F) : PullW F := by
  intro xs m Q X hb h0 h1 hq
  obtain ⟨k, b', e, h2, h3, h4⟩ := h _ m hb h0 h1
  obtain ⟨ys, rfl⟩ := h4.ls
  rw [e]
  exact ⟨hq k ys h2 h3 h4⟩
def NameW (F : List C → FOut) : Prop := ∀ (xs : List D) (Q : C → Env → Prop) (X : XP), BagL xs → (∀ (s : Str) (ys : List D), 1 ≤ s.length → s.length ≤ 8 → LetterStr s → BagL ys → Q (.val (.str s)) [some (.ls ys)]) → (F [.ls xs]).wp Q X
theorem NameS.w {F : List C → FOut} (h : NameS F) : NameW F := by
  intro xs Q X hb hq
  obtain ⟨s, b', e, h1, h2, h3, h4⟩ := h _ hb
  obtain ⟨ys, rfl⟩ := h4.ls
  rw [e]
  exact ⟨hq s ys h1 h2 h3 h4⟩
theorem SameS.w {n : Nat} {F : List C → FOut} (h : SameS n F) {c c' : C} {Q : C → Env → Prop} {X : XP} (e : c'.frz = c.frz) (hp : Pl n c.frz) (hq : Q (.val (.bl true)) [some c, some c']) : (F [c, c']).wp Q X := by
  rw [h c c' _ rfl e hp]
  exact ⟨hq⟩
theorem OneS.w {F : List C → FOut} (h : OneS F) {xs ys : List D} {c : C} {Q : C → Env → Prop} {X : XP} (hb : BagL xs) (hc : c.frz = .lst ys ∨ c.frz = .tup ys) (h0 : ys ≠ []) (hl : ys.length ≤ 1000) (hq : ∀ (x : D) (bs : List D), x ∈ ys → BagL bs → Q (.val x) [some (.ls bs), some c]) : (F [.ls xs, c]).wp Q X := by
  obtain ⟨x, b', e, h1, h2⟩ := h _ c ys hb hc h0 hl
  obtain ⟨bs, rfl⟩ := h2.ls
  rw [e]
  exact ⟨hq x bs h1 h2⟩
theorem NamesS.w {F : List C → FOut} (h : NamesS F) {xs : List D} {n : Int} {Q : C → Env → Prop} {X : XP} (hb : BagL xs) (h0 : 0 ≤ n) (h1 : n ≤ 100) (hq : ∀ (ss : List Str) (bs : List D), ss.length = n.toNat → (∀ s ∈ ss, NmOk s) → BagL bs → Q (.ls (strsD ss)) [some (.ls bs), some (.val (.int n))]) : (F [.ls xs, .val (.int n)]).wp Q X := by
  obtain ⟨ss, b', e, h2, h3, h4⟩ := h _ n hb h0 h1
  obtain ⟨bs, rfl⟩ := h4.ls
  rw [e]
  exact ⟨hq ss bs h2 h3 h4⟩
theorem BagS.w {F : List C → FOut} (h : BagS F) {ns : List Int} {Q : C → Env → Prop} {X : XP} (hq : ∀ bs, BagL bs → Q (.ls bs) [some (.val (.scr ns))]) : (F [.val (.scr ns)]).wp Q X := by
  obtain ⟨b, e, hb⟩ := h ns
  obtain ⟨bs, rfl⟩ := hb.ls
  rw [e]
  exact ⟨hq bs hb⟩
theorem FOut.ex_of {o : FOut} {c : C} (h : o.wp (fun a _ => a = c) noX) : ∃ ps, o = .ok c ps := by
  cases o with
  | ok a r => obtain rfl := h.go; exact ⟨r, rfl⟩
  | exn x r => exact h.go.elim
  | bad => exact h.go.elim
end Mi

set_option Elab.async false
set_option linter.all false
set_option maxRecDepth 100000
set_option maxHeartbeats 4000000
namespace Mi
open PySem L2
def fvs : List (Str × Nat) := [("is_measure", 1), ("is_width", 1), ("is_test", 1), ("is_bound", 1), ("is_side", 1)]
/-- the meaning of is_name: 0 text, 1 sign -/
def s_is_name : SS := (sCons (sRet (eAnd (eChain .le .le (eCst (.int 1)) (eBlt lenD (eCons (eVar 0) eNil)) (eGlob "LONG")) (eBlt allD (eCons (eCompV [1] 0 (gName 1) tTrue (eCmp .mem (eVar 1) (eGlob "LETTERS"))) eNil)))) sNil)
def d_is_name : Def := ⟨[true], 2, s_is_name⟩
/-- the meaning of is_leaf: 0 test -/
def s_is_leaf : SS := (sCons (sIf (tVal (eCmp .eq (eVar 0) (eTup (eCons (eCst (.str "any")) eNil)))) (sCons (sRet (eCst (.bl true))) sNil) sNil) (sCons (sRet (eAnd (eCmp .eq (eBlt lenD (eCons (eVar 0) eNil)) (eCst (.int 2))) (eAnd (eCmp .mem (eSub (eVar 0) (eCst (.int 0))) (eGlob "FIELDS")) (eAnd (eIsi ["str"] (eSub (eVar 0) (eCst (.int 1)))) (eCall "is_name" (eCons (eSub (eVar 0) (eCst (.int 1))) eNil)))))) sNil))
def d_is_leaf : Def := ⟨[true], 1, s_is_leaf⟩
/-- the meaning of inner_of: 0 test -/
def s_inner_of : SS := (sCons (sIf (tOr (tNot (tVal (eIsi ["tuple"] (eVar 0)))) (tOr (tVal (eCmp .eq (eBlt lenD (eCons (eVar 0) eNil)) (eCst (.int 0)))) (tNot (tVal (eIsi ["str"] (eSub (eVar 0) (eCst (.int 0)))))))) (sCons (sRet (eCst .non)) sNil) sNil) (sCons (sIf (tVal (eCall "is_leaf" (eCons (eVar 0) eNil))) (sCons (sRet (eLst eNil)) sNil) sNil) (sCons (sIf (tOr (tAnd (tVal (eCmp .eq (eSub (eVar 0) (eCst (.int 0))) (eCst (.str "not")))) (tVal (eCmp .eq (eBlt lenD (eCons (eVar 0) eNil)) (eCst (.int 2))))) (tAnd (tVal (eCmp .mem (eSub (eVar 0) (eCst (.int 0))) (eGlob "PAIRS"))) (tVal (eCmp .eq (eBlt lenD (eCons (eVar 0) eNil)) (eCst (.int 3)))))) (sCons (sRet (eBlt listD (eCons (eSlice (eVar 0) (oSome (eCst (.int 1))) oNone) eNil))) sNil) sNil) (sCons (sRet (eCst .non)) sNil))))
def d_inner_of : Def := ⟨[true], 1, s_inner_of⟩
/-- the meaning of sizes: 0 test, 1 line, 2 place, 3 inner, 4 one, 5 deep, 6 other -/
def s_sizes : SS := (sCons (sSet 1 (eLst (eCons (eTup (eCons (eVar 0) (eCons (eCst (.int 1)) eNil))) eNil))) (sCons (sSet 2 (eCst (.int 0))) (sCons (sWhile (tVal (eCmp .lt (eVar 2) (eBlt lenD (eCons (eVar 1) eNil)))) (sCons (sUnp (gTup (gCons (gName 4) (gCons (gName 5) gNil))) (eSub (eVar 1) (eVar 2))) (sCons (sAug .add 2 (eCst (.int 1))) (sCons (sSet 3 (eCall "inner_of" (eCons (eVar 4) eNil))) (sCons (sIf (tOr (tVal (eCmp .is (eVar 3) (eCst .non))) (tOr (tVal (eCmp .gt (eVar 5) (eGlob "DEEP"))) (tVal (eCmp .gt (eBlt lenD (eCons (eVar 1) eNil)) (eGlob "MOST_PARTS"))))) (sCons (sRet (eCst .non)) sNil) sNil) (sCons (sExpr (eChL .extend 1 (eCons (eCompV [6] 3 (gName 6) tTrue (eTup (eCons (eVar 6) (eCons (eBin .add (eVar 5) (eCst (.int 1))) eNil)))) eNil))) sNil)))))) (sCons (sRet (eTup (eCons (eBlt lenD (eCons (eVar 1) eNil)) (eCons (eBlt maxD (eCons (eCompV [4, 5] 1 (gTup (gCons (gName 4) (gCons (gName 5) gNil))) tTrue (eVar 5)) eNil)) eNil)))) sNil))))
def d_sizes : Def := ⟨[true], 7, s_sizes⟩
/-- the meaning of is_between: 0 thing, 1 low, 2 high -/
def s_is_between : SS := (sCons (sRet (eAnd (eIsi ["int"] (eVar 0)) (eAnd (eNot (eIsi ["bool"] (eVar 0))) (eChain .le .le (eVar 1) (eVar 0) (eVar 2))))) sNil)
def d_is_between : Def := ⟨[true, true, true], 3, s_is_between⟩
/-- the meaning of is_measure: 0 thing -/
def s_is_measure : SS := (sCons (sRet (eAnd (eIsi ["str"] (eVar 0)) (eCmp .mem (eVar 0) (eGlob "MEASURES")))) sNil)
def d_is_measure : Def := ⟨[true], 1, s_is_measure⟩
/-- the meaning of is_width: 0 thing -/
def s_is_width : SS := (sCons (sRet (eCall "is_between" (eCons (eVar 0) (eCons (eCst (.int 1)) (eCons (eGlob "MOST_WIDTH") eNil))))) sNil)
def d_is_width : Def := ⟨[true], 1, s_is_width⟩
/-- the meaning of is_test: 0 thing -/
def s_is_test : SS := (sCons (sRet (eCmp .isnot (eCall "sizes" (eCons (eVar 0) eNil)) (eCst .non))) sNil)
def d_is_test : Def := ⟨[true], 1, s_is_test⟩
/-- the meaning of is_bound: 0 thing -/
def s_is_bound : SS := (sCons (sRet (eCall "is_between" (eCons (eVar 0) (eCons (eCst (.int 0)) (eCons (eGlob "MOST_BOUND") eNil))))) sNil)
def d_is_bound : Def := ⟨[true], 1, s_is_bound⟩
/-- the meaning of is_side: 0 thing -/
def s_is_side : SS := (sCons (sRet (eAnd (eIsi ["str"] (eVar 0)) (eCmp .mem (eVar 0) (eTup (eCons (eCst (.str "over")) (eCons (eCst (.str "under")) eNil)))))) sNil)
def d_is_side : Def := ⟨[true], 1, s_is_side⟩
/-- the meaning of need_watch: 0 rule, 1 at, 2 look -/
def s_need_watch : SS := (sCons (sIf (tOr (tNot (tVal (eIsi ["tuple"] (eVar 0)))) (tVal (eCmp .ne (eBlt lenD (eCons (eVar 0) eNil)) (eBlt lenD (eCons (eGlob "LOOKS") eNil))))) (sCons (sRaise "BadRule" "rule" "at" (eCons (eCst (.int 0)) eNil)) sNil) sNil) (sCons (sFor (iEn 0 (eCons (eGlob "LOOKS") eNil)) (gTup (gCons (gName 1) (gCons (gName 2) gNil))) (sCons (sIf (tNot (tVal (eCallV fvs 2 1 (eCons (eSub (eVar 0) (eVar 1)) eNil)))) (sCons (sRaise "BadRule" "rule" "at" (eCons (eVar 1) eNil)) sNil) sNil) sNil)) (sCons (sRet (eVar 0)) sNil)))
def d_need_watch : Def := ⟨[true], 3, s_need_watch⟩
/-- the meaning of state_of: 0 rule, 1 least, 2 greatest, 3 bound, 4 rings, 5 quiet -/
def s_state_of : SS := (sCons (sSet 3 (eSub (eVar 0) (eCst (.int 3)))) (sCons (sIf (tVal (eCmp .eq (eSub (eVar 0) (eCst (.int 4))) (eCst (.str "over")))) (sCons (sPar 4 5 (eCons (eCmp .ge (eVar 1) (eVar 3)) (eCons (eCmp .lt (eVar 2) (eVar 3)) eNil))) sNil) (sCons (sPar 4 5 (eCons (eCmp .le (eVar 2) (eVar 3)) (eCons (eCmp .gt (eVar 1) (eVar 3)) eNil))) sNil)) (sCons (sIf (tVal (eVar 4)) (sCons (sRet (eCst (.str "rings"))) sNil) sNil) (sCons (sRet (eIf (tVal (eVar 5)) (eCst (.str "quiet")) (eCst (.str "may")))) sNil))))
def d_state_of : Def := ⟨[true, true, true], 6, s_state_of⟩
/-- the meaning of hushed: 0 stretches, 1 moment, 2 start, 3 end -/
def s_hushed : SS := (sCons (sRet (eBlt anyD (eCons (eCompV [2, 3] 0 (gTup (gCons (gName 2) (gCons (gName 3) gNil))) tTrue (eChain .le .lt (eVar 2) (eVar 1) (eVar 3))) eNil))) sNil)
def d_hushed : Def := ⟨[true, true], 4, s_hushed⟩
/-- the meaning of runs: 0 states, 1 found, 2 state -/
def s_runs : SS := (sCons (sSet 1 (eLst eNil)) (sCons (sForV 0 (gName 2) (sCons (sIf (tAnd (tVal (eCmp .gt (eBlt lenD (eCons (eVar 1) eNil)) (eCst (.int 0)))) (tVal (eCmp .eq (eSub (eSub (eVar 1) (eNeg (eCst (.int 1)))) (eCst (.int 0))) (eVar 2)))) (sCons (sSetIx 1 (eNeg (eCst (.int 1))) (eTup (eCons (eVar 2) (eCons (eBin .add (eSub (eSub (eVar 1) (eNeg (eCst (.int 1)))) (eCst (.int 1))) (eCst (.int 1))) eNil)))) sNil) (sCons (sExpr (eChL .append 1 (eCons (eTup (eCons (eVar 2) (eCons (eCst (.int 1)) eNil))) eNil))) sNil)) sNil)) (sCons (sRet (eVar 1)) sNil)))
def d_runs : Def := ⟨[true], 3, s_runs⟩
/-- the meaning of _law_stretch: 0 _law_bag_here, 1 _law_low -/
def s_law_stretch : SS := (sCons (sSet 1 (eBin .sub (eCall "_law_pull" (eCons (eVar 0) (eCons (eCst (.int 41)) eNil))) (eCst (.int 20)))) (sCons (sRet (eTup (eCons (eVar 1) (eCons (eBin .add (eVar 1) (eSub (eLst (eCons (eCst (.int 0)) (eCons (eCst (.int 1)) (eCons (eCall "_law_pull" (eCons (eVar 0) (eCons (eCst (.int 12)) eNil))) eNil)))) (eCall "_law_pull" (eCons (eVar 0) (eCons (eCst (.int 3)) eNil))))) eNil)))) sNil))
def d_law_stretch : Def := ⟨[true], 2, s_law_stretch⟩
/-- the meaning of _law_number_good: 0 _law_thing, 1 _law_top -/
def s_law_number_good : SS := (sCons (sRet (eAnd (eIsi ["int"] (eVar 0)) (eAnd (eNot (eIsi ["bool"] (eVar 0))) (eChain .le .le (eCst (.int 0)) (eVar 0) (eVar 1))))) sNil)
def d_law_number_good : Def := ⟨[true, true], 2, s_law_number_good⟩
/-- the meaning of _law_leaf: 0 _law_bag_here, 1 _law_house, 2 _law_way, 3 _law_machines, 4 _law_one_here -/
def s_law_leaf : SS := (sCons (sSet 2 (eCall "_law_pull" (eCons (eVar 0) (eCons (eCst (.int 7)) eNil)))) (sCons (sSet 3 (eComp [4] (iSeq (eSub (eVar 1) (eCst (.str "machines")))) (gName 4) tTrue (eSub (eVar 4) (eCst (.int 0))))) (sCons (sIf (tVal (eCmp .eq (eVar 2) (eCst (.int 0)))) (sCons (sRet (eTup (eCons (eCst (.str "any")) eNil))) sNil) sNil) (sCons (sIf (tVal (eCmp .lt (eVar 2) (eCst (.int 3)))) (sCons (sRet (eTup (eCons (eCst (.str "part")) (eCons (eCall "_law_one" (eCons (eVar 0) (eCons (eSub (eVar 1) (eCst (.str "names"))) eNil))) eNil)))) sNil) sNil) (sCons (sIf (tVal (eCmp .lt (eVar 2) (eCst (.int 5)))) (sCons (sRet (eTup (eCons (eCst (.str "kind")) (eCons (eSub (eCall "_law_one" (eCons (eVar 0) (eCons (eSub (eVar 1) (eCst (.str "kinds"))) eNil))) (eCst (.int 0))) eNil)))) sNil) sNil) (sCons (sRet (eTup (eCons (eCst (.str "machine")) (eCons (eCall "_law_one" (eCons (eVar 0) (eCons (eBin .add (eVar 3) (eSlice (eSub (eVar 1) (eCst (.str "names"))) oNone (oSome (eCst (.int 1))))) eNil))) eNil)))) sNil))))))
def d_law_leaf : Def := ⟨[true, true], 5, s_law_leaf⟩
/-- the meaning of _law_test_of: 0 _law_bag_here, 1 _law_house, 2 _law_deep, 3 _law_way, 4 _law_first -/
def s_law_test_of : SS := (sCons (sSet 3 (eCall "_law_pull" (eCons (eVar 0) (eCons (eCst (.int 6)) eNil)))) (sCons (sIf (tOr (tVal (eCmp .lt (eVar 2) (eCst (.int 2)))) (tVal (eCmp .lt (eVar 3) (eCst (.int 2))))) (sCons (sRet (eCall "_law_leaf" (eCons (eVar 0) (eCons (eVar 1) eNil)))) sNil) sNil) (sCons (sIf (tVal (eCmp .eq (eVar 3) (eCst (.int 2)))) (sCons (sRet (eTup (eCons (eCst (.str "not")) (eCons (eCall "_law_test_of" (eCons (eVar 0) (eCons (eVar 1) (eCons (eBin .sub (eVar 2) (eCst (.int 1))) eNil)))) eNil)))) sNil) sNil) (sCons (sSet 4 (eCall "_law_test_of" (eCons (eVar 0) (eCons (eVar 1) (eCons (eBin .sub (eVar 2) (eCst (.int 1))) eNil))))) (sCons (sRet (eTup (eCons (eSub (eLst (eCons (eCst (.str "and")) (eCons (eCst (.str "or")) eNil))) (eBin .mod (eVar 3) (eCst (.int 2)))) (eCons (eVar 4) (eCons (eCall "_law_test_of" (eCons (eVar 0) (eCons (eVar 1) (eCons (eBin .sub (eVar 2) (eCst (.int 1))) eNil)))) eNil))))) sNil)))))
def d_law_test_of : Def := ⟨[true, true, true], 5, s_law_test_of⟩
/-- the meaning of _law_house_small: 0 _law_bag_here, 1 _law_names_here -/
def s_law_house_small : SS := (sCons (sSet 1 (eCall "_law_names" (eCons (eVar 0) (eCons (eCst (.int 5)) eNil)))) (sCons (sRet (eDct ["names", "kinds", "machines"] (eCons (eVar 1) (eCons (eTup (eCons (eTup (eCons (eSub (eVar 1) (eCst (.int 0))) (eCons (eCst (.int 5)) (eCons (eCst (.bl false)) eNil)))) (eCons (eTup (eCons (eSub (eVar 1) (eCst (.int 1))) (eCons (eCst (.int 7)) (eCons (eCst (.bl true)) eNil)))) eNil))) (eCons (eLst (eCons (eTup (eCons (eSub (eVar 1) (eCst (.int 2))) (eCons (eCst (.int 0)) (eCons (eCst (.int 0)) (eCons (eCst (.int 0)) eNil))))) eNil)) eNil))))) sNil))
def d_law_house_small : Def := ⟨[true], 2, s_law_house_small⟩
/-- the meaning of _law_watch: 0 _law_bag_here, 1 _law_house, 2 _law_size, 3 _law_limit_here, 4 _law_side -/
def s_law_watch : SS := (sCons (sSet 2 (eSub (eLst (eCons (eCst (.int 1)) (eCons (eCst (.int 50)) (eCons (eBin .add (eCst (.int 1)) (eCall "_law_pull" (eCons (eVar 0) (eCons (eCst (.int 50)) eNil)))) eNil)))) (eCall "_law_pull" (eCons (eVar 0) (eCons (eCst (.int 3)) eNil))))) (sCons (sSet 3 (eSub (eLst (eCons (eCst (.int 0)) (eCons (eCst (.int 100000)) (eCons (eCall "_law_pull" (eCons (eVar 0) (eCons (eCst (.int 30)) eNil))) eNil)))) (eCall "_law_pull" (eCons (eVar 0) (eCons (eCst (.int 3)) eNil))))) (sCons (sSet 4 (eSub (eLst (eCons (eCst (.str "over")) (eCons (eCst (.str "under")) eNil))) (eCall "_law_pull" (eCons (eVar 0) (eCons (eCst (.int 2)) eNil))))) (sCons (sRet (eTup (eCons (eSub (eLst (eCons (eCst (.str "count")) (eCons (eCst (.str "sum")) eNil))) (eCall "_law_pull" (eCons (eVar 0) (eCons (eCst (.int 2)) eNil)))) (eCons (eVar 2) (eCons (eCall "_law_test_of" (eCons (eVar 0) (eCons (eVar 1) (eCons (eCst (.int 3)) eNil)))) (eCons (eVar 3) (eCons (eVar 4) eNil))))))) sNil))))
def d_law_watch : Def := ⟨[true, true], 5, s_law_watch⟩
/-- the meaning of _law_watch_wrong: 0 _law_told_rule -/
def s_law_watch_wrong : SS := (sCons (sIf (tOr (tNot (tVal (eIsi ["tuple"] (eVar 0)))) (tVal (eCmp .ne (eBlt lenD (eCons (eVar 0) eNil)) (eCst (.int 5))))) (sCons (sRet (eCst (.int 0))) sNil) sNil) (sCons (sIf (tVal (eCmp .notmem (eSub (eVar 0) (eCst (.int 0))) (eLst (eCons (eCst (.str "count")) (eCons (eCst (.str "sum")) eNil))))) (sCons (sRet (eCst (.int 0))) sNil) sNil) (sCons (sIf (tOr (tNot (tVal (eCall "_law_number_good" (eCons (eSub (eVar 0) (eCst (.int 1))) (eCons (eCst (.int 50)) eNil))))) (tVal (eCmp .eq (eSub (eVar 0) (eCst (.int 1))) (eCst (.int 0))))) (sCons (sRet (eCst (.int 1))) sNil) sNil) (sCons (sIf (tOr (tNot (tVal (eIsi ["tuple"] (eSub (eVar 0) (eCst (.int 2)))))) (tVal (eCmp .eq (eSub (eVar 0) (eCst (.int 2))) (eTup (eCons (eCst (.str "few")) eNil))))) (sCons (sRet (eCst (.int 2))) sNil) sNil) (sCons (sIf (tNot (tVal (eCall "_law_number_good" (eCons (eSub (eVar 0) (eCst (.int 3))) (eCons (eCst (.int 100000)) eNil))))) (sCons (sRet (eCst (.int 3))) sNil) sNil) (sCons (sRet (eIf (tVal (eCmp .mem (eSub (eVar 0) (eCst (.int 4))) (eLst (eCons (eCst (.str "over")) (eCons (eCst (.str "under")) eNil))))) (eNeg (eCst (.int 1))) (eCst (.int 4)))) sNil))))))
def d_law_watch_wrong : Def := ⟨[true], 1, s_law_watch_wrong⟩
/-- the meaning of _law_stretches_right: 0 _law_bag_here, 1 _law_some, 2 _law_stretches, 3 _law_spot, 4 _law_words, 5 _law_states, 6 _law_found, 7 _law_back, 8 _law_due, 9 _law_state, 10 _law_many, 11 _law_k, 12 _law_start, 13 _law_end, 14 _law_one_here -/
def s_law_stretches_right : SS := (sCons (sSet 1 (eComp [11] (iRng (eCons (eCall "_law_pull" (eCons (eVar 0) (eCons (eCst (.int 4)) eNil))) eNil)) (gName 11) tTrue (eCall "_law_stretch" (eCons (eVar 0) eNil)))) (sCons (sSet 2 (eCompV [12, 13] 1 (gTup (gCons (gName 12) (gCons (gName 13) gNil))) tTrue (eTup (eCons (eVar 12) (eCons (eBin .add (eVar 13) (eCst (.int 1))) eNil))))) (sCons (sFor (iRng (eCons (eNeg (eCst (.int 24))) (eCons (eCst (.int 36)) eNil))) (gName 3) (sCons (sSet 8 (eBlt anyD (eCons (eCompV [14] 2 (gName 14) tTrue (eAnd (eCmp .le (eSub (eVar 14) (eCst (.int 0))) (eVar 3)) (eCmp .lt (eVar 3) (eSub (eVar 14) (eCst (.int 1)))))) eNil))) (sCons (sIf (tNot (tVal (eCall "_law_same" (eCons (eCall "hushed" (eCons (eBlt listD (eCons (eVar 2) eNil)) (eCons (eVar 3) eNil))) (eCons (eVar 8) eNil))))) (sCons (sRet (eCst (.bl false))) sNil) sNil) sNil))) (sCons (sSet 4 (eSlice (eLst (eCons (eCst (.str "rings")) (eCons (eCst (.str "may")) (eCons (eCst (.str "quiet")) (eCons (eCst (.str "hushed")) eNil))))) oNone (oSome (eBin .add (eCst (.int 1)) (eCall "_law_pull" (eCons (eVar 0) (eCons (eCst (.int 4)) eNil))))))) (sCons (sSet 5 (eComp [11] (iRng (eCons (eCall "_law_pull" (eCons (eVar 0) (eCons (eCst (.int 20)) eNil))) eNil)) (gName 11) tTrue (eCall "_law_one" (eCons (eVar 0) (eCons (eVar 4) eNil))))) (sCons (sSet 6 (eCall "runs" (eCons (eBlt listD (eCons (eVar 5) eNil)) eNil))) (sCons (sIf (tNot (tVal (eBlt allD (eCons (eComp [11] (iRng (eCons (eBin .sub (eBlt lenD (eCons (eVar 6) eNil)) (eCst (.int 1))) eNil)) (gName 11) tTrue (eCmp .ne (eSub (eSub (eVar 6) (eVar 11)) (eCst (.int 0))) (eSub (eSub (eVar 6) (eBin .add (eVar 11) (eCst (.int 1)))) (eCst (.int 0))))) eNil)))) (sCons (sRet (eCst (.bl false))) sNil) sNil) (sCons (sSet 7 (eLst eNil)) (sCons (sForV 6 (gTup (gCons (gName 9) (gCons (gName 10) gNil))) (sCons (sSet 7 (eBin .add (eVar 7) (eBin .mul (eLst (eCons (eVar 9) eNil)) (eVar 10)))) sNil)) (sCons (sRet (eAnd (eCmp .eq (eVar 7) (eVar 5)) (eBlt allD (eCons (eCompV [9, 10] 6 (gTup (gCons (gName 9) (gCons (gName 10) gNil))) tTrue (eCmp .gt (eVar 10) (eCst (.int 0)))) eNil)))) sNil))))))))))
def d_law_stretches_right : Def := ⟨[true], 15, s_law_stretches_right⟩
/-- the meaning of law: 0 _law_script, 1 _law_bag_here, 2 _law_house, 3 _law_k, 4 _law_told_rule, 5 _law_at, 6 _law_wrong, 7 e, 8 _law_place, 9 _law_good, 10 _law_least, 11 _law_greatest, 12 _law_due, 13 _law_found, 14 _law_sure, 15 _law_never -/
def s_law : SS := (sCons (sSet 1 (eCall "_law_bag" (eCons (eVar 0) eNil))) (sCons (sSet 2 (eCall "_law_house_small" (eCons (eVar 1) eNil))) (sCons (sFor (iRng (eCons (eBin .add (eCst (.int 2)) (eBlt lenD (eCons (eSlice (eVar 0) oNone (oSome (eCst (.int 30)))) eNil))) eNil)) (gName 3) (sCons (sSet 4 (eCall "_law_watch" (eCons (eVar 1) (eCons (eVar 2) eNil)))) (sCons (sSet 5 (eCall "_law_pull" (eCons (eVar 1) (eCons (eCst (.int 5)) eNil)))) (sCons (sSet 6 (eSub (eLst (eCons (eLst (eCons (eCst (.str "")) (eCons (eCst (.str "few")) eNil))) (eCons (eLst (eCons (eCst (.int 0)) (eCons (eCst (.int 51)) (eCons (eNeg (eCst (.int 1))) (eCons (eCst (.bl true)) eNil))))) (eCons (eLst (eCons (eTup (eCons (eCst (.str "few")) eNil)) (eCons (eCst (.str "any")) (eCons (eCst (.int 3)) eNil)))) (eCons (eLst (eCons (eNeg (eCst (.int 1))) (eCons (eCst (.int 100001)) (eCons (eCst (.bl true)) eNil)))) (eCons (eLst (eCons (eCst (.str "above")) (eCons (eCst (.str "")) eNil))) eNil)))))) (eVar 5))) (sCons (sIf (tVal (eCmp .eq (eCall "_law_pull" (eCons (eVar 1) (eCons (eCst (.int 2)) eNil))) (eCst (.int 0)))) (sCons (sSet 4 (eBin .add (eBin .add (eSlice (eVar 4) oNone (oSome (eVar 5))) (eTup (eCons (eCall "_law_one" (eCons (eVar 1) (eCons (eVar 6) eNil))) eNil))) (eSlice (eVar 4) (oSome (eBin .add (eVar 5) (eCst (.int 1)))) oNone))) sNil) sNil) (sCons (sIf (tVal (eCmp .eq (eCall "_law_pull" (eCons (eVar 1) (eCons (eCst (.int 9)) eNil))) (eCst (.int 0)))) (sCons (sSet 4 (eSub (eLst (eCons (eSlice (eVar 4) oNone (oSome (eCst (.int 4)))) (eCons (eBin .add (eVar 4) (eTup (eCons (eCst (.int 1)) eNil))) (eCons (eBlt listD (eCons (eVar 4) eNil)) eNil)))) (eCall "_law_pull" (eCons (eVar 1) (eCons (eCst (.int 3)) eNil))))) sNil) sNil) (sCons (sTry (sCons (sSet 13 (eTup (eCons (eCst (.str "good")) (eCons (eCall "need_watch" (eCons (eVar 4) eNil)) eNil)))) sNil) "BadRule" 7 (some 13) [.cst (.str "bad"), .fld "at"]) (sCons (sSet 8 (eCall "_law_watch_wrong" (eCons (eVar 4) eNil))) (sCons (sIf (tNot (tVal (eCall "_law_same" (eCons (eVar 13) (eCons (eIf (tVal (eCmp .lt (eVar 8) (eCst (.int 0)))) (eTup (eCons (eCst (.str "good")) (eCons (eVar 4) eNil))) (eTup (eCons (eCst (.str "bad")) (eCons (eVar 8) eNil)))) eNil))))) (sCons (sRet (eCst (.bl false))) sNil) sNil) (sCons (sSet 9 (eCall "_law_watch" (eCons (eVar 1) (eCons (eVar 2) eNil)))) (sCons (sSet 10 (eBlt maxD (eCons (eCst (.int 0)) (eCons (eBin .sub (eBin .add (eSub (eVar 9) (eCst (.int 3))) (eCall "_law_pull" (eCons (eVar 1) (eCons (eCst (.int 5)) eNil)))) (eCst (.int 3))) eNil)))) (sCons (sSet 11 (eBin .add (eVar 10) (eCall "_law_pull" (eCons (eVar 1) (eCons (eCst (.int 4)) eNil))))) (sCons (sPar 14 15 (eCons (eCmp .ge (eVar 10) (eSub (eVar 9) (eCst (.int 3)))) (eCons (eCmp .lt (eVar 11) (eSub (eVar 9) (eCst (.int 3)))) eNil))) (sCons (sIf (tVal (eCmp .eq (eSub (eVar 9) (eCst (.int 4))) (eCst (.str "under")))) (sCons (sPar 14 15 (eCons (eCmp .le (eVar 11) (eSub (eVar 9) (eCst (.int 3)))) (eCons (eCmp .gt (eVar 10) (eSub (eVar 9) (eCst (.int 3)))) eNil))) sNil) sNil) (sCons (sSet 12 (eIf (tVal (eVar 14)) (eCst (.str "rings")) (eSub (eLst (eCons (eCst (.str "may")) (eCons (eCst (.str "quiet")) eNil))) (eBlt intD (eCons (eVar 15) eNil))))) (sCons (sIf (tNot (tVal (eCall "_law_same" (eCons (eCall "state_of" (eCons (eVar 9) (eCons (eVar 10) (eCons (eVar 11) eNil)))) (eCons (eVar 12) eNil))))) (sCons (sRet (eCst (.bl false))) sNil) sNil) sNil)))))))))))))))) (sCons (sRet (eCall "_law_stretches_right" (eCons (eVar 1) eNil))) sNil))))
def d_law : Def := ⟨[true], 16, s_law⟩

def top (i : Nat) : Stmt := PySem.Challenge.pw_traceloft_k44_rules_and_states.main.body.getD i (.Pass ⟨0, 0, 0, 0⟩)
def n_is_name : Ent := ⟨"is_name", top 6, ["text", "sign"], ["text"], d_is_name, true, []⟩
def n_is_leaf : Ent := ⟨"is_leaf", top 12, ["test"], ["test"], d_is_leaf, true, []⟩
def n_inner_of : Ent := ⟨"inner_of", top 13, ["test"], ["test"], d_inner_of, true, []⟩
def n_sizes : Ent := ⟨"sizes", top 14, ["test", "line", "place", "inner", "one", "deep", "other"], ["test"], d_sizes, true, []⟩
def n_is_between : Ent := ⟨"is_between", top 16, ["thing", "low", "high"], ["thing", "low", "high"], d_is_between, true, []⟩
def n_is_measure : Ent := ⟨"is_measure", top 21, ["thing"], ["thing"], d_is_measure, true, []⟩
def n_is_width : Ent := ⟨"is_width", top 22, ["thing"], ["thing"], d_is_width, true, []⟩
def n_is_test : Ent := ⟨"is_test", top 23, ["thing"], ["thing"], d_is_test, true, []⟩
def n_is_bound : Ent := ⟨"is_bound", top 24, ["thing"], ["thing"], d_is_bound, true, []⟩
def n_is_side : Ent := ⟨"is_side", top 25, ["thing"], ["thing"], d_is_side, true, []⟩
def n_need_watch : Ent := ⟨"need_watch", top 27, ["rule", "at", "look"], ["rule"], d_need_watch, true, []⟩
def n_state_of : Ent := ⟨"state_of", top 28, ["rule", "least", "greatest", "bound", "rings", "quiet"], ["rule", "least", "greatest"], d_state_of, true, []⟩
def n_hushed : Ent := ⟨"hushed", top 29, ["stretches", "moment", "start", "end"], ["stretches", "moment"], d_hushed, true, []⟩
def n_runs : Ent := ⟨"runs", top 30, ["states", "found", "state"], ["states"], d_runs, true, []⟩
def n_law_bag : Ent := ⟨"_law_bag", top 32, ["_law_script"], ["_law_script"], d_law_bag, true, []⟩
def n_law_pull : Ent := ⟨"_law_pull", top 33, ["_law_bag_here", "_law_many", "_law_cell", "_law_found"], ["_law_bag_here", "_law_many"], d_law_pull, true, []⟩
def n_law_one : Ent := ⟨"_law_one", top 34, ["_law_bag_here", "_law_row"], ["_law_bag_here", "_law_row"], d_law_one, true, []⟩
def n_law_letters : Ent := ⟨"_law_letters", top 35, ["_law_bag_here", "_law_size", "_law_k"], ["_law_bag_here", "_law_size"], d_law_letters, true, []⟩
def n_law_name : Ent := ⟨"_law_name", top 36, ["_law_bag_here"], ["_law_bag_here"], d_law_name, true, []⟩
def n_law_names : Ent := ⟨"_law_names", top 37, ["_law_bag_here", "_law_many", "_law_found", "_law_stem", "_law_k", "_law_name_here", "_law_sign"], ["_law_bag_here", "_law_many"], d_law_names, true, []⟩
def n_law_same : Ent := ⟨"_law_same", top 38, ["_law_one_here", "_law_other", "_law_k"], ["_law_one_here", "_law_other"], d_law_same, true, []⟩
def n_law_stretch : Ent := ⟨"_law_stretch", top 39, ["_law_bag_here", "_law_low"], ["_law_bag_here"], d_law_stretch, true, []⟩
def n_law_number_good : Ent := ⟨"_law_number_good", top 40, ["_law_thing", "_law_top"], ["_law_thing", "_law_top"], d_law_number_good, true, []⟩
def n_law_leaf : Ent := ⟨"_law_leaf", top 41, ["_law_bag_here", "_law_house", "_law_way", "_law_machines", "_law_one_here"], ["_law_bag_here", "_law_house"], d_law_leaf, true, []⟩
def n_law_test_of : Ent := ⟨"_law_test_of", top 42, ["_law_bag_here", "_law_house", "_law_deep", "_law_way", "_law_first"], ["_law_bag_here", "_law_house", "_law_deep"], d_law_test_of, true, []⟩
def n_law_house_small : Ent := ⟨"_law_house_small", top 43, ["_law_bag_here", "_law_names_here"], ["_law_bag_here"], d_law_house_small, true, []⟩
def n_law_watch : Ent := ⟨"_law_watch", top 44, ["_law_bag_here", "_law_house", "_law_size", "_law_limit_here", "_law_side"], ["_law_bag_here", "_law_house"], d_law_watch, true, []⟩
def n_law_watch_wrong : Ent := ⟨"_law_watch_wrong", top 45, ["_law_told_rule"], ["_law_told_rule"], d_law_watch_wrong, true, []⟩
def n_law_stretches_right : Ent := ⟨"_law_stretches_right", top 46, ["_law_bag_here", "_law_some", "_law_stretches", "_law_spot", "_law_words", "_law_states", "_law_found", "_law_back", "_law_due", "_law_state", "_law_many", "_law_k", "_law_start", "_law_end", "_law_one_here"], ["_law_bag_here"], d_law_stretches_right, true, []⟩
def n_law : Ent := ⟨"law", top 47, ["_law_script", "_law_bag_here", "_law_house", "_law_k", "_law_told_rule", "_law_at", "_law_wrong", "e", "_law_place", "_law_good", "_law_least", "_law_greatest", "_law_due", "_law_found", "_law_sure", "_law_never"], ["_law_script"], d_law, true, []⟩
def tab : List Ent := [n_is_name, n_is_leaf, n_inner_of, n_sizes, n_is_between, n_is_measure, n_is_width, n_is_test, n_is_bound, n_is_side, n_need_watch, n_state_of, n_hushed, n_runs, n_law_bag, n_law_pull, n_law_one, n_law_letters, n_law_name, n_law_names, n_law_same, n_law_stretch, n_law_number_good, n_law_leaf, n_law_test_of, n_law_house_small, n_law_watch, n_law_watch_wrong, n_law_stretches_right, n_law]
def blts : List Str := ["all", "any", "bool", "enumerate", "int", "isinstance", "len", "list", "max", "range", "str", "tuple"]
def blF (x : Str) : Bool := blts.any fun y => decide (y = x)
def glL : List (Str × D) := [("DEEP", .int 6), ("FIELDS", .tup [.str "kind", .str "part", .str "machine"]), ("LETTERS", .str "abcdefghijklmnopqrstuvwxyz"), ("LONG", .int 8), ("LOOKS", .tup [.fn "is_measure", .fn "is_width", .fn "is_test", .fn "is_bound", .fn "is_side"]), ("MEASURES", .tup [.str "count", .str "sum"]), ("MOST_BOUND", .int 100000), ("MOST_PARTS", .int 15), ("MOST_WIDTH", .int 50), ("PAIRS", .tup [.str "or", .str "and"])]
def glF (x : Str) : Option D := (glL.find? fun q => decide (q.1 = x)).map (·.2)
theorem gl_mem {x : Str} {d : D} (h : glF x = some d) : ∃ q ∈ glL, q.1 = x ∧ q.2 = d := by
  unfold glF at h
  cases e : glL.find? fun q => decide (q.1 = x) with
  | none => rw [e] at h; cases h
  | some q => rw [e] at h; cases h; exact ⟨q, List.mem_of_find?_eq_some e, by simpa using List.find?_some e, rfl⟩
def xcF (c : Str) : Option (Str × Str) := if c = "BadRule" then some ("rule", "at") else none
def xtF : Xt := ⟨xcF, fvs, [], [], []⟩
theorem r_is_name : trDef (dfOf tab) blF (dkOf tab) xtF n_is_name.N d_is_name.io n_is_name.st = some s_is_name := by rfl
theorem r_is_leaf : trDef (dfOf tab) blF (dkOf tab) xtF n_is_leaf.N d_is_leaf.io n_is_leaf.st = some s_is_leaf := by rfl
theorem r_inner_of : trDef (dfOf tab) blF (dkOf tab) xtF n_inner_of.N d_inner_of.io n_inner_of.st = some s_inner_of := by rfl
theorem r_sizes : trDef (dfOf tab) blF (dkOf tab) xtF n_sizes.N d_sizes.io n_sizes.st = some s_sizes := by rfl
theorem r_is_between : trDef (dfOf tab) blF (dkOf tab) xtF n_is_between.N d_is_between.io n_is_between.st = some s_is_between := by rfl
theorem r_is_measure : trDef (dfOf tab) blF (dkOf tab) xtF n_is_measure.N d_is_measure.io n_is_measure.st = some s_is_measure := by rfl
theorem r_is_width : trDef (dfOf tab) blF (dkOf tab) xtF n_is_width.N d_is_width.io n_is_width.st = some s_is_width := by rfl
theorem r_is_test : trDef (dfOf tab) blF (dkOf tab) xtF n_is_test.N d_is_test.io n_is_test.st = some s_is_test := by rfl
theorem r_is_bound : trDef (dfOf tab) blF (dkOf tab) xtF n_is_bound.N d_is_bound.io n_is_bound.st = some s_is_bound := by rfl
theorem r_is_side : trDef (dfOf tab) blF (dkOf tab) xtF n_is_side.N d_is_side.io n_is_side.st = some s_is_side := by rfl
theorem r_need_watch : trDef (dfOf tab) blF (dkOf tab) xtF n_need_watch.N d_need_watch.io n_need_watch.st = some s_need_watch := by rfl
theorem r_state_of : trDef (dfOf tab) blF (dkOf tab) xtF n_state_of.N d_state_of.io n_state_of.st = some s_state_of := by rfl
theorem r_hushed : trDef (dfOf tab) blF (dkOf tab) xtF n_hushed.N d_hushed.io n_hushed.st = some s_hushed := by rfl
theorem r_runs : trDef (dfOf tab) blF (dkOf tab) xtF n_runs.N d_runs.io n_runs.st = some s_runs := by rfl
theorem r_law_bag : trDef (dfOf tab) blF (dkOf tab) xtF n_law_bag.N d_law_bag.io n_law_bag.st = some s_law_bag := by rfl
theorem r_law_pull : trDef (dfOf tab) blF (dkOf tab) xtF n_law_pull.N d_law_pull.io n_law_pull.st = some s_law_pull := by rfl
theorem r_law_one : trDef (dfOf tab) blF (dkOf tab) xtF n_law_one.N d_law_one.io n_law_one.st = some s_law_one := by rfl
theorem r_law_letters : trDef (dfOf tab) blF (dkOf tab) xtF n_law_letters.N d_law_letters.io n_law_letters.st = some s_law_letters := by rfl
theorem r_law_name : trDef (dfOf tab) blF (dkOf tab) xtF n_law_name.N d_law_name.io n_law_name.st = some s_law_name := by rfl
theorem r_law_names : trDef (dfOf tab) blF (dkOf tab) xtF n_law_names.N d_law_names.io n_law_names.st = some s_law_names := by rfl
theorem r_law_same : trDef (dfOf tab) blF (dkOf tab) xtF n_law_same.N d_law_same.io n_law_same.st = some s_law_same := by rfl
theorem r_law_stretch : trDef (dfOf tab) blF (dkOf tab) xtF n_law_stretch.N d_law_stretch.io n_law_stretch.st = some s_law_stretch := by rfl
theorem r_law_number_good : trDef (dfOf tab) blF (dkOf tab) xtF n_law_number_good.N d_law_number_good.io n_law_number_good.st = some s_law_number_good := by rfl
theorem r_law_leaf : trDef (dfOf tab) blF (dkOf tab) xtF n_law_leaf.N d_law_leaf.io n_law_leaf.st = some s_law_leaf := by rfl
theorem r_law_test_of : trDef (dfOf tab) blF (dkOf tab) xtF n_law_test_of.N d_law_test_of.io n_law_test_of.st = some s_law_test_of := by rfl
theorem r_law_house_small : trDef (dfOf tab) blF (dkOf tab) xtF n_law_house_small.N d_law_house_small.io n_law_house_small.st = some s_law_house_small := by rfl
theorem r_law_watch : trDef (dfOf tab) blF (dkOf tab) xtF n_law_watch.N d_law_watch.io n_law_watch.st = some s_law_watch := by rfl
theorem r_law_watch_wrong : trDef (dfOf tab) blF (dkOf tab) xtF n_law_watch_wrong.N d_law_watch_wrong.io n_law_watch_wrong.st = some s_law_watch_wrong := by rfl
theorem r_law_stretches_right : trDef (dfOf tab) blF (dkOf tab) xtF n_law_stretches_right.N d_law_stretches_right.io n_law_stretches_right.st = some s_law_stretches_right := by rfl
theorem r_law : trDef (dfOf tab) blF (dkOf tab) xtF n_law.N d_law.io n_law.st = some s_law := by rfl
section
variable {w : World} {K : PySem.W.Frag} {h : Heap} {mg : Str → Option Value} {P : Program} {T : List (Addr × Str)}
theorem e_is_name (X : K.In h) (G : h.Ns mainGlobals mg) {f_is_name : Addr} {od_is_name an_is_name : Option Addr} {sl_is_name : Array (Option Value)} {oc_is_name kV_is_name dc_is_name pm_is_name cd_is_name ct_is_name : Value} (a_is_name : PySem.W.nsIn K mainGlobals "is_name" = some (some (.ref f_is_name))) (l_is_name : K.lookup f_is_name = some ⟨oc_is_name, od_is_name, .func (PySem.W.fnOf "is_name" "is_name" (defArgs (top 6)) (defBody (top 6)) (defScope (top 6)) .none kV_is_name dc_is_name pm_is_name an_is_name cd_is_name ct_is_name), sl_is_name⟩) (c_is_name : PySem.W.codeIn K cd_is_name "is_name" = true) (k_is_name : PySem.W.keepIn K (.ref f_is_name) = true)  : EntOk K ⟨mg, P, w, T⟩ (dfOf tab) blF (dkOf tab) xtF n_is_name := by
  exact ⟨⟨f_is_name, _, .none, kV_is_name, ⟨⟨oc_is_name, od_is_name, dc_is_name, pm_is_name, an_is_name, cd_is_name, ct_is_name, sl_is_name, rfl, l_is_name, c_is_name⟩, k_is_name⟩, PySem.W.mg_of X G a_is_name, fun _ => rfl, fun _ _ h => (nomatch h), fun _ _ _ _ h => (nomatch h)⟩, ⟨rfl, rfl, rfl, by decide +kernel, rfl, by decide +kernel, by decide +kernel⟩, r_is_name, rfl, rfl, fun _ _ _ _ _ _ _ us hl => match us, hl with | [_], _ => rfl⟩
theorem e_is_leaf (X : K.In h) (G : h.Ns mainGlobals mg) {f_is_leaf : Addr} {od_is_leaf an_is_leaf : Option Addr} {sl_is_leaf : Array (Option Value)} {oc_is_leaf kV_is_leaf dc_is_leaf pm_is_leaf cd_is_leaf ct_is_leaf : Value} (a_is_leaf : PySem.W.nsIn K mainGlobals "is_leaf" = some (some (.ref f_is_leaf))) (l_is_leaf : K.lookup f_is_leaf = some ⟨oc_is_leaf, od_is_leaf, .func (PySem.W.fnOf "is_leaf" "is_leaf" (defArgs (top 12)) (defBody (top 12)) (defScope (top 12)) .none kV_is_leaf dc_is_leaf pm_is_leaf an_is_leaf cd_is_leaf ct_is_leaf), sl_is_leaf⟩) (c_is_leaf : PySem.W.codeIn K cd_is_leaf "is_leaf" = true) (k_is_leaf : PySem.W.keepIn K (.ref f_is_leaf) = true)  : EntOk K ⟨mg, P, w, T⟩ (dfOf tab) blF (dkOf tab) xtF n_is_leaf := by
  exact ⟨⟨f_is_leaf, _, .none, kV_is_leaf, ⟨⟨oc_is_leaf, od_is_leaf, dc_is_leaf, pm_is_leaf, an_is_leaf, cd_is_leaf, ct_is_leaf, sl_is_leaf, rfl, l_is_leaf, c_is_leaf⟩, k_is_leaf⟩, PySem.W.mg_of X G a_is_leaf, fun _ => rfl, fun _ _ h => (nomatch h), fun _ _ _ _ h => (nomatch h)⟩, ⟨rfl, rfl, rfl, by decide +kernel, rfl, by decide +kernel, by decide +kernel⟩, r_is_leaf, rfl, rfl, fun _ _ _ _ _ _ _ us hl => match us, hl with | [_], _ => rfl⟩
theorem e_inner_of (X : K.In h) (G : h.Ns mainGlobals mg) {f_inner_of : Addr} {od_inner_of an_inner_of : Option Addr} {sl_inner_of : Array (Option Value)} {oc_inner_of kV_inner_of dc_inner_of pm_inner_of cd_inner_of ct_inner_of : Value} (a_inner_of : PySem.W.nsIn K mainGlobals "inner_of" = some (some (.ref f_inner_of))) (l_inner_of : K.lookup f_inner_of = some ⟨oc_inner_of, od_inner_of, .func (PySem.W.fnOf "inner_of" "inner_of" (defArgs (top 13)) (defBody (top 13)) (defScope (top 13)) .none kV_inner_of dc_inner_of pm_inner_of an_inner_of cd_inner_of ct_inner_of), sl_inner_of⟩) (c_inner_of : PySem.W.codeIn K cd_inner_of "inner_of" = true) (k_inner_of : PySem.W.keepIn K (.ref f_inner_of) = true)  : EntOk K ⟨mg, P, w, T⟩ (dfOf tab) blF (dkOf tab) xtF n_inner_of := by
  exact ⟨⟨f_inner_of, _, .none, kV_inner_of, ⟨⟨oc_inner_of, od_inner_of, dc_inner_of, pm_inner_of, an_inner_of, cd_inner_of, ct_inner_of, sl_inner_of, rfl, l_inner_of, c_inner_of⟩, k_inner_of⟩, PySem.W.mg_of X G a_inner_of, fun _ => rfl, fun _ _ h => (nomatch h), fun _ _ _ _ h => (nomatch h)⟩, ⟨rfl, rfl, rfl, by decide +kernel, rfl, by decide +kernel, by decide +kernel⟩, r_inner_of, rfl, rfl, fun _ _ _ _ _ _ _ us hl => match us, hl with | [_], _ => rfl⟩
theorem e_sizes (X : K.In h) (G : h.Ns mainGlobals mg) {f_sizes : Addr} {od_sizes an_sizes : Option Addr} {sl_sizes : Array (Option Value)} {oc_sizes kV_sizes dc_sizes pm_sizes cd_sizes ct_sizes : Value} (a_sizes : PySem.W.nsIn K mainGlobals "sizes" = some (some (.ref f_sizes))) (l_sizes : K.lookup f_sizes = some ⟨oc_sizes, od_sizes, .func (PySem.W.fnOf "sizes" "sizes" (defArgs (top 14)) (defBody (top 14)) (defScope (top 14)) .none kV_sizes dc_sizes pm_sizes an_sizes cd_sizes ct_sizes), sl_sizes⟩) (c_sizes : PySem.W.codeIn K cd_sizes "sizes" = true) (k_sizes : PySem.W.keepIn K (.ref f_sizes) = true)  : EntOk K ⟨mg, P, w, T⟩ (dfOf tab) blF (dkOf tab) xtF n_sizes := by
  exact ⟨⟨f_sizes, _, .none, kV_sizes, ⟨⟨oc_sizes, od_sizes, dc_sizes, pm_sizes, an_sizes, cd_sizes, ct_sizes, sl_sizes, rfl, l_sizes, c_sizes⟩, k_sizes⟩, PySem.W.mg_of X G a_sizes, fun _ => rfl, fun _ _ h => (nomatch h), fun _ _ _ _ h => (nomatch h)⟩, ⟨rfl, rfl, rfl, by decide +kernel, rfl, by decide +kernel, by decide +kernel⟩, r_sizes, rfl, rfl, fun _ _ _ _ _ _ _ us hl => match us, hl with | [_], _ => rfl⟩
theorem e_is_between (X : K.In h) (G : h.Ns mainGlobals mg) {f_is_between : Addr} {od_is_between an_is_between : Option Addr} {sl_is_between : Array (Option Value)} {oc_is_between kV_is_between dc_is_between pm_is_between cd_is_between ct_is_between : Value} (a_is_between : PySem.W.nsIn K mainGlobals "is_between" = some (some (.ref f_is_between))) (l_is_between : K.lookup f_is_between = some ⟨oc_is_between, od_is_between, .func (PySem.W.fnOf "is_between" "is_between" (defArgs (top 16)) (defBody (top 16)) (defScope (top 16)) .none kV_is_between dc_is_between pm_is_between an_is_between cd_is_between ct_is_between), sl_is_between⟩) (c_is_between : PySem.W.codeIn K cd_is_between "is_between" = true) (k_is_between : PySem.W.keepIn K (.ref f_is_between) = true)  : EntOk K ⟨mg, P, w, T⟩ (dfOf tab) blF (dkOf tab) xtF n_is_between := by
  exact ⟨⟨f_is_between, _, .none, kV_is_between, ⟨⟨oc_is_between, od_is_between, dc_is_between, pm_is_between, an_is_between, cd_is_between, ct_is_between, sl_is_between, rfl, l_is_between, c_is_between⟩, k_is_between⟩, PySem.W.mg_of X G a_is_between, fun _ => rfl, fun _ _ h => (nomatch h), fun _ _ _ _ h => (nomatch h)⟩, ⟨rfl, rfl, rfl, by decide +kernel, rfl, by decide +kernel, by decide +kernel⟩, r_is_between, rfl, rfl, fun _ _ _ _ _ _ _ us hl => match us, hl with | [_, _, _], _ => rfl⟩
theorem e_is_measure (X : K.In h) (G : h.Ns mainGlobals mg) {f_is_measure : Addr} {od_is_measure an_is_measure : Option Addr} {sl_is_measure : Array (Option Value)} {oc_is_measure kV_is_measure dc_is_measure pm_is_measure cd_is_measure ct_is_measure : Value} (a_is_measure : PySem.W.nsIn K mainGlobals "is_measure" = some (some (.ref f_is_measure))) (l_is_measure : K.lookup f_is_measure = some ⟨oc_is_measure, od_is_measure, .func (PySem.W.fnOf "is_measure" "is_measure" (defArgs (top 21)) (defBody (top 21)) (defScope (top 21)) .none kV_is_measure dc_is_measure pm_is_measure an_is_measure cd_is_measure ct_is_measure), sl_is_measure⟩) (c_is_measure : PySem.W.codeIn K cd_is_measure "is_measure" = true) (k_is_measure : PySem.W.keepIn K (.ref f_is_measure) = true)  : EntOk K ⟨mg, P, w, T⟩ (dfOf tab) blF (dkOf tab) xtF n_is_measure := by
  exact ⟨⟨f_is_measure, _, .none, kV_is_measure, ⟨⟨oc_is_measure, od_is_measure, dc_is_measure, pm_is_measure, an_is_measure, cd_is_measure, ct_is_measure, sl_is_measure, rfl, l_is_measure, c_is_measure⟩, k_is_measure⟩, PySem.W.mg_of X G a_is_measure, fun _ => rfl, fun _ _ h => (nomatch h), fun _ _ _ _ h => (nomatch h)⟩, ⟨rfl, rfl, rfl, by decide +kernel, rfl, by decide +kernel, by decide +kernel⟩, r_is_measure, rfl, rfl, fun _ _ _ _ _ _ _ us hl => match us, hl with | [_], _ => rfl⟩
theorem e_is_width (X : K.In h) (G : h.Ns mainGlobals mg) {f_is_width : Addr} {od_is_width an_is_width : Option Addr} {sl_is_width : Array (Option Value)} {oc_is_width kV_is_width dc_is_width pm_is_width cd_is_width ct_is_width : Value} (a_is_width : PySem.W.nsIn K mainGlobals "is_width" = some (some (.ref f_is_width))) (l_is_width : K.lookup f_is_width = some ⟨oc_is_width, od_is_width, .func (PySem.W.fnOf "is_width" "is_width" (defArgs (top 22)) (defBody (top 22)) (defScope (top 22)) .none kV_is_width dc_is_width pm_is_width an_is_width cd_is_width ct_is_width), sl_is_width⟩) (c_is_width : PySem.W.codeIn K cd_is_width "is_width" = true) (k_is_width : PySem.W.keepIn K (.ref f_is_width) = true)  : EntOk K ⟨mg, P, w, T⟩ (dfOf tab) blF (dkOf tab) xtF n_is_width := by
  exact ⟨⟨f_is_width, _, .none, kV_is_width, ⟨⟨oc_is_width, od_is_width, dc_is_width, pm_is_width, an_is_width, cd_is_width, ct_is_width, sl_is_width, rfl, l_is_width, c_is_width⟩, k_is_width⟩, PySem.W.mg_of X G a_is_width, fun _ => rfl, fun _ _ h => (nomatch h), fun _ _ _ _ h => (nomatch h)⟩, ⟨rfl, rfl, rfl, by decide +kernel, rfl, by decide +kernel, by decide +kernel⟩, r_is_width, rfl, rfl, fun _ _ _ _ _ _ _ us hl => match us, hl with | [_], _ => rfl⟩
theorem e_is_test (X : K.In h) (G : h.Ns mainGlobals mg) {f_is_test : Addr} {od_is_test an_is_test : Option Addr} {sl_is_test : Array (Option Value)} {oc_is_test kV_is_test dc_is_test pm_is_test cd_is_test ct_is_test : Value} (a_is_test : PySem.W.nsIn K mainGlobals "is_test" = some (some (.ref f_is_test))) (l_is_test : K.lookup f_is_test = some ⟨oc_is_test, od_is_test, .func (PySem.W.fnOf "is_test" "is_test" (defArgs (top 23)) (defBody (top 23)) (defScope (top 23)) .none kV_is_test dc_is_test pm_is_test an_is_test cd_is_test ct_is_test), sl_is_test⟩) (c_is_test : PySem.W.codeIn K cd_is_test "is_test" = true) (k_is_test : PySem.W.keepIn K (.ref f_is_test) = true)  : EntOk K ⟨mg, P, w, T⟩ (dfOf tab) blF (dkOf tab) xtF n_is_test := by
  exact ⟨⟨f_is_test, _, .none, kV_is_test, ⟨⟨oc_is_test, od_is_test, dc_is_test, pm_is_test, an_is_test, cd_is_test, ct_is_test, sl_is_test, rfl, l_is_test, c_is_test⟩, k_is_test⟩, PySem.W.mg_of X G a_is_test, fun _ => rfl, fun _ _ h => (nomatch h), fun _ _ _ _ h => (nomatch h)⟩, ⟨rfl, rfl, rfl, by decide +kernel, rfl, by decide +kernel, by decide +kernel⟩, r_is_test, rfl, rfl, fun _ _ _ _ _ _ _ us hl => match us, hl with | [_], _ => rfl⟩
theorem e_is_bound (X : K.In h) (G : h.Ns mainGlobals mg) {f_is_bound : Addr} {od_is_bound an_is_bound : Option Addr} {sl_is_bound : Array (Option Value)} {oc_is_bound kV_is_bound dc_is_bound pm_is_bound cd_is_bound ct_is_bound : Value} (a_is_bound : PySem.W.nsIn K mainGlobals "is_bound" = some (some (.ref f_is_bound))) (l_is_bound : K.lookup f_is_bound = some ⟨oc_is_bound, od_is_bound, .func (PySem.W.fnOf "is_bound" "is_bound" (defArgs (top 24)) (defBody (top 24)) (defScope (top 24)) .none kV_is_bound dc_is_bound pm_is_bound an_is_bound cd_is_bound ct_is_bound), sl_is_bound⟩) (c_is_bound : PySem.W.codeIn K cd_is_bound "is_bound" = true) (k_is_bound : PySem.W.keepIn K (.ref f_is_bound) = true)  : EntOk K ⟨mg, P, w, T⟩ (dfOf tab) blF (dkOf tab) xtF n_is_bound := by
  exact ⟨⟨f_is_bound, _, .none, kV_is_bound, ⟨⟨oc_is_bound, od_is_bound, dc_is_bound, pm_is_bound, an_is_bound, cd_is_bound, ct_is_bound, sl_is_bound, rfl, l_is_bound, c_is_bound⟩, k_is_bound⟩, PySem.W.mg_of X G a_is_bound, fun _ => rfl, fun _ _ h => (nomatch h), fun _ _ _ _ h => (nomatch h)⟩, ⟨rfl, rfl, rfl, by decide +kernel, rfl, by decide +kernel, by decide +kernel⟩, r_is_bound, rfl, rfl, fun _ _ _ _ _ _ _ us hl => match us, hl with | [_], _ => rfl⟩
theorem e_is_side (X : K.In h) (G : h.Ns mainGlobals mg) {f_is_side : Addr} {od_is_side an_is_side : Option Addr} {sl_is_side : Array (Option Value)} {oc_is_side kV_is_side dc_is_side pm_is_side cd_is_side ct_is_side : Value} (a_is_side : PySem.W.nsIn K mainGlobals "is_side" = some (some (.ref f_is_side))) (l_is_side : K.lookup f_is_side = some ⟨oc_is_side, od_is_side, .func (PySem.W.fnOf "is_side" "is_side" (defArgs (top 25)) (defBody (top 25)) (defScope (top 25)) .none kV_is_side dc_is_side pm_is_side an_is_side cd_is_side ct_is_side), sl_is_side⟩) (c_is_side : PySem.W.codeIn K cd_is_side "is_side" = true) (k_is_side : PySem.W.keepIn K (.ref f_is_side) = true)  : EntOk K ⟨mg, P, w, T⟩ (dfOf tab) blF (dkOf tab) xtF n_is_side := by
  exact ⟨⟨f_is_side, _, .none, kV_is_side, ⟨⟨oc_is_side, od_is_side, dc_is_side, pm_is_side, an_is_side, cd_is_side, ct_is_side, sl_is_side, rfl, l_is_side, c_is_side⟩, k_is_side⟩, PySem.W.mg_of X G a_is_side, fun _ => rfl, fun _ _ h => (nomatch h), fun _ _ _ _ h => (nomatch h)⟩, ⟨rfl, rfl, rfl, by decide +kernel, rfl, by decide +kernel, by decide +kernel⟩, r_is_side, rfl, rfl, fun _ _ _ _ _ _ _ us hl => match us, hl with | [_], _ => rfl⟩
theorem e_need_watch (X : K.In h) (G : h.Ns mainGlobals mg) {f_need_watch : Addr} {od_need_watch an_need_watch : Option Addr} {sl_need_watch : Array (Option Value)} {oc_need_watch kV_need_watch dc_need_watch pm_need_watch cd_need_watch ct_need_watch : Value} (a_need_watch : PySem.W.nsIn K mainGlobals "need_watch" = some (some (.ref f_need_watch))) (l_need_watch : K.lookup f_need_watch = some ⟨oc_need_watch, od_need_watch, .func (PySem.W.fnOf "need_watch" "need_watch" (defArgs (top 27)) (defBody (top 27)) (defScope (top 27)) .none kV_need_watch dc_need_watch pm_need_watch an_need_watch cd_need_watch ct_need_watch), sl_need_watch⟩) (c_need_watch : PySem.W.codeIn K cd_need_watch "need_watch" = true) (k_need_watch : PySem.W.keepIn K (.ref f_need_watch) = true)  : EntOk K ⟨mg, P, w, T⟩ (dfOf tab) blF (dkOf tab) xtF n_need_watch := by
  exact ⟨⟨f_need_watch, _, .none, kV_need_watch, ⟨⟨oc_need_watch, od_need_watch, dc_need_watch, pm_need_watch, an_need_watch, cd_need_watch, ct_need_watch, sl_need_watch, rfl, l_need_watch, c_need_watch⟩, k_need_watch⟩, PySem.W.mg_of X G a_need_watch, fun _ => rfl, fun _ _ h => (nomatch h), fun _ _ _ _ h => (nomatch h)⟩, ⟨rfl, rfl, rfl, by decide +kernel, rfl, by decide +kernel, by decide +kernel⟩, r_need_watch, rfl, rfl, fun _ _ _ _ _ _ _ us hl => match us, hl with | [_], _ => rfl⟩
theorem e_state_of (X : K.In h) (G : h.Ns mainGlobals mg) {f_state_of : Addr} {od_state_of an_state_of : Option Addr} {sl_state_of : Array (Option Value)} {oc_state_of kV_state_of dc_state_of pm_state_of cd_state_of ct_state_of : Value} (a_state_of : PySem.W.nsIn K mainGlobals "state_of" = some (some (.ref f_state_of))) (l_state_of : K.lookup f_state_of = some ⟨oc_state_of, od_state_of, .func (PySem.W.fnOf "state_of" "state_of" (defArgs (top 28)) (defBody (top 28)) (defScope (top 28)) .none kV_state_of dc_state_of pm_state_of an_state_of cd_state_of ct_state_of), sl_state_of⟩) (c_state_of : PySem.W.codeIn K cd_state_of "state_of" = true) (k_state_of : PySem.W.keepIn K (.ref f_state_of) = true)  : EntOk K ⟨mg, P, w, T⟩ (dfOf tab) blF (dkOf tab) xtF n_state_of := by
  exact ⟨⟨f_state_of, _, .none, kV_state_of, ⟨⟨oc_state_of, od_state_of, dc_state_of, pm_state_of, an_state_of, cd_state_of, ct_state_of, sl_state_of, rfl, l_state_of, c_state_of⟩, k_state_of⟩, PySem.W.mg_of X G a_state_of, fun _ => rfl, fun _ _ h => (nomatch h), fun _ _ _ _ h => (nomatch h)⟩, ⟨rfl, rfl, rfl, by decide +kernel, rfl, by decide +kernel, by decide +kernel⟩, r_state_of, rfl, rfl, fun _ _ _ _ _ _ _ us hl => match us, hl with | [_, _, _], _ => rfl⟩
theorem e_hushed (X : K.In h) (G : h.Ns mainGlobals mg) {f_hushed : Addr} {od_hushed an_hushed : Option Addr} {sl_hushed : Array (Option Value)} {oc_hushed kV_hushed dc_hushed pm_hushed cd_hushed ct_hushed : Value} (a_hushed : PySem.W.nsIn K mainGlobals "hushed" = some (some (.ref f_hushed))) (l_hushed : K.lookup f_hushed = some ⟨oc_hushed, od_hushed, .func (PySem.W.fnOf "hushed" "hushed" (defArgs (top 29)) (defBody (top 29)) (defScope (top 29)) .none kV_hushed dc_hushed pm_hushed an_hushed cd_hushed ct_hushed), sl_hushed⟩) (c_hushed : PySem.W.codeIn K cd_hushed "hushed" = true) (k_hushed : PySem.W.keepIn K (.ref f_hushed) = true)  : EntOk K ⟨mg, P, w, T⟩ (dfOf tab) blF (dkOf tab) xtF n_hushed := by
  exact ⟨⟨f_hushed, _, .none, kV_hushed, ⟨⟨oc_hushed, od_hushed, dc_hushed, pm_hushed, an_hushed, cd_hushed, ct_hushed, sl_hushed, rfl, l_hushed, c_hushed⟩, k_hushed⟩, PySem.W.mg_of X G a_hushed, fun _ => rfl, fun _ _ h => (nomatch h), fun _ _ _ _ h => (nomatch h)⟩, ⟨rfl, rfl, rfl, by decide +kernel, rfl, by decide +kernel, by decide +kernel⟩, r_hushed, rfl, rfl, fun _ _ _ _ _ _ _ us hl => match us, hl with | [_, _], _ => rfl⟩
theorem e_runs (X : K.In h) (G : h.Ns mainGlobals mg) {f_runs : Addr} {od_runs an_runs : Option Addr} {sl_runs : Array (Option Value)} {oc_runs kV_runs dc_runs pm_runs cd_runs ct_runs : Value} (a_runs : PySem.W.nsIn K mainGlobals "runs" = some (some (.ref f_runs))) (l_runs : K.lookup f_runs = some ⟨oc_runs, od_runs, .func (PySem.W.fnOf "runs" "runs" (defArgs (top 30)) (defBody (top 30)) (defScope (top 30)) .none kV_runs dc_runs pm_runs an_runs cd_runs ct_runs), sl_runs⟩) (c_runs : PySem.W.codeIn K cd_runs "runs" = true) (k_runs : PySem.W.keepIn K (.ref f_runs) = true)  : EntOk K ⟨mg, P, w, T⟩ (dfOf tab) blF (dkOf tab) xtF n_runs := by
  exact ⟨⟨f_runs, _, .none, kV_runs, ⟨⟨oc_runs, od_runs, dc_runs, pm_runs, an_runs, cd_runs, ct_runs, sl_runs, rfl, l_runs, c_runs⟩, k_runs⟩, PySem.W.mg_of X G a_runs, fun _ => rfl, fun _ _ h => (nomatch h), fun _ _ _ _ h => (nomatch h)⟩, ⟨rfl, rfl, rfl, by decide +kernel, rfl, by decide +kernel, by decide +kernel⟩, r_runs, rfl, rfl, fun _ _ _ _ _ _ _ us hl => match us, hl with | [_], _ => rfl⟩
theorem e_law_bag (X : K.In h) (G : h.Ns mainGlobals mg) {f_law_bag : Addr} {od_law_bag an_law_bag : Option Addr} {sl_law_bag : Array (Option Value)} {oc_law_bag kV_law_bag dc_law_bag pm_law_bag cd_law_bag ct_law_bag : Value} (a_law_bag : PySem.W.nsIn K mainGlobals "_law_bag" = some (some (.ref f_law_bag))) (l_law_bag : K.lookup f_law_bag = some ⟨oc_law_bag, od_law_bag, .func (PySem.W.fnOf "_law_bag" "_law_bag" (defArgs (top 32)) (defBody (top 32)) (defScope (top 32)) .none kV_law_bag dc_law_bag pm_law_bag an_law_bag cd_law_bag ct_law_bag), sl_law_bag⟩) (c_law_bag : PySem.W.codeIn K cd_law_bag "_law_bag" = true) (k_law_bag : PySem.W.keepIn K (.ref f_law_bag) = true)  : EntOk K ⟨mg, P, w, T⟩ (dfOf tab) blF (dkOf tab) xtF n_law_bag := by
  exact ⟨⟨f_law_bag, _, .none, kV_law_bag, ⟨⟨oc_law_bag, od_law_bag, dc_law_bag, pm_law_bag, an_law_bag, cd_law_bag, ct_law_bag, sl_law_bag, rfl, l_law_bag, c_law_bag⟩, k_law_bag⟩, PySem.W.mg_of X G a_law_bag, fun _ => rfl, fun _ _ h => (nomatch h), fun _ _ _ _ h => (nomatch h)⟩, ⟨rfl, rfl, rfl, by decide +kernel, rfl, by decide +kernel, by decide +kernel⟩, r_law_bag, rfl, rfl, fun _ _ _ _ _ _ _ us hl => match us, hl with | [_], _ => rfl⟩
theorem e_law_pull (X : K.In h) (G : h.Ns mainGlobals mg) {f_law_pull : Addr} {od_law_pull an_law_pull : Option Addr} {sl_law_pull : Array (Option Value)} {oc_law_pull kV_law_pull dc_law_pull pm_law_pull cd_law_pull ct_law_pull : Value} (a_law_pull : PySem.W.nsIn K mainGlobals "_law_pull" = some (some (.ref f_law_pull))) (l_law_pull : K.lookup f_law_pull = some ⟨oc_law_pull, od_law_pull, .func (PySem.W.fnOf "_law_pull" "_law_pull" (defArgs (top 33)) (defBody (top 33)) (defScope (top 33)) .none kV_law_pull dc_law_pull pm_law_pull an_law_pull cd_law_pull ct_law_pull), sl_law_pull⟩) (c_law_pull : PySem.W.codeIn K cd_law_pull "_law_pull" = true) (k_law_pull : PySem.W.keepIn K (.ref f_law_pull) = true)  : EntOk K ⟨mg, P, w, T⟩ (dfOf tab) blF (dkOf tab) xtF n_law_pull := by
  exact ⟨⟨f_law_pull, _, .none, kV_law_pull, ⟨⟨oc_law_pull, od_law_pull, dc_law_pull, pm_law_pull, an_law_pull, cd_law_pull, ct_law_pull, sl_law_pull, rfl, l_law_pull, c_law_pull⟩, k_law_pull⟩, PySem.W.mg_of X G a_law_pull, fun _ => rfl, fun _ _ h => (nomatch h), fun _ _ _ _ h => (nomatch h)⟩, ⟨rfl, rfl, rfl, by decide +kernel, rfl, by decide +kernel, by decide +kernel⟩, r_law_pull, rfl, rfl, fun _ _ _ _ _ _ _ us hl => match us, hl with | [_, _], _ => rfl⟩
theorem e_law_one (X : K.In h) (G : h.Ns mainGlobals mg) {f_law_one : Addr} {od_law_one an_law_one : Option Addr} {sl_law_one : Array (Option Value)} {oc_law_one kV_law_one dc_law_one pm_law_one cd_law_one ct_law_one : Value} (a_law_one : PySem.W.nsIn K mainGlobals "_law_one" = some (some (.ref f_law_one))) (l_law_one : K.lookup f_law_one = some ⟨oc_law_one, od_law_one, .func (PySem.W.fnOf "_law_one" "_law_one" (defArgs (top 34)) (defBody (top 34)) (defScope (top 34)) .none kV_law_one dc_law_one pm_law_one an_law_one cd_law_one ct_law_one), sl_law_one⟩) (c_law_one : PySem.W.codeIn K cd_law_one "_law_one" = true) (k_law_one : PySem.W.keepIn K (.ref f_law_one) = true)  : EntOk K ⟨mg, P, w, T⟩ (dfOf tab) blF (dkOf tab) xtF n_law_one := by
  exact ⟨⟨f_law_one, _, .none, kV_law_one, ⟨⟨oc_law_one, od_law_one, dc_law_one, pm_law_one, an_law_one, cd_law_one, ct_law_one, sl_law_one, rfl, l_law_one, c_law_one⟩, k_law_one⟩, PySem.W.mg_of X G a_law_one, fun _ => rfl, fun _ _ h => (nomatch h), fun _ _ _ _ h => (nomatch h)⟩, ⟨rfl, rfl, rfl, by decide +kernel, rfl, by decide +kernel, by decide +kernel⟩, r_law_one, rfl, rfl, fun _ _ _ _ _ _ _ us hl => match us, hl with | [_, _], _ => rfl⟩
theorem e_law_letters (X : K.In h) (G : h.Ns mainGlobals mg) {f_law_letters : Addr} {od_law_letters an_law_letters : Option Addr} {sl_law_letters : Array (Option Value)} {oc_law_letters kV_law_letters dc_law_letters pm_law_letters cd_law_letters ct_law_letters : Value} (a_law_letters : PySem.W.nsIn K mainGlobals "_law_letters" = some (some (.ref f_law_letters))) (l_law_letters : K.lookup f_law_letters = some ⟨oc_law_letters, od_law_letters, .func (PySem.W.fnOf "_law_letters" "_law_letters" (defArgs (top 35)) (defBody (top 35)) (defScope (top 35)) .none kV_law_letters dc_law_letters pm_law_letters an_law_letters cd_law_letters ct_law_letters), sl_law_letters⟩) (c_law_letters : PySem.W.codeIn K cd_law_letters "_law_letters" = true) (k_law_letters : PySem.W.keepIn K (.ref f_law_letters) = true)  : EntOk K ⟨mg, P, w, T⟩ (dfOf tab) blF (dkOf tab) xtF n_law_letters := by
  exact ⟨⟨f_law_letters, _, .none, kV_law_letters, ⟨⟨oc_law_letters, od_law_letters, dc_law_letters, pm_law_letters, an_law_letters, cd_law_letters, ct_law_letters, sl_law_letters, rfl, l_law_letters, c_law_letters⟩, k_law_letters⟩, PySem.W.mg_of X G a_law_letters, fun _ => rfl, fun _ _ h => (nomatch h), fun _ _ _ _ h => (nomatch h)⟩, ⟨rfl, rfl, rfl, by decide +kernel, rfl, by decide +kernel, by decide +kernel⟩, r_law_letters, rfl, rfl, fun _ _ _ _ _ _ _ us hl => match us, hl with | [_, _], _ => rfl⟩
theorem e_law_name (X : K.In h) (G : h.Ns mainGlobals mg) {f_law_name : Addr} {od_law_name an_law_name : Option Addr} {sl_law_name : Array (Option Value)} {oc_law_name kV_law_name dc_law_name pm_law_name cd_law_name ct_law_name : Value} (a_law_name : PySem.W.nsIn K mainGlobals "_law_name" = some (some (.ref f_law_name))) (l_law_name : K.lookup f_law_name = some ⟨oc_law_name, od_law_name, .func (PySem.W.fnOf "_law_name" "_law_name" (defArgs (top 36)) (defBody (top 36)) (defScope (top 36)) .none kV_law_name dc_law_name pm_law_name an_law_name cd_law_name ct_law_name), sl_law_name⟩) (c_law_name : PySem.W.codeIn K cd_law_name "_law_name" = true) (k_law_name : PySem.W.keepIn K (.ref f_law_name) = true)  : EntOk K ⟨mg, P, w, T⟩ (dfOf tab) blF (dkOf tab) xtF n_law_name := by
  exact ⟨⟨f_law_name, _, .none, kV_law_name, ⟨⟨oc_law_name, od_law_name, dc_law_name, pm_law_name, an_law_name, cd_law_name, ct_law_name, sl_law_name, rfl, l_law_name, c_law_name⟩, k_law_name⟩, PySem.W.mg_of X G a_law_name, fun _ => rfl, fun _ _ h => (nomatch h), fun _ _ _ _ h => (nomatch h)⟩, ⟨rfl, rfl, rfl, by decide +kernel, rfl, by decide +kernel, by decide +kernel⟩, r_law_name, rfl, rfl, fun _ _ _ _ _ _ _ us hl => match us, hl with | [_], _ => rfl⟩
theorem e_law_names (X : K.In h) (G : h.Ns mainGlobals mg) {f_law_names : Addr} {od_law_names an_law_names : Option Addr} {sl_law_names : Array (Option Value)} {oc_law_names kV_law_names dc_law_names pm_law_names cd_law_names ct_law_names : Value} (a_law_names : PySem.W.nsIn K mainGlobals "_law_names" = some (some (.ref f_law_names))) (l_law_names : K.lookup f_law_names = some ⟨oc_law_names, od_law_names, .func (PySem.W.fnOf "_law_names" "_law_names" (defArgs (top 37)) (defBody (top 37)) (defScope (top 37)) .none kV_law_names dc_law_names pm_law_names an_law_names cd_law_names ct_law_names), sl_law_names⟩) (c_law_names : PySem.W.codeIn K cd_law_names "_law_names" = true) (k_law_names : PySem.W.keepIn K (.ref f_law_names) = true)  : EntOk K ⟨mg, P, w, T⟩ (dfOf tab) blF (dkOf tab) xtF n_law_names := by
  exact ⟨⟨f_law_names, _, .none, kV_law_names, ⟨⟨oc_law_names, od_law_names, dc_law_names, pm_law_names, an_law_names, cd_law_names, ct_law_names, sl_law_names, rfl, l_law_names, c_law_names⟩, k_law_names⟩, PySem.W.mg_of X G a_law_names, fun _ => rfl, fun _ _ h => (nomatch h), fun _ _ _ _ h => (nomatch h)⟩, ⟨rfl, rfl, rfl, by decide +kernel, rfl, by decide +kernel, by decide +kernel⟩, r_law_names, rfl, rfl, fun _ _ _ _ _ _ _ us hl => match us, hl with | [_, _], _ => rfl⟩
theorem e_law_same (X : K.In h) (G : h.Ns mainGlobals mg) {f_law_same : Addr} {od_law_same an_law_same : Option Addr} {sl_law_same : Array (Option Value)} {oc_law_same kV_law_same dc_law_same pm_law_same cd_law_same ct_law_same : Value} (a_law_same : PySem.W.nsIn K mainGlobals "_law_same" = some (some (.ref f_law_same))) (l_law_same : K.lookup f_law_same = some ⟨oc_law_same, od_law_same, .func (PySem.W.fnOf "_law_same" "_law_same" (defArgs (top 38)) (defBody (top 38)) (defScope (top 38)) .none kV_law_same dc_law_same pm_law_same an_law_same cd_law_same ct_law_same), sl_law_same⟩) (c_law_same : PySem.W.codeIn K cd_law_same "_law_same" = true) (k_law_same : PySem.W.keepIn K (.ref f_law_same) = true)  : EntOk K ⟨mg, P, w, T⟩ (dfOf tab) blF (dkOf tab) xtF n_law_same := by
  exact ⟨⟨f_law_same, _, .none, kV_law_same, ⟨⟨oc_law_same, od_law_same, dc_law_same, pm_law_same, an_law_same, cd_law_same, ct_law_same, sl_law_same, rfl, l_law_same, c_law_same⟩, k_law_same⟩, PySem.W.mg_of X G a_law_same, fun _ => rfl, fun _ _ h => (nomatch h), fun _ _ _ _ h => (nomatch h)⟩, ⟨rfl, rfl, rfl, by decide +kernel, rfl, by decide +kernel, by decide +kernel⟩, r_law_same, rfl, rfl, fun _ _ _ _ _ _ _ us hl => match us, hl with | [_, _], _ => rfl⟩
theorem e_law_stretch (X : K.In h) (G : h.Ns mainGlobals mg) {f_law_stretch : Addr} {od_law_stretch an_law_stretch : Option Addr} {sl_law_stretch : Array (Option Value)} {oc_law_stretch kV_law_stretch dc_law_stretch pm_law_stretch cd_law_stretch ct_law_stretch : Value} (a_law_stretch : PySem.W.nsIn K mainGlobals "_law_stretch" = some (some (.ref f_law_stretch))) (l_law_stretch : K.lookup f_law_stretch = some ⟨oc_law_stretch, od_law_stretch, .func (PySem.W.fnOf "_law_stretch" "_law_stretch" (defArgs (top 39)) (defBody (top 39)) (defScope (top 39)) .none kV_law_stretch dc_law_stretch pm_law_stretch an_law_stretch cd_law_stretch ct_law_stretch), sl_law_stretch⟩) (c_law_stretch : PySem.W.codeIn K cd_law_stretch "_law_stretch" = true) (k_law_stretch : PySem.W.keepIn K (.ref f_law_stretch) = true)  : EntOk K ⟨mg, P, w, T⟩ (dfOf tab) blF (dkOf tab) xtF n_law_stretch := by
  exact ⟨⟨f_law_stretch, _, .none, kV_law_stretch, ⟨⟨oc_law_stretch, od_law_stretch, dc_law_stretch, pm_law_stretch, an_law_stretch, cd_law_stretch, ct_law_stretch, sl_law_stretch, rfl, l_law_stretch, c_law_stretch⟩, k_law_stretch⟩, PySem.W.mg_of X G a_law_stretch, fun _ => rfl, fun _ _ h => (nomatch h), fun _ _ _ _ h => (nomatch h)⟩, ⟨rfl, rfl, rfl, by decide +kernel, rfl, by decide +kernel, by decide +kernel⟩, r_law_stretch, rfl, rfl, fun _ _ _ _ _ _ _ us hl => match us, hl with | [_], _ => rfl⟩
theorem e_law_number_good (X : K.In h) (G : h.Ns mainGlobals mg) {f_law_number_good : Addr} {od_law_number_good an_law_number_good : Option Addr} {sl_law_number_good : Array (Option Value)} {oc_law_number_good kV_law_number_good dc_law_number_good pm_law_number_good cd_law_number_good ct_law_number_good : Value} (a_law_number_good : PySem.W.nsIn K mainGlobals "_law_number_good" = some (some (.ref f_law_number_good))) (l_law_number_good : K.lookup f_law_number_good = some ⟨oc_law_number_good, od_law_number_good, .func (PySem.W.fnOf "_law_number_good" "_law_number_good" (defArgs (top 40)) (defBody (top 40)) (defScope (top 40)) .none kV_law_number_good dc_law_number_good pm_law_number_good an_law_number_good cd_law_number_good ct_law_number_good), sl_law_number_good⟩) (c_law_number_good : PySem.W.codeIn K cd_law_number_good "_law_number_good" = true) (k_law_number_good : PySem.W.keepIn K (.ref f_law_number_good) = true)  : EntOk K ⟨mg, P, w, T⟩ (dfOf tab) blF (dkOf tab) xtF n_law_number_good := by
  exact ⟨⟨f_law_number_good, _, .none, kV_law_number_good, ⟨⟨oc_law_number_good, od_law_number_good, dc_law_number_good, pm_law_number_good, an_law_number_good, cd_law_number_good, ct_law_number_good, sl_law_number_good, rfl, l_law_number_good, c_law_number_good⟩, k_law_number_good⟩, PySem.W.mg_of X G a_law_number_good, fun _ => rfl, fun _ _ h => (nomatch h), fun _ _ _ _ h => (nomatch h)⟩, ⟨rfl, rfl, rfl, by decide +kernel, rfl, by decide +kernel, by decide +kernel⟩, r_law_number_good, rfl, rfl, fun _ _ _ _ _ _ _ us hl => match us, hl with | [_, _], _ => rfl⟩
theorem e_law_leaf (X : K.In h) (G : h.Ns mainGlobals mg) {f_law_leaf : Addr} {od_law_leaf an_law_leaf : Option Addr} {sl_law_leaf : Array (Option Value)} {oc_law_leaf kV_law_leaf dc_law_leaf pm_law_leaf cd_law_leaf ct_law_leaf : Value} (a_law_leaf : PySem.W.nsIn K mainGlobals "_law_leaf" = some (some (.ref f_law_leaf))) (l_law_leaf : K.lookup f_law_leaf = some ⟨oc_law_leaf, od_law_leaf, .func (PySem.W.fnOf "_law_leaf" "_law_leaf" (defArgs (top 41)) (defBody (top 41)) (defScope (top 41)) .none kV_law_leaf dc_law_leaf pm_law_leaf an_law_leaf cd_law_leaf ct_law_leaf), sl_law_leaf⟩) (c_law_leaf : PySem.W.codeIn K cd_law_leaf "_law_leaf" = true) (k_law_leaf : PySem.W.keepIn K (.ref f_law_leaf) = true)  : EntOk K ⟨mg, P, w, T⟩ (dfOf tab) blF (dkOf tab) xtF n_law_leaf := by
  exact ⟨⟨f_law_leaf, _, .none, kV_law_leaf, ⟨⟨oc_law_leaf, od_law_leaf, dc_law_leaf, pm_law_leaf, an_law_leaf, cd_law_leaf, ct_law_leaf, sl_law_leaf, rfl, l_law_leaf, c_law_leaf⟩, k_law_leaf⟩, PySem.W.mg_of X G a_law_leaf, fun _ => rfl, fun _ _ h => (nomatch h), fun _ _ _ _ h => (nomatch h)⟩, ⟨rfl, rfl, rfl, by decide +kernel, rfl, by decide +kernel, by decide +kernel⟩, r_law_leaf, rfl, rfl, fun _ _ _ _ _ _ _ us hl => match us, hl with | [_, _], _ => rfl⟩
theorem e_law_test_of (X : K.In h) (G : h.Ns mainGlobals mg) {f_law_test_of : Addr} {od_law_test_of an_law_test_of : Option Addr} {sl_law_test_of : Array (Option Value)} {oc_law_test_of kV_law_test_of dc_law_test_of pm_law_test_of cd_law_test_of ct_law_test_of : Value} (a_law_test_of : PySem.W.nsIn K mainGlobals "_law_test_of" = some (some (.ref f_law_test_of))) (l_law_test_of : K.lookup f_law_test_of = some ⟨oc_law_test_of, od_law_test_of, .func (PySem.W.fnOf "_law_test_of" "_law_test_of" (defArgs (top 42)) (defBody (top 42)) (defScope (top 42)) .none kV_law_test_of dc_law_test_of pm_law_test_of an_law_test_of cd_law_test_of ct_law_test_of), sl_law_test_of⟩) (c_law_test_of : PySem.W.codeIn K cd_law_test_of "_law_test_of" = true) (k_law_test_of : PySem.W.keepIn K (.ref f_law_test_of) = true)  : EntOk K ⟨mg, P, w, T⟩ (dfOf tab) blF (dkOf tab) xtF n_law_test_of := by
  exact ⟨⟨f_law_test_of, _, .none, kV_law_test_of, ⟨⟨oc_law_test_of, od_law_test_of, dc_law_test_of, pm_law_test_of, an_law_test_of, cd_law_test_of, ct_law_test_of, sl_law_test_of, rfl, l_law_test_of, c_law_test_of⟩, k_law_test_of⟩, PySem.W.mg_of X G a_law_test_of, fun _ => rfl, fun _ _ h => (nomatch h), fun _ _ _ _ h => (nomatch h)⟩, ⟨rfl, rfl, rfl, by decide +kernel, rfl, by decide +kernel, by decide +kernel⟩, r_law_test_of, rfl, rfl, fun _ _ _ _ _ _ _ us hl => match us, hl with | [_, _, _], _ => rfl⟩
theorem e_law_house_small (X : K.In h) (G : h.Ns mainGlobals mg) {f_law_house_small : Addr} {od_law_house_small an_law_house_small : Option Addr} {sl_law_house_small : Array (Option Value)} {oc_law_house_small kV_law_house_small dc_law_house_small pm_law_house_small cd_law_house_small ct_law_house_small : Value} (a_law_house_small : PySem.W.nsIn K mainGlobals "_law_house_small" = some (some (.ref f_law_house_small))) (l_law_house_small : K.lookup f_law_house_small = some ⟨oc_law_house_small, od_law_house_small, .func (PySem.W.fnOf "_law_house_small" "_law_house_small" (defArgs (top 43)) (defBody (top 43)) (defScope (top 43)) .none kV_law_house_small dc_law_house_small pm_law_house_small an_law_house_small cd_law_house_small ct_law_house_small), sl_law_house_small⟩) (c_law_house_small : PySem.W.codeIn K cd_law_house_small "_law_house_small" = true) (k_law_house_small : PySem.W.keepIn K (.ref f_law_house_small) = true)  : EntOk K ⟨mg, P, w, T⟩ (dfOf tab) blF (dkOf tab) xtF n_law_house_small := by
  exact ⟨⟨f_law_house_small, _, .none, kV_law_house_small, ⟨⟨oc_law_house_small, od_law_house_small, dc_law_house_small, pm_law_house_small, an_law_house_small, cd_law_house_small, ct_law_house_small, sl_law_house_small, rfl, l_law_house_small, c_law_house_small⟩, k_law_house_small⟩, PySem.W.mg_of X G a_law_house_small, fun _ => rfl, fun _ _ h => (nomatch h), fun _ _ _ _ h => (nomatch h)⟩, ⟨rfl, rfl, rfl, by decide +kernel, rfl, by decide +kernel, by decide +kernel⟩, r_law_house_small, rfl, rfl, fun _ _ _ _ _ _ _ us hl => match us, hl with | [_], _ => rfl⟩
theorem e_law_watch (X : K.In h) (G : h.Ns mainGlobals mg) {f_law_watch : Addr} {od_law_watch an_law_watch : Option Addr} {sl_law_watch : Array (Option Value)} {oc_law_watch kV_law_watch dc_law_watch pm_law_watch cd_law_watch ct_law_watch : Value} (a_law_watch : PySem.W.nsIn K mainGlobals "_law_watch" = some (some (.ref f_law_watch))) (l_law_watch : K.lookup f_law_watch = some ⟨oc_law_watch, od_law_watch, .func (PySem.W.fnOf "_law_watch" "_law_watch" (defArgs (top 44)) (defBody (top 44)) (defScope (top 44)) .none kV_law_watch dc_law_watch pm_law_watch an_law_watch cd_law_watch ct_law_watch), sl_law_watch⟩) (c_law_watch : PySem.W.codeIn K cd_law_watch "_law_watch" = true) (k_law_watch : PySem.W.keepIn K (.ref f_law_watch) = true)  : EntOk K ⟨mg, P, w, T⟩ (dfOf tab) blF (dkOf tab) xtF n_law_watch := by
  exact ⟨⟨f_law_watch, _, .none, kV_law_watch, ⟨⟨oc_law_watch, od_law_watch, dc_law_watch, pm_law_watch, an_law_watch, cd_law_watch, ct_law_watch, sl_law_watch, rfl, l_law_watch, c_law_watch⟩, k_law_watch⟩, PySem.W.mg_of X G a_law_watch, fun _ => rfl, fun _ _ h => (nomatch h), fun _ _ _ _ h => (nomatch h)⟩, ⟨rfl, rfl, rfl, by decide +kernel, rfl, by decide +kernel, by decide +kernel⟩, r_law_watch, rfl, rfl, fun _ _ _ _ _ _ _ us hl => match us, hl with | [_, _], _ => rfl⟩
theorem e_law_watch_wrong (X : K.In h) (G : h.Ns mainGlobals mg) {f_law_watch_wrong : Addr} {od_law_watch_wrong an_law_watch_wrong : Option Addr} {sl_law_watch_wrong : Array (Option Value)} {oc_law_watch_wrong kV_law_watch_wrong dc_law_watch_wrong pm_law_watch_wrong cd_law_watch_wrong ct_law_watch_wrong : Value} (a_law_watch_wrong : PySem.W.nsIn K mainGlobals "_law_watch_wrong" = some (some (.ref f_law_watch_wrong))) (l_law_watch_wrong : K.lookup f_law_watch_wrong = some ⟨oc_law_watch_wrong, od_law_watch_wrong, .func (PySem.W.fnOf "_law_watch_wrong" "_law_watch_wrong" (defArgs (top 45)) (defBody (top 45)) (defScope (top 45)) .none kV_law_watch_wrong dc_law_watch_wrong pm_law_watch_wrong an_law_watch_wrong cd_law_watch_wrong ct_law_watch_wrong), sl_law_watch_wrong⟩) (c_law_watch_wrong : PySem.W.codeIn K cd_law_watch_wrong "_law_watch_wrong" = true) (k_law_watch_wrong : PySem.W.keepIn K (.ref f_law_watch_wrong) = true)  : EntOk K ⟨mg, P, w, T⟩ (dfOf tab) blF (dkOf tab) xtF n_law_watch_wrong := by
  exact ⟨⟨f_law_watch_wrong, _, .none, kV_law_watch_wrong, ⟨⟨oc_law_watch_wrong, od_law_watch_wrong, dc_law_watch_wrong, pm_law_watch_wrong, an_law_watch_wrong, cd_law_watch_wrong, ct_law_watch_wrong, sl_law_watch_wrong, rfl, l_law_watch_wrong, c_law_watch_wrong⟩, k_law_watch_wrong⟩, PySem.W.mg_of X G a_law_watch_wrong, fun _ => rfl, fun _ _ h => (nomatch h), fun _ _ _ _ h => (nomatch h)⟩, ⟨rfl, rfl, rfl, by decide +kernel, rfl, by decide +kernel, by decide +kernel⟩, r_law_watch_wrong, rfl, rfl, fun _ _ _ _ _ _ _ us hl => match us, hl with | [_], _ => rfl⟩
theorem e_law_stretches_right (X : K.In h) (G : h.Ns mainGlobals mg) {f_law_stretches_right : Addr} {od_law_stretches_right an_law_stretches_right : Option Addr} {sl_law_stretches_right : Array (Option Value)} {oc_law_stretches_right kV_law_stretches_right dc_law_stretches_right pm_law_stretches_right cd_law_stretches_right ct_law_stretches_right : Value} (a_law_stretches_right : PySem.W.nsIn K mainGlobals "_law_stretches_right" = some (some (.ref f_law_stretches_right))) (l_law_stretches_right : K.lookup f_law_stretches_right = some ⟨oc_law_stretches_right, od_law_stretches_right, .func (PySem.W.fnOf "_law_stretches_right" "_law_stretches_right" (defArgs (top 46)) (defBody (top 46)) (defScope (top 46)) .none kV_law_stretches_right dc_law_stretches_right pm_law_stretches_right an_law_stretches_right cd_law_stretches_right ct_law_stretches_right), sl_law_stretches_right⟩) (c_law_stretches_right : PySem.W.codeIn K cd_law_stretches_right "_law_stretches_right" = true) (k_law_stretches_right : PySem.W.keepIn K (.ref f_law_stretches_right) = true)  : EntOk K ⟨mg, P, w, T⟩ (dfOf tab) blF (dkOf tab) xtF n_law_stretches_right := by
  exact ⟨⟨f_law_stretches_right, _, .none, kV_law_stretches_right, ⟨⟨oc_law_stretches_right, od_law_stretches_right, dc_law_stretches_right, pm_law_stretches_right, an_law_stretches_right, cd_law_stretches_right, ct_law_stretches_right, sl_law_stretches_right, rfl, l_law_stretches_right, c_law_stretches_right⟩, k_law_stretches_right⟩, PySem.W.mg_of X G a_law_stretches_right, fun _ => rfl, fun _ _ h => (nomatch h), fun _ _ _ _ h => (nomatch h)⟩, ⟨rfl, rfl, rfl, by decide +kernel, rfl, by decide +kernel, by decide +kernel⟩, r_law_stretches_right, rfl, rfl, fun _ _ _ _ _ _ _ us hl => match us, hl with | [_], _ => rfl⟩
theorem e_law (X : K.In h) (G : h.Ns mainGlobals mg) {f_law : Addr} {od_law an_law : Option Addr} {sl_law : Array (Option Value)} {oc_law kV_law dc_law pm_law cd_law ct_law : Value} (a_law : PySem.W.nsIn K mainGlobals "law" = some (some (.ref f_law))) (l_law : K.lookup f_law = some ⟨oc_law, od_law, .func (PySem.W.fnOf "law" "law" (defArgs (top 47)) (defBody (top 47)) (defScope (top 47)) .none kV_law dc_law pm_law an_law cd_law ct_law), sl_law⟩) (c_law : PySem.W.codeIn K cd_law "law" = true) (k_law : PySem.W.keepIn K (.ref f_law) = true)  : EntOk K ⟨mg, P, w, T⟩ (dfOf tab) blF (dkOf tab) xtF n_law := by
  exact ⟨⟨f_law, _, .none, kV_law, ⟨⟨oc_law, od_law, dc_law, pm_law, an_law, cd_law, ct_law, sl_law, rfl, l_law, c_law⟩, k_law⟩, PySem.W.mg_of X G a_law, fun _ => rfl, fun _ _ h => (nomatch h), fun _ _ _ _ h => (nomatch h)⟩, ⟨rfl, rfl, rfl, by decide +kernel, rfl, by decide +kernel, by decide +kernel⟩, r_law, rfl, rfl, fun _ _ _ _ _ _ _ us hl => match us, hl with | [_], _ => rfl⟩
theorem mod_ok (X : K.In h) (G : h.Ns mainGlobals mg)
    {f_is_name : Addr} {od_is_name an_is_name : Option Addr} {sl_is_name : Array (Option Value)} {oc_is_name kV_is_name dc_is_name pm_is_name cd_is_name ct_is_name : Value}
    {f_is_leaf : Addr} {od_is_leaf an_is_leaf : Option Addr} {sl_is_leaf : Array (Option Value)} {oc_is_leaf kV_is_leaf dc_is_leaf pm_is_leaf cd_is_leaf ct_is_leaf : Value}
    {f_inner_of : Addr} {od_inner_of an_inner_of : Option Addr} {sl_inner_of : Array (Option Value)} {oc_inner_of kV_inner_of dc_inner_of pm_inner_of cd_inner_of ct_inner_of : Value}
    {f_sizes : Addr} {od_sizes an_sizes : Option Addr} {sl_sizes : Array (Option Value)} {oc_sizes kV_sizes dc_sizes pm_sizes cd_sizes ct_sizes : Value}
    {f_is_between : Addr} {od_is_between an_is_between : Option Addr} {sl_is_between : Array (Option Value)} {oc_is_between kV_is_between dc_is_between pm_is_between cd_is_between ct_is_between : Value}
    {f_is_measure : Addr} {od_is_measure an_is_measure : Option Addr} {sl_is_measure : Array (Option Value)} {oc_is_measure kV_is_measure dc_is_measure pm_is_measure cd_is_measure ct_is_measure : Value}
    {f_is_width : Addr} {od_is_width an_is_width : Option Addr} {sl_is_width : Array (Option Value)} {oc_is_width kV_is_width dc_is_width pm_is_width cd_is_width ct_is_width : Value}
    {f_is_test : Addr} {od_is_test an_is_test : Option Addr} {sl_is_test : Array (Option Value)} {oc_is_test kV_is_test dc_is_test pm_is_test cd_is_test ct_is_test : Value}
    {f_is_bound : Addr} {od_is_bound an_is_bound : Option Addr} {sl_is_bound : Array (Option Value)} {oc_is_bound kV_is_bound dc_is_bound pm_is_bound cd_is_bound ct_is_bound : Value}
    {f_is_side : Addr} {od_is_side an_is_side : Option Addr} {sl_is_side : Array (Option Value)} {oc_is_side kV_is_side dc_is_side pm_is_side cd_is_side ct_is_side : Value}
    {f_need_watch : Addr} {od_need_watch an_need_watch : Option Addr} {sl_need_watch : Array (Option Value)} {oc_need_watch kV_need_watch dc_need_watch pm_need_watch cd_need_watch ct_need_watch : Value}
    {f_state_of : Addr} {od_state_of an_state_of : Option Addr} {sl_state_of : Array (Option Value)} {oc_state_of kV_state_of dc_state_of pm_state_of cd_state_of ct_state_of : Value}
    {f_hushed : Addr} {od_hushed an_hushed : Option Addr} {sl_hushed : Array (Option Value)} {oc_hushed kV_hushed dc_hushed pm_hushed cd_hushed ct_hushed : Value}
    {f_runs : Addr} {od_runs an_runs : Option Addr} {sl_runs : Array (Option Value)} {oc_runs kV_runs dc_runs pm_runs cd_runs ct_runs : Value}
    {f_law_bag : Addr} {od_law_bag an_law_bag : Option Addr} {sl_law_bag : Array (Option Value)} {oc_law_bag kV_law_bag dc_law_bag pm_law_bag cd_law_bag ct_law_bag : Value}
    {f_law_pull : Addr} {od_law_pull an_law_pull : Option Addr} {sl_law_pull : Array (Option Value)} {oc_law_pull kV_law_pull dc_law_pull pm_law_pull cd_law_pull ct_law_pull : Value}
    {f_law_one : Addr} {od_law_one an_law_one : Option Addr} {sl_law_one : Array (Option Value)} {oc_law_one kV_law_one dc_law_one pm_law_one cd_law_one ct_law_one : Value}
    {f_law_letters : Addr} {od_law_letters an_law_letters : Option Addr} {sl_law_letters : Array (Option Value)} {oc_law_letters kV_law_letters dc_law_letters pm_law_letters cd_law_letters ct_law_letters : Value}
    {f_law_name : Addr} {od_law_name an_law_name : Option Addr} {sl_law_name : Array (Option Value)} {oc_law_name kV_law_name dc_law_name pm_law_name cd_law_name ct_law_name : Value}
    {f_law_names : Addr} {od_law_names an_law_names : Option Addr} {sl_law_names : Array (Option Value)} {oc_law_names kV_law_names dc_law_names pm_law_names cd_law_names ct_law_names : Value}
    {f_law_same : Addr} {od_law_same an_law_same : Option Addr} {sl_law_same : Array (Option Value)} {oc_law_same kV_law_same dc_law_same pm_law_same cd_law_same ct_law_same : Value}
    {f_law_stretch : Addr} {od_law_stretch an_law_stretch : Option Addr} {sl_law_stretch : Array (Option Value)} {oc_law_stretch kV_law_stretch dc_law_stretch pm_law_stretch cd_law_stretch ct_law_stretch : Value}
    {f_law_number_good : Addr} {od_law_number_good an_law_number_good : Option Addr} {sl_law_number_good : Array (Option Value)} {oc_law_number_good kV_law_number_good dc_law_number_good pm_law_number_good cd_law_number_good ct_law_number_good : Value}
    {f_law_leaf : Addr} {od_law_leaf an_law_leaf : Option Addr} {sl_law_leaf : Array (Option Value)} {oc_law_leaf kV_law_leaf dc_law_leaf pm_law_leaf cd_law_leaf ct_law_leaf : Value}
    {f_law_test_of : Addr} {od_law_test_of an_law_test_of : Option Addr} {sl_law_test_of : Array (Option Value)} {oc_law_test_of kV_law_test_of dc_law_test_of pm_law_test_of cd_law_test_of ct_law_test_of : Value}
    {f_law_house_small : Addr} {od_law_house_small an_law_house_small : Option Addr} {sl_law_house_small : Array (Option Value)} {oc_law_house_small kV_law_house_small dc_law_house_small pm_law_house_small cd_law_house_small ct_law_house_small : Value}
    {f_law_watch : Addr} {od_law_watch an_law_watch : Option Addr} {sl_law_watch : Array (Option Value)} {oc_law_watch kV_law_watch dc_law_watch pm_law_watch cd_law_watch ct_law_watch : Value}
    {f_law_watch_wrong : Addr} {od_law_watch_wrong an_law_watch_wrong : Option Addr} {sl_law_watch_wrong : Array (Option Value)} {oc_law_watch_wrong kV_law_watch_wrong dc_law_watch_wrong pm_law_watch_wrong cd_law_watch_wrong ct_law_watch_wrong : Value}
    {f_law_stretches_right : Addr} {od_law_stretches_right an_law_stretches_right : Option Addr} {sl_law_stretches_right : Array (Option Value)} {oc_law_stretches_right kV_law_stretches_right dc_law_stretches_right pm_law_stretches_right cd_law_stretches_right ct_law_stretches_right : Value}
    {f_law : Addr} {od_law an_law : Option Addr} {sl_law : Array (Option Value)} {oc_law kV_law dc_law pm_law cd_law ct_law : Value}
    {t_DEEP : Tok}
    {t_FIELDS_0 : Tok}
    {t_FIELDS_1 : Tok}
    {t_FIELDS_2 : Tok}
    {T_FIELDS : Addr} {N_FIELDS : Nat} {od_FIELDS : Option Addr} {sl_FIELDS : Array (Option Value)}
    {t_LETTERS : Tok}
    {t_LONG : Tok}
    {T_LOOKS : Addr} {N_LOOKS : Nat} {od_LOOKS : Option Addr} {sl_LOOKS : Array (Option Value)}
    {t_MEASURES_0 : Tok}
    {t_MEASURES_1 : Tok}
    {T_MEASURES : Addr} {N_MEASURES : Nat} {od_MEASURES : Option Addr} {sl_MEASURES : Array (Option Value)}
    {t_MOST_BOUND : Tok}
    {t_MOST_PARTS : Tok}
    {t_MOST_WIDTH : Tok}
    {t_PAIRS_0 : Tok}
    {t_PAIRS_1 : Tok}
    {T_PAIRS : Addr} {N_PAIRS : Nat} {od_PAIRS : Option Addr} {sl_PAIRS : Array (Option Value)}
    {B_LoftError : Addr}
    {fI_LoftError : Addr} {odI_LoftError anI_LoftError : Option Addr} {slI_LoftError : Array (Option Value)} {ocI_LoftError kVI_LoftError dcI_LoftError pmI_LoftError cdI_LoftError ctI_LoftError : Value}
    {fI_BadRule : Addr} {odI_BadRule anI_BadRule : Option Addr} {slI_BadRule : Array (Option Value)} {ocI_BadRule kVI_BadRule dcI_BadRule pmI_BadRule cdI_BadRule ctI_BadRule : Value}
    {C_BadRule : Addr} {nm_BadRule qq_BadRule : Str} {NN_BadRule : Addr} {bs_BadRule bm_BadRule : List Value} {sn_BadRule : List Str} {sub_BadRule : List Value} {ab_BadRule : Bool} {col_BadRule : Option Bool} {dd_BadRule : Option Addr} {k0_BadRule k1_BadRule k2_BadRule k3_BadRule k5_BadRule : Option Value}
    (a_is_name : PySem.W.nsIn K mainGlobals "is_name" = some (some (.ref f_is_name))) (l_is_name : K.lookup f_is_name = some ⟨oc_is_name, od_is_name, .func (PySem.W.fnOf "is_name" "is_name" (defArgs (top 6)) (defBody (top 6)) (defScope (top 6)) .none kV_is_name dc_is_name pm_is_name an_is_name cd_is_name ct_is_name), sl_is_name⟩) (c_is_name : PySem.W.codeIn K cd_is_name "is_name" = true) (k_is_name : PySem.W.keepIn K (.ref f_is_name) = true) 
    (a_is_leaf : PySem.W.nsIn K mainGlobals "is_leaf" = some (some (.ref f_is_leaf))) (l_is_leaf : K.lookup f_is_leaf = some ⟨oc_is_leaf, od_is_leaf, .func (PySem.W.fnOf "is_leaf" "is_leaf" (defArgs (top 12)) (defBody (top 12)) (defScope (top 12)) .none kV_is_leaf dc_is_leaf pm_is_leaf an_is_leaf cd_is_leaf ct_is_leaf), sl_is_leaf⟩) (c_is_leaf : PySem.W.codeIn K cd_is_leaf "is_leaf" = true) (k_is_leaf : PySem.W.keepIn K (.ref f_is_leaf) = true) 
    (a_inner_of : PySem.W.nsIn K mainGlobals "inner_of" = some (some (.ref f_inner_of))) (l_inner_of : K.lookup f_inner_of = some ⟨oc_inner_of, od_inner_of, .func (PySem.W.fnOf "inner_of" "inner_of" (defArgs (top 13)) (defBody (top 13)) (defScope (top 13)) .none kV_inner_of dc_inner_of pm_inner_of an_inner_of cd_inner_of ct_inner_of), sl_inner_of⟩) (c_inner_of : PySem.W.codeIn K cd_inner_of "inner_of" = true) (k_inner_of : PySem.W.keepIn K (.ref f_inner_of) = true) 
    (a_sizes : PySem.W.nsIn K mainGlobals "sizes" = some (some (.ref f_sizes))) (l_sizes : K.lookup f_sizes = some ⟨oc_sizes, od_sizes, .func (PySem.W.fnOf "sizes" "sizes" (defArgs (top 14)) (defBody (top 14)) (defScope (top 14)) .none kV_sizes dc_sizes pm_sizes an_sizes cd_sizes ct_sizes), sl_sizes⟩) (c_sizes : PySem.W.codeIn K cd_sizes "sizes" = true) (k_sizes : PySem.W.keepIn K (.ref f_sizes) = true) 
    (a_is_between : PySem.W.nsIn K mainGlobals "is_between" = some (some (.ref f_is_between))) (l_is_between : K.lookup f_is_between = some ⟨oc_is_between, od_is_between, .func (PySem.W.fnOf "is_between" "is_between" (defArgs (top 16)) (defBody (top 16)) (defScope (top 16)) .none kV_is_between dc_is_between pm_is_between an_is_between cd_is_between ct_is_between), sl_is_between⟩) (c_is_between : PySem.W.codeIn K cd_is_between "is_between" = true) (k_is_between : PySem.W.keepIn K (.ref f_is_between) = true) 
    (a_is_measure : PySem.W.nsIn K mainGlobals "is_measure" = some (some (.ref f_is_measure))) (l_is_measure : K.lookup f_is_measure = some ⟨oc_is_measure, od_is_measure, .func (PySem.W.fnOf "is_measure" "is_measure" (defArgs (top 21)) (defBody (top 21)) (defScope (top 21)) .none kV_is_measure dc_is_measure pm_is_measure an_is_measure cd_is_measure ct_is_measure), sl_is_measure⟩) (c_is_measure : PySem.W.codeIn K cd_is_measure "is_measure" = true) (k_is_measure : PySem.W.keepIn K (.ref f_is_measure) = true) 
    (a_is_width : PySem.W.nsIn K mainGlobals "is_width" = some (some (.ref f_is_width))) (l_is_width : K.lookup f_is_width = some ⟨oc_is_width, od_is_width, .func (PySem.W.fnOf "is_width" "is_width" (defArgs (top 22)) (defBody (top 22)) (defScope (top 22)) .none kV_is_width dc_is_width pm_is_width an_is_width cd_is_width ct_is_width), sl_is_width⟩) (c_is_width : PySem.W.codeIn K cd_is_width "is_width" = true) (k_is_width : PySem.W.keepIn K (.ref f_is_width) = true) 
    (a_is_test : PySem.W.nsIn K mainGlobals "is_test" = some (some (.ref f_is_test))) (l_is_test : K.lookup f_is_test = some ⟨oc_is_test, od_is_test, .func (PySem.W.fnOf "is_test" "is_test" (defArgs (top 23)) (defBody (top 23)) (defScope (top 23)) .none kV_is_test dc_is_test pm_is_test an_is_test cd_is_test ct_is_test), sl_is_test⟩) (c_is_test : PySem.W.codeIn K cd_is_test "is_test" = true) (k_is_test : PySem.W.keepIn K (.ref f_is_test) = true) 
    (a_is_bound : PySem.W.nsIn K mainGlobals "is_bound" = some (some (.ref f_is_bound))) (l_is_bound : K.lookup f_is_bound = some ⟨oc_is_bound, od_is_bound, .func (PySem.W.fnOf "is_bound" "is_bound" (defArgs (top 24)) (defBody (top 24)) (defScope (top 24)) .none kV_is_bound dc_is_bound pm_is_bound an_is_bound cd_is_bound ct_is_bound), sl_is_bound⟩) (c_is_bound : PySem.W.codeIn K cd_is_bound "is_bound" = true) (k_is_bound : PySem.W.keepIn K (.ref f_is_bound) = true) 
    (a_is_side : PySem.W.nsIn K mainGlobals "is_side" = some (some (.ref f_is_side))) (l_is_side : K.lookup f_is_side = some ⟨oc_is_side, od_is_side, .func (PySem.W.fnOf "is_side" "is_side" (defArgs (top 25)) (defBody (top 25)) (defScope (top 25)) .none kV_is_side dc_is_side pm_is_side an_is_side cd_is_side ct_is_side), sl_is_side⟩) (c_is_side : PySem.W.codeIn K cd_is_side "is_side" = true) (k_is_side : PySem.W.keepIn K (.ref f_is_side) = true) 
    (a_need_watch : PySem.W.nsIn K mainGlobals "need_watch" = some (some (.ref f_need_watch))) (l_need_watch : K.lookup f_need_watch = some ⟨oc_need_watch, od_need_watch, .func (PySem.W.fnOf "need_watch" "need_watch" (defArgs (top 27)) (defBody (top 27)) (defScope (top 27)) .none kV_need_watch dc_need_watch pm_need_watch an_need_watch cd_need_watch ct_need_watch), sl_need_watch⟩) (c_need_watch : PySem.W.codeIn K cd_need_watch "need_watch" = true) (k_need_watch : PySem.W.keepIn K (.ref f_need_watch) = true) 
    (a_state_of : PySem.W.nsIn K mainGlobals "state_of" = some (some (.ref f_state_of))) (l_state_of : K.lookup f_state_of = some ⟨oc_state_of, od_state_of, .func (PySem.W.fnOf "state_of" "state_of" (defArgs (top 28)) (defBody (top 28)) (defScope (top 28)) .none kV_state_of dc_state_of pm_state_of an_state_of cd_state_of ct_state_of), sl_state_of⟩) (c_state_of : PySem.W.codeIn K cd_state_of "state_of" = true) (k_state_of : PySem.W.keepIn K (.ref f_state_of) = true) 
    (a_hushed : PySem.W.nsIn K mainGlobals "hushed" = some (some (.ref f_hushed))) (l_hushed : K.lookup f_hushed = some ⟨oc_hushed, od_hushed, .func (PySem.W.fnOf "hushed" "hushed" (defArgs (top 29)) (defBody (top 29)) (defScope (top 29)) .none kV_hushed dc_hushed pm_hushed an_hushed cd_hushed ct_hushed), sl_hushed⟩) (c_hushed : PySem.W.codeIn K cd_hushed "hushed" = true) (k_hushed : PySem.W.keepIn K (.ref f_hushed) = true) 
    (a_runs : PySem.W.nsIn K mainGlobals "runs" = some (some (.ref f_runs))) (l_runs : K.lookup f_runs = some ⟨oc_runs, od_runs, .func (PySem.W.fnOf "runs" "runs" (defArgs (top 30)) (defBody (top 30)) (defScope (top 30)) .none kV_runs dc_runs pm_runs an_runs cd_runs ct_runs), sl_runs⟩) (c_runs : PySem.W.codeIn K cd_runs "runs" = true) (k_runs : PySem.W.keepIn K (.ref f_runs) = true) 
    (a_law_bag : PySem.W.nsIn K mainGlobals "_law_bag" = some (some (.ref f_law_bag))) (l_law_bag : K.lookup f_law_bag = some ⟨oc_law_bag, od_law_bag, .func (PySem.W.fnOf "_law_bag" "_law_bag" (defArgs (top 32)) (defBody (top 32)) (defScope (top 32)) .none kV_law_bag dc_law_bag pm_law_bag an_law_bag cd_law_bag ct_law_bag), sl_law_bag⟩) (c_law_bag : PySem.W.codeIn K cd_law_bag "_law_bag" = true) (k_law_bag : PySem.W.keepIn K (.ref f_law_bag) = true) 
    (a_law_pull : PySem.W.nsIn K mainGlobals "_law_pull" = some (some (.ref f_law_pull))) (l_law_pull : K.lookup f_law_pull = some ⟨oc_law_pull, od_law_pull, .func (PySem.W.fnOf "_law_pull" "_law_pull" (defArgs (top 33)) (defBody (top 33)) (defScope (top 33)) .none kV_law_pull dc_law_pull pm_law_pull an_law_pull cd_law_pull ct_law_pull), sl_law_pull⟩) (c_law_pull : PySem.W.codeIn K cd_law_pull "_law_pull" = true) (k_law_pull : PySem.W.keepIn K (.ref f_law_pull) = true) 
    (a_law_one : PySem.W.nsIn K mainGlobals "_law_one" = some (some (.ref f_law_one))) (l_law_one : K.lookup f_law_one = some ⟨oc_law_one, od_law_one, .func (PySem.W.fnOf "_law_one" "_law_one" (defArgs (top 34)) (defBody (top 34)) (defScope (top 34)) .none kV_law_one dc_law_one pm_law_one an_law_one cd_law_one ct_law_one), sl_law_one⟩) (c_law_one : PySem.W.codeIn K cd_law_one "_law_one" = true) (k_law_one : PySem.W.keepIn K (.ref f_law_one) = true) 
    (a_law_letters : PySem.W.nsIn K mainGlobals "_law_letters" = some (some (.ref f_law_letters))) (l_law_letters : K.lookup f_law_letters = some ⟨oc_law_letters, od_law_letters, .func (PySem.W.fnOf "_law_letters" "_law_letters" (defArgs (top 35)) (defBody (top 35)) (defScope (top 35)) .none kV_law_letters dc_law_letters pm_law_letters an_law_letters cd_law_letters ct_law_letters), sl_law_letters⟩) (c_law_letters : PySem.W.codeIn K cd_law_letters "_law_letters" = true) (k_law_letters : PySem.W.keepIn K (.ref f_law_letters) = true) 
    (a_law_name : PySem.W.nsIn K mainGlobals "_law_name" = some (some (.ref f_law_name))) (l_law_name : K.lookup f_law_name = some ⟨oc_law_name, od_law_name, .func (PySem.W.fnOf "_law_name" "_law_name" (defArgs (top 36)) (defBody (top 36)) (defScope (top 36)) .none kV_law_name dc_law_name pm_law_name an_law_name cd_law_name ct_law_name), sl_law_name⟩) (c_law_name : PySem.W.codeIn K cd_law_name "_law_name" = true) (k_law_name : PySem.W.keepIn K (.ref f_law_name) = true) 
    (a_law_names : PySem.W.nsIn K mainGlobals "_law_names" = some (some (.ref f_law_names))) (l_law_names : K.lookup f_law_names = some ⟨oc_law_names, od_law_names, .func (PySem.W.fnOf "_law_names" "_law_names" (defArgs (top 37)) (defBody (top 37)) (defScope (top 37)) .none kV_law_names dc_law_names pm_law_names an_law_names cd_law_names ct_law_names), sl_law_names⟩) (c_law_names : PySem.W.codeIn K cd_law_names "_law_names" = true) (k_law_names : PySem.W.keepIn K (.ref f_law_names) = true) 
    (a_law_same : PySem.W.nsIn K mainGlobals "_law_same" = some (some (.ref f_law_same))) (l_law_same : K.lookup f_law_same = some ⟨oc_law_same, od_law_same, .func (PySem.W.fnOf "_law_same" "_law_same" (defArgs (top 38)) (defBody (top 38)) (defScope (top 38)) .none kV_law_same dc_law_same pm_law_same an_law_same cd_law_same ct_law_same), sl_law_same⟩) (c_law_same : PySem.W.codeIn K cd_law_same "_law_same" = true) (k_law_same : PySem.W.keepIn K (.ref f_law_same) = true) 
    (a_law_stretch : PySem.W.nsIn K mainGlobals "_law_stretch" = some (some (.ref f_law_stretch))) (l_law_stretch : K.lookup f_law_stretch = some ⟨oc_law_stretch, od_law_stretch, .func (PySem.W.fnOf "_law_stretch" "_law_stretch" (defArgs (top 39)) (defBody (top 39)) (defScope (top 39)) .none kV_law_stretch dc_law_stretch pm_law_stretch an_law_stretch cd_law_stretch ct_law_stretch), sl_law_stretch⟩) (c_law_stretch : PySem.W.codeIn K cd_law_stretch "_law_stretch" = true) (k_law_stretch : PySem.W.keepIn K (.ref f_law_stretch) = true) 
    (a_law_number_good : PySem.W.nsIn K mainGlobals "_law_number_good" = some (some (.ref f_law_number_good))) (l_law_number_good : K.lookup f_law_number_good = some ⟨oc_law_number_good, od_law_number_good, .func (PySem.W.fnOf "_law_number_good" "_law_number_good" (defArgs (top 40)) (defBody (top 40)) (defScope (top 40)) .none kV_law_number_good dc_law_number_good pm_law_number_good an_law_number_good cd_law_number_good ct_law_number_good), sl_law_number_good⟩) (c_law_number_good : PySem.W.codeIn K cd_law_number_good "_law_number_good" = true) (k_law_number_good : PySem.W.keepIn K (.ref f_law_number_good) = true) 
    (a_law_leaf : PySem.W.nsIn K mainGlobals "_law_leaf" = some (some (.ref f_law_leaf))) (l_law_leaf : K.lookup f_law_leaf = some ⟨oc_law_leaf, od_law_leaf, .func (PySem.W.fnOf "_law_leaf" "_law_leaf" (defArgs (top 41)) (defBody (top 41)) (defScope (top 41)) .none kV_law_leaf dc_law_leaf pm_law_leaf an_law_leaf cd_law_leaf ct_law_leaf), sl_law_leaf⟩) (c_law_leaf : PySem.W.codeIn K cd_law_leaf "_law_leaf" = true) (k_law_leaf : PySem.W.keepIn K (.ref f_law_leaf) = true) 
    (a_law_test_of : PySem.W.nsIn K mainGlobals "_law_test_of" = some (some (.ref f_law_test_of))) (l_law_test_of : K.lookup f_law_test_of = some ⟨oc_law_test_of, od_law_test_of, .func (PySem.W.fnOf "_law_test_of" "_law_test_of" (defArgs (top 42)) (defBody (top 42)) (defScope (top 42)) .none kV_law_test_of dc_law_test_of pm_law_test_of an_law_test_of cd_law_test_of ct_law_test_of), sl_law_test_of⟩) (c_law_test_of : PySem.W.codeIn K cd_law_test_of "_law_test_of" = true) (k_law_test_of : PySem.W.keepIn K (.ref f_law_test_of) = true) 
    (a_law_house_small : PySem.W.nsIn K mainGlobals "_law_house_small" = some (some (.ref f_law_house_small))) (l_law_house_small : K.lookup f_law_house_small = some ⟨oc_law_house_small, od_law_house_small, .func (PySem.W.fnOf "_law_house_small" "_law_house_small" (defArgs (top 43)) (defBody (top 43)) (defScope (top 43)) .none kV_law_house_small dc_law_house_small pm_law_house_small an_law_house_small cd_law_house_small ct_law_house_small), sl_law_house_small⟩) (c_law_house_small : PySem.W.codeIn K cd_law_house_small "_law_house_small" = true) (k_law_house_small : PySem.W.keepIn K (.ref f_law_house_small) = true) 
    (a_law_watch : PySem.W.nsIn K mainGlobals "_law_watch" = some (some (.ref f_law_watch))) (l_law_watch : K.lookup f_law_watch = some ⟨oc_law_watch, od_law_watch, .func (PySem.W.fnOf "_law_watch" "_law_watch" (defArgs (top 44)) (defBody (top 44)) (defScope (top 44)) .none kV_law_watch dc_law_watch pm_law_watch an_law_watch cd_law_watch ct_law_watch), sl_law_watch⟩) (c_law_watch : PySem.W.codeIn K cd_law_watch "_law_watch" = true) (k_law_watch : PySem.W.keepIn K (.ref f_law_watch) = true) 
    (a_law_watch_wrong : PySem.W.nsIn K mainGlobals "_law_watch_wrong" = some (some (.ref f_law_watch_wrong))) (l_law_watch_wrong : K.lookup f_law_watch_wrong = some ⟨oc_law_watch_wrong, od_law_watch_wrong, .func (PySem.W.fnOf "_law_watch_wrong" "_law_watch_wrong" (defArgs (top 45)) (defBody (top 45)) (defScope (top 45)) .none kV_law_watch_wrong dc_law_watch_wrong pm_law_watch_wrong an_law_watch_wrong cd_law_watch_wrong ct_law_watch_wrong), sl_law_watch_wrong⟩) (c_law_watch_wrong : PySem.W.codeIn K cd_law_watch_wrong "_law_watch_wrong" = true) (k_law_watch_wrong : PySem.W.keepIn K (.ref f_law_watch_wrong) = true) 
    (a_law_stretches_right : PySem.W.nsIn K mainGlobals "_law_stretches_right" = some (some (.ref f_law_stretches_right))) (l_law_stretches_right : K.lookup f_law_stretches_right = some ⟨oc_law_stretches_right, od_law_stretches_right, .func (PySem.W.fnOf "_law_stretches_right" "_law_stretches_right" (defArgs (top 46)) (defBody (top 46)) (defScope (top 46)) .none kV_law_stretches_right dc_law_stretches_right pm_law_stretches_right an_law_stretches_right cd_law_stretches_right ct_law_stretches_right), sl_law_stretches_right⟩) (c_law_stretches_right : PySem.W.codeIn K cd_law_stretches_right "_law_stretches_right" = true) (k_law_stretches_right : PySem.W.keepIn K (.ref f_law_stretches_right) = true) 
    (a_law : PySem.W.nsIn K mainGlobals "law" = some (some (.ref f_law))) (l_law : K.lookup f_law = some ⟨oc_law, od_law, .func (PySem.W.fnOf "law" "law" (defArgs (top 47)) (defBody (top 47)) (defScope (top 47)) .none kV_law dc_law pm_law an_law cd_law ct_law), sl_law⟩) (c_law : PySem.W.codeIn K cd_law "law" = true) (k_law : PySem.W.keepIn K (.ref f_law) = true) 
    (z_all : PySem.W.nsIn K mainGlobals "all" = some none)
    (z_any : PySem.W.nsIn K mainGlobals "any" = some none)
    (z_bool : PySem.W.nsIn K mainGlobals "bool" = some none)
    (z_enumerate : PySem.W.nsIn K mainGlobals "enumerate" = some none)
    (z_int : PySem.W.nsIn K mainGlobals "int" = some none)
    (z_isinstance : PySem.W.nsIn K mainGlobals "isinstance" = some none)
    (z_len : PySem.W.nsIn K mainGlobals "len" = some none)
    (z_list : PySem.W.nsIn K mainGlobals "list" = some none)
    (z_max : PySem.W.nsIn K mainGlobals "max" = some none)
    (z_range : PySem.W.nsIn K mainGlobals "range" = some none)
    (z_str : PySem.W.nsIn K mainGlobals "str" = some none)
    (z_tuple : PySem.W.nsIn K mainGlobals "tuple" = some none)
    (g_DEEP : PySem.W.nsIn K mainGlobals "DEEP" = some (some (.int 6 t_DEEP)))
    (g_FIELDS : PySem.W.nsIn K mainGlobals "FIELDS" = some (some (.ref T_FIELDS)))
    (h_FIELDS : K.lookup T_FIELDS = some ⟨.type "tuple", od_FIELDS, .seq #[.str "kind" t_FIELDS_0, .str "part" t_FIELDS_1, .str "machine" t_FIELDS_2] N_FIELDS, sl_FIELDS⟩)
    (g_LETTERS : PySem.W.nsIn K mainGlobals "LETTERS" = some (some (.str "abcdefghijklmnopqrstuvwxyz" t_LETTERS)))
    (g_LONG : PySem.W.nsIn K mainGlobals "LONG" = some (some (.int 8 t_LONG)))
    (g_LOOKS : PySem.W.nsIn K mainGlobals "LOOKS" = some (some (.ref T_LOOKS)))
    (h_LOOKS : K.lookup T_LOOKS = some ⟨.type "tuple", od_LOOKS, .seq #[.ref f_is_measure, .ref f_is_width, .ref f_is_test, .ref f_is_bound, .ref f_is_side] N_LOOKS, sl_LOOKS⟩)
    (g_MEASURES : PySem.W.nsIn K mainGlobals "MEASURES" = some (some (.ref T_MEASURES)))
    (h_MEASURES : K.lookup T_MEASURES = some ⟨.type "tuple", od_MEASURES, .seq #[.str "count" t_MEASURES_0, .str "sum" t_MEASURES_1] N_MEASURES, sl_MEASURES⟩)
    (g_MOST_BOUND : PySem.W.nsIn K mainGlobals "MOST_BOUND" = some (some (.int 100000 t_MOST_BOUND)))
    (g_MOST_PARTS : PySem.W.nsIn K mainGlobals "MOST_PARTS" = some (some (.int 15 t_MOST_PARTS)))
    (g_MOST_WIDTH : PySem.W.nsIn K mainGlobals "MOST_WIDTH" = some (some (.int 50 t_MOST_WIDTH)))
    (g_PAIRS : PySem.W.nsIn K mainGlobals "PAIRS" = some (some (.ref T_PAIRS)))
    (h_PAIRS : K.lookup T_PAIRS = some ⟨.type "tuple", od_PAIRS, .seq #[.str "or" t_PAIRS_0, .str "and" t_PAIRS_1] N_PAIRS, sl_PAIRS⟩)
    (aB_LoftError : PySem.W.nsIn K mainGlobals "LoftError" = some (some (.ref B_LoftError))) (rB_LoftError : PySem.W.readsIn K B_LoftError (.type "type") = true) (gB_LoftError : PySem.W.specialIn K (.ref B_LoftError) "__getattribute__" = some (some (.builtin "type.__getattribute__"))) (vB_LoftError : PySem.W.findCls K (.ref B_LoftError) (.type "type") "__init__" = some (.val (.ref fI_LoftError))) (kB_LoftError : PySem.W.keepIn K (.ref fI_LoftError) = true) (lI_LoftError : K.lookup fI_LoftError = some ⟨ocI_LoftError, odI_LoftError, .func (PySem.W.fnOf "__init__" "LoftError.__init__" (defArgs (iniOf (top 1))) (defBody (iniOf (top 1))) (defScope (iniOf (top 1))) .none kVI_LoftError dcI_LoftError pmI_LoftError anI_LoftError cdI_LoftError ctI_LoftError), slI_LoftError⟩) (cI_LoftError : PySem.W.codeIn K cdI_LoftError "LoftError.__init__" = true)
    (a_BadRule : PySem.W.nsIn K mainGlobals "BadRule" = some (some (.ref C_BadRule))) (o_BadRule : K.lookup C_BadRule = some (excClassObj nm_BadRule qq_BadRule C_BadRule NN_BadRule bs_BadRule bm_BadRule true sn_BadRule sub_BadRule ab_BadRule col_BadRule dd_BadRule k0_BadRule k1_BadRule k2_BadRule k3_BadRule k5_BadRule "ValueError.__new__")) (v_BadRule : PySem.HandSPX.refsVE bm_BadRule = true) (x1_BadRule : PySem.W.findIn K (.ref C_BadRule) "__setattr__" = some (some (.builtin "object.__setattr__"))) (x2_BadRule : PySem.W.subIn K (.ref C_BadRule) (.type "BaseException") = some true) (x3_BadRule : PySem.W.typeIn K (.ref C_BadRule) = some (.type "type")) (x4_BadRule : PySem.W.keepIn K (.ref C_BadRule) = true) (x5_BadRule : PySem.W.findIn K (.ref C_BadRule) "word" = some none) (x6_BadRule : PySem.W.findIn K (.ref C_BadRule) "__getattribute__" = some (some (.builtin "BaseException.__getattribute__"))) (x7_BadRule : PySem.W.findIn K (.ref C_BadRule) "__getattr__" = some none) (x8_BadRule : PySem.W.hasDictIn K C_BadRule = true) (x9_BadRule : PySem.W.subIn K (.ref C_BadRule) (.ref C_BadRule) = some true) (y1_BadRule : PySem.W.findIn K (.ref C_BadRule) "at" = some none) (y2_BadRule : PySem.W.findIn K (.ref C_BadRule) "__init__" = some (some (.ref fI_BadRule))) (y3_BadRule : PySem.W.typeIn K (.ref fI_BadRule) = some (.type "function")) (lI_BadRule : K.lookup fI_BadRule = some ⟨ocI_BadRule, odI_BadRule, .func (PySem.W.fnOf "__init__" "BadRule.__init__" (defArgs (iniOf (top 2))) (defBody (iniOf (top 2))) (defScope (iniOf (top 2))) .none kVI_BadRule dcI_BadRule pmI_BadRule anI_BadRule cdI_BadRule ctI_BadRule), slI_BadRule⟩) (cI_BadRule : PySem.W.codeIn K cdI_BadRule "BadRule.__init__" = true) : ModOk w K ⟨mg, P, w, T⟩ tab blF glF xtF := by
  refine ⟨?_, ?_, ?_, ?_, ?_, ?_, ?_, ?_, ?_⟩
  · intro e he
    unfold tab at he
    simp only [List.mem_cons, List.not_mem_nil, or_false] at he
    rcases he with rfl | rfl | rfl | rfl | rfl | rfl | rfl | rfl | rfl | rfl | rfl | rfl | rfl | rfl | rfl | rfl | rfl | rfl | rfl | rfl | rfl | rfl | rfl | rfl | rfl | rfl | rfl | rfl | rfl | rfl
    · exact e_is_name X G a_is_name l_is_name c_is_name k_is_name
    · exact e_is_leaf X G a_is_leaf l_is_leaf c_is_leaf k_is_leaf
    · exact e_inner_of X G a_inner_of l_inner_of c_inner_of k_inner_of
    · exact e_sizes X G a_sizes l_sizes c_sizes k_sizes
    · exact e_is_between X G a_is_between l_is_between c_is_between k_is_between
    · exact e_is_measure X G a_is_measure l_is_measure c_is_measure k_is_measure
    · exact e_is_width X G a_is_width l_is_width c_is_width k_is_width
    · exact e_is_test X G a_is_test l_is_test c_is_test k_is_test
    · exact e_is_bound X G a_is_bound l_is_bound c_is_bound k_is_bound
    · exact e_is_side X G a_is_side l_is_side c_is_side k_is_side
    · exact e_need_watch X G a_need_watch l_need_watch c_need_watch k_need_watch
    · exact e_state_of X G a_state_of l_state_of c_state_of k_state_of
    · exact e_hushed X G a_hushed l_hushed c_hushed k_hushed
    · exact e_runs X G a_runs l_runs c_runs k_runs
    · exact e_law_bag X G a_law_bag l_law_bag c_law_bag k_law_bag
    · exact e_law_pull X G a_law_pull l_law_pull c_law_pull k_law_pull
    · exact e_law_one X G a_law_one l_law_one c_law_one k_law_one
    · exact e_law_letters X G a_law_letters l_law_letters c_law_letters k_law_letters
    · exact e_law_name X G a_law_name l_law_name c_law_name k_law_name
    · exact e_law_names X G a_law_names l_law_names c_law_names k_law_names
    · exact e_law_same X G a_law_same l_law_same c_law_same k_law_same
    · exact e_law_stretch X G a_law_stretch l_law_stretch c_law_stretch k_law_stretch
    · exact e_law_number_good X G a_law_number_good l_law_number_good c_law_number_good k_law_number_good
    · exact e_law_leaf X G a_law_leaf l_law_leaf c_law_leaf k_law_leaf
    · exact e_law_test_of X G a_law_test_of l_law_test_of c_law_test_of k_law_test_of
    · exact e_law_house_small X G a_law_house_small l_law_house_small c_law_house_small k_law_house_small
    · exact e_law_watch X G a_law_watch l_law_watch c_law_watch k_law_watch
    · exact e_law_watch_wrong X G a_law_watch_wrong l_law_watch_wrong c_law_watch_wrong k_law_watch_wrong
    · exact e_law_stretches_right X G a_law_stretches_right l_law_stretches_right c_law_stretches_right k_law_stretches_right
    · exact e_law X G a_law l_law c_law k_law
  · intro x hx
    unfold blF blts at hx
    simp only [List.any_cons, List.any_nil, Bool.or_false, Bool.or_eq_true, decide_eq_true_eq] at hx
    rcases hx with rfl | rfl | rfl | rfl | rfl | rfl | rfl | rfl | rfl | rfl | rfl | rfl
    · exact PySem.W.mg_none_of X G z_all
    · exact PySem.W.mg_none_of X G z_any
    · exact PySem.W.mg_none_of X G z_bool
    · exact PySem.W.mg_none_of X G z_enumerate
    · exact PySem.W.mg_none_of X G z_int
    · exact PySem.W.mg_none_of X G z_isinstance
    · exact PySem.W.mg_none_of X G z_len
    · exact PySem.W.mg_none_of X G z_list
    · exact PySem.W.mg_none_of X G z_max
    · exact PySem.W.mg_none_of X G z_range
    · exact PySem.W.mg_none_of X G z_str
    · exact PySem.W.mg_none_of X G z_tuple
  · intro x d hd hnd
    obtain ⟨q, hq, rfl, h2⟩ := gl_mem hd
    simp only [glL, List.mem_cons, List.not_mem_nil, or_false] at hq
    rcases hq with rfl | rfl | rfl | rfl | rfl | rfl | rfl | rfl | rfl | rfl
    · subst h2; exact ⟨.int 6, _, PySem.W.mg_of X G g_DEEP, ⟨_, rfl⟩, fun F => .int _⟩
    · subst h2; exact ⟨.ref T_FIELDS, _, PySem.W.mg_of X G g_FIELDS, rfl, fun F => .tup (vs := [.str "kind", .str "part", .str "machine"]) (.inr ⟨_, _, _, h_FIELDS, rfl, rfl, by show 3 ≤ 16777216; decide, (.cons ⟨_, rfl⟩ (.cons ⟨_, rfl⟩ (.cons ⟨_, rfl⟩ .nil)))⟩) (.cons (.str _) (.cons (.str _) (.cons (.str _) .nil)))⟩
    · subst h2; exact ⟨.str "abcdefghijklmnopqrstuvwxyz", _, PySem.W.mg_of X G g_LETTERS, ⟨_, rfl⟩, fun F => .str _⟩
    · subst h2; exact ⟨.int 8, _, PySem.W.mg_of X G g_LONG, ⟨_, rfl⟩, fun F => .int _⟩
    · subst h2; exact ⟨.ref T_LOOKS, _, PySem.W.mg_of X G g_LOOKS, rfl, fun F => .tup (vs := [.ref f_is_measure, .ref f_is_width, .ref f_is_test, .ref f_is_bound, .ref f_is_side]) (.inr ⟨_, _, _, h_LOOKS, rfl, rfl, by show 5 ≤ 16777216; decide, (.cons rfl (.cons rfl (.cons rfl (.cons rfl (.cons rfl .nil)))))⟩) (.cons (.fn (PySem.W.mg_of X G a_is_measure)) (.cons (.fn (PySem.W.mg_of X G a_is_width)) (.cons (.fn (PySem.W.mg_of X G a_is_test)) (.cons (.fn (PySem.W.mg_of X G a_is_bound)) (.cons (.fn (PySem.W.mg_of X G a_is_side)) .nil)))))⟩
    · subst h2; exact ⟨.ref T_MEASURES, _, PySem.W.mg_of X G g_MEASURES, rfl, fun F => .tup (vs := [.str "count", .str "sum"]) (.inr ⟨_, _, _, h_MEASURES, rfl, rfl, by show 2 ≤ 16777216; decide, (.cons ⟨_, rfl⟩ (.cons ⟨_, rfl⟩ .nil))⟩) (.cons (.str _) (.cons (.str _) .nil))⟩
    · subst h2; exact ⟨.int 100000, _, PySem.W.mg_of X G g_MOST_BOUND, ⟨_, rfl⟩, fun F => .int _⟩
    · subst h2; exact ⟨.int 15, _, PySem.W.mg_of X G g_MOST_PARTS, ⟨_, rfl⟩, fun F => .int _⟩
    · subst h2; exact ⟨.int 50, _, PySem.W.mg_of X G g_MOST_WIDTH, ⟨_, rfl⟩, fun F => .int _⟩
    · subst h2; exact ⟨.ref T_PAIRS, _, PySem.W.mg_of X G g_PAIRS, rfl, fun F => .tup (vs := [.str "or", .str "and"]) (.inr ⟨_, _, _, h_PAIRS, rfl, rfl, by show 2 ≤ 16777216; decide, (.cons ⟨_, rfl⟩ (.cons ⟨_, rfl⟩ .nil))⟩) (.cons (.str _) (.cons (.str _) .nil))⟩
  · intro x ks xs hd
    obtain ⟨q, hq, rfl, h2⟩ := gl_mem hd
    simp only [glL, List.mem_cons, List.not_mem_nil, or_false] at hq
    rcases hq with rfl | rfl | rfl | rfl | rfl | rfl | rfl | rfl | rfl | rfl
    · cases h2
    · cases h2
    · cases h2
    · cases h2
    · cases h2
    · cases h2
    · cases h2
    · cases h2
    · cases h2
    · cases h2
  · intro x ks xs hd
    obtain ⟨q, hq, rfl, h2⟩ := gl_mem hd
    simp only [glL, List.mem_cons, List.not_mem_nil, or_false] at hq
    rcases hq with rfl | rfl | rfl | rfl | rfl | rfl | rfl | rfl | rfl | rfl
    · cases h2
    · cases h2
    · cases h2
    · cases h2
    · cases h2
    · cases h2
    · cases h2
    · cases h2
    · cases h2
    · cases h2
  · intro P1 base c wd fn hx
    change xcF c = _ at hx
    unfold xcF at hx
    split at hx
    · rename_i hc; subst hc; cases hx
      exact xfacts (sC := iniOf (top 2)) (sB := iniOf (top 1)) (bn := "LoftError") (qC := "BadRule.__init__") (qB := "LoftError.__init__") (PySem.W.mg_of X G a_BadRule) ⟨⟨_, _, _, _, _, _, _, _, _, _, _, _, _, _, _, o_BadRule, v_BadRule⟩, x1_BadRule, x2_BadRule, x3_BadRule, x4_BadRule, x5_BadRule, x6_BadRule, x7_BadRule, x8_BadRule, x9_BadRule⟩ y1_BadRule y2_BadRule y3_BadRule ⟨_, _, _, _, _, _, _, _, _, lI_BadRule, cI_BadRule⟩ ⟨rB_LoftError, gB_LoftError, vB_LoftError, kB_LoftError, ⟨_, _, _, _, _, _, _, _, _, lI_LoftError, cI_LoftError⟩, PySem.W.mg_of X G aB_LoftError⟩ (fun _ _ _ _ _ _ us hl => match us, hl with | [_, _], _ => rfl) (fun _ _ _ _ _ _ us hl => match us, hl with | [_, _], _ => rfl) ⟨rfl, rfl, rfl, by decide +kernel, rfl, by decide +kernel, by decide +kernel⟩ ⟨rfl, rfl, rfl, by decide +kernel, rfl, by decide +kernel, by decide +kernel⟩ rfl rfl rfl rfl rfl rfl rfl rfl rfl rfl (fun env => ⟨_, rfl⟩)
    cases hx
  · intro q hq
    change q ∈ fvs at hq
    simp only [fvs, List.mem_cons, List.not_mem_nil, or_false] at hq
    rcases hq with rfl | rfl | rfl | rfl | rfl <;> rfl
  · intro q hq
    cases hq
  · intro x hx
    cases hx
end
/-! ### tests -/
inductive Tst where
  | any | leaf (f : Fin 3) (s : Str) | not (t : Tst) | two (o : Bool) (a b : Tst)
def fldW : Fin 3 → Str
  | 0 => "kind"
  | 1 => "part"
  | 2 => "machine"
def Tst.d : Tst → D
  | .any => .tup [.str "any"]
  | .leaf f s => .tup [.str (fldW f), .str s]
  | .not t => .tup [.str "not", t.d]
  | .two o a b => .tup [.str (if o then "or" else "and"), a.d, b.d]
def Tst.dp : Tst → Nat
  | .any => 1
  | .leaf _ _ => 1
  | .not t => t.dp + 1
  | .two _ a b => max a.dp b.dp + 1
def Tst.ok (ss : List Str) : Tst → Prop
  | .any => True
  | .leaf _ s => NmOk s ∧ s ∈ ss
  | .not t => t.ok ss
  | .two _ a b => a.ok ss ∧ b.ok ss
def Tst.parts : Tst → List Str
  | .any => []
  | .leaf f s => if f = 1 then [s] else []
  | .not t => t.parts
  | .two _ a b => a.parts ++ b.parts
theorem Tst.dp_pos : ∀ t : Tst, 1 ≤ t.dp
  | .any => Nat.le_refl _
  | .leaf _ _ => Nat.le_refl _
  | .not t => by simp [Tst.dp]
  | .two _ a b => by simp [Tst.dp]
theorem Tst.parts_ok {ss : List Str} : ∀ {t : Tst}, t.ok ss → ∀ s ∈ t.parts, s ∈ ss
  | .any, _, s, h => by simp [Tst.parts] at h
  | .leaf f s', hk, s, h => by
    unfold Tst.parts at h
    split at h
    · simp at h; subst h; exact hk.2
    · simp at h
  | .not t, hk, s, h => parts_ok (t := t) hk s h
  | .two _ a b, hk, s, h => by
    rcases List.mem_append.mp h with h | h
    · exact parts_ok hk.1 s h
    · exact parts_ok hk.2 s h
theorem Tst.parts_len : ∀ (n : Nat) {t : Tst}, t.dp ≤ n + 1 → t.parts.length ≤ 2 ^ n
  | n, .any, _ => by simp [Tst.parts]
  | n, .leaf f s, _ => by
    have := Nat.one_le_two_pow (n := n)
    unfold Tst.parts
    split <;> simp <;> omega
  | 0, .not t, h => by have := t.dp_pos; simp [Tst.dp] at h; omega
  | n + 1, .not t, h => by
    have := parts_len n (t := t) (by simp [Tst.dp] at h; omega)
    rw [Nat.pow_succ]
    show t.parts.length ≤ _
    omega
  | 0, .two _ a b, h => by have := a.dp_pos; simp [Tst.dp] at h; omega
  | n + 1, .two _ a b, h => by
    have h1 := parts_len n (t := a) (by simp [Tst.dp] at h; omega)
    have h2 := parts_len n (t := b) (by simp [Tst.dp] at h; omega)
    rw [Nat.pow_succ]
    show (a.parts ++ b.parts).length ≤ _
    rw [List.length_append]
    omega
/-! is_true -/
theorem fld_ne (f : Fin 3) : (fldW f = "any") = False ∧ (fldW f = "not") = False ∧ (fldW f = "and") = False ∧ (fldW f = "or") = False := by
  revert f
  rintro ⟨_ | _ | _ | n, hf⟩
  · refine ⟨?_, ?_, ?_, ?_⟩ <;> exact ne_lit rfl
  · refine ⟨?_, ?_, ?_, ?_⟩ <;> exact ne_lit rfl
  · refine ⟨?_, ?_, ?_, ?_⟩ <;> exact ne_lit rfl
  · omega
abbrev fieldsD : List D := [.str "kind", .str "part", .str "machine"]
/-! the law's own -/
/-! names -/
abbrev abc : Str := "abcdefghijklmnopqrstuvwxyz"
def goodB (s : Str) : Bool := decide (1 ≤ (s.length : Int)) && decide ((s.length : Int) ≤ 8) && s.cps.toList.all fun c => inS ⟨#[c]⟩ abc
def GoodS (F : List C → FOut) : Prop := ∀ s : Str, s.length ≤ 16777216 → F [.val (.str s)] = .ok (.val (.bl (goodB s))) [some (.val (.str s))]
theorem is_name_ok {p : Pg} (h1 : p.G "LETTERS" = some (.str abc)) (h2 : p.G "LONG" = some (.int 8)) : GoodS (runDef p d_is_name) := by
  intro s hs
  refine FOut.wp_eq (wp_def rfl ?_)
  show (s_is_name p [some (.val (.str s)), none]).wp _ _
  unfold s_is_name
  have hc : compL [1] (gName 1) tTrue (eCmp .mem (eVar 1) (eGlob "LETTERS")) p (s.cps.toList.map fun c => D.str ⟨#[c]⟩) [] [some (.val (.str s)), none] = .ok (s.cps.toList.map fun c => D.bl (inS ⟨#[c]⟩ abc)) [some (.val (.str s)), none] := by
    have := comp_in (p := p) (s := s) (w := abc) (e := eCmp .mem (eVar 1) (eGlob "LETTERS")) (fun c => by simp -implicitDefEqProofs [h1]) hs
    exact this
  have ha := all_map (fun c => inS ⟨#[c]⟩ abc) s.cps.toList
  unfold goodB
  by_cases g1 : 1 ≤ (s.length : Int)
  · by_cases g2 : (s.length : Int) ≤ 8
    · simp -implicitDefEqProofs [h2, len_s hs, g1, g2, itD_s, sgns, hc, ha]
    · simp -implicitDefEqProofs [h2, len_s hs, g1, g2]
  · simp -implicitDefEqProofs [h2, len_s hs, g1]
theorem nm_good {s : Str} (h : NmOk s) : goodB s = true := by
  obtain ⟨h1, h2, h3⟩ := h
  unfold goodB
  simp only [Bool.and_eq_true, decide_eq_true_eq, List.all_eq_true]
  refine ⟨⟨by omega, by omega⟩, fun c hc => ltr_in (h3 c hc)⟩
/-! inner tests -/
def Tst.inn : Tst → List D
  | .not t => [t.d]
  | .two _ a b => [a.d, b.d]
  | _ => []
def InnS (F : List C → FOut) : Prop := ∀ (ss : List Str) (t : Tst), t.ok ss → F [.val t.d] = .ok (.ls t.inn) [some (.val t.d)]
def LeafS (F : List C → FOut) : Prop := ∀ (ss : List Str) (t : Tst), t.ok ss → F [.val t.d] = .ok (.val (.bl (match t with | .any => true | .leaf _ _ => true | _ => false))) [some (.val t.d)]
theorem fld_shp (n : Nat) (f : Fin 3) : Shp n (.str (fldW f)) := by
  revert f
  rintro ⟨_ | _ | _ | k, hf⟩
  · exact .str n (lit_lt "kind" (by decide +kernel))
  · exact .str n (lit_lt "part" (by decide +kernel))
  · exact .str n (lit_lt "machine" (by decide +kernel))
  · omega
theorem any_shp : Shp 1 (.tup [.str "any"]) := .tup (n := 0) fun d hd => by
  simp at hd
  subst hd
  exact .str 0 (lit_lt "any" (by decide +kernel))
theorem Tst.shp {ss : List Str} : ∀ {t : Tst}, t.ok ss → Shp t.dp t.d
  | .any, _ => any_shp
  | .leaf f s, h => .tup (n := 0) fun d hd => by
    simp at hd
    rcases hd with rfl | rfl
    · exact fld_shp 0 f
    · exact h.1.shp 0
  | .not t, h => .tup fun d hd => by
    simp at hd
    rcases hd with rfl | rfl
    · exact .str _ (lit_lt "not" (by decide +kernel))
    · exact Tst.shp (t := t) h
  | .two o a b, h => .tup fun d hd => by
    simp at hd
    rcases hd with rfl | rfl | rfl
    · cases o
      · exact .str _ (lit_lt "and" (by decide +kernel))
      · exact .str _ (lit_lt "or" (by decide +kernel))
    · exact (Tst.shp h.1).mono (Nat.le_max_left ..)
    · exact (Tst.shp h.2).mono (Nat.le_max_right ..)
theorem mem_fields (w : Str) : cmpD .mem (.str w) (.tup fieldsD) = some (.val (.bl (decide (w ∈ (["kind", "part", "machine"] : List Str))))) := mem_strsT w ["kind", "part", "machine"]
theorem mem_pairs (w : Str) : cmpD .mem (.str w) (.tup [.str "or", .str "and"]) = some (.val (.bl (decide (w ∈ (["or", "and"] : List Str))))) := mem_strsT w ["or", "and"]
def Tst.isLeaf : Tst → Bool
  | .any => true
  | .leaf _ _ => true
  | _ => false
theorem fld_in (f : Fin 3) : fldW f = "kind" ∨ fldW f = "part" ∨ fldW f = "machine" := by
  revert f
  rintro ⟨_ | _ | _ | k, hf⟩
  · exact .inl rfl
  · exact .inr (.inl rfl)
  · exact .inr (.inr rfl)
  · omega
theorem leaf_ok {p : Pg} (hG : p.G "FIELDS" = some (.tup fieldsD)) (hn : GoodS (p.F "is_name")) {ss : List Str} {t : Tst} (ht : t.ok ss) (hd : t.dp ≤ 60) : runDef p d_is_leaf [.val t.d] = .ok (.val (.bl t.isLeaf)) [some (.val t.d)] := by
  refine FOut.wp_eq (wp_def rfl ?_)
  show (s_is_leaf p [some (.val t.d)]).wp _ _
  unfold s_is_leaf
  have hs := Tst.shp ht
  cases t with
  | any =>
    have e := hs.teq any_shp (by omega) (by omega)
    simp -implicitDefEqProofs [Tst.d, Tst.isLeaf, szS, e]
  | leaf f s =>
    have e := hs.teq any_shp (by omega) (by omega)
    obtain ⟨h1, h2, h3, h4⟩ := fld_ne f
    have hg := hn s (by have := ht.1.2.1; omega)
    have hf := fld_in f
    simp -implicitDefEqProofs [Tst.d, Tst.isLeaf, szS, e, h1, hG, mem_fields, hf, hg, nm_good ht.1]
  | not t =>
    have e := hs.teq any_shp (by omega) (by omega)
    simp -implicitDefEqProofs [Tst.d, Tst.isLeaf, szS, e, hG, mem_fields]
  | two o a b =>
    cases o
    · have e : cmpD .eq (.tup [.str "and", a.d, b.d]) (.tup [.str "any"]) = _ := hs.teq any_shp (by omega) (by omega)
      simp -implicitDefEqProofs [Tst.d, Tst.isLeaf, szS, e, hG, mem_fields]
    · have e : cmpD .eq (.tup [.str "or", a.d, b.d]) (.tup [.str "any"]) = _ := hs.teq any_shp (by omega) (by omega)
      simp -implicitDefEqProofs [Tst.d, Tst.isLeaf, szS, e, hG, mem_fields]
theorem cut1 (a : D) (xs : List D) : cutD (.tup (a :: xs)) (some 1) none = some (.val (.tup xs)) := by
  show some (C.val (.tup (cutL (a :: xs) (some 1) none))) = _
  unfold cutL
  have h1 : HT.sIx (a :: xs).length 0 (some 1) = 1 := by
    unfold HT.sIx
    simp
  have h2 : HT.sIx (a :: xs).length (a :: xs).length none = xs.length + 1 := by
    unfold HT.sIx
    simp
  rw [h1, h2]
  simp
theorem inner_ok {p : Pg} (hG : p.G "PAIRS" = some (.tup [.str "or", .str "and"])) (hn : ∀ {ss : List Str} {t : Tst}, t.ok ss → t.dp ≤ 60 → p.F "is_leaf" [.val t.d] = .ok (.val (.bl t.isLeaf)) [some (.val t.d)]) {ss : List Str} {t : Tst} (ht : t.ok ss) (hd : t.dp ≤ 60) : runDef p d_inner_of [.val t.d] = .ok (.ls t.inn) [some (.val t.d)] := by
  refine FOut.wp_eq (wp_def rfl ?_)
  show (s_inner_of p [some (.val t.d)]).wp _ _
  unfold s_inner_of
  have hl := hn ht hd
  cases t with
  | any =>
    simp only [Tst.d, Tst.isLeaf] at hl
    simp -implicitDefEqProofs [Tst.d, Tst.isLeaf, Tst.inn, szS, hl]
  | leaf f s =>
    simp only [Tst.d, Tst.isLeaf] at hl
    simp -implicitDefEqProofs [Tst.d, Tst.isLeaf, Tst.inn, szS, hl]
  | not t =>
    simp only [Tst.d, Tst.isLeaf] at hl
    simp -implicitDefEqProofs [Tst.d, Tst.isLeaf, Tst.inn, szS, hl, cut1, listD, listS]
  | two o a b =>
    cases o <;> simp [Tst.d, Tst.isLeaf] at hl <;> simp -implicitDefEqProofs [Tst.d, Tst.isLeaf, Tst.inn, szS, hl, hG, mem_pairs, cut1, listD, listS]
/-! the law's helpers -/
def houseD (a b c d e : Str) : D := .dct ["names", "kinds", "machines"] [.lst (strsD [a, b, c, d, e]), .tup [.tup [.str a, .int 5, .bl false], .tup [.str b, .int 7, .bl true]], .lst [.tup [.str c, .int 0, .int 0, .int 0]]]
theorem hs_names (a b c d e : Str) : ixD (houseD a b c d e) (.str "names") = some (.val (.lst (strsD [a, b, c, d, e]))) := rfl
theorem hs_kinds (a b c d e : Str) : ixD (houseD a b c d e) (.str "kinds") = some (.val (.tup [.tup [.str a, .int 5, .bl false], .tup [.str b, .int 7, .bl true]])) := rfl
theorem hs_machs (a b c d e : Str) : ixD (houseD a b c d e) (.str "machines") = some (.val (.lst [.tup [.str c, .int 0, .int 0, .int 0]])) := rfl
/-! drawing -/
def LeafW (F : List C → FOut) : Prop := ∀ (xs : List D) (a b c d e : Str) (Q : C → Env → Prop) (X : XP), BagL xs → (∀ s ∈ [a, b, c, d, e], NmOk s) →
  (∀ (t : Tst) (ys : List D), t.ok [a, b, c, d, e] → t.dp ≤ 1 → BagL ys → Q (.val t.d) [some (.ls ys), some (.val (houseD a b c d e))]) → (F [.ls xs, .val (houseD a b c d e)]).wp Q X
theorem lleaf_ok {p : Pg} (hp : PullW (p.F "_law_pull")) (ho : OneS (p.F "_law_one")) : LeafW (runDef p d_law_leaf) := by
  intro xs a b c d e Q X hb hn hq
  refine wp_def rfl ?_
  show (s_law_leaf p [some (.ls xs), some (.val (houseD a b c d e)), none, none, none]).wp _ _
  unfold s_law_leaf
  simp -implicitDefEqProofs
  refine hp _ _ _ _ hb (by decide) (by decide) fun k ys h0 h1 hy => ?_
  simp -implicitDefEqProofs [hs_machs]
  refine compM_wp (f := fun _ => .str c) (by show _ ≤ 16777216; simp) ?_ ?_
  · intro z hz
    simp at hz
    subst hz
    simp -implicitDefEqProofs
  simp -implicitDefEqProofs
  split
  · exact hq .any ys trivial (by decide) hy
  split
  · simp -implicitDefEqProofs [hs_names]
    refine ho.w hy (.inl rfl) (by simp [strsD]) (by simp [strsD]) fun x bs hx hbs => ?_
    obtain ⟨s, hs, rfl⟩ := List.mem_map.mp hx
    simp -implicitDefEqProofs [szS]
    exact hq (.leaf 1 s) bs ⟨hn s hs, hs⟩ (Nat.le_refl _) hbs
  split
  · simp -implicitDefEqProofs [hs_kinds]
    refine ho.w hy (.inr rfl) (by simp) (by simp) fun x bs hx hbs => ?_
    simp at hx
    rcases hx with rfl | rfl
    · simp -implicitDefEqProofs [szS]
      exact hq (.leaf 0 a) bs ⟨hn a (by simp), by simp⟩ (Nat.le_refl _) hbs
    · simp -implicitDefEqProofs [szS]
      exact hq (.leaf 0 b) bs ⟨hn b (by simp), by simp⟩ (Nat.le_refl _) hbs
  · have z : binD .add (.lst [.str c]) (.lst [.str a]) = some (.ls (strsD [c, a])) := rfl
    have z2 : cutD (.lst (strsD [a, b, c, d, e])) none (some 1) = some (.ls [.str a]) := rfl
    simp -implicitDefEqProofs [hs_names, z, z2]
    refine ho.w hy (.inl rfl) (by simp [strsD]) (by simp [strsD]) fun x bs hx hbs => ?_
    obtain ⟨s, hs, rfl⟩ := List.mem_map.mp hx
    have hs' : s ∈ [a, b, c, d, e] := by simp at hs; rcases hs with rfl | rfl <;> simp
    simp -implicitDefEqProofs [szS]
    exact hq (.leaf 2 s) bs ⟨hn s hs', hs'⟩ (Nat.le_refl _) hbs
def TestW (n : Nat) (F : List C → FOut) : Prop := ∀ (xs : List D) (a b c d e : Str) (Q : C → Env → Prop) (X : XP), BagL xs → (∀ s ∈ [a, b, c, d, e], NmOk s) →
  (∀ (t : Tst) (ys : List D), t.ok [a, b, c, d, e] → t.dp ≤ n + 1 → BagL ys → Q (.val t.d) [some (.ls ys), some (.val (houseD a b c d e)), some (.val (.int (n + 1)))]) → (F [.ls xs, .val (houseD a b c d e), .val (.int (n + 1))]).wp Q X
theorem ltest_ok {p : Pg} {n : Nat} (hp : PullW (p.F "_law_pull")) (hl : LeafW (p.F "_law_leaf")) (ih : ∀ m, n = m + 1 → TestW m (p.F "_law_test_of")) : TestW n (runDef p d_law_test_of) := by
  intro xs a b c d e Q X hb hn hq
  refine wp_def rfl ?_
  show (s_law_test_of p [some (.ls xs), some (.val (houseD a b c d e)), some (.val (.int (n + 1))), none, none]).wp _ _
  unfold s_law_test_of
  simp -implicitDefEqProofs
  refine hp _ _ _ _ hb (by decide) (by decide) fun k ys h0 h1 hy => ?_
  cases n with
  | zero =>
    simp -implicitDefEqProofs
    refine hl _ _ _ _ _ _ _ _ hy hn fun t zs ht hd hz => ?_
    simp -implicitDefEqProofs
    exact hq t zs ht hd hz
  | succ n =>
    have n2 : ¬ ((n : Int) + 1 + 1 < 2) := by omega
    have n3 : ((n : Int) + 1 + 1 - 1) = n + 1 := by omega
    simp -implicitDefEqProofs [n2]
    split
    · refine hl _ _ _ _ _ _ _ _ hy hn fun t zs ht hd hz => ?_
      simp -implicitDefEqProofs
      exact hq t zs ht (by omega) hz
    split
    · refine ih n rfl _ _ _ _ _ _ _ _ hy hn fun t zs ht hd hz => ?_
      simp -implicitDefEqProofs [szS]
      exact hq (.not t) zs ht (by simp [Tst.dp]; omega) hz
    · refine ih n rfl _ _ _ _ _ _ _ _ hy hn fun t zs ht hd hz => ?_
      have hm : binD .mod (.int k) (.int 2) = some (.val (.int (k % 2))) := bin_mod (by decide)
      have hk : k % 2 = 0 ∨ k % 2 = 1 := by omega
      rcases hk with hk | hk
      · simp -implicitDefEqProofs [hm, hk, n3, szS]
        refine ih n rfl _ _ _ _ _ _ _ _ hz hn fun t' ws ht' hd' hw => ?_
        simp -implicitDefEqProofs [szS]
        exact hq (.two false t t') ws ⟨ht, ht'⟩ (by simp [Tst.dp]; omega) hw
      · simp -implicitDefEqProofs [hm, hk, n3, szS]
        refine ih n rfl _ _ _ _ _ _ _ _ hz hn fun t' ws ht' hd' hw => ?_
        simp -implicitDefEqProofs [szS]
        exact hq (.two true t t') ws ⟨ht, ht'⟩ (by simp [Tst.dp]; omega) hw
def HouseW (F : List C → FOut) : Prop := ∀ (xs : List D) (Q : C → Env → Prop) (X : XP), BagL xs → (∀ (a b c d e : Str) (ys : List D), (∀ s ∈ [a, b, c, d, e], NmOk s) → BagL ys → Q (.val (houseD a b c d e)) [some (.ls ys)]) → (F [.ls xs]).wp Q X
theorem house_ok {p : Pg} (hN : NamesS (p.F "_law_names")) : HouseW (runDef p d_law_house_small) := by
  intro xs Q X hb hq
  refine wp_def rfl ?_
  show (s_law_house_small p [some (.ls xs), none]).wp _ _
  unfold s_law_house_small
  simp -implicitDefEqProofs
  refine hN.w hb (by decide) (by decide) fun ss bs hl hs hbs => ?_
  match ss, hl, hs with
  | [a, b, c, d, e], _, hs =>
    have z : dkOk ["names", "kinds", "machines"] 3 = true := rfl
    simp -implicitDefEqProofs [strsD, szS, z]
    exact hq a b c d e bs hs hbs
/-! ### sizes -/
def Tst.sz : Tst → Nat
  | .any => 1
  | .leaf _ _ => 1
  | .not t => t.sz + 1
  | .two _ a b => a.sz + b.sz + 1
def Tst.kids : Tst → List Tst
  | .any => []
  | .leaf _ _ => []
  | .not t => [t]
  | .two _ a b => [a, b]
theorem Tst.inn_eq : ∀ t : Tst, t.inn = t.kids.map Tst.d
  | .any => rfl
  | .leaf _ _ => rfl
  | .not _ => rfl
  | .two _ _ _ => rfl
theorem Tst.kids_ok {ss : List Str} : ∀ {t : Tst}, t.ok ss → ∀ u ∈ t.kids, u.ok ss ∧ u.dp + 1 ≤ t.dp
  | .any, _, u, h => by simp [Tst.kids] at h
  | .leaf _ _, _, u, h => by simp [Tst.kids] at h
  | .not t, hk, u, h => by simp [Tst.kids] at h; subst h; exact ⟨hk, by simp [Tst.dp]⟩
  | .two _ a b, hk, u, h => by
    simp [Tst.kids] at h
    rcases h with rfl | rfl
    · exact ⟨hk.1, by simp [Tst.dp]; omega⟩
    · exact ⟨hk.2, by simp [Tst.dp]; omega⟩
theorem Tst.sz_kids : ∀ t : Tst, (t.kids.map Tst.sz).sum + 1 = t.sz
  | .any => rfl
  | .leaf _ _ => rfl
  | .not t => by simp [Tst.kids, Tst.sz]
  | .two _ a b => by simp [Tst.kids, Tst.sz]
theorem Tst.sz_le : ∀ (n : Nat) {t : Tst}, t.dp ≤ n → t.sz + 1 ≤ 2 ^ n
  | 0, t, h => by have := t.dp_pos; omega
  | n + 1, .any, _ => by have := Nat.one_le_two_pow (n := n); rw [Nat.pow_succ]; simp [Tst.sz]; omega
  | n + 1, .leaf _ _, _ => by have := Nat.one_le_two_pow (n := n); rw [Nat.pow_succ]; simp [Tst.sz]; omega
  | n + 1, .not t, h => by
    have := sz_le n (t := t) (by simp [Tst.dp] at h; omega)
    have := Nat.one_le_two_pow (n := n)
    rw [Nat.pow_succ]; simp [Tst.sz]; omega
  | n + 1, .two _ a b, h => by
    have h1 := sz_le n (t := a) (by simp [Tst.dp] at h; omega)
    have h2 := sz_le n (t := b) (by simp [Tst.dp] at h; omega)
    rw [Nat.pow_succ]; simp [Tst.sz]; omega
def InnerS (F : List C → FOut) : Prop := ∀ (ss : List Str) (t : Tst), t.ok ss → t.dp ≤ 60 → F [.val t.d] = .ok (.ls t.inn) [some (.val t.d)]
/-- what is no test -/
inductive NoT : D → Prop
  | few : NoT (.tup [.str "few"])
  | any : NoT (.str "any")
  | num : NoT (.int 3)
def NoInS (F : List C → FOut) : Prop := ∀ d, NoT d → F [.val d] = .ok (.val .non) [some (.val d)]
theorem no_leaf {p : Pg} (hG : p.G "FIELDS" = some (.tup fieldsD)) : runDef p d_is_leaf [.val (.tup [.str "few"])] = .ok (.val (.bl false)) [some (.val (.tup [.str "few"]))] := by
  refine FOut.wp_eq (wp_def rfl ?_)
  show (s_is_leaf p [some (.val (.tup [.str "few"]))]).wp _ _
  unfold s_is_leaf
  have sh : Shp 1 (.tup [.str "few"]) := .tup (n := 0) fun d hd => by simp at hd; subst hd; exact .str 0 (lit_lt "few" rfl)
  simp -implicitDefEqProofs [szS, sh.teq any_shp]
theorem no_inner {p : Pg} (hG : p.G "PAIRS" = some (.tup [.str "or", .str "and"])) (hl : p.F "is_leaf" [.val (.tup [.str "few"])] = .ok (.val (.bl false)) [some (.val (.tup [.str "few"]))]) : NoInS (runDef p d_inner_of) := by
  intro d hd
  refine FOut.wp_eq (wp_def rfl ?_)
  show (s_inner_of p [some (.val d)]).wp _ _
  unfold s_inner_of
  cases hd with
  | few => simp -implicitDefEqProofs [szS, hl, hG, mem_pairs]
  | any => simp -implicitDefEqProofs [isiD, tyD, isiOne]
  | num => simp -implicitDefEqProofs [isiD, tyD, isiOne]
abbrev pr (q : D × Int) : D := .tup [q.1, .int q.2]
def sizesB : SS := (sCons (sUnp (gTup (gCons (gName 4) (gCons (gName 5) gNil))) (eSub (eVar 1) (eVar 2))) (sCons (sAug .add 2 (eCst (.int 1))) (sCons (sSet 3 (eCall "inner_of" (eCons (eVar 4) eNil))) (sCons (sIf (tOr (tVal (eCmp .is (eVar 3) (eCst .non))) (tOr (tVal (eCmp .gt (eVar 5) (eGlob "DEEP"))) (tVal (eCmp .gt (eBlt lenD (eCons (eVar 1) eNil)) (eGlob "MOST_PARTS"))))) (sCons (sRet (eCst .non)) sNil) sNil) (sCons (sExpr (eChL .extend 1 (eCons (eCompV [6] 3 (gName 6) tTrue (eTup (eCons (eVar 6) (eCons (eBin .add (eVar 5) (eCst (.int 1))) eNil)))) eNil))) sNil)))))
def SizesW (F : List C → FOut) : Prop := (∀ (ss : List Str) (t : Tst), t.ok ss → t.dp ≤ 3 → ∃ i j : Int, F [.val t.d] = .ok (.val (.tup [.int i, .int j])) [some (.val t.d)]) ∧ ∀ d, NoT d → F [.val d] = .ok (.val .non) [some (.val d)]
theorem FOut.wp_ex {A : Type} {f : A → C} {o : FOut} {ps : Env} (h : o.wp (fun a r => (∃ x, a = f x) ∧ r = ps) noX) : ∃ x, o = .ok (f x) ps := by
  cases o with
  | ok a r => obtain ⟨⟨x, rfl⟩, rfl⟩ := h.go; exact ⟨x, rfl⟩
  | exn x r => exact h.go.elim
  | bad => exact h.go.elim
theorem at_mid (as bs : List D) (x : D) : atI (as ++ x :: bs) (as.length : Int) = some x := atN (j := as.length) (by simp)
theorem Tst.sz_pos : ∀ t : Tst, 1 ≤ t.sz
  | .any => Nat.le_refl _
  | .leaf _ _ => Nat.le_refl _
  | .not t => by simp [Tst.sz]
  | .two _ a b => by simp [Tst.sz]
theorem sz_sum (post : List (Tst × Int)) : post.length ≤ (post.map fun q => q.1.sz).sum := by
  induction post with
  | nil => simp
  | cons q post ih => have := q.1.sz_pos; simp; omega
abbrev prT (q : Tst × Int) : D := .tup [q.1.d, .int q.2]
@[simp] theorem aug_addI (i j : Int) : augD .add (.int i) (.int j) = some (intV (i + j)) := rfl
@[simp] theorem is_lst (xs : List D) : cmpD .is (.lst xs) .non = some (.val (.bl false)) := rfl
@[simp] theorem is_non : cmpD .is .non .non = some (.val (.bl true)) := rfl
@[simp] theorem isnot_non : cmpD .isnot .non .non = some (.val (.bl false)) := rfl
@[simp] theorem isnot_tup (xs : List D) : cmpD .isnot (.tup xs) .non = some (.val (.bl true)) := rfl
theorem whW_dec {I : Env → Prop} {Q : Fl → Env → Prop} {P : Prop} [Decidable P] {r : Env} (h : P) (hi : I r) : whW I Q (decide P) r := by rw [decide_eq_true h]; exact hi
theorem max_some {ns : List Int} (h : ns ≠ []) : ∃ m, maxD [.lst (ns.map D.int)] = some (.val (.int m)) := by
  cases ns with
  | nil => exact (h rfl).elim
  | cons n ns => exact ⟨listMax n ns, by show (match allInt (.int n :: ns.map D.int) with | some (n :: ns) => some (intV (listMax n ns)) | _ => none) = _; rw [show allInt (.int n :: ns.map D.int) = some (n :: ns) from allInt_ints (n :: ns)]; rfl⟩
def sndD : D → D
  | .tup [_, y] => y
  | _ => .non
theorem sizes_ok {p : Pg} (hD : p.G "DEEP" = some (.int 6)) (hM : p.G "MOST_PARTS" = some (.int 15)) (hI : InnerS (p.F "inner_of")) (hN : NoInS (p.F "inner_of")) : SizesW (runDef p d_sizes) := by
  refine ⟨fun ss t ht hd => ?_, fun d hd => ?_⟩
  · suffices h : ∃ q : Int × Int, runDef p d_sizes [.val t.d] = .ok (.val (.tup [.int q.1, .int q.2])) [some (.val t.d)] from ⟨_, _, h.choose_spec⟩
    refine FOut.wp_ex (f := fun q : Int × Int => C.val (.tup [.int q.1, .int q.2])) (wp_def rfl ?_)
    show (s_sizes p [some (.val t.d), none, none, none, none, none, none]).wp _ _
    unfold s_sizes
    simp -implicitDefEqProofs [szS]
    have h0 := Tst.sz_le 3 hd
    refine while_wp (fun m r => ∃ (pre : List (D × Int)) (post : List (Tst × Int)) (x3 x4 x5 x6 : Option C), (∀ q ∈ post, q.1.ok ss ∧ (q.1.dp : Int) + q.2 ≤ 4 ∧ 1 ≤ q.2) ∧ pre.length + m ≤ 7 ∧ m = (post.map fun q => q.1.sz).sum ∧ 1 ≤ pre.length + post.length ∧ r = [some (.val t.d), some (.ls (pre.map pr ++ post.map prT)), some (.val (.int (pre.length : Int))), x3, x4, x5, x6]) (m := t.sz) ⟨[], [(t, 1)], none, none, none, none, ?_, ?_, ?_, by simp, rfl⟩ (by omega) ?_
    · intro q hq
      simp at hq
      subst hq
      exact ⟨ht, by simp; omega, by simp⟩
    · simp; omega
    · simp
    · rintro m r ⟨pre, post, x3, x4, x5, x6, h1, h2, rfl, h4, rfl⟩
      have h5 := sz_sum post
      cases post with
      | nil =>
        simp -implicitDefEqProofs [szS]
        refine compM_wp (f := sndD) ?_ ?_ ?_
        · simp at h2; simp; show _ ≤ 16777216; omega
        · intro d hd'
          obtain ⟨q, _, rfl⟩ := List.mem_map.mp hd'
          simp -implicitDefEqProofs [sndD]
        · obtain ⟨m, hm⟩ := max_some (ns := pre.map (·.2)) (by intro e; simp at e; subst e; simp at h4)
          have e : (pre.map pr).map sndD = (pre.map (·.2)).map D.int := by rw [List.map_map, List.map_map]; rfl
          rw [List.nil_append, e]
          simp -implicitDefEqProofs [hm, szS, -List.map_map]
      | cons u post =>
        obtain ⟨u, k⟩ := u
        have hu := h1 (u, k) (List.mem_cons_self ..)
        have hin := hI ss u hu.1 (by have h6 : (u.dp : Int) + k ≤ 4 := hu.2.1; have h7 : 1 ≤ k := hu.2.2; omega)
        simp at h2 h5
        have hup := u.dp_pos
        have hk : (u.dp : Int) + k ≤ 4 := hu.2.1
        have hk1 : 1 ≤ k := hu.2.2
        simp -implicitDefEqProofs [szS]
        refine whW_dec (by first | omega | (simp; omega)) ?_
        have e1 := at_mid (pre.map pr) (post.map prT) (prT (u, k))
        rw [List.length_map] at e1
        have e2 : (decide ((6 : Int) < k)) = false := decide_eq_false (by omega)
        have e3 : ((15 : Int) < (pre.length : Int) + ((post.length : Int) + 1)) = False := eq_false (by omega)
        simp -implicitDefEqProofs [szS, e1, hin, hD, hM, e2, e3]
        have hz : (u.kids.map fun x => x.sz).sum + 1 = u.sz := u.sz_kids
        have hkl : u.kids.length ≤ (u.kids.map fun x => x.sz).sum := by have := sz_sum (u.kids.map fun v => (v, k + 1)); simp [Function.comp_def] at this; exact this
        have hil : u.inn.length = u.kids.length := by rw [Tst.inn_eq, List.length_map]
        refine compM_wp (f := fun d => .tup [d, .int (k + 1)]) ?_ ?_ ?_
        · show _ ≤ 16777216; simp; omega
        · intro d hd'
          simp -implicitDefEqProofs [szS]
        · have e4 : u.inn.map (fun d => D.tup [d, .int (k + 1)]) = (u.kids.map fun v => (v, k + 1)).map prT := by rw [Tst.inn_eq, List.map_map, List.map_map]; rfl
          rw [List.nil_append, e4]
          have e5 : chL .extend (pre.map pr ++ prT (u, k) :: post.map prT) [.lst ((u.kids.map fun v => (v, k + 1)).map prT)] = some (.non, (pre ++ [(u.d, k)]).map pr ++ (post ++ u.kids.map fun v => (v, k + 1)).map prT) := by
            show (if szOk _ then _ else none) = _
            rw [if_pos (szM (by simp; omega))]
            simp
          simp -implicitDefEqProofs [e5, -List.map_map, -List.map_append]
          refine hold ⟨((post ++ u.kids.map fun v => (v, k + 1)).map fun q => q.1.sz).sum, ?_, pre ++ [(u.d, k)], post ++ u.kids.map fun v => (v, k + 1), some (.ls u.inn), some (.val u.d), some (.val (.int k)), x6, ?_, ?_, rfl, ?_, ?_⟩
          · simp [Function.comp_def]; omega
          · intro q hq
            rcases List.mem_append.mp hq with hq | hq
            · exact h1 q (List.mem_cons_of_mem _ hq)
            · obtain ⟨v, hv, rfl⟩ := List.mem_map.mp hq
              have := Tst.kids_ok hu.1 v hv
              exact ⟨this.1, by have := this.2; show (v.dp : Int) + (k + 1) ≤ 4; simp at this; omega, by show 1 ≤ k + 1; omega⟩
          · simp [Function.comp_def]; omega
          · simp; omega
          · simp
  · refine FOut.wp_eq (wp_def rfl ?_)
    show (s_sizes p [some (.val d), none, none, none, none, none, none]).wp _ _
    unfold s_sizes
    simp -implicitDefEqProofs [szS]
    refine while_wp (fun m r => m = 0 ∧ r = [some (.val d), some (.ls [.tup [d, .int 1]]), some (.val (.int 0)), none, none, none, none]) (m := 0) ⟨rfl, rfl⟩ (by omega) ?_
    rintro m r ⟨rfl, rfl⟩
    have h1 := hN d hd
    simp -implicitDefEqProofs [szS, h1]
/-! ### a rule's places -/
/-- a whole number or True -/
inductive Nm : D → Prop
  | int (i : Int) : Nm (.int i)
  | tr : Nm (.bl true)
def numB (lo hi : Int) : D → Bool
  | .int i => decide (lo ≤ i) && decide (i ≤ hi)
  | _ => false
theorem isi_ii (i : Int) : isiD ["int"] (.int i) = some (.val (.bl true)) := rfl
theorem isi_ib (b : Bool) : isiD ["int"] (.bl b) = some (.val (.bl true)) := rfl
theorem isi_bi (i : Int) : isiD ["bool"] (.int i) = some (.val (.bl false)) := rfl
theorem isi_bb (b : Bool) : isiD ["bool"] (.bl b) = some (.val (.bl true)) := rfl
def BetwS (F : List C → FOut) : Prop := ∀ (d : D) (lo hi : Int), Nm d → F [.val d, .val (.int lo), .val (.int hi)] = .ok (.val (.bl (numB lo hi d))) [some (.val d), some (.val (.int lo)), some (.val (.int hi))]
theorem betw_ok {p : Pg} : BetwS (runDef p d_is_between) := by
  intro d lo hi hd
  refine FOut.wp_eq (wp_def rfl ?_)
  show (s_is_between p [some (.val d), some (.val (.int lo)), some (.val (.int hi))]).wp _ _
  unfold s_is_between
  cases hd with
  | int i =>
    by_cases h : lo ≤ i <;> simp -implicitDefEqProofs [isi_ii, isi_bi, numB, h]
  | tr => simp -implicitDefEqProofs [isi_ib, isi_bb, numB]
def GoodN (F : List C → FOut) : Prop := ∀ (d : D) (hi : Int), Nm d → F [.val d, .val (.int hi)] = .ok (.val (.bl (numB 0 hi d))) [some (.val d), some (.val (.int hi))]
theorem goodn_ok {p : Pg} : GoodN (runDef p d_law_number_good) := by
  intro d hi hd
  refine FOut.wp_eq (wp_def rfl ?_)
  show (s_law_number_good p [some (.val d), some (.val (.int hi))]).wp _ _
  unfold s_law_number_good
  cases hd with
  | int i =>
    by_cases h : 0 ≤ i <;> simp -implicitDefEqProofs [isi_ii, isi_bi, numB, h]
  | tr => simp -implicitDefEqProofs [isi_ib, isi_bb, numB]
/-- a test or none -/
inductive TsD (ss : List Str) : D → Bool → Prop
  | good {t : Tst} (h : t.ok ss) (hd : t.dp ≤ 3) : TsD ss t.d true
  | no {d : D} (h : NoT d) : TsD ss d false
def msB (s : Str) : Bool := decide (s ∈ (["count", "sum"] : List Str))
def sdB (s : Str) : Bool := decide (s ∈ (["over", "under"] : List Str))
def LookS (F : List C → FOut) (d : D) (b : Bool) : Prop := F [.val d] = .ok (.val (.bl b)) [some (.val d)]
theorem measure_ok {p : Pg} (hG : p.G "MEASURES" = some (.tup [.str "count", .str "sum"])) (s : Str) : LookS (runDef p d_is_measure) (.str s) (msB s) := by
  refine FOut.wp_eq (wp_def rfl ?_)
  show (s_is_measure p [some (.val (.str s))]).wp _ _
  unfold s_is_measure
  have e : cmpD .mem (.str s) (.tup [.str "count", .str "sum"]) = _ := mem_strsT s ["count", "sum"]
  simp -implicitDefEqProofs [hG, e, msB]
theorem side_ok {p : Pg} (s : Str) : LookS (runDef p d_is_side) (.str s) (sdB s) := by
  refine FOut.wp_eq (wp_def rfl ?_)
  show (s_is_side p [some (.val (.str s))]).wp _ _
  unfold s_is_side
  have e : cmpD .mem (.str s) (.tup [.str "over", .str "under"]) = _ := mem_strsT s ["over", "under"]
  simp -implicitDefEqProofs [e, sdB, szS]
theorem width_ok {p : Pg} (hG : p.G "MOST_WIDTH" = some (.int 50)) (hB : BetwS (p.F "is_between")) {d : D} (h : Nm d) : LookS (runDef p d_is_width) d (numB 1 50 d) := by
  refine FOut.wp_eq (wp_def rfl ?_)
  show (s_is_width p [some (.val d)]).wp _ _
  unfold s_is_width
  have := hB d 1 50 h
  simp -implicitDefEqProofs [hG, this]
theorem bound_ok {p : Pg} (hG : p.G "MOST_BOUND" = some (.int 100000)) (hB : BetwS (p.F "is_between")) {d : D} (h : Nm d) : LookS (runDef p d_is_bound) d (numB 0 100000 d) := by
  refine FOut.wp_eq (wp_def rfl ?_)
  show (s_is_bound p [some (.val d)]).wp _ _
  unfold s_is_bound
  have := hB d 0 100000 h
  simp -implicitDefEqProofs [hG, this]
theorem test_ok {p : Pg} (hS : SizesW (p.F "sizes")) {ss : List Str} {d : D} {b : Bool} (h : TsD ss d b) : LookS (runDef p d_is_test) d b := by
  refine FOut.wp_eq (wp_def rfl ?_)
  show (s_is_test p [some (.val d)]).wp _ _
  unfold s_is_test
  cases h with
  | good h hd =>
    obtain ⟨i, j, e⟩ := hS.1 _ _ h hd
    simp -implicitDefEqProofs [e]
  | no h =>
    have := hS.2 _ h
    simp -implicitDefEqProofs [this]
/-! ### a rule -/
structure RuleD (ss : List Str) where
  m : Str
  w : D
  t : D
  l : D
  s : Str
  tb : Bool
  hw : Nm w
  ht : TsD ss t tb
  hl : Nm l
abbrev RuleD.ds {ss : List Str} (r : RuleD ss) : List D := [.str r.m, r.w, r.t, r.l, .str r.s]
/-- the first wrong place -/
def RuleD.bad {ss : List Str} (r : RuleD ss) : Option Int :=
  if msB r.m = false then some 0 else if numB 1 50 r.w = false then some 1 else if r.tb = false then some 2 else if numB 0 100000 r.l = false then some 3 else if sdB r.s = false then some 4 else none
abbrev looks : List D := [.fn "is_measure", .fn "is_width", .fn "is_test", .fn "is_bound", .fn "is_side"]
structure LooksOk (p : Pg) : Prop where
  g : p.G "LOOKS" = some (.tup looks)
  lv : 3 ≤ p.lv
  m : ∀ s, LookS (p.F "is_measure") (.str s) (msB s)
  w : ∀ d, Nm d → LookS (p.F "is_width") d (numB 1 50 d)
  t : ∀ (ss : List Str) d b, TsD ss d b → LookS (p.F "is_test") d b
  l : ∀ d, Nm d → LookS (p.F "is_bound") d (numB 0 100000 d)
  s : ∀ s, LookS (p.F "is_side") (.str s) (sdB s)
def badX (i : Int) : Exc := ⟨"BadRule", [("at", .int i), ("word", .str "rule")]⟩
theorem need_ok {p : Pg} (L : LooksOk p) {ss : List Str} (r : RuleD ss) {Q : C → Env → Prop} {X : XP} (hg : r.bad = none → Q (.val (.tup r.ds)) [some (.val (.tup r.ds))]) (hb : ∀ i, r.bad = some i → X (badX i) [some (.val (.tup r.ds))]) : (runDef p d_need_watch [.val (.tup r.ds)]).wp Q X := by
  refine wp_def rfl ?_
  show (s_need_watch p [some (.val (.tup r.ds)), none, none]).wp _ _
  unfold s_need_watch
  have hm := L.m r.m
  have hw := L.w r.w r.hw
  have ht := L.t ss r.t r.tb r.ht
  have hl := L.l r.l r.hl
  have hs := L.s r.s
  unfold LookS at hm hw ht hl hs
  have en : enD 0 looks = [.tup [.int 0, .fn "is_measure"], .tup [.int 1, .fn "is_width"], .tup [.int 2, .fn "is_test"], .tup [.int 3, .fn "is_bound"], .tup [.int 4, .fn "is_side"]] := rfl
  have ev : enV [.tup looks] = some looks := rfl
  unfold RuleD.bad at hg hb
  have lv := L.lv
  cases b1 : msB r.m with
  | false =>
    rw [b1] at hm hg hb
    simp -implicitDefEqProofs [L.g, szS, isi_tup1, ev, en, wp_for_cons, hm, fvs, lv]
    exact hb 0 rfl
  | true =>
  rw [b1] at hm hg hb
  cases b2 : numB 1 50 r.w with
  | false =>
    rw [b2] at hw hg hb
    simp -implicitDefEqProofs [L.g, szS, isi_tup1, ev, en, wp_for_cons, hm, hw, fvs, lv]
    exact hb 1 rfl
  | true =>
  rw [b2] at hw hg hb
  cases b3 : r.tb with
  | false =>
    rw [b3] at ht hg hb
    simp -implicitDefEqProofs [L.g, szS, isi_tup1, ev, en, wp_for_cons, hm, hw, ht, fvs, lv]
    exact hb 2 rfl
  | true =>
  rw [b3] at ht hg hb
  cases b4 : numB 0 100000 r.l with
  | false =>
    rw [b4] at hl hg hb
    simp -implicitDefEqProofs [L.g, szS, isi_tup1, ev, en, wp_for_cons, hm, hw, ht, hl, fvs, lv]
    exact hb 3 rfl
  | true =>
  rw [b4] at hl hg hb
  cases b5 : sdB r.s with
  | false =>
    rw [b5] at hs hg hb
    simp -implicitDefEqProofs [L.g, szS, isi_tup1, ev, en, wp_for_cons, hm, hw, ht, hl, hs, fvs, lv]
    exact hb 4 rfl
  | true =>
    rw [b5] at hs hg hb
    simp -implicitDefEqProofs [L.g, szS, isi_tup1, ev, en, wp_for_cons, hm, hw, ht, hl, hs, fvs, lv]
    exact hg rfl
/-- what is no tuple of five -/
inductive Odd : D → Prop
  | four (a b c d : D) : Odd (.tup [a, b, c, d])
  | six (a b c d e f : D) : Odd (.tup [a, b, c, d, e, f])
  | lst (xs : List D) : Odd (.lst xs)
theorem isi_tl (xs : List D) : isiD ["tuple"] (.lst xs) = some (.val (.bl false)) := rfl
theorem need_odd {p : Pg} (L : LooksOk p) {d : D} {c : C} (hd : Odd d) (hc : c.frz = d) {Q : C → Env → Prop} {X : XP} (hb : X (badX 0) [some c]) : (runDef p d_need_watch [c]).wp Q X := by
  refine wp_def rfl ?_
  show (s_need_watch p [some c, none, none]).wp _ _
  unfold s_need_watch
  have lv := L.lv
  cases c with
  | val x =>
    have hc : x = d := hc
    subst hc
    cases hd with
    | four a b c d => simp -implicitDefEqProofs [L.g, szS, isi_tup1, lv]; exact hb
    | six a b c d e f => simp -implicitDefEqProofs [L.g, szS, isi_tup1, lv]; exact hb
    | lst xs => simp -implicitDefEqProofs [L.g, szS, isi_tl, lv]; exact hb
  | ls xs =>
    simp -implicitDefEqProofs [L.g, szS, isi_tl, lv]
    exact hb
  | dc ks xs => subst hc; cases hd
/-! the law's own look -/
def wrongI (o : Option Int) : Int := o.getD (-1)
theorem tst_few {ss : List Str} {t : Tst} (h : t.ok ss) (hd : t.dp ≤ 60) : cmpD .eq t.d (.tup [.str "few"]) = some (.val (.bl false)) := by
  have sh : Shp 1 (.tup [.str "few"]) := .tup (n := 0) fun d hd => by simp at hd; subst hd; exact .str 0 (lit_lt "few" rfl)
  have h1 := Tst.shp h
  cases t with
  | any => rw [show Tst.d .any = .tup [.str "any"] from rfl] at h1 ⊢; rw [h1.teq sh (by simp [Tst.dp])]; simp
  | leaf f s => rw [show Tst.d (.leaf f s) = .tup [.str (fldW f), .str s] from rfl] at h1 ⊢; rw [h1.teq sh (by simp [Tst.dp])]; simp
  | not t => rw [show Tst.d (.not t) = .tup [.str "not", t.d] from rfl] at h1 ⊢; rw [h1.teq sh (by omega)]; simp
  | two o a b => rw [show Tst.d (.two o a b) = .tup [.str (if o then "or" else "and"), a.d, b.d] from rfl] at h1 ⊢; rw [h1.teq sh (by omega)]; simp
theorem tst_tup (t : Tst) : isiD ["tuple"] t.d = some (.val (.bl true)) := by cases t <;> rfl
theorem ts_no {ss : List Str} {d : D} (h : TsD ss d false) : isiD ["tuple"] d = some (.val (.bl false)) ∨ (isiD ["tuple"] d = some (.val (.bl true)) ∧ cmpD .eq d (.tup [.str "few"]) = some (.val (.bl true))) := by
  cases h with
  | no h' =>
    cases h' with
    | few =>
      have sh : Shp 1 (.tup [.str "few"]) := .tup (n := 0) fun d hd => by simp at hd; subst hd; exact .str 0 (lit_lt "few" rfl)
      exact .inr ⟨rfl, by rw [sh.teq sh]; simp⟩
    | any => exact .inl rfl
    | num => exact .inl rfl
theorem ts_yes {ss : List Str} {d : D} (h : TsD ss d true) : isiD ["tuple"] d = some (.val (.bl true)) ∧ cmpD .eq d (.tup [.str "few"]) = some (.val (.bl false)) := by
  cases h with
  | good h' hd' => exact ⟨tst_tup _, tst_few h' (by omega)⟩
def WrongS (F : List C → FOut) : Prop := (∀ (ss : List Str) (r : RuleD ss), F [.val (.tup r.ds)] = .ok (.val (.int (wrongI r.bad))) [some (.val (.tup r.ds))]) ∧ ∀ (d : D) (c : C), Odd d → c.frz = d → F [c] = .ok (.val (.int 0)) [some c]
theorem wrong_ok {p : Pg} (hN : GoodN (p.F "_law_number_good")) : WrongS (runDef p d_law_watch_wrong) := by
  refine ⟨fun ss r => ?_, fun d c hd hc => ?_⟩
  · refine FOut.wp_eq (wp_def rfl ?_)
    show (s_law_watch_wrong p [some (.val (.tup r.ds))]).wp _ _
    unfold s_law_watch_wrong
    have h1 := hN r.w 50 r.hw
    have h3 := hN r.l 100000 r.hl
    have e0 : cmpD .notmem (.str r.m) (.lst [.str "count", .str "sum"]) = _ := nmem_strsL r.m ["count", "sum"]
    have e4 : cmpD .mem (.str r.s) (.lst [.str "over", .str "under"]) = _ := mem_strsL r.s ["over", "under"]
    rw [show (decide (r.m ∈ (["count", "sum"] : List Str))) = msB r.m from rfl] at e0
    rw [show (decide (r.s ∈ (["over", "under"] : List Str))) = sdB r.s from rfl] at e4
    have e2 : numB 0 50 r.w = true → cmpD .eq r.w (.int 0) = some (.val (.bl (!numB 1 50 r.w))) := by
      intro h
      cases e : r.w with
      | int i =>
        rw [e] at h
        by_cases hi : i = 0
        · subst hi; rfl
        · simp [numB] at h; simp [numB, hi]; omega
      | _ => rw [e] at h; cases h
    have e2' : numB 0 50 r.w = false → numB 1 50 r.w = false := by
      intro h
      cases e : r.w with
      | int i => rw [e] at h; simp [numB] at h ⊢; omega
      | _ => rfl
    have e5 : r.tb = false → _ := fun h => ts_no (ss := ss) (d := r.t) (h ▸ r.ht)
    have e6 : r.tb = true → _ := fun h => ts_yes (ss := ss) (d := r.t) (h ▸ r.ht)
    unfold RuleD.bad
    cases b1 : msB r.m with
    | false =>
      rw [b1] at e0
      simp -implicitDefEqProofs [szS, e0, wrongI]
    | true =>
    rw [b1] at e0
    cases b0 : numB 0 50 r.w with
    | false =>
      rw [b0] at h1
      simp -implicitDefEqProofs [szS, e0, h1, wrongI, e2' b0]
    | true =>
    rw [b0] at h1
    have e2 := e2 b0
    cases b2 : numB 1 50 r.w with
    | false =>
      rw [b2] at e2
      simp -implicitDefEqProofs [szS, e0, h1, e2, wrongI]
    | true =>
    rw [b2] at e2
    cases b3 : r.tb with
    | false =>
      rcases e5 b3 with h | ⟨h, h'⟩
      · simp -implicitDefEqProofs [szS, e0, h1, e2, h, wrongI]
      · simp -implicitDefEqProofs [szS, e0, h1, e2, h, h', wrongI]
    | true =>
    obtain ⟨h, h'⟩ := e6 b3
    cases b4 : numB 0 100000 r.l with
    | false =>
      rw [b4] at h3
      simp -implicitDefEqProofs [szS, e0, h1, e2, h, h', h3, wrongI]
    | true =>
    rw [b4] at h3
    cases b5 : sdB r.s with
    | false =>
      rw [b5] at e4
      simp -implicitDefEqProofs [szS, e0, h1, e2, h, h', h3, e4, wrongI]
    | true =>
      rw [b5] at e4
      simp -implicitDefEqProofs [szS, e0, h1, e2, h, h', h3, e4, wrongI]
  · refine FOut.wp_eq (wp_def rfl ?_)
    show (s_law_watch_wrong p [some c]).wp _ _
    unfold s_law_watch_wrong
    cases c with
    | val x =>
      have hc : x = d := hc
      subst hc
      cases hd with
      | four a b c d => simp -implicitDefEqProofs [szS]
      | six a b c d e f => simp -implicitDefEqProofs [szS]
      | lst xs => simp -implicitDefEqProofs [szS, isi_tl]
    | ls xs => simp -implicitDefEqProofs [szS, isi_tl]
    | dc ks xs => subst hc; cases hd
/-! ### states, drawn rules -/
def stOf (l g b : Int) (s : Str) : Str := if s = "over" then (if b ≤ l then "rings" else if g < b then "quiet" else "may") else (if g ≤ b then "rings" else if b < l then "quiet" else "may")
def StateS (F : List C → FOut) : Prop := ∀ (a b c : D) (k l g : Int) (s : Str), F [.val (.tup [a, b, c, .int k, .str s]), .val (.int l), .val (.int g)] = .ok (.val (.str (stOf l g k s))) [some (.val (.tup [a, b, c, .int k, .str s])), some (.val (.int l)), some (.val (.int g))]
theorem state_ok {p : Pg} : StateS (runDef p d_state_of) := by
  intro a b c k l g s
  refine FOut.wp_eq (wp_def rfl ?_)
  show (s_state_of p [some (.val (.tup [a, b, c, .int k, .str s])), some (.val (.int l)), some (.val (.int g)), none, none, none]).wp _ _
  unfold s_state_of stOf
  by_cases h1 : s = "over"
  · by_cases h2 : k ≤ l
    · simp -implicitDefEqProofs [h1, h2]
    · by_cases h3 : g < k <;> simp -implicitDefEqProofs [h1, h2, h3]
  · by_cases h2 : g ≤ k
    · simp -implicitDefEqProofs [h1, h2]
    · by_cases h3 : k < l <;> simp -implicitDefEqProofs [h1, h2, h3]
def WatchW (F : List C → FOut) : Prop := ∀ (xs : List D) (a b c d e : Str) (Q : C → Env → Prop) (X : XP), BagL xs → (∀ s ∈ [a, b, c, d, e], NmOk s) →
  (∀ (m : Str) (w : Int) (t : Tst) (l : Int) (s : Str) (ys : List D), m = "count" ∨ m = "sum" → 1 ≤ w → w ≤ 50 → t.ok [a, b, c, d, e] → t.dp ≤ 3 → 0 ≤ l → l ≤ 100000 → s = "over" ∨ s = "under" → BagL ys → Q (.val (.tup [.str m, .int w, t.d, .int l, .str s])) [some (.ls ys), some (.val (houseD a b c d e))]) → (F [.ls xs, .val (houseD a b c d e)]).wp Q X
theorem three {k : Int} (h0 : 0 ≤ k) (h1 : k < 3) : k = 0 ∨ k = 1 ∨ k = 2 := by omega
theorem two {k : Int} (h0 : 0 ≤ k) (h1 : k < 2) : k = 0 ∨ k = 1 := by omega
theorem watch_ok {p : Pg} (hp : PullW (p.F "_law_pull")) (hT : TestW 2 (p.F "_law_test_of")) : WatchW (runDef p d_law_watch) := by
  intro xs a b c d e Q X hb hn hq
  refine wp_def rfl ?_
  show (s_law_watch p [some (.ls xs), some (.val (houseD a b c d e)), none, none, none]).wp _ _
  unfold s_law_watch
  simp -implicitDefEqProofs
  refine hp _ _ _ _ hb (by decide) (by decide) fun k1 y1 p1 q1 hy1 => ?_
  simp -implicitDefEqProofs [szS]
  refine hp _ _ _ _ hy1 (by decide) (by decide) fun k2 y2 p2 q2 hy2 => ?_
  have hw : ∃ w : Int, atI [D.int 1, D.int 50, .int (1 + k1)] k2 = some (.int w) ∧ 1 ≤ w ∧ w ≤ 50 := by
    rcases three p2 q2 with rfl | rfl | rfl
    · exact ⟨1, at0' _ _, by omega, by omega⟩
    · exact ⟨50, at1' _ _ _, by omega, by omega⟩
    · exact ⟨1 + k1, at2' _ _ _ _, by omega, by omega⟩
  obtain ⟨w, ew, w1, w2⟩ := hw
  simp -implicitDefEqProofs [ew]
  refine hp _ _ _ _ hy2 (by decide) (by decide) fun k3 y3 p3 q3 hy3 => ?_
  simp -implicitDefEqProofs [szS]
  refine hp _ _ _ _ hy3 (by decide) (by decide) fun k4 y4 p4 q4 hy4 => ?_
  have hl : ∃ l : Int, atI [D.int 0, D.int 100000, .int k3] k4 = some (.int l) ∧ 0 ≤ l ∧ l ≤ 100000 := by
    rcases three p4 q4 with rfl | rfl | rfl
    · exact ⟨0, at0' _ _, by omega, by omega⟩
    · exact ⟨100000, at1' _ _ _, by omega, by omega⟩
    · exact ⟨k3, at2' _ _ _ _, by omega, by omega⟩
  obtain ⟨l, el, l1, l2⟩ := hl
  simp -implicitDefEqProofs [el]
  refine hp _ _ _ _ hy4 (by decide) (by decide) fun k5 y5 p5 q5 hy5 => ?_
  have hs : ∃ s : Str, atI [D.str "over", .str "under"] k5 = some (.str s) ∧ (s = "over" ∨ s = "under") := by
    rcases two p5 q5 with rfl | rfl
    · exact ⟨_, at0' _ _, .inl rfl⟩
    · exact ⟨_, at1' _ _ _, .inr rfl⟩
  obtain ⟨s, es, s1⟩ := hs
  simp -implicitDefEqProofs [es]
  refine hp _ _ _ _ hy5 (by decide) (by decide) fun k6 y6 p6 q6 hy6 => ?_
  have hm : ∃ s : Str, atI [D.str "count", .str "sum"] k6 = some (.str s) ∧ (s = "count" ∨ s = "sum") := by
    rcases two p6 q6 with rfl | rfl
    · exact ⟨_, at0' _ _, .inl rfl⟩
    · exact ⟨_, at1' _ _ _, .inr rfl⟩
  obtain ⟨m, em, m1⟩ := hm
  simp -implicitDefEqProofs [em]
  refine hT _ _ _ _ _ _ _ _ hy6 hn fun t zs ht hd hz => ?_
  simp -implicitDefEqProofs [szS]
  exact hq m w t l s zs m1 w1 w2 ht hd l1 l2 s1 hz
/-! ### stretches -/
def StretchW (F : List C → FOut) : Prop := ∀ (xs : List D) (Q : C → Env → Prop) (X : XP), BagL xs → (∀ (i j : Int) (ys : List D), BagL ys → Q (.val (.tup [.int i, .int j])) [some (.ls ys)]) → (F [.ls xs]).wp Q X
theorem stretch_ok {p : Pg} (hp : PullW (p.F "_law_pull")) : StretchW (runDef p d_law_stretch) := by
  intro xs Q X hb hq
  refine wp_def rfl ?_
  show (s_law_stretch p [some (.ls xs), none]).wp _ _
  unfold s_law_stretch
  simp -implicitDefEqProofs
  refine hp _ _ _ _ hb (by decide) (by decide) fun k1 y1 p1 q1 hy1 => ?_
  simp -implicitDefEqProofs
  refine hp _ _ _ _ hy1 (by decide) (by decide) fun k2 y2 p2 q2 hy2 => ?_
  simp -implicitDefEqProofs [szS]
  refine hp _ _ _ _ hy2 (by decide) (by decide) fun k3 y3 p3 q3 hy3 => ?_
  have hw : ∃ w : Int, atI [D.int 0, D.int 1, .int k2] k3 = some (.int w) := by
    rcases three p3 q3 with rfl | rfl | rfl
    · exact ⟨0, at0' _ _⟩
    · exact ⟨1, at1' _ _ _⟩
    · exact ⟨k2, at2' _ _ _ _⟩
  obtain ⟨w, ew⟩ := hw
  simp -implicitDefEqProofs [ew, szS]
  exact hq _ _ _ hy3
abbrev prI (q : Int × Int) : D := .tup [.int q.1, .int q.2]
def inI (m : Int) (q : Int × Int) : Bool := decide (q.1 ≤ m) && decide (m < q.2)
theorem any_map {A : Type} (f : A → Bool) (xs : List A) : anyD [.lst (xs.map fun x => .bl (f x))] = some (.val (.bl (xs.any f))) := by
  unfold anyD
  dsimp only
  rw [allBl_map]
  simp [blV]
def HushS (F : List C → FOut) : Prop := ∀ (qs : List (Int × Int)) (m : Int), qs.length ≤ 100 → F [.ls (qs.map prI), .val (.int m)] = .ok (.val (.bl (qs.any (inI m)))) [some (.ls (qs.map prI)), some (.val (.int m))]
theorem hush_ok {p : Pg} : HushS (runDef p d_hushed) := by
  intro qs m hl
  refine FOut.wp_eq (wp_def rfl ?_)
  show (s_hushed p [some (.ls (qs.map prI)), some (.val (.int m)), none, none]).wp _ _
  unfold s_hushed
  simp -implicitDefEqProofs
  refine compM_wp (f := fun d => match d with | .tup [.int i, .int j] => .bl (inI m (i, j)) | _ => .non) ?_ ?_ ?_
  · show _ ≤ 16777216; simp; omega
  · intro d hd
    obtain ⟨q, _, rfl⟩ := List.mem_map.mp hd
    by_cases h : q.1 ≤ m <;> simp -implicitDefEqProofs [inI, h]
  · have e : (qs.map prI).map (fun d => match d with | D.tup [.int i, .int j] => D.bl (inI m (i, j)) | _ => .non) = qs.map fun q => .bl (inI m q) := by rw [List.map_map]; rfl
    rw [List.nil_append, e]
    simp -implicitDefEqProofs [any_map, -List.map_map]
/-! ### runs -/
abbrev prS (q : Str × Int) : D := .tup [.str q.1, .int q.2]
/-- runs, from the last to the first -/
def rnR : List Str → List (Str × Int)
  | [] => []
  | s :: ss => match rnR ss with
    | (x, k) :: qs => if x = s then (s, k + 1) :: qs else (s, 1) :: (x, k) :: qs
    | [] => [(s, 1)]
def rn (ss : List Str) : List (Str × Int) := (rnR ss.reverse).reverse
theorem rnR_len : ∀ ss : List Str, (rnR ss).length ≤ ss.length
  | [] => Nat.le_refl _
  | s :: ss => by
    have := rnR_len ss
    unfold rnR
    split
    · rename_i e; rw [e] at this; split <;> simp at * <;> omega
    · simp
def RunsS (F : List C → FOut) : Prop := ∀ ss : List Str, ss.length ≤ 100 → F [.ls (strsD ss)] = .ok (.ls ((rn ss).map prS)) [some (.ls (strsD ss))]
theorem rn_snoc (ss : List Str) (s : Str) : rn (ss ++ [s]) = match (rn ss).reverse with
    | (x, k) :: qs => if x = s then qs.reverse ++ [(s, k + 1)] else rn ss ++ [(s, 1)]
    | [] => [(s, 1)] := by
  unfold rn
  rw [List.reverse_append, List.reverse_singleton, List.singleton_append, List.reverse_reverse]
  rw [rnR]
  cases rnR ss.reverse with
  | nil => rfl
  | cons q qs =>
    obtain ⟨x, k⟩ := q
    dsimp only
    split <;> simp
theorem ix_last (n : Nat) : ixN (n + 1) (-1) = some n := by
  unfold ixN
  simp
  omega
theorem at_last (as : List D) (x : D) : atI (as ++ [x]) (-1) = some x := by
  unfold atI
  rw [List.length_append, List.length_singleton, ix_last]
  simp
theorem app_ok (xs : List D) (d : D) (h : xs.length ≤ 1000) : chL .append xs [d] = some (.non, xs ++ [d]) := by
  have h1 : xs.length < sizeLine := Nat.lt_of_le_of_lt h (by decide)
  show (if decide (xs.length < sizeLine) then _ else none) = _
  rw [if_pos (decide_eq_true h1)]
theorem runs_ok {p : Pg} : RunsS (runDef p d_runs) := by
  intro ss hl
  refine FOut.wp_eq (wp_def rfl ?_)
  show (s_runs p [some (.ls (strsD ss)), none, none]).wp _ _
  unfold s_runs
  simp -implicitDefEqProofs [szS]
  refine for_wp (fun rest r => ∃ pre post x2, ss = pre ++ post ∧ rest = strsD post ∧ r = [none, some (.ls ((rn pre).map prS)), x2]) ?_ ?_ ⟨[], ss, none, rfl, rfl, rfl⟩
  · rintro d ds r ⟨pre, post, x2, rfl, e1, rfl⟩
    cases post with
    | nil => cases e1
    | cons s post =>
      obtain ⟨rfl, rfl⟩ := List.cons.inj (show d :: ds = .str s :: strsD post from e1)
      have hlen := rnR_len pre.reverse
      simp at hl hlen
      have hs := rn_snoc pre s
      cases e : (rn pre).reverse with
      | nil =>
        have e' : rn pre = [] := by simpa using e
        rw [e] at hs
        have a1 := app_ok [] (.tup [.str s, .int 1]) (by simp)
        simp -implicitDefEqProofs [e', szS, a1]
        exact hold ⟨pre ++ [s], post, _, by simp, rfl, by rw [hs]; rfl⟩
      | cons q qs =>
        obtain ⟨x, k⟩ := q
        have e' : rn pre = qs.reverse ++ [(x, k)] := by rw [← List.reverse_reverse (rn pre), e]; simp
        rw [e] at hs
        have hq : qs.length + 1 = (rn pre).length := by rw [e']; simp
        have hq2 : (rn pre).length ≤ pre.length := by unfold rn; simpa using hlen
        have a2 := at_last (qs.map prS).reverse (prS (x, k))
        by_cases hx : x = s
        · subst hx
          have a3 := ix_last qs.length
          simp -implicitDefEqProofs [e', szS, a2, a3]
          exact hold ⟨pre ++ [x], post, some (.val (.str x)), by simp, rfl, by rw [hs]; simp⟩
        · have a4 := app_ok ((qs.map prS).reverse ++ [prS (x, k)]) (.tup [.str s, .int 1]) (by simp; omega)
          simp -implicitDefEqProofs [e', szS, a2, hx, a4]
          exact hold ⟨pre ++ [s], post, some (.val (.str s)), by simp, rfl, by rw [hs]; simp [hx, e']⟩
  · rintro r ⟨pre, post, x2, rfl, e1, rfl⟩
    cases post with
    | cons s post => cases e1
    | nil =>
      rw [List.append_nil]
      simp -implicitDefEqProofs [szS]
/-! ### what runs tell -/
def spell : List (Str × Int) → List Str
  | [] => []
  | (s, k) :: qs => List.replicate k.toNat s ++ spell qs
theorem spell_app (a b : List (Str × Int)) : spell (a ++ b) = spell a ++ spell b := by
  induction a with
  | nil => rfl
  | cons q a ih => obtain ⟨s, k⟩ := q; simp [spell, ih]
theorem rnR_pos : ∀ ss : List Str, ∀ q ∈ rnR ss, 0 < q.2
  | [], q, h => by cases h
  | s :: ss, q, h => by
    have ih := rnR_pos ss
    unfold rnR at h
    split at h
    · rename_i x k qs e
      rw [e] at ih
      split at h
      · rcases List.mem_cons.mp h with rfl | h
        · have := ih (x, k) (List.mem_cons_self ..); show 0 < k + 1; simp at this; omega
        · exact ih q (List.mem_cons_of_mem _ h)
      · rcases List.mem_cons.mp h with rfl | h
        · show (0 : Int) < 1; omega
        · exact ih q h
    · simp at h; subst h; show (0 : Int) < 1; omega
theorem rnR_spell : ∀ ss : List Str, spell (rnR ss) = ss
  | [] => rfl
  | s :: ss => by
    have ih := rnR_spell ss
    have hp := rnR_pos ss
    unfold rnR
    split
    · rename_i x k qs e
      rw [e] at ih hp
      have h0 := hp (x, k) (List.mem_cons_self ..)
      split
      · rename_i hx
        subst hx
        simp only [spell] at ih ⊢
        rw [show (k + 1).toNat = k.toNat + 1 by simp at h0; omega, List.replicate_succ, List.cons_append, ih]
      · simp only [spell] at ih ⊢
        rw [ih]
        rfl
    · rename_i e
      rw [e] at ih
      rw [← ih]
      rfl
theorem rnR_alt : ∀ ss : List Str, ∀ i (a b : Str × Int), (rnR ss)[i]? = some a → (rnR ss)[i + 1]? = some b → a.1 ≠ b.1
  | [], i, a, b, h, _ => by simp [rnR] at h
  | s :: ss, i, a, b, h, h' => by
    have ih := rnR_alt ss
    unfold rnR at h h'
    split at h
    · rename_i x k qs e
      rw [e] at ih h'
      dsimp only at h'
      split at h
      · rename_i hx
        rw [if_pos hx] at h'
        cases i with
        | zero => simp at h h'; subst h; subst hx; have := ih 0 (x, k) b (by simp) (by simpa using h'); exact this
        | succ i => exact ih (i + 1) a b (by simpa using h) (by simpa using h')
      · rename_i hx
        rw [if_neg hx] at h'
        cases i with
        | zero => simp at h h'; subst h; subst h'; exact fun z => hx z.symm
        | succ i => exact ih i a b (by simpa using h) (by simpa using h')
    · rename_i e
      rw [e] at h'
      simp at h'
theorem spell_rev (qs : List (Str × Int)) : spell qs.reverse = (spell qs).reverse := by
  induction qs with
  | nil => rfl
  | cons q qs ih => obtain ⟨s, k⟩ := q; rw [List.reverse_cons, spell_app, ih]; simp [spell]
theorem rn_spell (ss : List Str) : spell (rn ss) = ss := by unfold rn; rw [spell_rev, rnR_spell, List.reverse_reverse]
theorem rn_pos (ss : List Str) : ∀ q ∈ rn ss, 0 < q.2 := fun q h => rnR_pos ss.reverse q (by unfold rn at h; simpa using h)
theorem rn_len (ss : List Str) : (rn ss).length ≤ ss.length := by unfold rn; rw [List.length_reverse]; simpa using rnR_len ss.reverse
theorem rn_alt (ss : List Str) (i : Nat) (a b : Str × Int) (h : (rn ss)[i]? = some a) (h' : (rn ss)[i + 1]? = some b) : a.1 ≠ b.1 := by
  unfold rn at h h'
  have hi : i + 1 < (rnR ss.reverse).length := by
    have := (List.getElem?_eq_some_iff.mp h').1
    simpa using this
  rw [List.getElem?_reverse (by omega)] at h
  rw [List.getElem?_reverse hi] at h'
  have := rnR_alt ss.reverse ((rnR ss.reverse).length - 1 - (i + 1)) b a h' (by rw [show (rnR ss.reverse).length - 1 - (i + 1) + 1 = (rnR ss.reverse).length - 1 - i by omega]; exact h)
  exact fun z => this z.symm
def sr3 : SS := (sCons (sIf (tNot (tVal (eBlt allD (eCons (eComp [11] (iRng (eCons (eBin .sub (eBlt lenD (eCons (eVar 6) eNil)) (eCst (.int 1))) eNil)) (gName 11) tTrue (eCmp .ne (eSub (eSub (eVar 6) (eVar 11)) (eCst (.int 0))) (eSub (eSub (eVar 6) (eBin .add (eVar 11) (eCst (.int 1)))) (eCst (.int 0))))) eNil)))) (sCons (sRet (eCst (.bl false))) sNil) sNil) (sCons (sSet 7 (eLst eNil)) (sCons (sForV 6 (gTup (gCons (gName 9) (gCons (gName 10) gNil))) (sCons (sSet 7 (eBin .add (eVar 7) (eBin .mul (eLst (eCons (eVar 9) eNil)) (eVar 10)))) sNil)) (sCons (sRet (eAnd (eCmp .eq (eVar 7) (eVar 5)) (eBlt allD (eCons (eCompV [9, 10] 6 (gTup (gCons (gName 9) (gCons (gName 10) gNil))) tTrue (eCmp .gt (eVar 10) (eCst (.int 0)))) eNil)))) sNil))))
def sr2 : SS := (sCons (sSet 4 (eSlice (eLst (eCons (eCst (.str "rings")) (eCons (eCst (.str "may")) (eCons (eCst (.str "quiet")) (eCons (eCst (.str "hushed")) eNil))))) oNone (oSome (eBin .add (eCst (.int 1)) (eCall "_law_pull" (eCons (eVar 0) (eCons (eCst (.int 4)) eNil))))))) (sCons (sSet 5 (eComp [11] (iRng (eCons (eCall "_law_pull" (eCons (eVar 0) (eCons (eCst (.int 20)) eNil))) eNil)) (gName 11) tTrue (eCall "_law_one" (eCons (eVar 0) (eCons (eVar 4) eNil))))) (sCons (sSet 6 (eCall "runs" (eCons (eBlt listD (eCons (eVar 5) eNil)) eNil))) sr3)))
def srF : SS := (sCons (sSet 8 (eBlt anyD (eCons (eCompV [14] 2 (gName 14) tTrue (eAnd (eCmp .le (eSub (eVar 14) (eCst (.int 0))) (eVar 3)) (eCmp .lt (eVar 3) (eSub (eVar 14) (eCst (.int 1)))))) eNil))) (sCons (sIf (tNot (tVal (eCall "_law_same" (eCons (eCall "hushed" (eCons (eBlt listD (eCons (eVar 2) eNil)) (eCons (eVar 3) eNil))) (eCons (eVar 8) eNil))))) (sCons (sRet (eCst (.bl false))) sNil) sNil) sNil))
theorem s_sr_eq : s_law_stretches_right = (sCons (sSet 1 (eComp [11] (iRng (eCons (eCall "_law_pull" (eCons (eVar 0) (eCons (eCst (.int 4)) eNil))) eNil)) (gName 11) tTrue (eCall "_law_stretch" (eCons (eVar 0) eNil)))) (sCons (sSet 2 (eCompV [12, 13] 1 (gTup (gCons (gName 12) (gCons (gName 13) gNil))) tTrue (eTup (eCons (eVar 12) (eCons (eBin .add (eVar 13) (eCst (.int 1))) eNil))))) (sCons (sFor (iRng (eCons (eNeg (eCst (.int 24))) (eCons (eCst (.int 36)) eNil))) (gName 3) srF) sr2))) := rfl
def lw3 : SS := (sCons (sSet 9 (eCall "_law_watch" (eCons (eVar 1) (eCons (eVar 2) eNil)))) (sCons (sSet 10 (eBlt maxD (eCons (eCst (.int 0)) (eCons (eBin .sub (eBin .add (eSub (eVar 9) (eCst (.int 3))) (eCall "_law_pull" (eCons (eVar 1) (eCons (eCst (.int 5)) eNil)))) (eCst (.int 3))) eNil)))) (sCons (sSet 11 (eBin .add (eVar 10) (eCall "_law_pull" (eCons (eVar 1) (eCons (eCst (.int 4)) eNil))))) (sCons (sPar 14 15 (eCons (eCmp .ge (eVar 10) (eSub (eVar 9) (eCst (.int 3)))) (eCons (eCmp .lt (eVar 11) (eSub (eVar 9) (eCst (.int 3)))) eNil))) (sCons (sIf (tVal (eCmp .eq (eSub (eVar 9) (eCst (.int 4))) (eCst (.str "under")))) (sCons (sPar 14 15 (eCons (eCmp .le (eVar 11) (eSub (eVar 9) (eCst (.int 3)))) (eCons (eCmp .gt (eVar 10) (eSub (eVar 9) (eCst (.int 3)))) eNil))) sNil) sNil) (sCons (sSet 12 (eIf (tVal (eVar 14)) (eCst (.str "rings")) (eSub (eLst (eCons (eCst (.str "may")) (eCons (eCst (.str "quiet")) eNil))) (eBlt intD (eCons (eVar 15) eNil))))) (sCons (sIf (tNot (tVal (eCall "_law_same" (eCons (eCall "state_of" (eCons (eVar 9) (eCons (eVar 10) (eCons (eVar 11) eNil)))) (eCons (eVar 12) eNil))))) (sCons (sRet (eCst (.bl false))) sNil) sNil) sNil)))))))
def lw2 : SS := (sCons (sTry (sCons (sSet 13 (eTup (eCons (eCst (.str "good")) (eCons (eCall "need_watch" (eCons (eVar 4) eNil)) eNil)))) sNil) "BadRule" 7 (some 13) [.cst (.str "bad"), .fld "at"]) (sCons (sSet 8 (eCall "_law_watch_wrong" (eCons (eVar 4) eNil))) (sCons (sIf (tNot (tVal (eCall "_law_same" (eCons (eVar 13) (eCons (eIf (tVal (eCmp .lt (eVar 8) (eCst (.int 0)))) (eTup (eCons (eCst (.str "good")) (eCons (eVar 4) eNil))) (eTup (eCons (eCst (.str "bad")) (eCons (eVar 8) eNil)))) eNil))))) (sCons (sRet (eCst (.bl false))) sNil) sNil) lw3)))
def lw1b : SS := (sCons (sIf (tVal (eCmp .eq (eCall "_law_pull" (eCons (eVar 1) (eCons (eCst (.int 9)) eNil))) (eCst (.int 0)))) (sCons (sSet 4 (eSub (eLst (eCons (eSlice (eVar 4) oNone (oSome (eCst (.int 4)))) (eCons (eBin .add (eVar 4) (eTup (eCons (eCst (.int 1)) eNil))) (eCons (eBlt listD (eCons (eVar 4) eNil)) eNil)))) (eCall "_law_pull" (eCons (eVar 1) (eCons (eCst (.int 3)) eNil))))) sNil) sNil) lw2)
def lw1 : SS := (sCons (sSet 4 (eCall "_law_watch" (eCons (eVar 1) (eCons (eVar 2) eNil)))) (sCons (sSet 5 (eCall "_law_pull" (eCons (eVar 1) (eCons (eCst (.int 5)) eNil)))) (sCons (sSet 6 (eSub (eLst (eCons (eLst (eCons (eCst (.str "")) (eCons (eCst (.str "few")) eNil))) (eCons (eLst (eCons (eCst (.int 0)) (eCons (eCst (.int 51)) (eCons (eNeg (eCst (.int 1))) (eCons (eCst (.bl true)) eNil))))) (eCons (eLst (eCons (eTup (eCons (eCst (.str "few")) eNil)) (eCons (eCst (.str "any")) (eCons (eCst (.int 3)) eNil)))) (eCons (eLst (eCons (eNeg (eCst (.int 1))) (eCons (eCst (.int 100001)) (eCons (eCst (.bl true)) eNil)))) (eCons (eLst (eCons (eCst (.str "above")) (eCons (eCst (.str "")) eNil))) eNil)))))) (eVar 5))) (sCons (sIf (tVal (eCmp .eq (eCall "_law_pull" (eCons (eVar 1) (eCons (eCst (.int 2)) eNil))) (eCst (.int 0)))) (sCons (sSet 4 (eBin .add (eBin .add (eSlice (eVar 4) oNone (oSome (eVar 5))) (eTup (eCons (eCall "_law_one" (eCons (eVar 1) (eCons (eVar 6) eNil))) eNil))) (eSlice (eVar 4) (oSome (eBin .add (eVar 5) (eCst (.int 1)))) oNone))) sNil) sNil) lw1b))))
theorem s_law_eq : s_law = (sCons (sSet 1 (eCall "_law_bag" (eCons (eVar 0) eNil))) (sCons (sSet 2 (eCall "_law_house_small" (eCons (eVar 1) eNil))) (sCons (sFor (iRng (eCons (eBin .add (eCst (.int 2)) (eBlt lenD (eCons (eSlice (eVar 0) oNone (oSome (eCst (.int 30)))) eNil))) eNil)) (gName 3) lw1) (sCons (sRet (eCall "_law_stretches_right" (eCons (eVar 1) eNil))) sNil)))) := rfl
theorem rng_low {n : Int} (h0 : -1 ≤ n) (h1 : n ≤ 1000) : rngD [.int n] = some (rngL 0 n.toNat) := if_pos (decide_eq_true ⟨by omega, by omega⟩)
theorem repL_str (s : Str) (n : Nat) : repL n [D.str s] = strsD (List.replicate n s) := by
  unfold repL strsD
  induction n with
  | zero => rfl
  | succ n ih => rw [List.replicate_succ, List.flatten_cons, ih, List.replicate_succ]; rfl
theorem rep_mul (s : Str) {k : Int} (h0 : 0 < k) (h1 : k ≤ 100) : binD .mul (.lst [.str s]) (.int k) = some (.ls (strsD (List.replicate k.toNat s))) := by
  show (if decide (0 ≤ k ∧ k ≤ 1000 ∧ [D.str s].length ≤ 1000) then some (C.ls (repL k.toNat [.str s])) else none) = _
  rw [if_pos (decide_eq_true ⟨by omega, by omega, by simp⟩), repL_str]
theorem strs_app2 (a b : List Str) : strsD a ++ strsD b = strsD (a ++ b) := by unfold strsD; rw [List.map_append]
theorem add_strs {a b : List Str} (h : a.length + b.length ≤ 1000) : binD .add (.lst (strsD a)) (.lst (strsD b)) = some (.ls (strsD (a ++ b))) := by
  show (if szOk ((strsD a).length + (strsD b).length) then some (C.ls (strsD a ++ strsD b)) else none) = _
  rw [if_pos (szS (by rw [strs_len, strs_len]; exact h)), strs_app2]
theorem strs_eq {ss : List Str} (h : ∀ s ∈ ss, Shp 0 (.str s)) : cmpD .eq (.lst (strsD ss)) (.lst (strsD ss)) = some (.val (.bl true)) := Shp.eqL (n := 1) (.lst (n := 0) fun x hx => by
  obtain ⟨s, hs, rfl⟩ := List.mem_map.mp hx
  exact h s hs) (by decide)
theorem all_bt (n : Nat) : allD [.lst (List.replicate n (D.bl true))] = some (.val (.bl true)) := all_true fun y hy => (List.eq_of_mem_replicate hy)
theorem sr3_ok {p : Pg} {ss : List Str} (hsh : ∀ s ∈ ss, Shp 0 (.str s)) {b : C} {x1 x2 x3 x4 x7 x8 x9 x10 x11 x12 x13 x14 : Option C} {Q : Fl → Env → Prop} {X : XP} (hl : ss.length ≤ 100) (hq : ∀ r : Env, r[0]? = some (some b) → Q (.ret (.val (.bl true))) r) :
    (sr3 p [some b, x1, x2, x3, x4, some (.ls (strsD ss)), some (.ls ((rn ss).map prS)), x7, x8, x9, x10, x11, x12, x13, x14]).wp Q X := by
  unfold sr3
  have h1 := rn_len ss
  have e1 : rngD [.int (((rn ss).length : Int) - 1)] = _ := rng_low (by omega) (by omega)
  simp -implicitDefEqProofs [szS, e1]
  refine compM_wp (f := fun _ => .bl true) ?_ ?_ ?_
  · rw [rng_len]; show _ ≤ 16777216; simp; omega
  · intro d hd
    obtain ⟨k, hk, rfl⟩ := mem_rng hd
    have k1 : k < (rn ss).length := by omega
    have k2 : k + 1 < (rn ss).length := by omega
    have a1 : atI ((rn ss).map prS) ((k : Nat) : Int) = some (prS (rn ss)[k]) := atN (by simp [k1])
    have a2 : atI ((rn ss).map prS) ((k + 1 : Nat) : Int) = some (prS (rn ss)[k + 1]) := atN (by simp [k2])
    have a3 := rn_alt ss k _ _ (List.getElem?_eq_getElem k1) (List.getElem?_eq_getElem k2)
    rw [Int.natCast_add, Int.natCast_one] at a2
    simp -implicitDefEqProofs [a1, a2, a3]
  · rw [List.nil_append, List.map_const']
    simp -implicitDefEqProofs [all_bt, szS]
    refine for_wp (fun rest r => ∃ pre post y9 y10, rn ss = pre ++ post ∧ rest = post.map prS ∧ r = [some b, x1, x2, x3, x4, some (.ls (strsD ss)), none, some (.ls (strsD (spell pre))), x8, y9, y10, x11, x12, x13, x14]) ?_ ?_ ⟨[], rn ss, x9, x10, rfl, rfl, rfl⟩
    · rintro d ds r ⟨pre, post, y9, y10, e1, e2, rfl⟩
      cases post with
      | nil => cases e2
      | cons q post =>
        obtain ⟨rfl, rfl⟩ := List.cons.inj (show d :: ds = prS q :: post.map prS from e2)
        have hq : q ∈ rn ss := by rw [e1]; simp
        have p0 := rn_pos ss q hq
        have sp : (spell pre).length + (q.2.toNat + (spell post).length) = ss.length := by
          have := congrArg List.length (rn_spell ss)
          rw [e1, spell_app] at this
          simpa [spell] using this
        have m1 := rep_mul q.1 p0 (by omega)
        have m2 : binD .add (.lst (strsD (spell pre))) (.lst (strsD (List.replicate q.2.toNat q.1))) = _ := add_strs (by rw [List.length_replicate]; omega)
        simp -implicitDefEqProofs [m1, m2]
        exact hold ⟨pre ++ [q], post, some (.val (.str q.1)), some (.val (.int q.2)), by rw [e1]; simp, rfl, by simp [spell_app, spell]⟩
    · rintro r ⟨pre, post, y9, y10, e1, e2, rfl⟩
      have e3 : post = [] := by cases post with
        | nil => rfl
        | cons q post => cases e2
      subst e3
      rw [List.append_nil] at e1
      have e4 := rn_spell ss
      rw [e1] at e4
      have e5 := strs_eq hsh
      simp -implicitDefEqProofs [e4, e5]
      refine compM_wp (f := fun _ => .bl true) ?_ ?_ ?_
      · rw [List.length_map]; show _ ≤ 16777216; simp; omega
      · intro d hd
        obtain ⟨q, hq, rfl⟩ := List.mem_map.mp hd
        have p0 := rn_pos ss q hq
        simp -implicitDefEqProofs [p0]
      · rw [List.nil_append, List.map_const']
        simp -implicitDefEqProofs [all_bt]
        exact hq _ rfl
theorem words_cut {k : Int} (h0 : 0 ≤ k) (h1 : k < 4) : ∃ ws : List Str, cutD (.lst [D.str "rings", D.str "may", D.str "quiet", D.str "hushed"]) none (some (1 + k)) = some (.ls (strsD ws)) ∧ ws ≠ [] ∧ ws.length ≤ 4 ∧ ∀ s ∈ ws, Shp 0 (.str s) := by
  have e : k = 0 ∨ k = 1 ∨ k = 2 ∨ k = 3 := by omega
  have sh : ∀ s ∈ (["rings", "may", "quiet", "hushed"] : List Str), Shp 0 (.str s) := by
    intro s hs
    simp at hs
    rcases hs with rfl | rfl | rfl | rfl <;> exact .str 0 (lit_lt _ rfl)
  rcases e with rfl | rfl | rfl | rfl
  · exact ⟨["rings"], rfl, by simp, by simp, fun s hs => sh s (List.mem_of_mem_take (i := 1) hs)⟩
  · exact ⟨["rings", "may"], rfl, by simp, by simp, fun s hs => sh s (List.mem_of_mem_take (i := 2) hs)⟩
  · exact ⟨["rings", "may", "quiet"], rfl, by simp, by simp, fun s hs => sh s (List.mem_of_mem_take (i := 3) hs)⟩
  · exact ⟨["rings", "may", "quiet", "hushed"], rfl, by simp, by simp, sh⟩
/-- what a law's walk is wished of: True -/
def TrueQ (Q : Fl → Env → Prop) : Prop := ∀ (r : Env) (bs : List D), BagL bs → r[0]? = some (some (.ls bs)) → Q (.ret (.val (.bl true))) r
theorem sr2_ok {p : Pg} (hp : PullW (p.F "_law_pull")) (ho : OneS (p.F "_law_one")) (hr : RunsS (p.F "runs")) {xs : List D} (hb : BagL xs) {x1 x2 x3 x4 x5 x6 x7 x8 x9 x10 x11 x12 x13 x14 : Option C} {Q : Fl → Env → Prop} {X : XP} (hq : TrueQ Q) :
    (sr2 p [some (.ls xs), x1, x2, x3, x4, x5, x6, x7, x8, x9, x10, x11, x12, x13, x14]).wp Q X := by
  unfold sr2
  simp -implicitDefEqProofs [szS]
  refine hp _ _ _ _ hb (by decide) (by decide) fun k1 y1 p1 q1 hy1 => ?_
  obtain ⟨ws, ew, w1, w2, w3⟩ := words_cut p1 q1
  simp -implicitDefEqProofs [ew]
  refine hp _ _ _ _ hy1 (by decide) (by decide) fun k2 y2 p2 q2 hy2 => ?_
  have e1 : rngD [.int k2] = _ := rng_low (by omega) (by omega)
  simp -implicitDefEqProofs [e1]
  refine comp_wp (fun rest acc r => ∃ (bs : List D) (ss : List Str), acc = strsD ss ∧ (∀ s ∈ ss, Shp 0 (.str s)) ∧ ss.length + rest.length ≤ 20 ∧ BagL bs ∧ r = [some (.ls bs), x1, x2, x3, some (.ls (strsD ws)), x5, x6, x7, x8, x9, x10, none, x12, x13, x14]) ?_ ?_ ⟨y2, [], rfl, by simp, by rw [rng_len]; simp; omega, hy2, rfl⟩
  · rintro d ds acc r ⟨bs, ss, rfl, s1, s2, hbs, rfl⟩
    simp -implicitDefEqProofs
    refine ho.w (ys := strsD ws) hbs (.inl rfl) (strs_ne w1) (by rw [strs_len]; omega) fun x bs' hx hbs' => ?_
    obtain ⟨s, hs, rfl⟩ := List.mem_map.mp hx
    simp -implicitDefEqProofs
    refine ⟨?_, hold ⟨bs', ss ++ [s], by rw [← strs_app2]; rfl, ?_, by simp at s2 ⊢; omega, hbs', rfl⟩⟩
    · rw [strs_len]; show _ < 16777216; omega
    · intro z hz
      rcases List.mem_append.mp hz with hz | hz
      · exact s1 z hz
      · rw [List.mem_singleton.mp hz]; exact w3 s hs
  · rintro acc r ⟨bs, ss, rfl, s1, s2, hbs, rfl⟩
    have e2 := hr ss (by simp at s2; omega)
    have e3 : listD [.lst (strsD ss)] = some (.ls (strsD ss)) := rfl
    simp -implicitDefEqProofs [e3, e2]
    exact sr3_ok s1 (by simp at s2; omega) fun r hr => hq r bs hbs hr
theorem srF_ok {p : Pg} (hs : SameS 0 (p.F "_law_same")) (hh : HushS (p.F "hushed")) {qs : List (Int × Int)} (hl : qs.length ≤ 100) {m : Int} {b x1 x4 x5 x6 x7 x8 x9 x10 x11 x12 x13 x14 : Option C} {Q : Fl → Env → Prop} {X : XP}
    (hq : ∀ x8, Q .nx [b, x1, some (.ls (qs.map prI)), some (.val (.int m)), x4, x5, x6, x7, x8, x9, x10, x11, x12, x13, x14]) :
    (srF p [b, x1, some (.ls (qs.map prI)), some (.val (.int m)), x4, x5, x6, x7, x8, x9, x10, x11, x12, x13, x14]).wp Q X := by
  unfold srF
  simp -implicitDefEqProofs
  refine compM_wp (f := fun d => match d with | .tup [.int i, .int j] => .bl (inI m (i, j)) | _ => .non) ?_ ?_ ?_
  · rw [List.length_map]; show _ ≤ 16777216; simp; omega
  · intro d hd
    obtain ⟨q, _, rfl⟩ := List.mem_map.mp hd
    by_cases h : q.1 ≤ m <;> simp -implicitDefEqProofs [inI, h]
  · have e : (qs.map prI).map (fun d => match d with | D.tup [.int i, .int j] => D.bl (inI m (i, j)) | _ => .non) = qs.map fun q => .bl (inI m q) := by rw [List.map_map]; rfl
    have e2 := hh qs m hl
    have e3 : listD [.lst (qs.map prI)] = some (.ls (qs.map prI)) := rfl
    rw [List.nil_append, e]
    simp -implicitDefEqProofs [any_map, e2, e3, -List.map_map]
    refine hs.w rfl trivial ?_
    simp -implicitDefEqProofs
    exact hq _
theorem sr_ok {p : Pg} (hp : PullW (p.F "_law_pull")) (ho : OneS (p.F "_law_one")) (hr : RunsS (p.F "runs")) (hs : SameS 0 (p.F "_law_same")) (hh : HushS (p.F "hushed")) (hst : StretchW (p.F "_law_stretch")) {xs : List D} (hb : BagL xs) {Q : C → Env → Prop} {X : XP} (hq : ∀ bs, BagL bs → Q (.val (.bl true)) [some (.ls bs)]) : (runDef p d_law_stretches_right [.ls xs]).wp Q X := by
  refine wp_def rfl ?_
  show (s_law_stretches_right p [some (.ls xs), none, none, none, none, none, none, none, none, none, none, none, none, none, none]).wp _ _
  rw [s_sr_eq]
  simp -implicitDefEqProofs
  refine hp _ _ _ _ hb (by decide) (by decide) fun k1 y1 p1 q1 hy1 => ?_
  have e1 : rngD [.int k1] = _ := rng_low (by omega) (by omega)
  simp -implicitDefEqProofs [e1]
  refine comp_wp (fun rest acc r => ∃ (bs : List D) (qs : List (Int × Int)), acc = qs.map prI ∧ qs.length + rest.length ≤ 4 ∧ BagL bs ∧ r = [some (.ls bs), none, none, none, none, none, none, none, none, none, none, none, none, none, none]) ?_ ?_ ⟨y1, [], rfl, by rw [rng_len]; simp; omega, hy1, rfl⟩
  · rintro d ds acc r ⟨bs, qs, rfl, s2, hbs, rfl⟩
    simp -implicitDefEqProofs
    refine hst _ _ _ hbs fun i j zs hz => ?_
    simp -implicitDefEqProofs
    refine ⟨?_, hold ⟨zs, qs ++ [(i, j)], by simp, by simp at s2 ⊢; omega, hz, rfl⟩⟩
    show _ < 16777216; omega
  · rintro acc r ⟨bs, qs, rfl, s2, hbs, rfl⟩
    simp -implicitDefEqProofs
    refine compM_wp (f := fun d => match d with | .tup [.int i, .int j] => .tup [.int i, .int (j + 1)] | _ => .non) ?_ ?_ ?_
    · rw [List.length_map]; show _ ≤ 16777216; simp at s2 ⊢; omega
    · intro d hd
      obtain ⟨q, _, rfl⟩ := List.mem_map.mp hd
      simp -implicitDefEqProofs [szS]
    · have e : (qs.map prI).map (fun d => match d with | D.tup [.int i, .int j] => D.tup [.int i, .int (j + 1)] | _ => .non) = (qs.map fun q => (q.1, q.2 + 1)).map prI := by rw [List.map_map, List.map_map]; rfl
      rw [List.nil_append, e]
      have hl : (qs.map fun q => (q.1, q.2 + 1)).length ≤ 100 := by rw [List.length_map]; simp at s2; omega
      generalize (qs.map fun q => (q.1, q.2 + 1)) = zs at hl
      have e2 : rngD [.int (-24), .int 36] = some (rngL (-24) 60) := rfl
      simp -implicitDefEqProofs [e2]
      refine for_wp (fun rest r => (∀ d ∈ rest, ∃ m, d = .int m) ∧ ∃ x1 x3 x8, r = [some (.ls bs), x1, some (.ls (zs.map prI)), x3, none, none, none, none, x8, none, none, none, none, none, none]) ?_ ?_ ⟨fun d hd => ?_, _, _, _, rfl⟩
      · rintro d ds r ⟨hm, x1, x3, x8, rfl⟩
        obtain ⟨m, rfl⟩ := hm d (List.mem_cons_self ..)
        simp -implicitDefEqProofs
        refine srF_ok hs hh hl fun x8 => ?_
        simp -implicitDefEqProofs
        exact hold ⟨fun d hd => hm d (List.mem_cons_of_mem _ hd), _, _, _, rfl⟩
      · rintro r ⟨_, x1, x3, x8, rfl⟩
        refine sr2_ok hp ho hr hbs fun r bs hbs e => ?_
        simp -implicitDefEqProofs
        cases r with
        | nil => cases e
        | cons y r =>
          have e : some y = some (some (.ls bs)) := e
          cases e
          exact hq bs hbs
      · obtain ⟨k, _, rfl⟩ := mem_rng hd
        exact ⟨_, rfl⟩
/-! ### the law -/
theorem max_ii (i j : Int) : ∃ a : Int, maxD [.int i, .int j] = some (.val (.int a)) := ⟨_, rfl⟩
theorem int_bl (b : Bool) : intD [.bl b] = some (.val (.int (if b then 1 else 0))) := rfl
def tryX (c : Str) (i : Nat) (o : Option Nat) (hs : List HP) (Q : Fl → Env → Prop) (X : XP) : XP := fun x r1 => (if x.cls = c ∧ i < r1.length then tryF i o r1 (hpsD x hs) else .bad).wp Q X
@[simp ↓] theorem tryX_eq (c : Str) (i : Nat) (o : Option Nat) (hs : List HP) (Q : Fl → Env → Prop) (X : XP) (x : Exc) (r1 : Env) : tryX c i o hs Q X x r1 = (if x.cls = c ∧ i < r1.length then tryF i o r1 (hpsD x hs) else .bad).wp Q X := rfl
@[simp] theorem wp_tryK (c : Str) (i : Nat) (o : Option Nat) (hs : List HP) (z : Out Fl) (Q : Fl → Env → Prop) (X : XP) : (tryK c i o hs z).wp Q X = z.wp Q (tryX c i o hs Q X) := by
  cases z with
  | ok f r => exact propext ⟨fun h => ⟨h.go⟩, fun h => ⟨h.go⟩⟩
  | exn x r => rw [wp_exn, tryX_eq, tryK_exn]
  | bad => exact propext ⟨fun h => h.go.elim, fun h => h.go.elim⟩
structure Hyp (p : Pg) : Prop where
  bag : BagS (p.F "_law_bag")
  pull : PullW (p.F "_law_pull")
  one : OneS (p.F "_law_one")
  house : HouseW (p.F "_law_house_small")
  watch : WatchW (p.F "_law_watch")
  need : ∀ {ss : List Str} (r : RuleD ss) {Q : C → Env → Prop} {X : XP}, (r.bad = none → Q (.val (.tup r.ds)) [some (.val (.tup r.ds))]) → (∀ i, r.bad = some i → X (badX i) [some (.val (.tup r.ds))]) → (p.F "need_watch" [.val (.tup r.ds)]).wp Q X
  odd : ∀ {d : D} {c : C}, Odd d → c.frz = d → ∀ {Q : C → Env → Prop} {X : XP}, X (badX 0) [some c] → (p.F "need_watch" [c]).wp Q X
  wrong : WrongS (p.F "_law_watch_wrong")
  state : StateS (p.F "state_of")
  s0 : SameS 0 (p.F "_law_same")
  s8 : SameS 6 (p.F "_law_same")
  right : ∀ {xs : List D}, BagL xs → ∀ {Q : C → Env → Prop} {X : XP}, (∀ bs, BagL bs → Q (.val (.bl true)) [some (.ls bs)]) → (p.F "_law_stretches_right" [.ls xs]).wp Q X
/-- the slots behind a turn -/
def StL (v0 v3 : Option C) (h : D) (xs : List D) (r : Env) : Prop := ∃ v4 v5 v6 v7 v8 v9 v10 v11 v12 v13 v14 v15, r = [v0, some (.ls xs), some (.val h), v3, v4, v5, v6, v7, v8, v9, v10, v11, v12, v13, v14, v15]
def EndL (v0 v3 : Option C) (h : D) (Q : Fl → Env → Prop) : Prop := ∀ ys r, BagL ys → StL v0 v3 h ys r → Q .nx r
theorem lw3_ok {p : Pg} (H : Hyp p) {a b c d e : Str} {xs : List D} (hn : ∀ s ∈ [a, b, c, d, e], NmOk s) (hb : BagL xs) {v0 v3 v4 v5 v6 v7 v8 v9 v10 v11 v12 v13 v14 v15 : Option C} {Q : Fl → Env → Prop} {X : XP} (hq : EndL v0 v3 (houseD a b c d e) Q) :
    (lw3 p [v0, some (.ls xs), some (.val (houseD a b c d e)), v3, v4, v5, v6, v7, v8, v9, v10, v11, v12, v13, v14, v15]).wp Q X := by
  unfold lw3
  simp -implicitDefEqProofs
  refine H.watch _ _ _ _ _ _ _ _ hb hn fun m w t l s ys m1 w1 w2 t1 t2 l1 l2 s1 hy => ?_
  simp -implicitDefEqProofs
  refine H.pull _ _ _ _ hy (by decide) (by decide) fun k1 y1 p1 q1 hy1 => ?_
  obtain ⟨lo, elo⟩ := max_ii 0 (l + k1 - 3)
  simp -implicitDefEqProofs [elo]
  refine H.pull _ _ _ _ hy1 (by decide) (by decide) fun k2 y2 p2 q2 hy2 => ?_
  have e1 := H.state (.str m) (.int w) t.d l lo (lo + k2) s
  have hz : ∀ r, StL v0 v3 (houseD a b c d e) y2 r → Q .nx r := fun r h => hq y2 r hy2 h
  rcases s1 with rfl | rfl
  · by_cases h1 : l ≤ lo
    · by_cases h2 : lo + k2 < l
      · omega
      · simp -implicitDefEqProofs [h1, h2, e1, int_bl, szS, stOf]
        refine H.s0.w rfl trivial ?_
        simp -implicitDefEqProofs
        exact hz _ ⟨_, _, _, _, _, _, _, _, _, _, _, _, rfl⟩
    · by_cases h2 : lo + k2 < l
      · simp -implicitDefEqProofs [h1, h2, e1, int_bl, szS, stOf]
        refine H.s0.w rfl trivial ?_
        simp -implicitDefEqProofs
        exact hz _ ⟨_, _, _, _, _, _, _, _, _, _, _, _, rfl⟩
      · simp -implicitDefEqProofs [h1, h2, e1, int_bl, szS, stOf]
        refine H.s0.w rfl trivial ?_
        simp -implicitDefEqProofs
        exact hz _ ⟨_, _, _, _, _, _, _, _, _, _, _, _, rfl⟩
  · by_cases h1 : lo + k2 ≤ l
    · simp -implicitDefEqProofs [h1, e1, int_bl, szS, stOf]
      refine H.s0.w rfl trivial ?_
      simp -implicitDefEqProofs
      exact hz _ ⟨_, _, _, _, _, _, _, _, _, _, _, _, rfl⟩
    · by_cases h2 : l < lo
      · simp -implicitDefEqProofs [h1, h2, e1, int_bl, szS, stOf]
        refine H.s0.w rfl trivial ?_
        simp -implicitDefEqProofs
        exact hz _ ⟨_, _, _, _, _, _, _, _, _, _, _, _, rfl⟩
      · simp -implicitDefEqProofs [h1, h2, e1, int_bl, szS, stOf]
        refine H.s0.w rfl trivial ?_
        simp -implicitDefEqProofs
        exact hz _ ⟨_, _, _, _, _, _, _, _, _, _, _, _, rfl⟩
/-! plain data of a rule -/
theorem Pl.of_fl {d : D} (h : d.fl) : ∀ n, Pl n d
  | 0 => h
  | n + 1 => .inl h
theorem pl_s (n : Nat) (s : Str) : Pl n (.str s) := Pl.of_fl (d := .str s) trivial n
theorem pl_i (n : Nat) (i : Int) : Pl n (.int i) := Pl.of_fl (d := .int i) trivial n
theorem Pl.tup {n : Nat} {xs : List D} (hl : xs.length ≤ 1000) (h : ∀ x ∈ xs, Pl n x) : Pl (n + 1) (.tup xs) := .inr ⟨xs, .inr rfl, hl, h⟩
theorem Tst.pl : ∀ (n : Nat) {t : Tst}, t.dp ≤ n → Pl n t.d
  | 0, t, h => by have := t.dp_pos; omega
  | n + 1, .any, h => .tup (by simp) fun x hx => by simp at hx; subst hx; exact (by first | exact pl_s _ _ | exact pl_i _ _)
  | n + 1, .leaf f s, h => .tup (by simp) fun x hx => by
    simp at hx
    rcases hx with rfl | rfl <;> first | exact pl_s _ _ | exact pl_i _ _
  | n + 1, .not t, h => .tup (by simp) fun x hx => by
    simp at hx
    rcases hx with rfl | rfl
    · exact (by first | exact pl_s _ _ | exact pl_i _ _)
    · exact Tst.pl n (by simp [Tst.dp] at h; omega)
  | n + 1, .two o a b, h => .tup (by simp) fun x hx => by
    simp at hx
    rcases hx with rfl | rfl | rfl
    · exact (by first | exact pl_s _ _ | exact pl_i _ _)
    · exact Tst.pl n (by simp [Tst.dp] at h; omega)
    · exact Tst.pl n (by simp [Tst.dp] at h; omega)
theorem Pl.up {n : Nat} {d : D} (h : Pl n d) : Pl (n + 1) d := by
  induction n generalizing d with
  | zero => exact .inl h
  | succ n ih =>
    rcases h with h | ⟨xs, h1, h2, h3⟩
    · exact .inl h
    · exact .inr ⟨xs, h1, h2, fun x hx => ih (h3 x hx)⟩
theorem num_fl {lo hi : Int} {d : D} (h : numB lo hi d = true) : d.fl := by
  cases d <;> first | trivial | cases h
theorem ts_pl {ss : List Str} {d : D} (h : TsD ss d true) : Pl 3 d := by
  cases h with
  | good h1 h2 => exact Tst.pl 3 h2
theorem RuleD.pl {ss : List Str} {r : RuleD ss} (h : r.bad = none) : Pl 5 (.tup r.ds) := by
  unfold RuleD.bad at h
  cases b1 : msB r.m with
  | false => simp [b1] at h
  | true =>
  cases b2 : numB 1 50 r.w with
  | false => simp [b1, b2] at h
  | true =>
  cases b3 : r.tb with
  | false => simp [b1, b2, b3] at h
  | true =>
  cases b4 : numB 0 100000 r.l with
  | false => simp [b1, b2, b3, b4] at h
  | true =>
  refine .tup (by simp) fun x hx => ?_
  simp at hx
  have ht : TsD ss r.t true := b3 ▸ r.ht
  rcases hx with rfl | rfl | rfl | rfl | rfl
  · exact (by first | exact pl_s _ _ | exact pl_i _ _)
  · exact .of_fl (num_fl b2) 4
  · exact Pl.up (ts_pl ht)
  · exact .of_fl (num_fl b4) 4
  · exact (by first | exact pl_s _ _ | exact pl_i _ _)
theorem RuleD.bad_pos {ss : List Str} {r : RuleD ss} {i : Int} (h : r.bad = some i) : 0 ≤ i := by
  unfold RuleD.bad at h
  split at h
  · cases h; decide
  split at h
  · cases h; decide
  split at h
  · cases h; decide
  split at h
  · cases h; decide
  split at h
  · cases h; decide
  cases h
theorem bad_cls (i : Int) : (badX i).cls = "BadRule" := rfl
theorem bad_at (i : Int) : List.lookup (Str.ofString "at") (badX i).fs = some (.int i) := rfl
theorem bad_hps (i : Int) : hpsD (badX i) [.cst (.str "bad"), .fld "at"] = some [.str "bad", .int i] := rfl
theorem lw2_rule {p : Pg} (H : Hyp p) {a b c d e : Str} {xs : List D} (hn : ∀ s ∈ [a, b, c, d, e], NmOk s) (hb : BagL xs) {ss : List Str} (r : RuleD ss) {v0 v3 v5 v6 v7 v8 v9 v10 v11 v12 v13 v14 v15 : Option C} {Q : Fl → Env → Prop} {X : XP} (hq : EndL v0 v3 (houseD a b c d e) Q) :
    (lw2 p [v0, some (.ls xs), some (.val (houseD a b c d e)), v3, some (.val (.tup r.ds)), v5, v6, v7, v8, v9, v10, v11, v12, v13, v14, v15]).wp Q X := by
  unfold lw2
  have e1 := H.wrong.1 ss r
  simp -implicitDefEqProofs
  refine H.need r (fun h => ?_) (fun i h => ?_)
  · rw [h] at e1
    simp -implicitDefEqProofs [szS, e1, wrongI]
    refine H.s8.w rfl (.tup (n := 5) (by simp) fun x hx => ?_) ?_
    · simp at hx
      rcases hx with rfl | rfl
      · exact (by first | exact pl_s _ _ | exact pl_i _ _)
      · exact RuleD.pl h
    · simp -implicitDefEqProofs
      exact lw3_ok H hn hb hq
  · rw [h] at e1
    have h0 := RuleD.bad_pos h
    have h1 : ¬ i < 0 := by omega
    simp -implicitDefEqProofs [szS, bad_cls, bad_at, e1, wrongI, h1]
    refine H.s8.w (c := .val (.tup [.str "bad", .int i])) rfl (.tup (n := 5) (by simp) fun x hx => ?_) ?_
    · simp at hx
      rcases hx with rfl | rfl <;> first | exact pl_s _ _ | exact pl_i _ _
    · simp -implicitDefEqProofs
      exact lw3_ok H hn hb hq
theorem lw2_odd {p : Pg} (H : Hyp p) {a b c d e : Str} {xs : List D} (hn : ∀ s ∈ [a, b, c, d, e], NmOk s) (hb : BagL xs) {z : D} (ho : Odd z) {v0 v3 v5 v6 v7 v8 v9 v10 v11 v12 v13 v14 v15 : Option C} {Q : Fl → Env → Prop} {X : XP} (hq : EndL v0 v3 (houseD a b c d e) Q) :
    (lw2 p [v0, some (.ls xs), some (.val (houseD a b c d e)), v3, some (.val z), v5, v6, v7, v8, v9, v10, v11, v12, v13, v14, v15]).wp Q X := by
  unfold lw2
  have e1 := H.wrong.2 z (.val z) ho rfl
  simp -implicitDefEqProofs
  refine H.odd ho rfl ?_
  simp -implicitDefEqProofs [szS, bad_cls, bad_at, e1]
  refine H.s8.w (c := .val (.tup [.str "bad", .int 0])) rfl (.tup (n := 5) (by simp) fun x hx => ?_) ?_
  · simp at hx
    rcases hx with rfl | rfl <;> first | exact pl_s _ _ | exact pl_i _ _
  · simp -implicitDefEqProofs
    exact lw3_ok H hn hb hq
theorem lw1b_ok {p : Pg} (H : Hyp p) {a b c d e : Str} {xs : List D} (hn : ∀ s ∈ [a, b, c, d, e], NmOk s) (hb : BagL xs) {ss : List Str} (r : RuleD ss) {v0 v3 v5 v6 v7 v8 v9 v10 v11 v12 v13 v14 v15 : Option C} {Q : Fl → Env → Prop} {X : XP} (hq : EndL v0 v3 (houseD a b c d e) Q) :
    (lw1b p [v0, some (.ls xs), some (.val (houseD a b c d e)), v3, some (.val (.tup r.ds)), v5, v6, v7, v8, v9, v10, v11, v12, v13, v14, v15]).wp Q X := by
  unfold lw1b
  simp -implicitDefEqProofs
  refine H.pull _ _ _ _ hb (by decide) (by decide) fun k1 y1 p1 q1 hy1 => ?_
  by_cases h : k1 = 0
  · have e1 : cutD (.tup r.ds) none (some 4) = some (.val (.tup [.str r.m, r.w, r.t, r.l])) := rfl
    have e2 : binD .add (.tup r.ds) (.tup [.int 1]) = some (.val (.tup [.str r.m, r.w, r.t, r.l, .str r.s, .int 1])) := rfl
    have e3 : listD [.tup r.ds] = some (.ls r.ds) := rfl
    simp -implicitDefEqProofs [h, e1, e2, e3, szS]
    refine H.pull _ _ _ _ hy1 (by decide) (by decide) fun k2 y2 p2 q2 hy2 => ?_
    rcases three p2 q2 with rfl | rfl | rfl
    · simp -implicitDefEqProofs
      exact lw2_odd H hn hy2 (.four _ _ _ _) hq
    · simp -implicitDefEqProofs
      exact lw2_odd H hn hy2 (.six _ _ _ _ _ _) hq
    · simp -implicitDefEqProofs
      exact lw2_odd H hn hy2 (.lst _) hq
  · simp -implicitDefEqProofs [h]
    exact lw2_rule H hn hy1 r hq
theorem five {k : Int} (h0 : 0 ≤ k) (h1 : k < 5) : k = 0 ∨ k = 1 ∨ k = 2 ∨ k = 3 ∨ k = 4 := by omega
theorem add_tup {xs ys : List D} (h : xs.length + ys.length ≤ 1000) : binD .add (.tup xs) (.tup ys) = some (.val (.tup (xs ++ ys))) := by
  show (if szOk (xs.length + ys.length) then some (C.val (.tup (xs ++ ys))) else none) = _
  rw [if_pos (szS h)]
theorem c5_0 (a b c d e : D) : cutD (.tup [a, b, c, d, e]) none (some 0) = some (.val (.tup [])) := rfl
theorem c5_1 (a b c d e : D) : cutD (.tup [a, b, c, d, e]) none (some 1) = some (.val (.tup [a])) := rfl
theorem c5_2 (a b c d e : D) : cutD (.tup [a, b, c, d, e]) none (some 2) = some (.val (.tup [a, b])) := rfl
theorem c5_3 (a b c d e : D) : cutD (.tup [a, b, c, d, e]) none (some 3) = some (.val (.tup [a, b, c])) := rfl
theorem c5_4 (a b c d e : D) : cutD (.tup [a, b, c, d, e]) none (some 4) = some (.val (.tup [a, b, c, d])) := rfl
theorem d5_1 (a b c d e : D) : cutD (.tup [a, b, c, d, e]) (some 1) none = some (.val (.tup [b, c, d, e])) := rfl
theorem d5_2 (a b c d e : D) : cutD (.tup [a, b, c, d, e]) (some 2) none = some (.val (.tup [c, d, e])) := rfl
theorem d5_3 (a b c d e : D) : cutD (.tup [a, b, c, d, e]) (some 3) none = some (.val (.tup [d, e])) := rfl
theorem d5_4 (a b c d e : D) : cutD (.tup [a, b, c, d, e]) (some 4) none = some (.val (.tup [e])) := rfl
theorem d5_5 (a b c d e : D) : cutD (.tup [a, b, c, d, e]) (some 5) none = some (.val (.tup [])) := rfl
theorem lw1_ok {p : Pg} (H : Hyp p) {a b c d e : Str} {xs : List D} (hn : ∀ s ∈ [a, b, c, d, e], NmOk s) (hb : BagL xs) {v0 v3 v4 v5 v6 v7 v8 v9 v10 v11 v12 v13 v14 v15 : Option C} {Q : Fl → Env → Prop} {X : XP} (hq : EndL v0 v3 (houseD a b c d e) Q) :
    (lw1 p [v0, some (.ls xs), some (.val (houseD a b c d e)), v3, v4, v5, v6, v7, v8, v9, v10, v11, v12, v13, v14, v15]).wp Q X := by
  unfold lw1
  simp -implicitDefEqProofs
  refine H.watch _ _ _ _ _ _ _ _ hb hn fun m w t l s ys m1 w1 w2 t1 t2 l1 l2 s1 hy => ?_
  simp -implicitDefEqProofs
  refine H.pull _ _ _ _ hy (by decide) (by decide) fun k1 y1 p1 q1 hy1 => ?_
  rcases five p1 q1 with rfl | rfl | rfl | rfl | rfl
  · simp -implicitDefEqProofs [szS]
    refine H.pull _ _ _ _ hy1 (by decide) (by decide) fun k2 y2 p2 q2 hy2 => ?_
    by_cases h : k2 = 0
    · simp -implicitDefEqProofs [h, c5_0]
      refine H.one.w (ys := [.str "", .str "few"]) hy2 (.inl rfl) (by simp) (by simp) fun x bs hx hbs => ?_
      simp at hx
      rcases hx with rfl | rfl
      · simp -implicitDefEqProofs [szS, d5_1, add_tup]
        exact lw1b_ok H hn hbs (ss := [a, b, c, d, e]) ⟨"", .int w, t.d, .int l, s, true, .int w, .good t1 t2, .int l⟩ hq
      · simp -implicitDefEqProofs [szS, d5_1, add_tup]
        exact lw1b_ok H hn hbs (ss := [a, b, c, d, e]) ⟨"few", .int w, t.d, .int l, s, true, .int w, .good t1 t2, .int l⟩ hq
    · simp -implicitDefEqProofs [h]
      exact lw1b_ok H hn hy2 (ss := [a, b, c, d, e]) ⟨m, .int w, t.d, .int l, s, true, .int w, .good t1 t2, .int l⟩ hq
  · simp -implicitDefEqProofs [szS]
    refine H.pull _ _ _ _ hy1 (by decide) (by decide) fun k2 y2 p2 q2 hy2 => ?_
    by_cases h : k2 = 0
    · simp -implicitDefEqProofs [h, c5_1]
      refine H.one.w (ys := [.int 0, .int 51, .int (-1), .bl true]) hy2 (.inl rfl) (by simp) (by simp) fun x bs hx hbs => ?_
      have hx' : Nm x := by simp at hx; rcases hx with rfl | rfl | rfl | rfl <;> constructor
      simp -implicitDefEqProofs [szS, d5_2, add_tup]
      exact lw1b_ok H hn hbs (ss := [a, b, c, d, e]) ⟨m, x, t.d, .int l, s, true, hx', .good t1 t2, .int l⟩ hq
    · simp -implicitDefEqProofs [h]
      exact lw1b_ok H hn hy2 (ss := [a, b, c, d, e]) ⟨m, .int w, t.d, .int l, s, true, .int w, .good t1 t2, .int l⟩ hq
  · simp -implicitDefEqProofs [szS]
    refine H.pull _ _ _ _ hy1 (by decide) (by decide) fun k2 y2 p2 q2 hy2 => ?_
    by_cases h : k2 = 0
    · simp -implicitDefEqProofs [h, c5_2]
      refine H.one.w (ys := [.tup [.str "few"], .str "any", .int 3]) hy2 (.inl rfl) (by simp) (by simp) fun x bs hx hbs => ?_
      have hx' : NoT x := by simp at hx; rcases hx with rfl | rfl | rfl <;> constructor
      simp -implicitDefEqProofs [szS, d5_3, add_tup]
      exact lw1b_ok H hn hbs (ss := [a, b, c, d, e]) ⟨m, .int w, x, .int l, s, false, .int w, .no hx', .int l⟩ hq
    · simp -implicitDefEqProofs [h]
      exact lw1b_ok H hn hy2 (ss := [a, b, c, d, e]) ⟨m, .int w, t.d, .int l, s, true, .int w, .good t1 t2, .int l⟩ hq
  · simp -implicitDefEqProofs [szS]
    refine H.pull _ _ _ _ hy1 (by decide) (by decide) fun k2 y2 p2 q2 hy2 => ?_
    by_cases h : k2 = 0
    · simp -implicitDefEqProofs [h, c5_3]
      refine H.one.w (ys := [.int (-1), .int 100001, .bl true]) hy2 (.inl rfl) (by simp) (by simp) fun x bs hx hbs => ?_
      have hx' : Nm x := by simp at hx; rcases hx with rfl | rfl | rfl <;> constructor
      simp -implicitDefEqProofs [szS, d5_4, add_tup]
      exact lw1b_ok H hn hbs (ss := [a, b, c, d, e]) ⟨m, .int w, t.d, x, s, true, .int w, .good t1 t2, hx'⟩ hq
    · simp -implicitDefEqProofs [h]
      exact lw1b_ok H hn hy2 (ss := [a, b, c, d, e]) ⟨m, .int w, t.d, .int l, s, true, .int w, .good t1 t2, .int l⟩ hq
  · simp -implicitDefEqProofs [szS]
    refine H.pull _ _ _ _ hy1 (by decide) (by decide) fun k2 y2 p2 q2 hy2 => ?_
    by_cases h : k2 = 0
    · simp -implicitDefEqProofs [h, c5_4]
      refine H.one.w (ys := [.str "above", .str ""]) hy2 (.inl rfl) (by simp) (by simp) fun x bs hx hbs => ?_
      simp at hx
      rcases hx with rfl | rfl
      · simp -implicitDefEqProofs [szS, d5_5, add_tup]
        exact lw1b_ok H hn hbs (ss := [a, b, c, d, e]) ⟨m, .int w, t.d, .int l, "above", true, .int w, .good t1 t2, .int l⟩ hq
      · simp -implicitDefEqProofs [szS, d5_5, add_tup]
        exact lw1b_ok H hn hbs (ss := [a, b, c, d, e]) ⟨m, .int w, t.d, .int l, "", true, .int w, .good t1 t2, .int l⟩ hq
    · simp -implicitDefEqProofs [h]
      exact lw1b_ok H hn hy2 (ss := [a, b, c, d, e]) ⟨m, .int w, t.d, .int l, s, true, .int w, .good t1 t2, .int l⟩ hq
theorem law_ok {p : Pg} (H : Hyp p) {ns : List Int} (hns : ns.length ≤ 63) : ∃ ps, runDef p d_law [.val (.scr ns)] = .ok (.val (.bl true)) ps := by
  refine FOut.ex_of (wp_def rfl ?_)
  show (s_law p [some (.val (.scr ns)), none, none, none, none, none, none, none, none, none, none, none, none, none, none, none]).wp _ _
  rw [s_law_eq]
  simp -implicitDefEqProofs
  refine H.bag.w fun bs hbs => ?_
  simp -implicitDefEqProofs
  refine H.house _ _ _ hbs fun a b c d e ys hn hy => ?_
  have hc : ∃ k : Nat, k ≤ 63 ∧ cutD (.scr ns) none (some 30) = some (.ls ((cutL ns none (some 30)).map .int)) ∧ (cutL ns none (some 30)).length = k := ⟨_, by unfold cutL; rw [List.length_take]; have := List.length_drop (i := HT.sIx ns.length 0 none) (l := ns); omega, rfl, rfl⟩
  obtain ⟨k, hk, e1, e2⟩ := hc
  have e3 : rngD [.int (2 + (k : Int))] = _ := rng_low (by omega) (by omega)
  simp -implicitDefEqProofs [szS, e1, e2, e3]
  refine for_wp (fun _ r => ∃ ys v3, BagL ys ∧ StL (some (.val (.scr ns))) v3 (houseD a b c d e) ys r) ?_ ?_ ⟨ys, _, hy, _, _, _, _, _, _, _, _, _, _, _, _, rfl⟩
  · rintro y ds r ⟨ys, v3, hy, v4, v5, v6, v7, v8, v9, v10, v11, v12, v13, v14, v15, rfl⟩
    simp -implicitDefEqProofs
    refine lw1_ok H hn hy fun zs r hz hr => ?_
    simp -implicitDefEqProofs
    exact hold ⟨zs, _, hz, hr⟩
  · rintro r ⟨ys, v3, hy, v4, v5, v6, v7, v8, v9, v10, v11, v12, v13, v14, v15, rfl⟩
    simp -implicitDefEqProofs
    refine H.right hy fun bs hbs => ?_
    simp -implicitDefEqProofs
/-! the program -/
theorem F_of {x : Str} {e : Ent} {d : Def} (h : entOf tab x = some e) (hd : e.d = d) (n : Nat) : (pgN tab glF (n + 1)).F x = runDef (pgN tab glF n) d := by
  subst hd
  funext cs
  show (match entOf tab x with | some e => runDef (pgN tab glF n) e.d cs | none => FOut.bad) = _
  rw [h]
theorem G_of (x : Str) (n : Nat) : (pgN tab glF n).G x = glF x := by rw [pgN_G]
theorem w_pull (n : Nat) : PullS ((pgN tab glF (n + 1)).F "_law_pull") := by rw [F_of (e := n_law_pull) (d := d_law_pull) rfl rfl]; exact pull_ok _
theorem w_bag (n : Nat) : BagS ((pgN tab glF (n + 1)).F "_law_bag") := by rw [F_of (e := n_law_bag) (d := d_law_bag) rfl rfl]; exact bag_ok _
theorem w_letters (n : Nat) : LettersS ((pgN tab glF (n + 2)).F "_law_letters") := by rw [F_of (e := n_law_letters) (d := d_law_letters) rfl rfl]; exact letters_ok (w_pull n)
theorem w_name (n : Nat) : NameS ((pgN tab glF (n + 3)).F "_law_name") := by rw [F_of (e := n_law_name) (d := d_law_name) rfl rfl]; exact name_ok (w_pull (n + 1)) (w_letters n)
theorem w_same : ∀ m n : Nat, SameS m ((pgN tab glF (n + m + 1)).F "_law_same")
  | 0, n => by rw [F_of (e := n_law_same) (d := d_law_same) rfl rfl]; exact same_ok fun m h => by cases h
  | m + 1, n => by
    rw [F_of (e := n_law_same) (d := d_law_same) rfl rfl]
    refine same_ok fun m' h => ?_
    cases h
    exact w_same m n
theorem w_one (n : Nat) : OneS ((pgN tab glF (n + 2)).F "_law_one") := by rw [F_of (e := n_law_one) (d := d_law_one) rfl rfl]; exact one_ok (w_pull n)
theorem w_names (n : Nat) : NamesS ((pgN tab glF (n + 4)).F "_law_names") := by rw [F_of (e := n_law_names) (d := d_law_names) rfl rfl]; exact names_ok (w_pull (n + 2)) (w_letters (n + 1)) (w_name n)
theorem w_isname (n : Nat) : GoodS ((pgN tab glF (n + 1)).F "is_name") := by rw [F_of (e := n_is_name) (d := d_is_name) rfl rfl]; exact is_name_ok (by rw [G_of]; rfl) (by rw [G_of]; rfl)
theorem w_leaf (n : Nat) {ss : List Str} {t : Tst} (ht : t.ok ss) (hd : t.dp ≤ 60) : (pgN tab glF (n + 2)).F "is_leaf" [.val t.d] = .ok (.val (.bl t.isLeaf)) [some (.val t.d)] := by rw [F_of (e := n_is_leaf) (d := d_is_leaf) rfl rfl]; exact leaf_ok (by rw [G_of]; rfl) (w_isname n) ht hd
theorem w_few (n : Nat) : (pgN tab glF (n + 1)).F "is_leaf" [.val (.tup [.str "few"])] = .ok (.val (.bl false)) [some (.val (.tup [.str "few"]))] := by rw [F_of (e := n_is_leaf) (d := d_is_leaf) rfl rfl]; exact no_leaf (by rw [G_of]; rfl)
theorem w_inner (n : Nat) : InnerS ((pgN tab glF (n + 3)).F "inner_of") := by
  intro ss t ht hd
  rw [F_of (e := n_inner_of) (d := d_inner_of) rfl rfl]
  exact inner_ok (by rw [G_of]; rfl) (fun h1 h2 => w_leaf n h1 h2) ht hd
theorem w_noin (n : Nat) : NoInS ((pgN tab glF (n + 2)).F "inner_of") := by rw [F_of (e := n_inner_of) (d := d_inner_of) rfl rfl]; exact no_inner (by rw [G_of]; rfl) (w_few n)
theorem w_sizes (n : Nat) : SizesW ((pgN tab glF (n + 4)).F "sizes") := by rw [F_of (e := n_sizes) (d := d_sizes) rfl rfl]; exact sizes_ok (by rw [G_of]; rfl) (by rw [G_of]; rfl) (w_inner n) (w_noin (n + 1))
theorem w_betw (n : Nat) : BetwS ((pgN tab glF (n + 1)).F "is_between") := by rw [F_of (e := n_is_between) (d := d_is_between) rfl rfl]; exact betw_ok
theorem w_goodn (n : Nat) : GoodN ((pgN tab glF (n + 1)).F "_law_number_good") := by rw [F_of (e := n_law_number_good) (d := d_law_number_good) rfl rfl]; exact goodn_ok
theorem w_looks (n : Nat) : LooksOk (pgN tab glF (n + 5)) := by
  refine ⟨by rw [G_of]; rfl, by rw [pgN_lv]; omega, fun s => ?_, fun d h => ?_, fun ss d b h => ?_, fun d h => ?_, fun s => ?_⟩
  · rw [F_of (e := n_is_measure) (d := d_is_measure) rfl rfl]; exact measure_ok (by rw [G_of]; rfl) s
  · rw [F_of (e := n_is_width) (d := d_is_width) rfl rfl]; exact width_ok (by rw [G_of]; rfl) (w_betw (n + 3)) h
  · rw [F_of (e := n_is_test) (d := d_is_test) rfl rfl]; exact test_ok (w_sizes n) h
  · rw [F_of (e := n_is_bound) (d := d_is_bound) rfl rfl]; exact bound_ok (by rw [G_of]; rfl) (w_betw (n + 3)) h
  · rw [F_of (e := n_is_side) (d := d_is_side) rfl rfl]; exact side_ok s
theorem w_wrong (n : Nat) : WrongS ((pgN tab glF (n + 2)).F "_law_watch_wrong") := by rw [F_of (e := n_law_watch_wrong) (d := d_law_watch_wrong) rfl rfl]; exact wrong_ok (w_goodn n)
theorem w_state (n : Nat) : StateS ((pgN tab glF (n + 1)).F "state_of") := by rw [F_of (e := n_state_of) (d := d_state_of) rfl rfl]; exact state_ok
theorem w_hush (n : Nat) : HushS ((pgN tab glF (n + 1)).F "hushed") := by rw [F_of (e := n_hushed) (d := d_hushed) rfl rfl]; exact hush_ok
theorem w_runs (n : Nat) : RunsS ((pgN tab glF (n + 1)).F "runs") := by rw [F_of (e := n_runs) (d := d_runs) rfl rfl]; exact runs_ok
theorem w_stretch (n : Nat) : StretchW ((pgN tab glF (n + 2)).F "_law_stretch") := by rw [F_of (e := n_law_stretch) (d := d_law_stretch) rfl rfl]; exact stretch_ok (w_pull n).w
theorem w_lleaf (n : Nat) : LeafW ((pgN tab glF (n + 3)).F "_law_leaf") := by rw [F_of (e := n_law_leaf) (d := d_law_leaf) rfl rfl]; exact lleaf_ok (w_pull (n + 1)).w (w_one n)
theorem w_test : ∀ m n : Nat, TestW m ((pgN tab glF (n + m + 4)).F "_law_test_of")
  | 0, n => by rw [F_of (e := n_law_test_of) (d := d_law_test_of) rfl rfl]; exact ltest_ok (w_pull (n + 2)).w (w_lleaf n) fun m h => by cases h
  | m + 1, n => by
    rw [show n + (m + 1) + 4 = (n + m + 4) + 1 by omega, F_of (e := n_law_test_of) (d := d_law_test_of) rfl rfl]
    refine ltest_ok (w_pull (n + m + 3)).w (w_lleaf (n + m + 1)) fun m' h => ?_
    cases h
    exact w_test m n
theorem w_house (n : Nat) : HouseW ((pgN tab glF (n + 5)).F "_law_house_small") := by rw [F_of (e := n_law_house_small) (d := d_law_house_small) rfl rfl]; exact house_ok (w_names n)
theorem w_watch (n : Nat) : WatchW ((pgN tab glF (n + 7)).F "_law_watch") := by rw [F_of (e := n_law_watch) (d := d_law_watch) rfl rfl]; exact watch_ok (w_pull (n + 5)).w (w_test 2 n)
theorem w_hyp : Hyp (pgN tab glF 13) where
  bag := w_bag 12
  pull := (w_pull 12).w
  one := w_one 11
  house := w_house 8
  watch := w_watch 6
  need := by
    intro ss r Q X h1 h2
    rw [F_of (e := n_need_watch) (d := d_need_watch) rfl rfl]
    exact need_ok (w_looks 7) r h1 h2
  odd := by
    intro d c h1 h2 Q X h3
    rw [F_of (e := n_need_watch) (d := d_need_watch) rfl rfl]
    exact need_odd (w_looks 7) h1 h2 h3
  wrong := w_wrong 11
  state := w_state 12
  s0 := w_same 0 12
  s8 := w_same 6 6
  right := by
    intro xs hb Q X h
    rw [F_of (e := n_law_stretches_right) (d := d_law_stretches_right) rfl rfl]
    exact sr_ok (w_pull 11).w (w_one 10) (w_runs 11) (w_same 0 11) (w_hush 11) (w_stretch 10) hb h
theorem the_law : ∀ ns : List Int, ns.length ≤ 63 → ∃ ps, (pgN tab glF 14).F "law" [.val (.scr ns)] = .ok (.val (.bl true)) ps := by
  intro ns hns
  rw [F_of (e := n_law) (d := d_law) rfl rfl]
  exact law_ok w_hyp hns
end Mi
open PySem PySem.W PyProof.Rows
set_option maxRecDepth 100000 in
set_option maxHeartbeats 0 in
theorem PySem.Challenge.cw_traceloft_k44_rules_and_states_holds : PySem.Challenge.rw_traceloft_k44_rules_and_states.Holds := by
  w_on; o_law; k_head; (case hw => w_witness2)
  k_fill
  refine Mi.law_of (l := PySem.Challenge.rw_traceloft_k44_rules_and_states) (k := 14) (L := Mi.tab) (bl := Mi.blF) (G := Mi.glF) (xt := Mi.xtF) (e := Mi.n_law) (x := "_law_script") rfl rfl ⟨rfl, by decide, by decide⟩ (fun w h Y => PySem.W.kIn_of Y) rfl rfl rfl ?F Mi.the_law
  case F =>
    intro w mg h KX G P T
    refine' Mi.mod_ok KX G ?a_is_name ?l_is_name ?c_is_name ?k_is_name ?a_is_leaf ?l_is_leaf ?c_is_leaf ?k_is_leaf ?a_inner_of ?l_inner_of ?c_inner_of ?k_inner_of ?a_sizes ?l_sizes ?c_sizes ?k_sizes ?a_is_between ?l_is_between ?c_is_between ?k_is_between ?a_is_measure ?l_is_measure ?c_is_measure ?k_is_measure ?a_is_width ?l_is_width ?c_is_width ?k_is_width ?a_is_test ?l_is_test ?c_is_test ?k_is_test ?a_is_bound ?l_is_bound ?c_is_bound ?k_is_bound ?a_is_side ?l_is_side ?c_is_side ?k_is_side ?a_need_watch ?l_need_watch ?c_need_watch ?k_need_watch ?a_state_of ?l_state_of ?c_state_of ?k_state_of ?a_hushed ?l_hushed ?c_hushed ?k_hushed ?a_runs ?l_runs ?c_runs ?k_runs ?a_law_bag ?l_law_bag ?c_law_bag ?k_law_bag ?a_law_pull ?l_law_pull ?c_law_pull ?k_law_pull ?a_law_one ?l_law_one ?c_law_one ?k_law_one ?a_law_letters ?l_law_letters ?c_law_letters ?k_law_letters ?a_law_name ?l_law_name ?c_law_name ?k_law_name ?a_law_names ?l_law_names ?c_law_names ?k_law_names ?a_law_same ?l_law_same ?c_law_same ?k_law_same ?a_law_stretch ?l_law_stretch ?c_law_stretch ?k_law_stretch ?a_law_number_good ?l_law_number_good ?c_law_number_good ?k_law_number_good ?a_law_leaf ?l_law_leaf ?c_law_leaf ?k_law_leaf ?a_law_test_of ?l_law_test_of ?c_law_test_of ?k_law_test_of ?a_law_house_small ?l_law_house_small ?c_law_house_small ?k_law_house_small ?a_law_watch ?l_law_watch ?c_law_watch ?k_law_watch ?a_law_watch_wrong ?l_law_watch_wrong ?c_law_watch_wrong ?k_law_watch_wrong ?a_law_stretches_right ?l_law_stretches_right ?c_law_stretches_right ?k_law_stretches_right ?a_law ?l_law ?c_law ?k_law ?z_all ?z_any ?z_bool ?z_enumerate ?z_int ?z_isinstance ?z_len ?z_list ?z_max ?z_range ?z_str ?z_tuple ?g_DEEP ?g_FIELDS ?h_FIELDS ?g_LETTERS ?g_LONG ?g_LOOKS ?h_LOOKS ?g_MEASURES ?h_MEASURES ?g_MOST_BOUND ?g_MOST_PARTS ?g_MOST_WIDTH ?g_PAIRS ?h_PAIRS ?aB_LoftError ?rB_LoftError ?gB_LoftError ?vB_LoftError ?kB_LoftError ?lI_LoftError ?cI_LoftError ?a_BadRule ?o_BadRule ?v_BadRule ?x1_BadRule ?x2_BadRule ?x3_BadRule ?x4_BadRule ?x5_BadRule ?x6_BadRule ?x7_BadRule ?x8_BadRule ?x9_BadRule ?y1_BadRule ?y2_BadRule ?y3_BadRule ?lI_BadRule ?cI_BadRule
    (case a_is_name => k_is)
    (case l_is_name => k_is)
    (case c_is_name => k_is)
    (case k_is_name => k_is)
    (case a_is_leaf => k_is)
    (case l_is_leaf => k_is)
    (case c_is_leaf => k_is)
    (case k_is_leaf => k_is)
    (case a_inner_of => k_is)
    (case l_inner_of => k_is)
    (case c_inner_of => k_is)
    (case k_inner_of => k_is)
    (case a_sizes => k_is)
    (case l_sizes => k_is)
    (case c_sizes => k_is)
    (case k_sizes => k_is)
    (case a_is_between => k_is)
    (case l_is_between => k_is)
    (case c_is_between => k_is)
    (case k_is_between => k_is)
    (case a_is_measure => k_is)
    (case l_is_measure => k_is)
    (case c_is_measure => k_is)
    (case k_is_measure => k_is)
    (case a_is_width => k_is)
    (case l_is_width => k_is)
    (case c_is_width => k_is)
    (case k_is_width => k_is)
    (case a_is_test => k_is)
    (case l_is_test => k_is)
    (case c_is_test => k_is)
    (case k_is_test => k_is)
    (case a_is_bound => k_is)
    (case l_is_bound => k_is)
    (case c_is_bound => k_is)
    (case k_is_bound => k_is)
    (case a_is_side => k_is)
    (case l_is_side => k_is)
    (case c_is_side => k_is)
    (case k_is_side => k_is)
    (case a_need_watch => k_is)
    (case l_need_watch => k_is)
    (case c_need_watch => k_is)
    (case k_need_watch => k_is)
    (case a_state_of => k_is)
    (case l_state_of => k_is)
    (case c_state_of => k_is)
    (case k_state_of => k_is)
    (case a_hushed => k_is)
    (case l_hushed => k_is)
    (case c_hushed => k_is)
    (case k_hushed => k_is)
    (case a_runs => k_is)
    (case l_runs => k_is)
    (case c_runs => k_is)
    (case k_runs => k_is)
    (case a_law_bag => k_is)
    (case l_law_bag => k_is)
    (case c_law_bag => k_is)
    (case k_law_bag => k_is)
    (case a_law_pull => k_is)
    (case l_law_pull => k_is)
    (case c_law_pull => k_is)
    (case k_law_pull => k_is)
    (case a_law_one => k_is)
    (case l_law_one => k_is)
    (case c_law_one => k_is)
    (case k_law_one => k_is)
    (case a_law_letters => k_is)
    (case l_law_letters => k_is)
    (case c_law_letters => k_is)
    (case k_law_letters => k_is)
    (case a_law_name => k_is)
    (case l_law_name => k_is)
    (case c_law_name => k_is)
    (case k_law_name => k_is)
    (case a_law_names => k_is)
    (case l_law_names => k_is)
    (case c_law_names => k_is)
    (case k_law_names => k_is)
    (case a_law_same => k_is)
    (case l_law_same => k_is)
    (case c_law_same => k_is)
    (case k_law_same => k_is)
    (case a_law_stretch => k_is)
    (case l_law_stretch => k_is)
    (case c_law_stretch => k_is)
    (case k_law_stretch => k_is)
    (case a_law_number_good => k_is)
    (case l_law_number_good => k_is)
    (case c_law_number_good => k_is)
    (case k_law_number_good => k_is)
    (case a_law_leaf => k_is)
    (case l_law_leaf => k_is)
    (case c_law_leaf => k_is)
    (case k_law_leaf => k_is)
    (case a_law_test_of => k_is)
    (case l_law_test_of => k_is)
    (case c_law_test_of => k_is)
    (case k_law_test_of => k_is)
    (case a_law_house_small => k_is)
    (case l_law_house_small => k_is)
    (case c_law_house_small => k_is)
    (case k_law_house_small => k_is)
    (case a_law_watch => k_is)
    (case l_law_watch => k_is)
    (case c_law_watch => k_is)
    (case k_law_watch => k_is)
    (case a_law_watch_wrong => k_is)
    (case l_law_watch_wrong => k_is)
    (case c_law_watch_wrong => k_is)
    (case k_law_watch_wrong => k_is)
    (case a_law_stretches_right => k_is)
    (case l_law_stretches_right => k_is)
    (case c_law_stretches_right => k_is)
    (case k_law_stretches_right => k_is)
    (case a_law => k_is)
    (case l_law => k_is)
    (case c_law => k_is)
    (case k_law => k_is)
    (case z_all => k_is)
    (case z_any => k_is)
    (case z_bool => k_is)
    (case z_enumerate => k_is)
    (case z_int => k_is)
    (case z_isinstance => k_is)
    (case z_len => k_is)
    (case z_list => k_is)
    (case z_max => k_is)
    (case z_range => k_is)
    (case z_str => k_is)
    (case z_tuple => k_is)
    (case g_DEEP => k_is)
    (case g_FIELDS => k_is)
    (case h_FIELDS => k_is)
    (case g_LETTERS => k_is)
    (case g_LONG => k_is)
    (case g_LOOKS => k_is)
    (case h_LOOKS => k_is)
    (case g_MEASURES => k_is)
    (case h_MEASURES => k_is)
    (case g_MOST_BOUND => k_is)
    (case g_MOST_PARTS => k_is)
    (case g_MOST_WIDTH => k_is)
    (case g_PAIRS => k_is)
    (case h_PAIRS => k_is)
    (case aB_LoftError => k_is)
    (case rB_LoftError => k_is)
    (case gB_LoftError => k_is)
    (case vB_LoftError => k_is)
    (case kB_LoftError => k_is)
    (case lI_LoftError => k_is)
    (case cI_LoftError => k_is)
    (case a_BadRule => k_is)
    (case o_BadRule => k_is)
    (case v_BadRule => exact rfl)
    (case x1_BadRule => k_is)
    (case x2_BadRule => k_is)
    (case x3_BadRule => k_is)
    (case x4_BadRule => k_is)
    (case x5_BadRule => k_is)
    (case x6_BadRule => k_is)
    (case x7_BadRule => k_is)
    (case x8_BadRule => k_is)
    (case x9_BadRule => k_is)
    (case y1_BadRule => k_is)
    (case y2_BadRule => k_is)
    (case y3_BadRule => k_is)
    (case lI_BadRule => k_is)
    (case cI_BadRule => k_is)
