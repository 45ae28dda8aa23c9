import PyProof.Rows.All
import Wide.All
import OpenK.AllK
import Wide.FinOn
import PySem.Syntax
import HandS.ForExc
import HandS.ForMost
import HandS.ExcInit
import HandS.ExcValue
import HandS.TupAny
import HandS.Text
import KE.KEqNest
import PyProof.NeKinds
import HandS.Dict
import HandS.IsInst
import HandS.Style
import HandS.ExcOwn
import HandS.Exc
import HandS.Flow
import HandS.Iter
import HandS.Zip
import HandS.Defaults
import HandS.Small
import HandS.Comp
import HandS.DictComp
import HandS.OwnEq
import HandS.NamedTupSort
import KE.KFmtOwn
import HandS.SetFor
import PyProof.Rows.SortShellAny
import HandS.SortInts
import HandS.More
import HandS.Conv
import HandS.RaiseMore
import HandS.FStr
import PyProof.ListStr
import HandS.Star
import KE.KDictSum
import KE.KDictList
import HandS.Head0
import HandS.Head1
import HandS.Head2
import HandS.HeadEnd
import HandS.HeadHook1
import HandS.HeadHook2
import HandS.Nested
import KE.KExcSuper
import HandS.ExcField
import HandS.Property
import KE.KIndexWalk
import KE.KIndexOf
import PyProof.TupleOfSeq
import PyProof.SeqIndex
import HandS.Finally
import KE.GoesEnum
import HandS.Strs
import KE.KDictZip
import KE.GoesZip
import KE.KItemsList
import HandS.Zip0
import HandS.ListItems
import HandS.ClsMeth
import KE.IntTextLaws
import HandS.HeadNt
import PyProof.DictUpdate
import HandS.ExcIs
import KE.KExcIs
import PyProof.Rows.RuleB_pow
import PyProof.ExcBaseAll.ValueError
import KE.KStateDown
import Lean
import PySem.Challenge.RW_coveredcells_k17_errors_made
set_option Elab.async false
set_option linter.all false
/-! VM0: values, the store, the meaning of each construct as a Lean function. -/
namespace VM

/-- a value: a tree; ref: a thing that may still change, by its place in the store -/
inductive D where
  | non | bl (b : Bool) | int (i : Int) | str (s : List Nat)
  | tup (ds : List D) | lst (ds : List D) | dic (kvs : List (D × D)) | set (ds : List D)
  | ins (c : Nat) (fs : List (Nat × D)) | exn (c : Nat) (fs : List (Nat × D)) | ref (h : Nat) | fl (ds : List D)
  deriving Repr, Inhabited

/-- lk: a loop goes over it; k: so many levels are its own (0: shared by others, never changed again); d: none, if it has been given away -/
structure Ent where
  lk : Bool
  k : Nat
  d : Option D
  deriving Repr, Inhabited
abbrev Store := List Ent
abbrev Env := List (Option D)
inductive R (α : Type) where
  | ok (a : α) (s : Store)
  | exc (c : Nat) (fs : List (Nat × D)) (s : Store)
  | bad
  deriving Repr, Inhabited
@[inline] def R.bind {α β : Type} (x : R α) (f : α → Store → R β) : R β := match x with
  | .ok a s => f a s
  | .exc c fs s => .exc c fs s
  | .bad => .bad
/-- how a statement ends -/
inductive RS where
  | nx (e : Env) (s : Store)
  | ret (d : D) (s : Store)
  | cnt (e : Env) (s : Store)
  | exc (c : Nat) (fs : List (Nat × D)) (e : Env) (s : Store)
  | bad
  deriving Repr, Inhabited

abbrev ME := Env → Store → R D
abbrev MT := Env → Store → R Bool
abbrev MA := Env → Store → R (List D)
abbrev MS := Env → Store → RS
/-- what is walked: the items, and what is locked meanwhile -/
abbrev MI := Env → Store → R (List D × Option Nat)
abbrev MG := Env → D → Option Env

def ofO {α : Type} (s : Store) : Option α → R α
  | some a => .ok a s
  | none => .bad

/-! ### the store -/
def contD : D → Bool
  | .lst _ => true
  | .dic _ => true
  | _ => false
def isRef : D → Bool
  | .ref _ => true
  | _ => false
/-- what is read -/
def view (s : Store) : D → Option D
  | .ref h => match s[h]? with
    | some e => e.d
    | none => none
  | d => some d
/-- as a tree that never changes -/
def frozen (d : D) (s : Store) : R D := match d with
  | .ref h => match s[h]? with
    | some ⟨false, 0, some x⟩ => .ok x s
    | some ⟨false, _ + 1, some x⟩ => .ok x (s.set h ⟨false, 0, some x⟩)
    | _ => .bad
  | d => .ok d s
/-- what is read, its items shared -/
def open1 (d : D) (s : Store) : R D := match d with
  | .ref h => match s[h]? with
    | some ⟨lk, 0, some x⟩ => .ok x s
    | some ⟨lk, 1, some x⟩ => .ok x s
    | some ⟨false, _ + 2, some x⟩ => .ok x (s.set h ⟨false, 1, some x⟩)
    | _ => .bad
  | d => .ok d s
def lockOf (d : D) (s : Store) : Store × Option Nat := match d with
  | .ref h => match s[h]? with
    | some ⟨false, k + 1, x⟩ => (s.set h ⟨true, k + 1, x⟩, some h)
    | _ => (s, none)
  | _ => (s, none)
def unlock (o : Option Nat) (s : Store) : Store := match o with
  | some h => match s[h]? with
    | some ⟨_, k, x⟩ => s.set h ⟨false, k, x⟩
    | none => s
  | none => s
/-- the level behind the storing of a shared thing within -/
def putK (k : Nat) (x : D) : Nat := if contD x then min k 1 else k

/-! ### == -/
def keyD : D → Bool
  | .int _ => true
  | .str _ => true
  | _ => false
def b2i (b : Bool) : Int := if b then 1 else 0
/-- the fields that == of a class compares -/
def eqFields : Nat → Option (List Nat)
  | 0 => some [0]
  | 1 => some [1, 2]
  | 4 => some [3]
  | _ => none
def allO : List (Option Bool) → Option Bool
  | [] => some true
  | none :: _ => none
  | some b :: r => match allO r with
    | none => none
    | some c => some (b && c)
def getK (eq : D → D → Option Bool) (k : D) : List (D × D) → Option (Option D)
  | [] => some none
  | (a, v) :: r => match eq a k with
    | none => none
    | some true => some (some v)
    | some false => getK eq k r
def eqO (n : Nat) (a b : D) : Option Bool := match a, b with
  | .non, .non => some true
  | .bl x, .bl y => some (x == y)
  | .int x, .int y => some (x == y)
  | .str x, .str y => some (x == y)
  | .bl x, .int y => some (b2i x == y)
  | .int x, .bl y => some (x == b2i y)
  | .non, .bl _ => some false
  | .non, .int _ => some false
  | .non, .str _ => some false
  | .bl _, .non => some false
  | .bl _, .str _ => some false
  | .int _, .non => some false
  | .int _, .str _ => some false
  | .str _, .non => some false
  | .str _, .bl _ => some false
  | .str _, .int _ => some false
  | .tup _, .non => some false
  | .tup _, .bl _ => some false
  | .tup _, .int _ => some false
  | .tup _, .str _ => some false
  | .tup _, .lst _ => some false
  | .lst _, .non => some false
  | .lst _, .bl _ => some false
  | .lst _, .int _ => some false
  | .lst _, .str _ => some false
  | .lst _, .tup _ => some false
  | .non, .tup _ => some false
  | .bl _, .tup _ => some false
  | .int _, .tup _ => some false
  | .str _, .tup _ => some false
  | .non, .lst _ => some false
  | .bl _, .lst _ => some false
  | .int _, .lst _ => some false
  | .str _, .lst _ => some false
  | .dic _, .int _ => some false
  | .int _, .dic _ => some false
  | .tup xs, .tup ys => match n with
    | 0 => none
    | n + 1 => match allO (List.zipWith (eqO n) xs ys) with
      | none => none
      | some c => some (c && xs.length == ys.length)
  | .lst xs, .lst ys => match n with
    | 0 => none
    | n + 1 => if xs.length = ys.length then allO (List.zipWith (eqO n) xs ys) else some false
  | .dic xs, .dic ys => match n with
    | 0 => none
    | n + 1 => if xs.length = ys.length then allO (xs.map fun p => match getK (eqO n) p.1 ys with
        | none => none
        | some none => some false
        | some (some v) => eqO n p.2 v) else some false
  | _, _ => none
abbrev eqN : D → D → Option Bool := eqO 40
end VM

set_option Elab.async false
set_option linter.all false
/-! VM1: the meaning of each construct. -/
namespace VM
abbrev sizeMax : Nat := 16777216

/-! ### expressions -/
def eC (d : D) : ME := fun _ s => .ok d s
/-- a name, as it is; as a tree -/
def eRaw (i : Nat) : ME := fun e s => match e[i]? with
  | some (some d) => .ok d s
  | _ => .bad
def eVar (i : Nat) : ME := fun e s => match e[i]? with
  | some (some d) => frozen d s
  | _ => .bad
/-- a name that holds a list of one's own: given away -/
def eMove (k i : Nat) : ME := fun e s => match e[i]? with
  | some (some (.ref h)) => match s[h]? with
    | some ⟨false, j, some x⟩ => if k ≤ j then .ok x (s.set h ⟨false, 0, none⟩) else .bad
    | _ => .bad
  | _ => .bad
def eFrozen (f : ME) : ME := fun e s => (f e s).bind frozen

def aNil : MA := fun _ s => .ok [] s
def aCons (f : ME) (r : MA) : MA := fun e s => (f e s).bind fun d s => (r e s).bind fun ds s => .ok (d :: ds) s
/-- *f: the items of a list or tuple -/
def aStar (f : ME) (r : MA) : MA := fun e s => (f e s).bind fun d s => (open1 d s).bind fun d s => match d with
  | .lst xs => (r e s).bind fun ds s => .ok (xs ++ ds) s
  | .tup xs => (r e s).bind fun ds s => .ok (xs ++ ds) s
  | _ => .bad
def args : List ME → MA
  | [] => aNil
  | f :: r => aCons f (args r)

def eTup (a : MA) : ME := fun e s => (a e s).bind fun ds s => if ds.length ≤ sizeMax then .ok (.tup ds) s else .bad
def eLst (a : MA) : ME := fun e s => (a e s).bind fun ds s => if ds.length ≤ sizeMax then .ok (.lst ds) s else .bad

/-- an operation on values as they are read -/
def op1 (g : D → Option D) (f : ME) : ME := fun e s => (f e s).bind fun x s => match view s x with
  | some x => ofO s (g x)
  | none => .bad
def op2 (g : D → D → Option D) (f1 f2 : ME) : ME := fun e s => (f1 e s).bind fun x s => (f2 e s).bind fun y s => match view s x, view s y with
  | some x, some y => ofO s (g x y)
  | _, _ => .bad
/-- .. whose result may hold items of what is read -/
def op1F (g : D → Option D) (f : ME) : ME := fun e s => (f e s).bind fun x s => (open1 x s).bind fun x s => ofO s (g x)
def op2F (g : D → D → Option D) (f1 f2 : ME) : ME := fun e s => (f1 e s).bind fun x s => (f2 e s).bind fun y s => (open1 x s).bind fun x s => (open1 y s).bind fun y s => ofO s (g x y)

/-! ### numbers, texts, lists: + - * // % ** -/
def small64 (i : Int) : Bool := decide (-18446744073709551616 < i) && decide (i < 18446744073709551616)
def dAdd : D → D → Option D
  | .int a, .int b => some (.int (a + b))
  | .str a, .str b => if a.length + b.length ≤ sizeMax then some (.str (a ++ b)) else none
  | .tup a, .tup b => if a.length + b.length ≤ sizeMax then some (.tup (a ++ b)) else none
  | .lst a, .lst b => if a.length + b.length ≤ sizeMax then some (.lst (a ++ b)) else none
  | _, _ => none
def dSub : D → D → Option D
  | .int a, .int b => some (.int (a - b))
  | _, _ => none
def dMul : D → D → Option D
  | .int a, .int b => if small64 a || small64 b then some (.int (a * b)) else none
  | .lst a, .int n => if decide (n < 1000000) && a.length * n.toNat ≤ sizeMax && decide (-1000000 < n) then some (.lst (List.replicate n.toNat a).flatten) else none
  | _, _ => none
def dDiv : D → D → Option D
  | .int a, .int b => if b ≠ 0 ∧ b.natAbs < 1073741824 then some (.int (a.fdiv b)) else none
  | _, _ => none
def dMod : D → D → Option D
  | .int a, .int b => if b ≠ 0 then some (.int (a.fmod b)) else none
  | _, _ => none
def dPow : D → D → Option D
  | .int a, .int b => if 0 ≤ b ∧ b ≤ 1000000 ∧ a.natAbs < 18446744073709551616 then some (.int (a ^ b.toNat)) else none
  | _, _ => none
def dNeg : D → Option D
  | .int a => some (.int (-a))
  | _ => none

/-! ### comparisons -/
def dEq (a b : D) : Option D := (eqN a b).map .bl
def dNe (a b : D) : Option D := (eqN a b).map fun c => .bl (!c)
def ltN : List Nat → List Nat → Bool
  | [], [] => false
  | [], _ :: _ => true
  | _ :: _, [] => false
  | a :: as, b :: bs => if a = b then ltN as bs else decide (a < b)
def dLt : D → D → Option D
  | .int a, .int b => some (.bl (decide (a < b)))
  | .str a, .str b => some (.bl (ltN a b))
  | _, _ => none
def dLe : D → D → Option D
  | .int a, .int b => some (.bl (decide (a ≤ b)))
  | _, _ => none
def dGt : D → D → Option D
  | .int a, .int b => some (.bl (decide (b < a)))
  | _, _ => none
def dGe : D → D → Option D
  | .int a, .int b => some (.bl (decide (b ≤ a)))
  | _, _ => none
/-- x in xs -/
def memO (x : D) : List D → Option Bool
  | [] => some false
  | y :: r => match eqN y x, memO x r with
    | some b, some c => some (b || c)
    | _, _ => none
def inO (x y : D) : Option Bool := match y with
  | .lst ys => memO x ys
  | .tup ys => memO x ys
  | .dic kvs => if keyD x then (getK eqN x kvs).map (·.isSome) else none
  | .str z => match x with
    | .str [c] => some (decide (c ∈ z))
    | _ => none
  | _ => none
def dIn (x y : D) : Option D := (inO x y).map .bl
def dNotIn (x y : D) : Option D := (inO x y).map fun c => .bl (!c)
/-- is None, is True, is False (the right side written) -/
def dIs : D → D → Option D
  | .non, .non => some (.bl true)
  | _, .non => some (.bl false)
  | .bl a, .bl b => some (.bl (a == b))
  | _, _ => none
def dIsNot (a b : D) : Option D := match dIs a b with
  | some (.bl c) => some (.bl (!c))
  | _ => none

/-! ### tests -/
def tE (f : ME) : MT := fun e s => (f e s).bind fun d s => match d with
  | .bl b => .ok b s
  | _ => .bad
def eT (t : MT) : ME := fun e s => (t e s).bind fun b s => .ok (.bl b) s
def tAnd (t u : MT) : MT := fun e s => (t e s).bind fun b s => if b then u e s else .ok false s
def tOr (t u : MT) : MT := fun e s => (t e s).bind fun b s => if b then .ok true s else u e s
def tNot (t : MT) : MT := fun e s => (t e s).bind fun b s => .ok (!b) s
/-- a op1 b op2 c -/
def tChain (g h : D → D → Option D) (f1 f2 f3 : ME) : MT := fun e s => (f1 e s).bind fun x s => (f2 e s).bind fun y s => match view s x, view s y with
  | some x', some y' => match g x' y' with
    | some (.bl true) => (f3 e s).bind fun z s => match view s y, view s z with
      | some y', some z' => match h y' z' with
        | some (.bl b) => .ok b s
        | _ => .bad
      | _, _ => .bad
    | some (.bl false) => .ok false s
    | _ => .bad
  | _, _ => .bad
def eIf (t : MT) (f g : ME) : ME := fun e s => (t e s).bind fun b s => if b then f e s else g e s

/-! ### subscripts -/
def ixO {α : Type} (xs : List α) (i : Int) : Option α := if 0 ≤ i then xs[i.toNat]? else if -(xs.length : Int) ≤ i then xs[(i + xs.length).toNat]? else none
def dIx (x i : D) : Option D := match x, i with
  | .lst xs, .int i => ixO xs i
  | .tup xs, .int i => ixO xs i
  | .str z, .int i => (ixO z i).map fun c => .str [c]
  | .dic kvs, k => if keyD k then match getK eqN k kvs with
      | some (some v) => some v
      | _ => none
    else none
  | _, _ => none
def sIx (n d : Nat) : Option Int → Nat
  | none => d
  | some v => if v < 0 then (v + (n : Int)).toNat else min v.toNat n
def cut {α : Type} (xs : List α) (lo hi : Option Int) : List α := (xs.drop (sIx xs.length 0 lo)).take (sIx xs.length xs.length hi - sIx xs.length 0 lo)
def dSlice (lo hi : Option Int) : D → Option D
  | .lst xs => some (.lst (cut xs lo hi))
  | .tup xs => some (.tup (cut xs lo hi))
  | .str xs => some (.str (cut xs lo hi))
  | _ => none
def optI (f : Option ME) : Env → Store → R (Option Int) := fun e s => match f with
  | none => .ok none s
  | some f => (f e s).bind fun d s => match d with
    | .int i => .ok (some i) s
    | _ => .bad
def eSlice (f : ME) (lo hi : Option ME) : ME := fun e s => (f e s).bind fun x s => (optI lo e s).bind fun l s => (optI hi e s).bind fun u s => (open1 x s).bind fun x s => ofO s (dSlice l u x)
def dRev : D → Option D
  | .lst xs => some (.lst xs.reverse)
  | .tup xs => some (.tup xs.reverse)
  | .str xs => some (.str xs.reverse)
  | _ => none

/-! ### fields -/
def dFld (f : Nat) : D → Option D
  | .ins _ fs => fs.lookup f
  | .exn _ fs => fs.lookup f
  | _ => none

/-! ### what is walked -/
def itemsO : D → Option (List D)
  | .fl xs => some xs
  | .lst xs => some xs
  | .tup xs => some xs
  | .str z => some (z.map fun c => .str [c])
  | .dic kvs => some (kvs.map (·.1))
  | _ => none
def iSeq (f : ME) : MI := fun e s => (f e s).bind fun d s => (open1 d s).bind fun x s => match itemsO x with
  | some xs => let (s, o) := lockOf d s; .ok (xs, o) s
  | none => .bad
def rangeL (a b : Int) : List D := (List.range (b - a).toNat).map fun (i : Nat) => .int (a + (i : Int))
def small62 (i : Int) : Bool := decide (-4611686018427387904 ≤ i) && decide (i < 4611686018427387904)
def iRange (a : MA) : MI := fun e s => (a e s).bind fun ds s => match ds with
  | [.int b] => if small62 b then .ok (rangeL 0 b, none) s else .bad
  | [.int a, .int b] => if small62 a && small62 b then .ok (rangeL a b, none) s else .bad
  | [.int a, .int b, .int (-1)] => if small62 a && small62 b then .ok ((List.range (a - b).toNat).map fun (i : Nat) => D.int (a - (i : Int)), none) s else .bad
  | _ => .bad
def enumL : Nat → List D → List D
  | _, [] => []
  | i, x :: r => .tup [.int i, x] :: enumL (i + 1) r
def iEnum (f : ME) : MI := fun e s => (f e s).bind fun d s => (open1 d s).bind fun x s => match x with
  | .lst xs => let (s, o) := lockOf d s; .ok (enumL 0 xs, o) s
  | .tup xs => let (s, o) := lockOf d s; .ok (enumL 0 xs, o) s
  | _ => .bad
def iItems (f : ME) : MI := fun e s => (f e s).bind fun d s => (frozen d s).bind fun x s => match x with
  | .dic kvs => .ok (kvs.map fun p => .tup [p.1, p.2], none) s
  | _ => .bad
def iVals (f : ME) : MI := fun e s => (f e s).bind fun d s => (frozen d s).bind fun x s => match x with
  | .dic kvs => .ok (kvs.map (·.2), none) s
  | _ => .bad
def iZip (f g : ME) : MI := fun e s => (f e s).bind fun x s => (g e s).bind fun y s => match x, y with
  | .lst xs, .lst ys => .ok (List.zipWith (fun a b => .tup [a, b]) xs ys, none) s
  | .tup xs, .lst ys => .ok (List.zipWith (fun a b => .tup [a, b]) xs ys, none) s
  | .lst xs, .tup ys => .ok (List.zipWith (fun a b => .tup [a, b]) xs ys, none) s
  | .tup xs, .tup ys => .ok (List.zipWith (fun a b => .tup [a, b]) xs ys, none) s
  | _, _ => .bad

/-! ### targets -/
def gName (i : Nat) : MG := fun e d => if i < e.length then some (e.set i (some d)) else none
def gAll : List MG → Env → List D → Option Env
  | [], e, [] => some e
  | g :: gs, e, d :: ds => match g e d with
    | some e => gAll gs e ds
    | none => none
  | _, _, _ => none
def gTup (gs : List MG) : MG := fun e d => match d with
  | .tup ds => gAll gs e ds
  | .lst ds => gAll gs e ds
  | _ => none
def wipe (e : Env) : List Nat → Env
  | [] => e
  | v :: vs => (wipe e vs).set v none

/-! ### comprehensions -/
/-- one turn after another: none where the test is False -/
def lcGo (g : MG) (t : MT) (f : ME) (e0 : Env) : List D → List D → Store → R (List D)
  | [], acc, s => .ok acc s
  | x :: r, acc, s => match g e0 x with
    | none => .bad
    | some e => match t e s with
      | .ok true s => match f e s with
        | .ok y s => if acc.length < sizeMax then lcGo g t f e0 r (acc ++ [y]) s else .bad
        | _ => .bad
      | .ok false s => lcGo g t f e0 r acc s
      | _ => .bad
def tYes : MT := fun _ s => .ok true s
def eLc (own : List Nat) (it : MI) (g : MG) (t : MT) (f : ME) : ME := fun e s => (it e s).bind fun xo s => match lcGo g t f (wipe e own) xo.1 [] s with
  | .ok ds s => .ok (.lst ds) (unlock xo.2 s)
  | _ => .bad
/-- {key: value for ..} -/
def keyEq (a b : D) : Bool := match a, b with
  | .int x, .int y => x == y
  | .str x, .str y => x == y
  | _, _ => false
def putD (kvs : List (D × D)) (k v : D) : List (D × D) := if kvs.any (fun p => keyEq p.1 k) then kvs.map (fun p => if keyEq p.1 k then (p.1, v) else p) else kvs ++ [(k, v)]
def putO (kvs : List (D × D)) (k v : D) : Option (List (D × D)) := if keyD k && decide (kvs.length < sizeMax) then some (putD kvs k v) else none
def dcGo (g : MG) (f h : ME) (e0 : Env) : List D → List (D × D) → Store → R (List (D × D))
  | [], acc, s => .ok acc s
  | x :: r, acc, s => match g e0 x with
    | none => .bad
    | some e => match f e s with
      | .ok k s => match h e s with
        | .ok v s => match putO acc k v with
          | some acc => dcGo g f h e0 r acc s
          | none => .bad
        | _ => .bad
      | _ => .bad
def eDc (own : List Nat) (it : MI) (g : MG) (f h : ME) : ME := fun e s => (it e s).bind fun xo s => match dcGo g f h (wipe e own) xo.1 [] s with
  | .ok ds s => .ok (.dic ds) (unlock xo.2 s)
  | _ => .bad
def mkDic : List (D × D) → List (D × D) → Option (List (D × D))
  | acc, [] => some acc
  | acc, (k, v) :: r => match putO acc k v with
    | some acc => mkDic acc r
    | none => none
def pairUp : List D → Option (List (D × D))
  | [] => some []
  | k :: v :: r => (pairUp r).map ((k, v) :: ·)
  | _ => none
/-- {k: v, ..}: the keys and values in turns -/
def eDict (a : MA) : ME := fun e s => (a e s).bind fun ds s => match pairUp ds with
  | some kvs => (match mkDic [] kvs with
    | some d => .ok (.dic d) s
    | none => .bad)
  | none => .bad

/-! ### built-in functions -/
def dLen : D → Option D
  | .lst xs => some (.int xs.length)
  | .tup xs => some (.int xs.length)
  | .dic xs => some (.int xs.length)
  | .set xs => some (.int xs.length)
  | .str xs => some (.int xs.length)
  | _ => none
def digit (c : Nat) : Option Nat := if 48 ≤ c ∧ c ≤ 57 then some (c - 48) else none
def digits : Nat → List Nat → Option Nat
  | n, [] => some n
  | n, c :: r => match digit c with
    | some k => digits (10 * n + k) r
    | none => none
/-- int(..) of an int, a bool, a text of digits -/
def dInt : D → Option D
  | .int a => some (.int a)
  | .bl b => some (.int (b2i b))
  | .str z => if 1 ≤ z.length ∧ z.length ≤ 4000 then (digits 0 z).map fun n => .int n else none
  | _ => none
def dList : D → Option D
  | .lst xs => some (.lst xs)
  | .tup xs => some (.lst xs)
  | .str z => some (.lst (z.map fun c => .str [c]))
  | .dic kvs => some (.lst (kvs.map (·.1)))
  | _ => none
def dTuple : D → Option D
  | .lst xs => some (.tup xs)
  | .tup xs => some (.tup xs)
  | _ => none
def allB : List D → Option Bool
  | [] => some true
  | .bl b :: r => (allB r).map (b && ·)
  | _ => none
def anyB : List D → Option Bool
  | [] => some false
  | .bl b :: r => (anyB r).map (b || ·)
  | _ => none
def dAll : D → Option D
  | .lst xs => (allB xs).map .bl
  | _ => none
def dAny : D → Option D
  | .lst xs => (anyB xs).map .bl
  | _ => none
/-- list(d.values()), list(d.items()) -/
def dVals : D → Option D
  | .dic kvs => some (.lst (kvs.map (·.2)))
  | _ => none
def dItems : D → Option D
  | .dic kvs => some (.lst (kvs.map fun p => .tup [p.1, p.2]))
  | _ => none
def pairsO : List D → Option (List (D × D))
  | [] => some []
  | .tup [k, v] :: r => (pairsO r).map ((k, v) :: ·)
  | _ => none
/-- dict(..) of pairs or of a dict -/
def dDict : D → Option D
  | .dic kvs => some (.dic kvs)
  | .lst xs => match pairsO xs with
    | some kvs => (mkDic [] kvs).map .dic
    | none => none
  | _ => none
/-- the classes: 1 int, 2 str, 3 bool, 4 list, 5 tuple, 6 dict; 100 + c an own one -/
def isTy (c : Nat) : D → Option Bool
  | .non => some false
  | .bl _ => some (c == 3 || c == 1)
  | .int _ => some (c == 1)
  | .str _ => some (c == 2)
  | .tup _ => some (c == 5)
  | .lst _ => some (c == 4)
  | .dic _ => some (c == 6)
  | .ins k _ => some (c == 100 + k)
  | _ => none
def isTys : List Nat → D → Option Bool
  | [], _ => some false
  | c :: r, d => match isTy c d, isTys r d with
    | some a, some b => some (a || b)
    | _, _ => none
def dIsinst (cs : List Nat) (d : D) : Option D := (isTys cs d).map .bl

/-! ### the order: sorted, max, min -/
def leD : D → D → Bool
  | .int a, .int b => decide (a ≤ b)
  | .str a, .str b => !ltN b a
  | _, _ => false
def allInt : List D → Bool
  | [] => true
  | .int _ :: r => allInt r
  | _ => false
def allStr : List D → Bool
  | [] => true
  | .str _ :: r => allStr r
  | _ => false
def insD (le : D → D → Bool) (x : D) : List D → List D
  | [] => [x]
  | y :: r => if le x y then x :: y :: r else y :: insD le x r
def sortD (le : D → D → Bool) : List D → List D
  | [] => []
  | x :: r => insD le x (sortD le r)
def dSorted (x : D) : Option D := match x with
  | .lst xs => if allInt xs || allStr xs then some (.lst (sortD leD xs)) else none
  | .tup xs => if allInt xs || allStr xs then some (.lst (sortD leD xs)) else none
  | .set xs => if allInt xs || allStr xs then some (.lst (sortD leD xs)) else none
  | .dic kvs => if allInt (kvs.map (·.1)) || allStr (kvs.map (·.1)) then some (.lst (sortD leD (kvs.map (·.1)))) else none
  | _ => none
/-- each once, where it first stands -/
def onceO : List D → List D → Option (List D)
  | acc, [] => some acc
  | acc, x :: r => match memO x acc with
    | some true => onceO acc r
    | some false => onceO (acc ++ [x]) r
    | none => none
def dSet (x : D) : Option D := match x with
  | .lst xs => if allInt xs || allStr xs then (onceO [] xs).map .set else none
  | .tup xs => if allInt xs || allStr xs then (onceO [] xs).map .set else none
  | _ => none

/-! ### calls -/
structure Fn where
  np : Nat
  ret : Nat
  sem : List D → Store → R D
def eCall (fn : Fn) (a : MA) : ME := fun e s => (a e s).bind fun ds s => if ds.length = fn.np then fn.sem ds s else .bad
/-- C(..): a new instance, by its __init__ -/
def eNew (c : Nat) (k : Nat) (init : Fn) (a : MA) : ME := fun e s => (a e s).bind fun ds s => if ds.length + 1 = init.np then
    match init.sem (.ref s.length :: ds) (s ++ [⟨false, 9, some (.ins c [])⟩]) with
    | .ok .non s' => (match s'[s.length]? with
      | some ⟨false, j, some x⟩ => if k ≤ j then .ok x (s'.take s.length) else .bad
      | _ => .bad)
    | .ok _ _ => .bad
    | .exc c fs s' => .exc c fs (s'.take s.length)
    | .bad => .bad
  else .bad
/-- o.m(..), o an instance of the class c -/
def eMeth (c : Nat) (fn : Fn) (f : ME) (a : MA) : ME := fun e s => (f e s).bind fun x s => match view s x with
  | some (.ins k _) => if k = c then (a e s).bind fun ds s => if ds.length + 1 = fn.np then fn.sem (x :: ds) s else .bad else .bad
  | _ => .bad

/-! ### what changes a thing -/
def mutO (s : Store) (d : D) : Option (Nat × Nat × D) := match d with
  | .ref h => match s[h]? with
    | some ⟨false, k + 1, some x⟩ => some (h, k + 1, x)
    | _ => none
  | _ => none
def eAppend (f g : ME) : ME := fun e s => (f e s).bind fun x s => (g e s).bind fun y s => match mutO s x with
  | some (h, k, .lst xs) => if xs.length < sizeMax then .ok .non (s.set h ⟨false, putK k y, some (.lst (xs ++ [y]))⟩) else .bad
  | _ => .bad
/-- .. of a thing of one's own (j levels) -/
def eAppendO (j : Nat) (f g : ME) : ME := fun e s => (f e s).bind fun x s => (g e s).bind fun y s => match mutO s x with
  | some (h, k, .lst xs) => if xs.length < sizeMax then .ok .non (s.set h ⟨false, min k (j + 1), some (.lst (xs ++ [y]))⟩) else .bad
  | _ => .bad
def eExtend (f g : ME) : ME := fun e s => (f e s).bind fun x s => (g e s).bind fun y s => match mutO s x, y with
  | some (h, k, .lst xs), .lst ys => if xs.length + ys.length ≤ sizeMax then .ok .non (s.set h ⟨false, min k 1, some (.lst (xs ++ ys))⟩) else .bad
  | _, _ => .bad
def ePop (f : ME) : ME := fun e s => (f e s).bind fun x s => match mutO s x with
  | some (h, k, .lst xs) => (match xs[xs.length - 1]? with
    | some y => .ok y (s.set h ⟨false, min k 1, some (.lst xs.dropLast)⟩)
    | none => .bad)
  | _ => .bad
def ixNat (n : Nat) (i : Int) : Option Nat := if 0 ≤ i then (if i < n then some i.toNat else none) else if -(n : Int) ≤ i then some (i + n).toNat else none
def ePopAt (f g : ME) : ME := fun e s => (f e s).bind fun x s => (g e s).bind fun y s => match mutO s x, y with
  | some (h, k, .lst xs), .int i => (match ixNat xs.length i with
    | some j => (match xs[j]? with
      | some y => .ok y (s.set h ⟨false, min k 1, some (.lst (xs.eraseIdx j))⟩)
      | none => .bad)
    | none => .bad)
  | _, _ => .bad
def setO (x i v : D) : Option D := match x, i with
  | .lst xs, .int i => (ixNat xs.length i).map fun j => .lst (xs.set j v)
  | .dic kvs, k => (putO kvs k v).map .dic
  | _, _ => none
def putFld (f : Nat) (v : D) : List (Nat × D) → List (Nat × D)
  | [] => [(f, v)]
  | (g, x) :: r => if g = f then (g, v) :: r else (g, x) :: putFld f v r

/-! ### statements -/
def RSb {α : Type} (x : R α) (e : Env) (f : α → Store → RS) : RS := match x with
  | .ok a s => f a s
  | .exc c fs s => .exc c fs e s
  | .bad => .bad
def sNil : MS := fun e s => .nx e s
def sCons (m r : MS) : MS := fun e s => match m e s with
  | .nx e s => r e s
  | x => x
def sExpr (f : ME) : MS := fun e s => RSb (f e s) e fun _ s => .nx e s
def sRet (f : ME) : MS := fun e s => RSb (f e s) e fun d s => .ret d s
def sAsg (g : MG) (f : ME) : MS := fun e s => RSb (f e s) e fun d s => match g e d with
  | some e => .nx e s
  | none => .bad
/-- name = a new thing of one's own (k levels) -/
def sOwn (k i : Nat) (f : ME) : MS := fun e s => RSb (f e s) e fun d s => if i < e.length then .nx (e.set i (some (.ref s.length))) (s ++ [⟨false, k, some d⟩]) else .bad
/-- x[i] = v -/
def sSetIx (f g v : ME) : MS := fun e s => RSb (v e s) e fun y s => RSb (f e s) e fun x s => RSb (g e s) e fun i s => match mutO s x with
  | some (h, k, z) => (match setO z i y with
    | some z => .nx e (s.set h ⟨false, putK k y, some z⟩)
    | none => .bad)
  | none => .bad
/-- x.f = v -/
def sSetFld (f : ME) (n : Nat) (v : ME) : MS := fun e s => RSb (v e s) e fun y s => RSb (f e s) e fun x s => match mutO s x with
  | some (h, k, .ins c fs) => .nx e (s.set h ⟨false, putK k y, some (.ins c (putFld n y fs))⟩)
  | _ => .bad
def sAug (i : Nat) (g : D → D → Option D) (f : ME) : MS := fun e s => match e[i]? with
  | some (some x) => RSb (f e s) e fun y s => match g x y with
    | some z => .nx (e.set i (some z)) s
    | none => .bad
  | _ => .bad
def sIf (t : MT) (m n : MS) : MS := fun e s => RSb (t e s) e fun b s => if b then m e s else n e s
def sCont : MS := fun e s => .cnt e s
def forGo (g : MG) (m : MS) (o : Option Nat) : List D → Env → Store → RS
  | [], e, s => .nx e (unlock o s)
  | x :: r, e, s => match g e x with
    | none => .bad
    | some e => match m e s with
      | .nx e s => forGo g m o r e s
      | .cnt e s => forGo g m o r e s
      | .ret d s => .ret d (unlock o s)
      | .exc c fs e s => .exc c fs e (unlock o s)
      | .bad => .bad
def sFor (it : MI) (g : MG) (m : MS) : MS := fun e s => RSb (it e s) e fun xo s => forGo g m xo.2 xo.1 e s
def whileGo (t : MT) (m : MS) : Nat → Env → Store → RS
  | 0, _, _ => .bad
  | n + 1, e, s => RSb (t e s) e fun b s => if b then (match m e s with
      | .nx e s => whileGo t m n e s
      | .cnt e s => whileGo t m n e s
      | x => x) else .nx e s
def sWhile (n : Nat) (t : MT) (m : MS) : MS := whileGo t m n
/-- raise C(..) -/
def sRaise (c : Nat) (ns : List Nat) (a : MA) : MS := fun e s => RSb (a e s) e fun ds s => if ds.length = ns.length then .exc c (ns.zip ds) e s else .bad
/-- except clauses: the class, the name's place, the suite -/
def sTry (m : MS) (hs : List (Nat × Option Nat × MS)) : MS := fun e s => match m e s with
  | .exc c fs e s => (match hs.find? fun h => h.1 == c with
    | some (_, some i, n) => if i < e.length then (match n (e.set i (some (.exn c fs))) s with
        | .nx e s => .nx (e.set i none) s
        | x => x) else .bad
    | some (_, none, n) => n e s
    | none => .exc c fs e s)
  | x => x

/-! ### a def -/
def runFn (np nl : Nat) (m : MS) (ds : List D) (s : Store) : R D := if ds.length = np then (match m (ds.map some ++ List.replicate nl none) s with
    | .ret d s' => .ok d (s'.take s.length)
    | .nx _ s' => .ok .non (s'.take s.length)
    | .exc c fs _ s' => .exc c fs (s'.take s.length)
    | _ => .bad)
  else .bad
end VM

set_option Elab.async false
set_option linter.all false
set_option maxRecDepth 100000
/-! VM2: what a tree is in the heap; the store in the heap. -/
namespace VM
open PySem L2

/-- the classes' places, the fields' names -/
structure Tab where
  cls : Nat → Option Addr
  fld : Nat → Str
  exc : Nat → Option Addr

def keyOf : Key → D
  | .inl i => .int i
  | .inr x => .str x.cps.toList

/-- a key, as a tree -/
def KeyR (k : Key) (d : D) : Prop := keyOf k = d ∧ match k with
  | .inl _ => True
  | .inr x => x.cps.toList.length ≤ sizeMax
/-- a set of so many things -/
def SzO (a : Addr) (n : Nat) : HO := .ext fun h => ∃ ob es ep tb, h.get? a = some ob ∧ ob.ExactSet ∧ ob.data = .set es ep tb ∧ tb.fits es.size = true ∧ es.size = n ∧ es.size < scanBound
section
variable (K : PySem.W.Frag) (T : Tab)
mutual
inductive Rep (F : Hp) : V → D → Prop
  | non : Rep F .non .non
  | bl (b : Bool) : Rep F (.bl b) (.bl b)
  | int (i : Int) : Rep F (.int i) (.int i)
  | str (s : List Nat) (h : s.length ≤ sizeMax) : Rep F (.str ⟨s.toArray⟩) (.str s)
  | tup {a : Addr} {vs : List V} {ds : List D} (h : SqT K F a vs) (r : Reps F vs ds) (z : ds.length ≤ sizeMax) : Rep F (.ref a) (.tup ds)
  | lst {a : Addr} {vs : List V} {ds : List D} (h : F a = some (.lst vs)) (r : Reps F vs ds) (z : ds.length ≤ sizeMax) : Rep F (.ref a) (.lst ds)
  | fl {a : Addr} {vs : List V} {ds : List D} (h : SqL K F a vs) (r : Reps F vs ds) (z : ds.length ≤ sizeMax) : Rep F (.ref a) (.fl ds)
  | tpn {a : Addr} {o : Obj} {vs : List V} {ds : List D} (h : F a = some (.frz o (.tup vs))) (hd : o.dict = none) (r : Reps F vs ds) (z : ds.length ≤ sizeMax) : Rep F (.ref a) (.set ds)
  | szs {a : Addr} {n : Nat} (h : F a = some (SzO a n)) : Rep F (.ref a) (.exn n [])
  | clsv {c : Nat} {C : Addr} (h : T.cls c = some C) : Rep F (.ref C) (.exn c [(0, .bl true)])
  | exi {a C dx : Addr} {c : Nat} {fv : List (Str × V)} {fs : List (Nat × D)} (hc : T.exc c = some C) (h : F a = some (exo a C (some dx))) (hd : F dx = some (exd dx fv)) (r : RepF F fv fs) : Rep F (.ref a) (.exn c ((1000, .non) :: fs))
  | exb {a C : Addr} {c : Nat} (hc : T.exc c = some C) (h : F a = some (exo a C none) ∨ F a = some (ExO (.ref C) a)) : Rep F (.ref a) (.exn c [(1000, .bl true)])
  | dic {a : Addr} {kvs : List (Key × V)} {ds : List (D × D)} (h : F a = some (.dK kvs)) (r : RepK F kvs ds) (z : ds.length ≤ sizeMax) : Rep F (.ref a) (.dic ds)
  | ins {a C dx : Addr} {c : Nat} {fv : List (Str × V)} {fs : List (Nat × D)} (hc : T.cls c = some C) (h : F a = some (.ins C dx fv)) (r : RepF F fv fs) : Rep F (.ref a) (.ins c fs)
inductive Reps (F : Hp) : List V → List D → Prop
  | nil : Reps F [] []
  | cons {v : V} {d : D} {vs : List V} {ds : List D} (h : Rep F v d) (r : Reps F vs ds) : Reps F (v :: vs) (d :: ds)
inductive RepK (F : Hp) : List (Key × V) → List (D × D) → Prop
  | nil : RepK F [] []
  | cons {k : Key} {v : V} {d e : D} {vs : List (Key × V)} {ds : List (D × D)} (hk : KeyR k d) (h : Rep F v e) (r : RepK F vs ds) : RepK F ((k, v) :: vs) ((d, e) :: ds)
inductive RepF (F : Hp) : List (Str × V) → List (Nat × D) → Prop
  | nil : RepF F [] []
  | cons {n : Nat} {v : V} {d : D} {vs : List (Str × V)} {ds : List (Nat × D)} (h : Rep F v d) (r : RepF F vs ds) : RepF F ((T.fld n, v) :: vs) ((n, d) :: ds)
end

/-- what F says stands in H too (a dict may be locked meanwhile) -/
def FH (F H : Hp) : Prop := ∀ a o, F a = some o → H a = some o ∨ ((∃ kvs, o = .dK kvs) ∧ ∃ ob, H a = some (.frz ob o))
def Sub (F F' : Hp) : Prop := ∀ a o, F a = some o → F' a = some o
theorem Sub.refl (F : Hp) : Sub F F := fun _ _ h => h
theorem Sub.trans {F G H : Hp} (a : Sub F G) (b : Sub G H) : Sub F H := fun x o h => b x o (a x o h)

theorem sql_sub {F G : Hp} (s : Sub F G) {a : Addr} {vs : List V} (h : SqL K F a vs) : SqL K G a vs := by
  rcases h with (h | ⟨o, h⟩) | h
  · exact .inl (.inl (s _ _ h))
  · exact .inl (.inr ⟨o, s _ _ h⟩)
  · exact .inr h
theorem sqt_sub {F G : Hp} (s : Sub F G) {a : Addr} {vs : List V} (h : SqT K F a vs) : SqT K G a vs := by
  rcases h with (h | ⟨o, h⟩) | h
  · exact .inl (.inl (s _ _ h))
  · exact .inl (.inr ⟨o, s _ _ h⟩)
  · exact .inr h
theorem sql_fh {F H : Hp} (s : FH F H) {a : Addr} {vs : List V} (h : SqL K F a vs) : SqL K H a vs := by
  rcases h with (h | ⟨o, h⟩) | h
  · rcases s _ _ h with h | ⟨⟨_, m⟩, _⟩
    · exact .inl (.inl h)
    · cases m
  · rcases s _ _ h with h | ⟨⟨_, m⟩, _⟩
    · exact .inl (.inr ⟨o, h⟩)
    · cases m
  · exact .inr h
theorem sqt_fh {F H : Hp} (s : FH F H) {a : Addr} {vs : List V} (h : SqT K F a vs) : SqT K H a vs := by
  rcases h with (h | ⟨o, h⟩) | h
  · rcases s _ _ h with h | ⟨⟨_, m⟩, _⟩
    · exact .inl (.inl h)
    · cases m
  · rcases s _ _ h with h | ⟨⟨_, m⟩, _⟩
    · exact .inl (.inr ⟨o, h⟩)
    · cases m
  · exact .inr h

section
variable {K T}
theorem Rep.sub {F G : Hp} (s : Sub F G) {v : V} {d : D} (h : Rep K T F v d) : Rep K T G v d :=
  Rep.rec (motive_1 := fun v d _ => Rep K T G v d) (motive_2 := fun vs ds _ => Reps K T G vs ds) (motive_3 := fun vs ds _ => RepK K T G vs ds) (motive_4 := fun vs ds _ => RepF K T G vs ds)
    .non .bl .int .str (fun h _ z r => .tup (sqt_sub K s h) r z) (fun h _ z r => .lst (s _ _ h) r z) (fun h _ z r => .fl (sql_sub K s h) r z) (fun h hd _ z r => .tpn (s _ _ h) hd r z) (fun h => .szs (s _ _ h)) (fun h => .clsv h) (fun hc h hd _ r => .exi hc (s _ _ h) (s _ _ hd) r) (fun hc h => .exb hc (h.imp (s _ _) (s _ _))) (fun h _ z r => .dic (s _ _ h) r z) (fun hc h _ r => .ins hc (s _ _ h) r)
    .nil (fun _ _ h r => .cons h r) .nil (fun hk _ _ h r => .cons hk h r) .nil (fun _ _ h r => .cons h r) h
theorem Reps.sub {F G : Hp} (s : Sub F G) : ∀ {vs : List V} {ds : List D}, Reps K T F vs ds → Reps K T G vs ds
  | _, _, .nil => .nil
  | _, _, .cons h r => .cons (h.sub s) (r.sub s)
theorem RepK.sub {F G : Hp} (s : Sub F G) : ∀ {vs : List (Key × V)} {ds : List (D × D)}, RepK K T F vs ds → RepK K T G vs ds
  | _, _, .nil => .nil
  | _, _, .cons hk h r => .cons hk (h.sub s) (r.sub s)
theorem RepF.sub {F G : Hp} (s : Sub F G) : ∀ {vs : List (Str × V)} {ds : List (Nat × D)}, RepF K T F vs ds → RepF K T G vs ds
  | _, _, .nil => .nil
  | _, _, .cons h r => .cons (h.sub s) (r.sub s)
theorem Reps.length {F : Hp} : ∀ {vs : List V} {ds : List D}, Reps K T F vs ds → vs.length = ds.length
  | _, _, .nil => rfl
  | _, _, .cons _ r => by rw [List.length_cons, List.length_cons, r.length]
theorem RepK.length {F : Hp} : ∀ {vs : List (Key × V)} {ds : List (D × D)}, RepK K T F vs ds → vs.length = ds.length
  | _, _, .nil => rfl
  | _, _, .cons _ _ r => by rw [List.length_cons, List.length_cons, r.length]
theorem Reps.append {F : Hp} : ∀ {vs ws : List V} {ds es : List D}, Reps K T F vs ds → Reps K T F ws es → Reps K T F (vs ++ ws) (ds ++ es)
  | _, _, _, _, .nil, s => s
  | _, _, _, _, .cons h r, s => .cons h (r.append s)
theorem Reps.get {F : Hp} : ∀ {vs : List V} {ds : List D} {i : Nat} {d : D}, Reps K T F vs ds → ds[i]? = some d → ∃ v, vs[i]? = some v ∧ Rep K T F v d
  | _, _, 0, _, .cons h _, e => by
    cases e
    exact ⟨_, rfl, h⟩
  | _, _, i + 1, _, .cons _ r, e => by
    obtain ⟨v, h1, h2⟩ := r.get (i := i) (by simpa using e)
    exact ⟨v, by simpa using h1, h2⟩
theorem Reps.get' {F : Hp} : ∀ {vs : List V} {ds : List D} {i : Nat} {v : V}, Reps K T F vs ds → vs[i]? = some v → ∃ d, ds[i]? = some d ∧ Rep K T F v d
  | _, _, 0, _, .cons h _, e => by
    cases e
    exact ⟨_, rfl, h⟩
  | _, _, i + 1, _, .cons _ r, e => by
    obtain ⟨v, h1, h2⟩ := r.get' (i := i) (by simpa using e)
    exact ⟨v, by simpa using h1, h2⟩
theorem Reps.set {F : Hp} {v : V} {d : D} (h : Rep K T F v d) : ∀ {vs : List V} {ds : List D} (i : Nat), Reps K T F vs ds → Reps K T F (vs.set i v) (ds.set i d)
  | _, _, _, .nil => .nil
  | _, _, 0, .cons _ r => .cons h r
  | _, _, i + 1, .cons g r => .cons g (Reps.set h i r)
theorem Reps.take {F : Hp} : ∀ {vs : List V} {ds : List D} (n : Nat), Reps K T F vs ds → Reps K T F (vs.take n) (ds.take n)
  | _, _, 0, _ => .nil
  | _, _, _ + 1, .nil => .nil
  | _, _, n + 1, .cons g r => .cons g (r.take n)
theorem Reps.drop {F : Hp} : ∀ {vs : List V} {ds : List D} (n : Nat), Reps K T F vs ds → Reps K T F (vs.drop n) (ds.drop n)
  | _, _, 0, r => r
  | _, _, _ + 1, .nil => .nil
  | _, _, n + 1, .cons _ r => r.drop n
theorem Reps.reverse {F : Hp} : ∀ {vs : List V} {ds : List D}, Reps K T F vs ds → Reps K T F vs.reverse ds.reverse
  | _, _, .nil => .nil
  | _, _, .cons g r => by
    rw [List.reverse_cons, List.reverse_cons]
    exact r.reverse.append (.cons g .nil)
theorem Reps.eraseIdx {F : Hp} : ∀ {vs : List V} {ds : List D} (i : Nat), Reps K T F vs ds → Reps K T F (vs.eraseIdx i) (ds.eraseIdx i)
  | _, _, _, .nil => .nil
  | _, _, 0, .cons _ r => r
  | _, _, i + 1, .cons g r => .cons g (r.eraseIdx i)
theorem Reps.rep {F : Hp} {vs : List V} {ds : List D} (r : Reps K T F vs ds) : ∀ n : Nat, Reps K T F (List.replicate n vs).flatten (List.replicate n ds).flatten
  | 0 => .nil
  | n + 1 => by
    rw [List.replicate_succ, List.replicate_succ, List.flatten_cons, List.flatten_cons]
    exact r.append (r.rep n)
end

/-! a thing of one's own, k levels: its places P -/
mutual
inductive Own (F H : Hp) : Nat → V → D → List Addr → Prop
  | frz {v : V} {d : D} (h : Rep K T F v d) : Own F H 0 v d []
  | flat {k : Nat} {v : V} {d : D} (hc : contD d = false) (h : Rep K T F v d) : Own F H (k + 1) v d []
  | lst {k : Nat} {a : Addr} {vs : List V} {ds : List D} {P : List Addr} (h : H a = some (.lst vs)) (r : Owns F H k vs ds P) (z : ds.length ≤ sizeMax) : Own F H (k + 1) (.ref a) (.lst ds) (a :: P)
  | dic {k : Nat} {a : Addr} {kvs : List (Key × V)} {ds : List (D × D)} {P : List Addr} (h : H a = some (.dK kvs)) (r : OwnK F H k kvs ds P) (z : ds.length ≤ sizeMax) : Own F H (k + 1) (.ref a) (.dic ds) (a :: P)
  | ins {k : Nat} {a C dx : Addr} {c : Nat} {fv : List (Str × V)} {fs : List (Nat × D)} {P : List Addr} (hc : T.cls c = some C) (h : H a = some (.ins C dx fv)) (r : OwnF F H k fv fs P) : Own F H (k + 1) (.ref a) (.ins c fs) (a :: P)
inductive Owns (F H : Hp) : Nat → List V → List D → List Addr → Prop
  | nil {k : Nat} : Owns F H k [] [] []
  | cons {k : Nat} {v : V} {d : D} {vs : List V} {ds : List D} {P Q : List Addr} (h : Own F H k v d P) (r : Owns F H k vs ds Q) : Owns F H k (v :: vs) (d :: ds) (P ++ Q)
inductive OwnK (F H : Hp) : Nat → List (Key × V) → List (D × D) → List Addr → Prop
  | nil {k : Nat} : OwnK F H k [] [] []
  | cons {k : Nat} {x : Key} {v : V} {d e : D} {vs : List (Key × V)} {ds : List (D × D)} {P Q : List Addr} (hk : KeyR x d) (h : Own F H k v e P) (r : OwnK F H k vs ds Q) : OwnK F H k ((x, v) :: vs) ((d, e) :: ds) (P ++ Q)
inductive OwnF (F H : Hp) : Nat → List (Str × V) → List (Nat × D) → List Addr → Prop
  | nil {k : Nat} : OwnF F H k [] [] []
  | cons {k : Nat} {n : Nat} {v : V} {d : D} {vs : List (Str × V)} {ds : List (Nat × D)} {P Q : List Addr} (h : Own F H k v d P) (r : OwnF F H k vs ds Q) : OwnF F H k ((T.fld n, v) :: vs) ((n, d) :: ds) (P ++ Q)
end

section
variable {K T}
mutual
theorem Own.sub {F G H H' : Hp} (s : Sub F G) : ∀ {k : Nat} {v : V} {d : D} {P : List Addr}, Own K T F H k v d P → (∀ p ∈ P, H' p = H p) → Own K T G H' k v d P
  | _, _, _, _, .frz h, _ => .frz (h.sub s)
  | _, _, _, _, .flat hc h, _ => .flat hc (h.sub s)
  | _, _, _, _, .lst h r z, e => .lst ((e _ List.mem_cons_self).trans h) (Owns.sub s r fun p hp => e p (List.mem_cons_of_mem _ hp)) z
  | _, _, _, _, .dic h r z, e => .dic ((e _ List.mem_cons_self).trans h) (OwnK.sub s r fun p hp => e p (List.mem_cons_of_mem _ hp)) z
  | _, _, _, _, .ins hc h r, e => .ins hc ((e _ List.mem_cons_self).trans h) (OwnF.sub s r fun p hp => e p (List.mem_cons_of_mem _ hp))
theorem Owns.sub {F G H H' : Hp} (s : Sub F G) : ∀ {k : Nat} {v : List V} {d : List D} {P : List Addr}, Owns K T F H k v d P → (∀ p ∈ P, H' p = H p) → Owns K T G H' k v d P
  | _, _, _, _, .nil, _ => .nil
  | _, _, _, _, .cons h r, e => .cons (Own.sub s h fun p hp => e p (List.mem_append_left _ hp)) (Owns.sub s r fun p hp => e p (List.mem_append_right _ hp))
theorem OwnK.sub {F G H H' : Hp} (s : Sub F G) : ∀ {k : Nat} {v : List (Key × V)} {d : List (D × D)} {P : List Addr}, OwnK K T F H k v d P → (∀ p ∈ P, H' p = H p) → OwnK K T G H' k v d P
  | _, _, _, _, .nil, _ => .nil
  | _, _, _, _, .cons hk h r, e => .cons hk (Own.sub s h fun p hp => e p (List.mem_append_left _ hp)) (OwnK.sub s r fun p hp => e p (List.mem_append_right _ hp))
theorem OwnF.sub {F G H H' : Hp} (s : Sub F G) : ∀ {k : Nat} {v : List (Str × V)} {d : List (Nat × D)} {P : List Addr}, OwnF K T F H k v d P → (∀ p ∈ P, H' p = H p) → OwnF K T G H' k v d P
  | _, _, _, _, .nil, _ => .nil
  | _, _, _, _, .cons h r, e => .cons (Own.sub s h fun p hp => e p (List.mem_append_left _ hp)) (OwnF.sub s r fun p hp => e p (List.mem_append_right _ hp))
end
/-- F with the objects at P -/
def FP (F H : Hp) (P : List Addr) : Hp := fun a => if a ∈ P then H a else F a
theorem FP.here {F H : Hp} {P : List Addr} {a : Addr} (h : a ∈ P) : FP F H P a = H a := if_pos h
theorem FP.else {F H : Hp} {P : List Addr} {a : Addr} (h : a ∉ P) : FP F H P a = F a := if_neg h
theorem FP.sub {F H : Hp} {P : List Addr} (h : ∀ p ∈ P, F p = none) : Sub F (FP F H P) := fun a o e => by
  have n : a ∉ P := fun q => by rw [h a q] at e; cases e
  rw [FP.else n, e]
mutual
/-- frozen -/
theorem Own.rep {F G H : Hp} (s : Sub F G) : ∀ {k : Nat} {v : V} {d : D} {P : List Addr}, Own K T F H k v d P → (∀ p ∈ P, G p = H p) → Rep K T G v d
  | _, _, _, _, .frz h, _ => h.sub s
  | _, _, _, _, .flat _ h, _ => h.sub s
  | _, _, _, _, .lst h r z, e =>   .lst ((e _ List.mem_cons_self).trans h) (Owns.rep s r fun p hp => e p (List.mem_cons_of_mem _ hp)) z
  | _, _, _, _, .dic h r z, e => .dic ((e _ List.mem_cons_self).trans h) (OwnK.rep s r fun p hp => e p (List.mem_cons_of_mem _ hp)) z
  | _, _, _, _, .ins hc h r, e => .ins hc ((e _ List.mem_cons_self).trans h) (OwnF.rep s r fun p hp => e p (List.mem_cons_of_mem _ hp))
theorem Owns.rep {F G H : Hp} (s : Sub F G) : ∀ {k : Nat} {v : List V} {d : List D} {P : List Addr}, Owns K T F H k v d P → (∀ p ∈ P, G p = H p) → Reps K T G v d
  | _, _, _, _, .nil, _ => .nil
  | _, _, _, _, .cons h r, e => .cons (Own.rep s h fun p hp => e p (List.mem_append_left _ hp)) (Owns.rep s r fun p hp => e p (List.mem_append_right _ hp))
theorem OwnK.rep {F G H : Hp} (s : Sub F G) : ∀ {k : Nat} {v : List (Key × V)} {d : List (D × D)} {P : List Addr}, OwnK K T F H k v d P → (∀ p ∈ P, G p = H p) → RepK K T G v d
  | _, _, _, _, .nil, _ => .nil
  | _, _, _, _, .cons hk h r, e => .cons hk (Own.rep s h fun p hp => e p (List.mem_append_left _ hp)) (OwnK.rep s r fun p hp => e p (List.mem_append_right _ hp))
theorem OwnF.rep {F G H : Hp} (s : Sub F G) : ∀ {k : Nat} {v : List (Str × V)} {d : List (Nat × D)} {P : List Addr}, OwnF K T F H k v d P → (∀ p ∈ P, G p = H p) → RepF K T G v d
  | _, _, _, _, .nil, _ => .nil
  | _, _, _, _, .cons h r, e => .cons (Own.rep s h fun p hp => e p (List.mem_append_left _ hp)) (OwnF.rep s r fun p hp => e p (List.mem_append_right _ hp))
end
/-- what is owned stands in H, and may be written -/
def MutO (o : Option HO) : Prop := match o with
  | some (.lst _) => True
  | some (.dK _) => True
  | some (.ins _ _ _) => True
  | _ => False
mutual
theorem Own.mut {F H : Hp} : ∀ {k : Nat} {v : V} {d : D} {P : List Addr}, Own K T F H k v d P → ∀ p ∈ P, MutO (H p)
  | _, _, _, _, .frz _, _, hp => by cases hp
  | _, _, _, _, .flat _ _, _, hp => by cases hp
  | _, _, _, _, .lst h r _, p, hp => by
    rcases List.mem_cons.mp hp with rfl | hp
    · rw [h]; trivial
    · exact Owns.mut r p hp
  | _, _, _, _, .dic h r _, p, hp => by
    rcases List.mem_cons.mp hp with rfl | hp
    · rw [h]; trivial
    · exact OwnK.mut r p hp
  | _, _, _, _, .ins _ h r, p, hp => by
    rcases List.mem_cons.mp hp with rfl | hp
    · rw [h]; trivial
    · exact OwnF.mut r p hp
theorem Owns.mut {F H : Hp} : ∀ {k : Nat} {v : List V} {d : List D} {P : List Addr}, Owns K T F H k v d P → ∀ p ∈ P, MutO (H p)
  | _, _, _, _, .nil, _, hp => by cases hp
  | _, _, _, _, .cons h r, p, hp => (List.mem_append.mp hp).elim (Own.mut h p) (Owns.mut r p)
theorem OwnK.mut {F H : Hp} : ∀ {k : Nat} {v : List (Key × V)} {d : List (D × D)} {P : List Addr}, OwnK K T F H k v d P → ∀ p ∈ P, MutO (H p)
  | _, _, _, _, .nil, _, hp => by cases hp
  | _, _, _, _, .cons _ h r, p, hp => (List.mem_append.mp hp).elim (Own.mut h p) (OwnK.mut r p)
theorem OwnF.mut {F H : Hp} : ∀ {k : Nat} {v : List (Str × V)} {d : List (Nat × D)} {P : List Addr}, OwnF K T F H k v d P → ∀ p ∈ P, MutO (H p)
  | _, _, _, _, .nil, _, hp => by cases hp
  | _, _, _, _, .cons h r, p, hp => (List.mem_append.mp hp).elim (Own.mut h p) (OwnF.mut r p)
end
theorem MutO.some {o : Option HO} (h : MutO o) : o ≠ none := fun e => by rw [e] at h; exact h
end

/-! ### the store in the heap -/
structure Wd where
  F : Hp
  io : List Addr
  Ps : List (List Addr)
/-- a value: a tree, or a thing of the store -/
def RepS (w : Wd) (v : V) (d : D) : Prop := match d with
  | .ref h => ∃ a, w.io[h]? = some a ∧ v = .ref a
  | d => Rep K T w.F v d
def EntOk (F H : Hp) (a : Addr) (P : List Addr) (e : Ent) : Prop := match e.d with
  | none => P = []
  | some d => Own K T F H e.k (.ref a) d P ∧ (e.k ≠ 0 → ∃ Q, P = a :: Q)
structure SOk (w : Wd) (s : Store) (H : Hp) : Prop where
  fh : FH w.F H
  lenI : w.io.length = s.length
  lenP : w.Ps.length = s.length
  ent : ∀ (h : Nat) (e : Ent) (a : Addr) (P : List Addr), s[h]? = some e → w.io[h]? = some a → w.Ps[h]? = some P → EntOk K T w.F H a P e
  dis : w.Ps.flatten.Nodup
  out : ∀ p ∈ w.Ps.flatten, w.F p = none
structure EOk (w : Wd) (env : Env) (σ : L2.St) : Prop where
  len : env.length = σ.length
  get : ∀ (i : Nat) (d : D), env[i]? = some (some d) → ∃ v, σ[i]? = some (some v) ∧ RepS K T w v d
/-- what a run keeps -/
structure Nxt (w : Wd) (s : Store) (H : Hp) (w' : Wd) (s' : Store) (H' : Hp) : Prop where
  F : Sub w.F w'.F
  io : ∀ (h : Nat) (a : Addr), w.io[h]? = some a → w'.io[h]? = some a
  len : s.length ≤ s'.length
  keep : ∀ p, H p ≠ none → (w.F p = none ∨ ∀ kvs, H p ≠ some (.dK kvs)) → p ∉ w.Ps.flatten → H' p = H p ∧ w'.F p = w.F p ∧ p ∉ w'.Ps.flatten
  lock : ∀ (h : Nat) (e : Ent), s[h]? = some e → e.lk = true → s'[h]? = some e ∧ w'.Ps[h]? = w.Ps[h]? ∧ ∀ P, w.Ps[h]? = some P → ∀ p ∈ P, H' p = H p
end
section
variable {K : PySem.W.Frag} {T : Tab} {w w' w'' : Wd} {s s' s'' : Store} {H H' H'' : Hp}
theorem RepS.of {v : V} {d : D} (h : Rep K T w.F v d) : RepS K T w v d := by
  cases d with
  | ref => cases h
  | _ => exact h
theorem Nxt.refl : Nxt w s H w s H := ⟨Sub.refl _, fun _ _ h => h, Nat.le_refl _, fun _ _ _ h => ⟨rfl, rfl, h⟩, fun _ _ h _ => ⟨h, rfl, fun _ _ _ _ => rfl⟩⟩
theorem Nxt.trans (a : Nxt w s H w' s' H') (b : Nxt w' s' H' w'' s'' H'') : Nxt w s H w'' s'' H'' where
  F := a.F.trans b.F
  io := fun h x e => b.io h x (a.io h x e)
  len := Nat.le_trans a.len b.len
  keep := fun p hp hf hn => by
    obtain ⟨h1, h2, h3⟩ := a.keep p hp hf hn
    obtain ⟨g1, g2, g3⟩ := b.keep p (by rw [h1]; exact hp) (hf.imp (fun z => h2.trans z) fun z kvs => by rw [h1]; exact z kvs) h3
    exact ⟨g1.trans h1, g2.trans h2, g3⟩
  lock := fun h e he hl => by
    obtain ⟨h1, h2, h3⟩ := a.lock h e he hl
    obtain ⟨g1, g2, g3⟩ := b.lock h e h1 hl
    exact ⟨g1, g2.trans h2, fun P hP p hp => (g3 P (h2.trans hP) p hp).trans (h3 P hP p hp)⟩
theorem RepS.nxt (n : Nxt w s H w' s' H') {v : V} {d : D} (h : RepS K T w v d) : RepS K T w' v d := by
  cases d with
  | ref h' =>
    obtain ⟨a, h1, h2⟩ := h
    exact ⟨a, n.io _ _ h1, h2⟩
  | _ => exact Rep.sub n.F h
theorem EOk.nxt (n : Nxt w s H w' s' H') {env : Env} {σ : L2.St} (h : EOk K T w env σ) : EOk K T w' env σ :=
  ⟨h.len, fun i d e => let ⟨v, h1, h2⟩ := h.get i d e; ⟨v, h1, h2.nxt n⟩⟩
theorem mem_flat {P : List Addr} {h : Nat} {Ps : List (List Addr)} {p : Addr} (e : Ps[h]? = some P) (hp : p ∈ P) : p ∈ Ps.flatten :=
  List.mem_flatten.mpr ⟨P, List.mem_of_getElem? e, hp⟩
theorem SOk.io_at (k : SOk K T w s H) {h : Nat} {e : Ent} (he : s[h]? = some e) : ∃ a P, w.io[h]? = some a ∧ w.Ps[h]? = some P := by
  have hl : h < s.length := (List.getElem?_eq_some_iff.mp he).1
  exact ⟨w.io[h]'(by rw [k.lenI]; exact hl), w.Ps[h]'(by rw [k.lenP]; exact hl), List.getElem?_eq_getElem _, List.getElem?_eq_getElem _⟩
end
end VM

set_option Elab.async false
set_option linter.all false
set_option maxRecDepth 100000
/-! VM3: what it is that a construct's meaning is right; values, names, tuples, lists, tests. -/
namespace VM
open PySem L2

/-! ### the weakest wishes -/
def WPE (X : Cx) (e : Expr) (σ : L2.St) (H : Hp) (Q : VK) : Prop := ∀ (pins : List (Addr × Obj)) (s : Shared), Inv X pins σ H s → wpAny (model X.prog X.w) X.A (eval e X.env) (EP X pins σ Q) X.xe s
def WPT (X : Cx) (e : Expr) (σ : L2.St) (H : Hp) (Q : Bool → Hp → Prop) : Prop := ∀ (pins : List (Addr × Obj)) (s : Shared), Inv X pins σ H s → wpAny (model X.prog X.w) X.A (isTrue e X.env (eval e X.env)) (TP X pins σ Q) X.xe s
def WPW (X : Cx) (e : Expr) (σ : L2.St) (H : Hp) (Q : Bool → Hp → Prop) : Prop := ∀ (whole : Sem Value) (pins : List (Addr × Obj)) (s : Shared), Inv X pins σ H s → wpAny (model X.prog X.w) X.A (isTrue e X.env whole) (TP X pins σ Q) X.xe s
def WPA (X : Cx) (es : List Expr) (σ : L2.St) (H : Hp) (Q : List V → Hp → Prop) : Prop := ∀ (pos : Pos) (pins : List (Addr × Obj)) (s : Shared), Inv X pins σ H s → wpAny (model X.prog X.w) X.A (spliced (backTo pos (starEach es X.env))) (AP X pins σ Q) X.xe s
def WPS (X : Cx) (st : Stmt) (D : Ends) (σ : L2.St) (H : Hp) : Prop := ∀ (pins : List (Addr × Obj)) (s : Shared), Inv X pins σ H s → wpAny (model X.prog X.w) X.A (exec st X.env) (SP X pins D) X.xe s
def WPSs (X : Cx) (st : List Stmt) (D : Ends) (σ : L2.St) (H : Hp) : Prop := ∀ (pins : List (Addr × Obj)) (s : Shared), Inv X pins σ H s → wpAny (model X.prog X.w) X.A (execs st X.env) (SP X pins D) X.xe s
section
variable {X : Cx} {σ : L2.St} {H : Hp}
theorem pe_wp {e : Expr} : PE X e (WPE X e) := ⟨fun pins s σ H Q I h => h pins s I⟩
theorem pt_wp {e : Expr} : PT X e (WPT X e) := ⟨fun pins s σ H Q I h => h pins s I⟩
theorem pw_wp {e : Expr} : PW X e (WPW X e) := ⟨fun whole pins s σ H Q I h => h whole pins s I⟩
theorem pa_wp {es : List Expr} : PA X es (WPA X es) := ⟨fun pos pins s σ H Q I h => h pos pins s I⟩
theorem ps_wp {st : Stmt} : PS X st (WPS X st) := ⟨fun pins s σ H D I h => h pins s I⟩
theorem pss_wp {st : List Stmt} : PSs X st (WPSs X st) := ⟨fun pins s σ H D I h => h pins s I⟩
theorem wpe_of {e : Expr} {t : TE} (h : PE X e t) {Q : VK} (q : t σ H Q) : WPE X e σ H Q := fun pins s I => h.run pins s σ H Q I q
theorem wpt_of {e : Expr} {t : TT} (h : PT X e t) {Q : Bool → Hp → Prop} (q : t σ H Q) : WPT X e σ H Q := fun pins s I => h.run pins s σ H Q I q
theorem wpw_of {e : Expr} {t : TT} (h : PW X e t) {Q : Bool → Hp → Prop} (q : t σ H Q) : WPW X e σ H Q := fun whole pins s I => h.run whole pins s σ H Q I q
theorem wpa_of {es : List Expr} {t : TA} (h : PA X es t) {Q : List V → Hp → Prop} (q : t σ H Q) : WPA X es σ H Q := fun pos pins s I => h.run pos pins s σ H Q I q
theorem wps_of {st : Stmt} {t : TS} (h : PS X st t) {D : Ends} (q : t D σ H) : WPS X st D σ H := fun pins s I => h.run pins s σ H D I q
theorem wpss_of {st : List Stmt} {t : TS} (h : PSs X st t) {D : Ends} (q : t D σ H) : WPSs X st D σ H := fun pins s I => h.run pins s σ H D I q
end

inductive Md where
  | tree | raw | own (k : Nat)

section
variable {K : PySem.W.Frag} {T : Tab}
/-- the places P are new, or were those of the store -/
structure New (w : Wd) (H : Hp) (w' : Wd) (P : List Addr) : Prop where
  nd : P.Nodup
  out : ∀ p ∈ P, w'.F p = none ∧ p ∉ w'.Ps.flatten ∧ w.F p = none ∧ (H p = none ∨ p ∈ w.Ps.flatten)
variable (K T)
def OwnV (md : Md) (w : Wd) (H : Hp) (w' : Wd) (H' : Hp) (v : V) (d : D) : Prop := match md with
  | .tree => Rep K T w'.F v d
  | .raw => RepS K T w' v d
  | .own k => ∃ P, Own K T w'.F H' k v d P ∧ New w H w' P
/-- what is wanted of a meaning's end -/
def Post {α β : Type} (W : WX) (w : Wd) (s : Store) (σ : L2.St) (H : Hp) (rel : Wd → Hp → β → α → Prop) (Q : β → Hp → Prop) (r : R α) : Prop := match r with
  | .ok d s' => ∀ v H' w', SOk K T w' s' H' → Nxt w s H w' s' H' → rel w' H' v d → Q v H'
  | .exc c fs s' => ∀ C dd fv H' w', SOk K T w' s' H' → Nxt w s H w' s' H' → T.exc c = some C → w'.F dd = some (.xd fv) → RepF K T w'.F fv fs → W (.ref C) (some dd) σ H'
  | .bad => False
variable {K T}
theorem Post.bind {α β γ δ : Type} {W : WX} {w : Wd} {s : Store} {σ : L2.St} {H : Hp} {rel : Wd → Hp → β → α → Prop} {rel2 : Wd → Hp → δ → γ → Prop} {Q : β → Hp → Prop} {Q2 : δ → Hp → Prop} {r : R α} {g : α → Store → R γ}
    (h : Post K T W w s σ H rel2 Q2 (r.bind g)) (k : ∀ v d H' w' s', SOk K T w' s' H' → Nxt w s H w' s' H' → rel w' H' v d → Post K T W w s σ H rel2 Q2 (g d s') → Q v H') : Post K T W w s σ H rel Q r := by
  cases r with
  | ok d s' => exact fun v H' w' a b c => k v d H' w' s' a b c h
  | exc c fs s' => exact h
  | bad => exact h
theorem Post.imp {α β : Type} {W : WX} {w : Wd} {s : Store} {σ : L2.St} {H : Hp} {rel rel2 : Wd → Hp → β → α → Prop} {Q Q2 : β → Hp → Prop} {r : R α}
    (h : Post K T W w s σ H rel2 Q2 r) (k : ∀ v d H' w' s', r = .ok d s' → SOk K T w' s' H' → Nxt w s H w' s' H' → rel w' H' v d → (∀ v2 H2 w2, SOk K T w2 s' H2 → Nxt w s H w2 s' H2 → rel2 w2 H2 v2 d → Q2 v2 H2) → Q v H') : Post K T W w s σ H rel Q r := by
  cases r with
  | ok d s' => exact fun v H' w' a b c => k v d H' w' s' rfl a b c h
  | exc c fs s' => exact h
  | bad => exact h
/-- from a later state on -/
theorem Post.nxt {α β : Type} {W : WX} {w w1 : Wd} {s s1 : Store} {σ : L2.St} {H H1 : Hp} {rel : Wd → Hp → β → α → Prop} {rel1 : Wd → Hp → β → α → Prop} {Q : β → Hp → Prop} {r : R α}
    (n : Nxt w s H w1 s1 H1) (h : Post K T W w s σ H rel Q r) (hr : ∀ w' s' H' v d, Nxt w1 s1 H1 w' s' H' → rel1 w' H' v d → rel w' H' v d) : Post K T W w1 s1 σ H1 rel1 Q r := by
  cases r with
  | ok d s' => exact fun v H' w' a b c => h v H' w' a (n.trans b) (hr w' s' H' v d b c)
  | exc c fs s' => exact fun C dd fv H' w' a b => h C dd fv H' w' a (n.trans b)
  | bad => exact h
theorem New.nxt {w w1 w' : Wd} {s s1 : Store} {H H1 : Hp} {P : List Addr} (n : Nxt w s H w1 s1 H1) (h : New w1 H1 w' P) : New w H w' P :=
  ⟨h.nd, fun p hp => by
    obtain ⟨a, b, b0, c⟩ := h.out p hp
    have b1 : w.F p = none := by
      cases e : w.F p with
      | none => rfl
      | some o => rw [n.F p o e] at b0; cases b0
    refine ⟨a, b, b1, ?_⟩
    by_cases q : p ∈ w.Ps.flatten
    · exact .inr q
    · by_cases q2 : H p = none
      · exact .inl q2
      · obtain ⟨x, y, z⟩ := n.keep p q2 (.inl b1) q
        rcases c with c | c
        · exact absurd (x.symm.trans c) q2
        · exact absurd c z⟩
theorem OwnV.nxt {md : Md} {w w1 w' : Wd} {s s1 : Store} {H H1 H' : Hp} {v : V} {d : D} (n : Nxt w s H w1 s1 H1) (h : OwnV K T md w1 H1 w' H' v d) : OwnV K T md w H w' H' v d := by
  cases md with
  | tree => exact h
  | raw => exact h
  | own k =>
    obtain ⟨P, h1, h2⟩ := h
    exact ⟨P, h1, h2.nxt n⟩
variable (K T)
/-- the meaning f of the expression e is right -/
def SE0 (md : Md) (X : Cx) (W : WX) (e : Expr) (f : ME) : Prop := ∀ w env s σ H, SOk K T w s H → EOk K T w env σ → ∀ Q : VK, Post K T W w s σ H (fun w' H' => OwnV K T md w H w' H') Q (f env s) → WPE X e σ H Q
structure SE (md : Md) (X : Cx) (W : WX) (e : Expr) (f : ME) : Prop where
  run : SE0 K T md X W e f
instance {md : Md} {X : Cx} {W : WX} {e : Expr} {f : ME} : CoeFun (SE K T md X W e f) fun _ => SE0 K T md X W e f := ⟨SE.run⟩
def ST0 (X : Cx) (W : WX) (e : Expr) (f : MT) : Prop := ∀ w env s σ H, SOk K T w s H → EOk K T w env σ → ∀ Q : Bool → Hp → Prop, Post K T W w s σ H (fun _ _ b c => b = c) Q (f env s) → WPT X e σ H Q
structure ST (X : Cx) (W : WX) (e : Expr) (f : MT) : Prop where
  run : ST0 K T X W e f
instance {X : Cx} {W : WX} {e : Expr} {f : MT} : CoeFun (ST K T X W e f) fun _ => ST0 K T X W e f := ⟨ST.run⟩
def SW0 (X : Cx) (W : WX) (e : Expr) (f : MT) : Prop := ∀ w env s σ H, SOk K T w s H → EOk K T w env σ → ∀ Q : Bool → Hp → Prop, Post K T W w s σ H (fun _ _ b c => b = c) Q (f env s) → WPW X e σ H Q
structure SW (X : Cx) (W : WX) (e : Expr) (f : MT) : Prop where
  run : SW0 K T X W e f
instance {X : Cx} {W : WX} {e : Expr} {f : MT} : CoeFun (SW K T X W e f) fun _ => SW0 K T X W e f := ⟨SW.run⟩
/-- several values -/
inductive RepSs (w : Wd) : List V → List D → Prop
  | nil : RepSs w [] []
  | cons {v : V} {d : D} {vs : List V} {ds : List D} (h : RepS K T w v d) (r : RepSs w vs ds) : RepSs w (v :: vs) (d :: ds)
def relA (raw : Bool) (w' : Wd) (_ : Hp) (vs : List V) (ds : List D) : Prop := if raw then RepSs K T w' vs ds else Reps K T w'.F vs ds
def SA0 (raw : Bool) (X : Cx) (W : WX) (es : List Expr) (f : MA) : Prop := ∀ w env s σ H, SOk K T w s H → EOk K T w env σ → ∀ Q : List V → Hp → Prop, Post K T W w s σ H (relA K T raw) Q (f env s) → WPA X es σ H Q
structure SA (raw : Bool) (X : Cx) (W : WX) (es : List Expr) (f : MA) : Prop where
  run : SA0 K T raw X W es f
instance {raw : Bool} {X : Cx} {W : WX} {es : List Expr} {f : MA} : CoeFun (SA K T raw X W es f) fun _ => SA0 K T raw X W es f := ⟨SA.run⟩
variable {K T}
theorem RepSs.nxt {w w' : Wd} {s s' : Store} {H H' : Hp} (n : Nxt w s H w' s' H') : ∀ {vs : List V} {ds : List D}, RepSs K T w vs ds → RepSs K T w' vs ds
  | _, _, .nil => .nil
  | _, _, .cons h r => .cons (h.nxt n) (r.nxt n)
theorem RepSs.length {w : Wd} : ∀ {vs : List V} {ds : List D}, RepSs K T w vs ds → vs.length = ds.length
  | _, _, .nil => rfl
  | _, _, .cons _ r => by rw [List.length_cons, List.length_cons, r.length]
theorem relA.nxt {raw : Bool} {w w' : Wd} {s s' : Store} {H H' : Hp} (n : Nxt w s H w' s' H') {vs : List V} {ds : List D} (h : relA K T raw w H vs ds) : relA K T raw w' H' vs ds := by
  cases raw with
  | true => exact RepSs.nxt n h
  | false => exact Reps.sub n.F h

/-! ### trees out of what is raw, out of what is new -/
section
variable {w : Wd} {s : Store} {H : Hp}
theorem SOk.entry (k : SOk K T w s H) {h : Nat} {e : Ent} (he : s[h]? = some e) : ∃ a P, w.io[h]? = some a ∧ w.Ps[h]? = some P ∧ EntOk K T w.F H a P e :=
  let ⟨a, P, h1, h2⟩ := k.io_at he
  ⟨a, P, h1, h2, k.ent h e a P he h1 h2⟩
theorem nodup_fl {Ps : List (List Addr)} : Ps.flatten.Nodup ↔ (∀ P ∈ Ps, P.Nodup) ∧ Ps.Pairwise fun a b => ∀ p, p ∈ a → p ∈ b → False := by
  unfold List.Nodup
  rw [List.pairwise_flatten]
  refine ⟨fun h => ⟨h.1, h.2.imp fun {a b} q p h1 h2 => q p h1 p h2 rfl⟩, fun h => ⟨h.1, h.2.imp fun {a b} q p h1 r h2 e => q p h1 (by rw [e]; exact h2)⟩⟩
theorem nodup_flatten {Ps : List (List Addr)} (h : Ps.flatten.Nodup) {i : Nat} {P : List Addr} (e : Ps[i]? = some P) : P.Nodup :=
  (nodup_fl.mp h).1 P (List.mem_of_getElem? e)
theorem flatten_apart {Ps : List (List Addr)} (h : Ps.flatten.Nodup) {i j : Nat} {P Q : List Addr} (e : Ps[i]? = some P) (e' : Ps[j]? = some Q) (ne : i ≠ j) {p : Addr} (hp : p ∈ P) (hq : p ∈ Q) : False := by
  have q := (nodup_fl.mp h).2
  obtain ⟨h1, e1⟩ := List.getElem?_eq_some_iff.mp e
  obtain ⟨h2, e2⟩ := List.getElem?_eq_some_iff.mp e'
  rcases Nat.lt_or_gt_of_ne ne with lt | lt
  · exact (List.pairwise_iff_getElem.mp q i j h1 h2 lt) p (by rw [e1]; exact hp) (by rw [e2]; exact hq)
  · exact (List.pairwise_iff_getElem.mp q j i h2 h1 lt) p (by rw [e2]; exact hq) (by rw [e1]; exact hp)
theorem set_flatten_mem {Ps : List (List Addr)} {i : Nat} {P Q : List Addr} (e : Ps[i]? = some P) {p : Addr} : p ∈ (Ps.set i Q).flatten ↔ p ∈ Q ∨ ∃ j R, j ≠ i ∧ Ps[j]? = some R ∧ p ∈ R := by
  obtain ⟨hi, _⟩ := List.getElem?_eq_some_iff.mp e
  constructor
  · intro hp
    obtain ⟨R, hR, hp⟩ := List.mem_flatten.mp hp
    obtain ⟨j, hj⟩ := List.getElem?_of_mem hR
    rw [List.getElem?_set] at hj
    by_cases ij : i = j
    · rw [if_pos ij, if_pos hi] at hj
      cases hj
      exact .inl hp
    · rw [if_neg ij] at hj
      exact .inr ⟨j, R, fun q => ij q.symm, hj, hp⟩
  · rintro (hp | ⟨j, R, ne, hR, hp⟩)
    · exact List.mem_flatten.mpr ⟨Q, List.mem_of_getElem? (i := i) (by rw [List.getElem?_set, if_pos rfl, if_pos hi]), hp⟩
    · exact List.mem_flatten.mpr ⟨R, List.mem_of_getElem? (i := j) (by rw [List.getElem?_set, if_neg (fun q => ne q.symm)]; exact hR), hp⟩
theorem set_flatten_nodup {Ps : List (List Addr)} (h : Ps.flatten.Nodup) {i : Nat} {P Q : List Addr} (e : Ps[i]? = some P) (hQ : Q.Nodup) (ha : ∀ p ∈ Q, p ∈ P ∨ p ∉ Ps.flatten) : (Ps.set i Q).flatten.Nodup := by
  obtain ⟨hi, e1⟩ := List.getElem?_eq_some_iff.mp e
  have h1 := nodup_fl.mp h
  refine nodup_fl.mpr ⟨fun R hR => ?_, ?_⟩
  · rcases List.mem_or_eq_of_mem_set hR with hR | rfl
    · exact h1.1 R hR
    · exact hQ
  · have apart : ∀ (j : Nat) (R : List Addr), j ≠ i → Ps[j]? = some R → ∀ p ∈ Q, p ∈ R → False := fun j R ne hR p hp hp' => by
      rcases ha p hp with q | q
      · exact flatten_apart h e hR (fun z => ne z.symm) q hp'
      · exact q (mem_flat hR hp')
    refine List.pairwise_iff_getElem.mpr fun a b ha' hb' lt p hp hq => ?_
    rw [List.length_set] at ha' hb'
    rw [List.getElem_set] at hp hq
    by_cases ai : i = a
    · rw [if_pos ai] at hp
      rw [if_neg (fun z => by omega)] at hq
      exact apart b _ (by omega) (List.getElem?_eq_getElem hb') p hp hq
    · rw [if_neg ai] at hp
      by_cases bi : i = b
      · rw [if_pos bi] at hq
        exact apart a _ (by omega) (List.getElem?_eq_getElem ha') p hq hp
      · rw [if_neg bi] at hq
        exact flatten_apart h (List.getElem?_eq_getElem ha') (List.getElem?_eq_getElem hb') (by omega) hp hq
/-- THE STEP: the entry h becomes e', its places P'; what was F becomes G, the heap H' -/
theorem SOk.put (k : SOk K T w s H) {h : Nat} {e e' : Ent} {a : Addr} {P P' : List Addr} {G H' : Hp} (he : s[h]? = some e) (ha : w.io[h]? = some a) (hP : w.Ps[h]? = some P) (sub : Sub w.F G) (fh : FH G H')
    (keep : ∀ p, p ∉ P → H p ≠ none → H' p = H p) (new : EntOk K T G H' a P' e') (nd : P'.Nodup) (hin : ∀ p ∈ P', p ∈ P ∨ p ∉ w.Ps.flatten) (out : ∀ p ∈ P', G p = none)
    (gk : ∀ p, p ∈ w.Ps.flatten → p ∉ P → G p = none) : SOk K T ⟨G, w.io, w.Ps.set h P'⟩ (s.set h e') H' where
  fh := fh
  lenI := by rw [List.length_set]; exact k.lenI
  lenP := by rw [List.length_set, List.length_set]; exact k.lenP
  ent := fun j f b R hj hb hR => by
    by_cases jh : h = j
    · subst jh
      rw [List.getElem?_set, if_pos rfl, if_pos (List.getElem?_eq_some_iff.mp he).1] at hj
      cases hj
      have hb : w.io[h]? = some b := hb
      rw [ha] at hb
      cases hb
      have hR : (w.Ps.set h P')[h]? = some R := hR
      rw [List.getElem?_set, if_pos rfl, if_pos (List.getElem?_eq_some_iff.mp hP).1] at hR
      cases hR
      exact new
    · rw [List.getElem?_set, if_neg jh] at hj
      have hR : (w.Ps.set h P')[j]? = some R := hR
      rw [List.getElem?_set, if_neg jh] at hR
      have old := k.ent j f b R hj hb hR
      unfold EntOk at old ⊢
      cases q : f.d with
      | none =>
        rw [q] at old
        exact old
      | some d =>
        rw [q] at old
        refine ⟨old.1.sub sub fun p hp => keep p (fun z => flatten_apart k.dis hP hR jh z hp) (old.1.mut p hp).some, old.2⟩
  dis := set_flatten_nodup k.dis hP nd hin
  out := fun p hp => by
    rcases (set_flatten_mem hP).mp hp with hp | ⟨j, R, ne, hR, hp⟩
    · exact out p hp
    · exact gk p (mem_flat hR hp) fun z => flatten_apart k.dis hP hR (fun q => ne q.symm) z hp
theorem FH.grow {F H : Hp} (f : FH F H) {P : List Addr} : FH (FP F H P) H := fun a o e => by
  by_cases q : a ∈ P
  · rw [FP.here q] at e
    exact .inl e
  · rw [FP.else q] at e
    exact f a o e
/-- the thing h is frozen -/
theorem SOk.freeze (k : SOk K T w s H) {h : Nat} {e : Ent} {d : D} {a : Addr} {P : List Addr} (he : s[h]? = some e) (hl : e.lk = false) (hd : e.d = some d) (ha : w.io[h]? = some a) (hP : w.Ps[h]? = some P) :
    ∃ w', SOk K T w' (s.set h ⟨false, 0, some d⟩) H ∧ Nxt w s H w' (s.set h ⟨false, 0, some d⟩) H ∧ Rep K T w'.F (.ref a) d ∧ w'.io = w.io := by
  have old := k.ent h e a P he ha hP
  unfold EntOk at old
  rw [hd] at old
  have hP1 : ∀ p ∈ P, w.F p = none := fun p hp => k.out p (mem_flat hP hp)
  have sub : Sub w.F (FP w.F H P) := FP.sub hP1
  have rep : Rep K T (FP w.F H P) (.ref a) d := old.1.rep sub fun p hp => FP.here hp
  refine ⟨⟨FP w.F H P, w.io, w.Ps.set h []⟩, k.put he ha hP sub k.fh.grow (fun _ _ _ => rfl) ⟨.frz rep, fun q => absurd rfl q⟩ List.nodup_nil (fun _ hp => by cases hp) (fun _ hp => by cases hp)
    fun p hp hn => by rw [FP.else hn]; exact k.out p hp, ⟨sub, fun _ _ z => z, Nat.le_of_eq List.length_set.symm, fun p hp hf hn => ⟨rfl, FP.else (fun z => hn (mem_flat hP z)), fun z => ?_⟩, fun j f hj lk => ?_⟩, rep, rfl⟩
  · rcases (set_flatten_mem hP).mp z with z | ⟨j, R, _, hR, hp⟩
    · cases z
    · exact hn (mem_flat hR hp)
  · have ne : h ≠ j := fun q => by
      subst q
      rw [he] at hj
      cases hj
      rw [hl] at lk
      cases lk
    refine ⟨by rw [List.getElem?_set, if_neg ne]; exact hj, ?_, fun _ _ _ _ => rfl⟩
    show (w.Ps.set h [])[j]? = w.Ps[j]?
    rw [List.getElem?_set, if_neg ne]
theorem frozen_ok (k : SOk K T w s H) {v : V} {d x : D} {s' : Store} (r : RepS K T w v d) (h : frozen d s = .ok x s') : ∃ w', SOk K T w' s' H ∧ Nxt w s H w' s' H ∧ Rep K T w'.F v x := by
  cases d with
  | ref h' =>
    obtain ⟨a, ha, rfl⟩ := r
    dsimp only [frozen] at h
    cases he : s[h']? with
    | none =>
      rw [he] at h
      cases h
    | some e =>
      obtain ⟨lk, k', x'⟩ := e
      obtain ⟨a', P, ha', hP, ok⟩ := k.entry he
      rw [ha] at ha'
      cases ha'
      rw [he] at h
      cases lk with
      | true => cases h
      | false =>
        cases x' with
        | none =>
          cases k' <;> cases h
        | some y =>
          cases k' with
          | zero =>
            cases h
            cases ok.1 with
            | frz q => exact ⟨w, k, .refl, q⟩
          | succ j =>
            cases h
            obtain ⟨w', h1, h2, h3, _⟩ := k.freeze he rfl rfl ha hP
            exact ⟨w', h1, h2, h3⟩
  | _ =>
    cases h
    exact ⟨w, k, .refl, r⟩
/-- what is new is frozen -/
theorem freeze_new (k : SOk K T w s H) {w0 : Wd} {s0 : Store} {H0 : Hp} (n : Nxt w0 s0 H0 w s H) {j : Nat} {v : V} {d : D} {P : List Addr} (o : Own K T w.F H j v d P) (nw : New w0 H0 w P) :
    ∃ w', SOk K T w' s H ∧ Nxt w0 s0 H0 w' s H ∧ Rep K T w'.F v d := by
  have sub : Sub w.F (FP w.F H P) := FP.sub fun p hp => (nw.out p hp).1
  have rep : Rep K T (FP w.F H P) v d := o.rep sub fun p hp => FP.here hp
  refine ⟨⟨FP w.F H P, w.io, w.Ps⟩, ⟨k.fh.grow, k.lenI, k.lenP, fun h e a R he ha hR => ?_, k.dis, fun p hp => ?_⟩, ⟨n.F.trans sub, n.io, n.len, fun p hp hf hn => ?_, n.lock⟩, rep⟩
  · have old := k.ent h e a R he ha hR
    unfold EntOk at old ⊢
    cases q : e.d with
    | none =>
      rw [q] at old
      exact old
    | some y =>
      rw [q] at old
      exact ⟨old.1.sub sub fun _ _ => rfl, old.2⟩
  · show FP w.F H P p = none
    rw [FP.else (fun z => (nw.out p z).2.1 hp)]
    exact k.out p hp
  · obtain ⟨a, b, c⟩ := n.keep p hp hf hn
    refine ⟨a, ?_, c⟩
    show FP w.F H P p = w0.F p
    rw [FP.else, b]
    intro z
    rcases (nw.out p z).2.2.2 with q | q
    · exact hp q
    · exact hn q
end

/-! ### a meaning in another mode -/
section
variable {X : Cx} {W : WX} {e : Expr} {f : ME}
theorem se_raw (h : SE K T .tree X W e f) : SE K T .raw X W e f := .mk fun w env s σ H k eo Q p => h w env s σ H k eo Q (p.imp fun v d H' w' s' _ a b c q => q v H' w' a b (.of c))
theorem se_tree {j : Nat} (h : SE K T (.own j) X W e f) : SE K T .tree X W e f := .mk fun w env s σ H k eo Q p => h w env s σ H k eo Q (p.imp fun v d H' w' s' _ a b c q => by
  obtain ⟨P, o, n⟩ := c
  obtain ⟨w2, h1, h2, h3⟩ := freeze_new a b o n
  exact q v H' w2 h1 h2 h3)
theorem se_frozen (h : SE K T .raw X W e f) : SE K T .tree X W e (eFrozen f) := .mk fun w env s σ H k eo Q p => h w env s σ H k eo Q (Post.bind (g := frozen) p fun v d H' w' s' a b c q => by
  cases hf : frozen d s' with
  | bad =>
    rw [hf] at q
    exact q.elim
  | exc c fs s2 =>
    unfold frozen at hf
    cases d <;> simp at hf
    split at hf <;> cases hf
  | ok x s2 =>
    rw [hf] at q
    obtain ⟨w2, h1, h2, h3⟩ := frozen_ok a c hf
    exact q v H' w2 h1 (b.trans h2) h3)
/-! ### constants, names -/
theorem rep_c (F : Hp) : ∀ c : Const, match c with
    | .none => Rep K T F .non .non
    | .bool b => Rep K T F (.bl b) (.bl b)
    | .int i => Rep K T F (.int i) (.int i)
    | .str x => x.cps.size ≤ sizeMax → Rep K T F (.str x) (.str x.cps.toList)
    | _ => True
  | .none => .non
  | .bool b => .bl b
  | .int i => .int i
  | .str x => fun h => by
    have e : x = ⟨x.cps.toList.toArray⟩ := by
      cases x
      simp
    have r := Rep.str (K := K) (T := T) (F := F) x.cps.toList (by simpa using h)
    rw [← e] at r
    exact r
  | .float _ => trivial
  | .complex _ _ => trivial
  | .bytes _ => trivial
  | .ellipsis => trivial
theorem se_c {t : TE} {v : V} {d : D} (h : PE X e (tC v)) (r : ∀ F, FH F F → Rep K T F v d) : SE K T .tree X W e (eC d) := .mk fun w env s σ H k eo Q p => wpe_of h (p v H w k .refl (r w.F fun _ _ h => .inl h))
theorem se_rawVar {i : Nat} (h : PE X e (tVar i)) : SE K T .raw X W e (eRaw i) := .mk fun w env s σ H k eo Q p => by
  unfold eRaw at p
  cases q : env[i]? with
  | none =>
    rw [q] at p
    exact p.elim
  | some o =>
    cases o with
    | none =>
      rw [q] at p
      exact p.elim
    | some d =>
      rw [q] at p
      obtain ⟨v, h1, h2⟩ := eo.get i d q
      exact wpe_of h ⟨v, h1, p v H w k .refl h2⟩
end
end
end VM

set_option Elab.async false
set_option linter.all false
set_option maxRecDepth 100000
/-! VM4: new things, what is read; argument lists, displays, operations. -/
namespace VM
open PySem L2
section
variable {K : PySem.W.Frag} {T : Tab} {w w' : Wd} {s s' : Store} {H H' : Hp}

/-! ### a new thing -/
theorem SOk.noF (k : SOk K T w s H) {p : Addr} (hp : H p = none) : w.F p = none := by
  cases e : w.F p with
  | none => rfl
  | some o =>
    rcases k.fh p o e with h | ⟨_, _, h⟩ <;> rw [hp] at h <;> cases h
theorem SOk.noP (k : SOk K T w s H) {p : Addr} (hp : H p = none) : p ∉ w.Ps.flatten := fun z => by
  obtain ⟨P, hP, hz⟩ := List.mem_flatten.mp z
  obtain ⟨h, hh⟩ := List.getElem?_of_mem hP
  have hl : h < s.length := by
    rw [← k.lenP]
    exact (List.getElem?_eq_some_iff.mp hh).1
  obtain ⟨a, P', ha, hP', ok⟩ := k.entry (List.getElem?_eq_getElem hl)
  rw [hh] at hP'
  cases hP'
  unfold EntOk at ok
  split at ok
  · rw [ok] at hz
    cases hz
  · exact (ok.1.mut p hz).some hp
theorem SOk.other (k : SOk K T w s H) {p : Addr} {o : HO} (hp : H p = none) : SOk K T w s (upd H p o) where
  fh := fun a u e => by
    have ne : a ≠ p := fun z => by
      rw [z, k.noF hp] at e
      cases e
    rw [upd_ne ne]
    exact k.fh a u e
  lenI := k.lenI
  lenP := k.lenP
  ent := fun h e a P he ha hP => by
    have old := k.ent h e a P he ha hP
    unfold EntOk at old ⊢
    cases q : e.d with
    | none =>
      rw [q] at old
      exact old
    | some d =>
      rw [q] at old
      exact ⟨old.1.sub (Sub.refl _) fun x hx => upd_ne fun z => k.noP hp (mem_flat hP (by rw [← z]; exact hx)), old.2⟩
  dis := k.dis
  out := k.out
theorem Nxt.other (k : SOk K T w s H) {p : Addr} {o : HO} (hp : H p = none) : Nxt w s H w s (upd H p o) where
  F := Sub.refl _
  io := fun _ _ h => h
  len := Nat.le_refl _
  keep := fun q hq hf hn => ⟨upd_ne fun z => by rw [z] at hq; exact hq hp, rfl, hn⟩
  lock := fun h e he _ => ⟨he, rfl, fun P hP x hx => upd_ne fun z => k.noP hp (mem_flat hP (by rw [← z]; exact hx))⟩
theorem New.one (k : SOk K T w s H) {p : Addr} (hp : H p = none) : New w H w [p] :=
  ⟨List.nodup_cons.mpr ⟨List.not_mem_nil, List.nodup_nil⟩, fun q hq => by
    cases List.mem_singleton.mp hq
    exact ⟨k.noF hp, k.noP hp, k.noF hp, .inl hp⟩⟩
/-- a new thing that is shared at once -/
theorem SOk.new (k : SOk K T w s H) {p : Addr} {o : HO} (hp : H p = none) : ∃ w', SOk K T w' s (upd H p o) ∧ Nxt w s H w' s (upd H p o) ∧ w'.F p = some o ∧ w' = ⟨upd w.F p o, w.io, w.Ps⟩ := by
  have k1 := k.other (o := o) hp
  have sub : Sub w.F (upd w.F p o) := fun a u e => by
    rw [upd_ne fun z => ?_]
    · exact e
    · rw [z, k.noF hp] at e
      cases e
  refine ⟨⟨upd w.F p o, w.io, w.Ps⟩, ⟨fun a u e => ?_, k.lenI, k.lenP, fun h e a P he ha hP => ?_, k.dis, fun q hq => ?_⟩, ⟨sub, fun _ _ h => h, Nat.le_refl _, fun q hq hf hn => ?_, (Nxt.other k hp).lock⟩, upd_same, rfl⟩
  · by_cases z : a = p
    · subst z
      have e : upd w.F a o a = some u := e
      rw [upd_same] at e
      cases e
      exact .inl upd_same
    · have e : upd w.F p o a = some u := e
      rw [upd_ne z] at e
      exact k1.fh a u e
  · have old := k1.ent h e a P he ha hP
    unfold EntOk at old ⊢
    cases q : e.d with
    | none =>
      rw [q] at old
      exact old
    | some d =>
      rw [q] at old
      exact ⟨old.1.sub sub fun _ _ => rfl, old.2⟩
  · show upd w.F p o q = none
    rw [upd_ne fun z => k.noP hp (by rw [← z]; exact hq)]
    exact k.out q hq
  · have ne : q ≠ p := fun z => by
      rw [z] at hq
      exact hq hp
    exact ⟨upd_ne ne, upd_ne ne, hn⟩

/-! ### what is read -/
theorem read_ok (k : SOk K T w s H) {v : V} {d x : D} (r : RepS K T w v d) (h : view s d = some x) : ∃ G, FH G H ∧ Rep K T G v x ∧ Sub w.F G := by
  have sub : Sub w.F (FP w.F H w.Ps.flatten) := FP.sub k.out
  cases d with
  | ref h' =>
    obtain ⟨a, ha, rfl⟩ := r
    dsimp only [view] at h
    cases he : s[h']? with
    | none =>
      rw [he] at h
      cases h
    | some e =>
      rw [he] at h
      have h : e.d = some x := h
      obtain ⟨a', P, ha', hP, ok⟩ := k.entry he
      rw [ha] at ha'
      cases ha'
      unfold EntOk at ok
      rw [h] at ok
      exact ⟨_, k.fh.grow, ok.1.rep sub fun p hp => FP.here (mem_flat hP hp), sub⟩
  | _ =>
    cases h
    exact ⟨_, k.fh, r, Sub.refl _⟩
theorem FH.lst {F H : Hp} (f : FH F H) {a : Addr} {vs : List V} (h : F a = some (.lst vs)) : H a = some (.lst vs) := (f a _ h).elim id fun ⟨⟨_, q⟩, _⟩ => by cases q
/-- read at the top, the items shared -/
def RepT (K : PySem.W.Frag) (T : Tab) (F H : Hp) (v : V) (x : D) : Prop := match x with
  | .lst ds => ∃ a vs, v = .ref a ∧ H a = some (.lst vs) ∧ Reps K T F vs ds ∧ ds.length ≤ sizeMax
  | .dic ds => ∃ a kvs, v = .ref a ∧ Rd H a (.dK kvs) ∧ RepK K T F kvs ds ∧ ds.length ≤ sizeMax
  | .ins c fs => ∃ a C dx fv, v = .ref a ∧ T.cls c = some C ∧ H a = some (.ins C dx fv) ∧ RepF K T F fv fs
  | x => Rep K T F v x
theorem FH.rd {F H : Hp} (f : FH F H) {a : Addr} {o : HO} (h : F a = some o) : Rd H a o := (f a o h).elim .inl fun ⟨_, ob, h⟩ => .inr ⟨ob, h⟩
theorem RepT.of {F : Hp} (f : FH F H) {v : V} {x : D} (r : Rep K T F v x) : RepT K T F H v x := by
  cases r with
  | lst h r z => exact ⟨_, _, rfl, f.lst h, r, z⟩
  | fl h r z => exact .fl h r z
  | tpn h hd r z => exact .tpn h hd r z
  | szs h => exact .szs h
  | clsv h => exact .clsv h
  | exi hc h hd r => exact .exi hc h hd r
  | exb hc h => exact .exb hc h
  | dic h r z => exact ⟨_, _, rfl, f.rd h, r, z⟩
  | ins hc h r =>
    rcases f _ _ h with q | ⟨⟨_, q⟩, _⟩
    · exact ⟨_, _, _, _, rfl, hc, q, r⟩
    · cases q
  | non => exact .non
  | bl b => exact .bl b
  | int i => exact .int i
  | str s h => exact .str s h
  | tup h r z => exact .tup h r z
theorem owns0 {F : Hp} : ∀ {vs : List V} {ds : List D}, Reps K T F vs ds → Owns K T F H 0 vs ds []
  | _, _, .nil => .nil
  | _, _, .cons h r => Owns.cons (P := []) (.frz h) (owns0 r)
theorem ownk0 {F : Hp} : ∀ {vs : List (Key × V)} {ds : List (D × D)}, RepK K T F vs ds → OwnK K T F H 0 vs ds []
  | _, _, .nil => .nil
  | _, _, .cons hk h r => OwnK.cons (P := []) hk (.frz h) (ownk0 r)
theorem ownf0 {F : Hp} : ∀ {vs : List (Str × V)} {ds : List (Nat × D)}, RepF K T F vs ds → OwnF K T F H 0 vs ds []
  | _, _, .nil => .nil
  | _, _, .cons h r => OwnF.cons (P := []) (.frz h) (ownf0 r)
/-- the top level alone is kept one's own -/
theorem Own.shallow {F G : Hp} {k : Nat} {a : Addr} {x : D} {Q : List Addr} (o : Own K T F H (k + 1) (.ref a) x (a :: Q)) (sub : Sub F G) (hG : ∀ p ∈ Q, G p = H p) : Own K T G H 1 (.ref a) x [a] ∧ RepT K T G H (.ref a) x := by
  cases o with
  | lst h r z =>
    have q := Owns.rep sub r hG
    exact ⟨.lst h (owns0 q) z, _, _, rfl, h, q, z⟩
  | dic h r z =>
    have q := OwnK.rep sub r hG
    exact ⟨.dic h (ownk0 q) z, _, _, rfl, .inl h, q, z⟩
  | ins hc h r =>
    have q := OwnF.rep sub r hG
    exact ⟨.ins hc h (ownf0 q), _, _, _, _, rfl, hc, h, q⟩
theorem own1_nil {F : Hp} {a : Addr} {x : D} {Q : List Addr} (o : Own K T F H 1 (.ref a) x (a :: Q)) : Q = [] := by
  have l : ∀ {vs : List V} {ds : List D} {P : List Addr}, Owns K T F H 0 vs ds P → P = [] := by
    intro vs
    induction vs with
    | nil =>
      intro ds P r
      cases r
      rfl
    | cons v vs ih =>
      intro ds P r
      cases r with
      | cons h r =>
        cases h
        rw [ih r]
        rfl
  have lk : ∀ {vs : List (Key × V)} {ds : List (D × D)} {P : List Addr}, OwnK K T F H 0 vs ds P → P = [] := by
    intro vs
    induction vs with
    | nil =>
      intro ds P r
      cases r
      rfl
    | cons v vs ih =>
      intro ds P r
      cases r with
      | cons hk h r =>
        cases h
        rw [ih r]
        rfl
  have lf : ∀ {vs : List (Str × V)} {ds : List (Nat × D)} {P : List Addr}, OwnF K T F H 0 vs ds P → P = [] := by
    intro vs
    induction vs with
    | nil =>
      intro ds P r
      cases r
      rfl
    | cons v vs ih =>
      intro ds P r
      cases r with
      | cons h r =>
        cases h
        rw [ih r]
        rfl
  cases o with
  | lst h r z => exact l r
  | dic h r z => exact lk r
  | ins hc h r => exact lf r
theorem open1_ok (k : SOk K T w s H) {v : V} {d x : D} {s' : Store} (r : RepS K T w v d) (h : open1 d s = .ok x s') : ∃ w', SOk K T w' s' H ∧ Nxt w s H w' s' H ∧ RepT K T w'.F H v x ∧ w'.io = w.io := by
  cases d with
  | ref h' =>
    obtain ⟨a, ha, rfl⟩ := r
    dsimp only [open1] at h
    cases he : s[h']? with
    | none =>
      rw [he] at h
      cases h
    | some e =>
      obtain ⟨lk, k', x'⟩ := e
      obtain ⟨a', P, ha', hP, ok⟩ := k.entry he
      rw [ha] at ha'
      cases ha'
      rw [he] at h
      cases x' with
      | none => cases lk <;> rcases k' with _ | _ | k' <;> cases h
      | some y =>
        rcases k' with _ | _ | k'
        · have h : R.ok y s = R.ok x s' := by cases lk <;> exact h
          cases h
          cases ok.1 with
          | frz q => exact ⟨w, k, .refl, RepT.of k.fh q, rfl⟩
        · have h : R.ok y s = R.ok x s' := by cases lk <;> exact h
          cases h
          obtain ⟨Q, rfl⟩ := ok.2 (by intro z; cases z)
          have e0 := own1_nil ok.1
          subst e0
          exact ⟨w, k, .refl, (ok.1.shallow (Sub.refl _) fun _ hp => by cases hp).2, rfl⟩
        · cases lk with
          | true => cases h
          | false =>
            cases h
            obtain ⟨Q, rfl⟩ := ok.2 (by intro z; cases z)
            have nd := nodup_flatten k.dis hP
            have naQ : a ∉ Q := (List.nodup_cons.mp nd).1
            have hQ : ∀ p ∈ Q, w.F p = none := fun p hp => k.out p (mem_flat hP (List.mem_cons_of_mem _ hp))
            have haF : w.F a = none := k.out a (mem_flat hP List.mem_cons_self)
            have sub : Sub w.F (FP w.F H Q) := FP.sub hQ
            obtain ⟨o1, o2⟩ := ok.1.shallow sub fun p hp => FP.here hp
            refine ⟨⟨FP w.F H Q, w.io, w.Ps.set h' [a]⟩, k.put he ha hP sub k.fh.grow (fun _ _ _ => rfl) ⟨o1, fun _ => ⟨[], rfl⟩⟩ (List.nodup_cons.mpr ⟨List.not_mem_nil, List.nodup_nil⟩) (fun p hp => .inl ?_) (fun p hp => ?_)
              (fun p hp hn => ?_), ⟨sub, fun _ _ z => z, Nat.le_of_eq List.length_set.symm, fun p hp hf hn => ⟨rfl, FP.else fun z => hn (mem_flat hP (List.mem_cons_of_mem _ z)), fun z => ?_⟩, fun j f hj lk => ?_⟩, o2, rfl⟩
            · cases List.mem_singleton.mp hp
              exact List.mem_cons_self
            · cases List.mem_singleton.mp hp
              rw [FP.else naQ]
              exact haF
            · rw [FP.else fun z => hn (List.mem_cons_of_mem _ z)]
              exact k.out p hp
            · rcases (set_flatten_mem hP).mp z with z | ⟨j, R, _, hR, hp⟩
              · cases List.mem_singleton.mp z
                exact hn (mem_flat hP List.mem_cons_self)
              · exact hn (mem_flat hR hp)
            · have ne : h' ≠ j := fun q => by
                subst q
                rw [he] at hj
                cases hj
                cases lk
              refine ⟨by rw [List.getElem?_set, if_neg ne]; exact hj, ?_, fun _ _ _ _ => rfl⟩
              show (w.Ps.set h' [a])[j]? = w.Ps[j]?
              rw [List.getElem?_set, if_neg ne]
  | _ =>
    cases h
    exact ⟨w, k, .refl, RepT.of k.fh r, rfl⟩

/-! ### argument lists, displays -/
section
variable {X : Cx} {W : WX}
def plain (e : Expr) : Bool := match e with
  | .Starred _ _ => false
  | _ => true
theorem star_plain {e : Expr} (h : plain e = true) (es : List Expr) (env : PySem.Env) : starEach (e :: es) env = (false, eval e env) :: starEach es env := by
  cases e <;> first | rfl | cases h
theorem all_plain : ∀ {es : List Expr} (pos : Pos) (env : PySem.Env), es.all plain = true → (backTo pos (starEach es env)).any (·.1) = false
  | [], _, _, _ => rfl
  | e :: es, pos, env, h => by
    rw [List.all_cons, Bool.and_eq_true] at h
    rw [star_plain h.1]
    exact all_plain (es := es) pos env h.2
theorem sa_nil {raw : Bool} : SA K T raw X W [] aNil := .mk fun w env s σ H k eo Q p => wpa_of pa_nil (p [] H w k .refl (by cases raw <;> exact .nil))
def mdA (raw : Bool) : Md := if raw then .raw else .tree
theorem sa_cons {raw : Bool} {e : Expr} {es : List Expr} {f : ME} {g : MA} (hp : plain e = true) (he : SE K T (mdA raw) X W e f) (hr : SA K T raw X W es g) : SA K T raw X W (e :: es) (aCons f g) := .mk fun w env s σ H k eo Q p =>
  wpa_of (pa_cons pe_wp pa_wp (star_plain hp es X.env)) (he w env s σ H k eo _ (Post.bind p fun v d H1 w1 s1 a b c q => hr w1 env s1 σ H1 a (eo.nxt b) _ (Post.bind (Post.nxt (rel1 := relA K T raw) b q fun _ _ _ _ _ _ z => z) fun vs ds H2 w2 s2 a2 b2 c2 q2 =>
    q2 (v :: vs) H2 w2 a2 b2 (by
      cases raw with
      | true => exact .cons (RepS.nxt b2 c) c2
      | false => exact .cons (Rep.sub b2.F c) c2))))
/-- a post at one value -/
theorem Post.give {α β : Type} {W : WX} {w : Wd} {s : Store} {σ : L2.St} {H : Hp} {rel : Wd → Hp → β → α → Prop} {Q : β → Hp → Prop} {d : α} {s' : Store} (p : Post K T W w s σ H rel Q (.ok d s')) {v : β} {H' : Hp} {w' : Wd} (a : SOk K T w' s' H') (b : Nxt w s H w' s' H') (c : rel w' H' v d) : Q v H' := p v H' w' a b c
theorem se_tup {es : List Expr} {g : MA} {x1 : Nat} {pos : Pos} (hr : SA K T false X W es g) : SE K T .tree X W (.Tuple es x1 pos) (eTup g) := .mk fun w env s σ H k eo Q p =>
  wpe_of (pe_tup pa_wp) (hr w env s σ H k eo _ (Post.bind p fun vs ds H1 w1 s1 a b c q => by
    by_cases z : ds.length ≤ sizeMax
    · rw [if_pos z] at q
      have c : Reps K T w1.F vs ds := c
      refine ⟨by rw [c.length]; exact z, fun x hx => ?_⟩
      obtain ⟨w2, h1, h2, h3, _⟩ := a.new (o := .tup vs) hx
      exact q.give h1 (b.trans h2) (.tup (.of h3) (c.sub h2.F) z)
    · rw [if_neg z] at q
      exact q.elim))
theorem se_lst {es : List Expr} {g : MA} {pos : Pos} (hr : SA K T false X W es g) : SE K T (.own 1) X W (.List es pos) (eLst g) := .mk fun w env s σ H k eo Q p =>
  wpe_of (pe_lst pa_wp) (hr w env s σ H k eo _ (Post.bind p fun vs ds H1 w1 s1 a b c q => by
    by_cases z : ds.length ≤ sizeMax
    · rw [if_pos z] at q
      have c : Reps K T w1.F vs ds := c
      refine ⟨by rw [c.length]; exact z, fun x hx => ?_⟩
      exact q.give (a.other hx) (b.trans (.other a hx)) ⟨[x], .lst upd_same (owns0 c) z, (New.one a hx).nxt b⟩
    · rw [if_neg z] at q
      exact q.elim))
/-- [] has as many levels as one likes -/
theorem se_nil {j : Nat} {pos : Pos} : SE K T (.own (j + 1)) X W (.List [] pos) (eLst aNil) := .mk fun w env s σ H k eo Q p =>
  wpe_of (pe_lst pa_nil) (by
    refine ⟨Nat.zero_le _, fun x hx => ?_⟩
    exact p.give (a := k.other hx) (b := .other k hx) (c := ⟨[x], .lst upd_same .nil (Nat.zero_le _), New.one k hx⟩))

/-! ### operations on values -/
/-- a rule by values (r) keeps what g says: x is read, the result a tree -/
def Rl1 (K : PySem.W.Frag) (T : Tab) (r : V → Hp → VK → Prop) (g : D → Option D) : Prop :=
  ∀ w s H G v x y, SOk K T w s H → FH G H → Sub w.F G → Rep K T G v x → g x = some y → ∀ Q : VK, (∀ v' H' w', SOk K T w' s H' → Nxt w s H w' s H' → Rep K T w'.F v' y → Q v' H') → r v H Q
def Rl2 (K : PySem.W.Frag) (T : Tab) (r : R2) (g : D → D → Option D) : Prop :=
  ∀ w s H G v x v2 x2 y, SOk K T w s H → FH G H → Sub w.F G → Rep K T G v x → Rep K T G v2 x2 → g x x2 = some y → ∀ Q : VK, (∀ v' H' w', SOk K T w' s H' → Nxt w s H w' s H' → Rep K T w'.F v' y → Q v' H') → r v v2 H Q
theorem view_flat {d : D} {s : Store} (h : ∀ x, d ≠ .ref x) : view s d = some d := by
  cases d with
  | ref h' => exact absurd rfl (h h')
  | _ => rfl
theorem read2_ok (k : SOk K T w s H) {v v2 : V} {d x d2 x2 : D} (r : RepS K T w v d) (h : view s d = some x) (r2 : RepS K T w v2 d2) (h2 : view s d2 = some x2) : ∃ G, FH G H ∧ Rep K T G v x ∧ Rep K T G v2 x2 ∧ Sub w.F G := by
  have sub : Sub w.F (FP w.F H w.Ps.flatten) := FP.sub k.out
  have one : ∀ {v : V} {d x : D}, RepS K T w v d → view s d = some x → Rep K T (FP w.F H w.Ps.flatten) v x := fun {v d x} r h => by
    cases d with
    | ref h' =>
      obtain ⟨a, ha, rfl⟩ := r
      dsimp only [view] at h
      cases he : s[h']? with
      | none =>
        rw [he] at h
        cases h
      | some e =>
        rw [he] at h
        have h : e.d = some x := h
        obtain ⟨a', P, ha', hP, ok⟩ := k.entry he
        rw [ha] at ha'
        cases ha'
        unfold EntOk at ok
        rw [h] at ok
        exact ok.1.rep sub fun p hp => FP.here (mem_flat hP hp)
    | _ =>
      cases h
      exact Rep.sub sub r
  exact ⟨_, k.fh.grow, one r h, one r2 h2, sub⟩
theorem op2_run {a b : Expr} {r : R2} {g : D → D → Option D} {f1 f2 : ME} (rl : Rl2 K T r g) (h1 : SE K T .raw X W a f1) (h2 : SE K T .raw X W b f2) {w : Wd} {env : Env} {s : Store} {σ : L2.St} {H : Hp} (k : SOk K T w s H) (eo : EOk K T w env σ) {Q : VK}
    (p : Post K T W w s σ H (fun w' _ => Rep K T w'.F) Q (op2 g f1 f2 env s)) : tOp r (WPE X a) (WPE X b) σ H Q :=
  (h1 w env s σ H k eo _ (Post.bind p fun v d H1 w1 s1 a b c q => h2 w1 env s1 σ H1 a (eo.nxt b) _ (Post.bind (Post.nxt (rel1 := fun w' _ => Rep K T w'.F) b q fun _ _ _ _ _ _ z => z) fun v2 d2 H2 w2 s2 a2 b2 c2 q2 => by
    cases hx : view s2 d with
    | none =>
      rw [hx] at q2
      exact q2.elim
    | some x =>
      cases hy : view s2 d2 with
      | none =>
        rw [hx, hy] at q2
        exact q2.elim
      | some y =>
        rw [hx, hy] at q2
        cases hg : g x y with
        | none =>
          dsimp only [] at q2
          rw [hg] at q2
          exact q2.elim
        | some z =>
          dsimp only [] at q2
          rw [hg] at q2
          obtain ⟨G, fh, r1, r2, sub⟩ := read2_ok a2 (RepS.nxt b2 c) hx c2 hy
          exact rl w2 s2 H2 G v x v2 y z a2 fh sub r1 r2 hg _ fun v' H' w' h1 h2 h3 => q2.give h1 (b2.trans h2) h3)))
theorem se_op2 {E a b : Expr} {r : R2} {g : D → D → Option D} {f1 f2 : ME} (hE : ∀ {ta tb : TE}, PE X a ta → PE X b tb → PE X E (tOp r ta tb)) (rl : Rl2 K T r g) (h1 : SE K T .raw X W a f1) (h2 : SE K T .raw X W b f2) : SE K T .tree X W E (op2 g f1 f2) := .mk fun w env s σ H k eo Q p =>
  wpe_of (hE pe_wp pe_wp) (op2_run rl h1 h2 k eo p)
/-- the same as a test -/
theorem st_op2 {E a b : Expr} {r : R2} {g : D → D → Option D} {f1 f2 : ME} (hE : ∀ {ta tb : TE}, PE X a ta → PE X b tb → PT X E (tTest (tOp r ta tb))) (rl : Rl2 K T r g) (h1 : SE K T .raw X W a f1) (h2 : SE K T .raw X W b f2) : ST K T X W E (tE (op2 g f1 f2)) := .mk fun w env s σ H k eo Q p =>
  wpt_of (hE pe_wp pe_wp) (op2_run rl h1 h2 k eo (Post.bind p fun v d H1 w1 s1 a b c q => by
    cases d with
    | bl x =>
      refine ⟨x, ?_, q x H1 w1 a b rfl⟩
      cases c
      rfl
    | _ => exact q.elim))
/-- a value that is a bool, as a test -/
theorem st_val {e : Expr} {f : ME} (he : ∀ whole, isTrue e X.env whole = (do let v ← whole; standAt e.pos; holding [v] (truthy v))) (h : SE K T .tree X W e f) : ST K T X W e (tE f) := .mk fun w env s σ H k eo Q p =>
  wpt_of (pt_val pe_wp he) (h w env s σ H k eo _ (Post.bind p fun v d H1 w1 s1 a b c q => by
    cases d with
    | bl x =>
      refine ⟨x, ?_, q x H1 w1 a b rfl⟩
      have c : Rep K T w1.F v (.bl x) := c
      cases c
      rfl
    | _ => exact q.elim))
theorem se_op1 {E a : Expr} {r : V → Hp → VK → Prop} {g : D → Option D} {f1 : ME} (hE : ∀ {ta : TE}, PE X a ta → PE X E (tUn r ta)) (rl : Rl1 K T r g) (h1 : SE K T .raw X W a f1) : SE K T .tree X W E (op1 g f1) := .mk fun w env s σ H k eo Q p =>
  wpe_of (hE pe_wp) (h1 w env s σ H k eo _ (Post.bind p fun v d H1 w1 s1 a b c q => by
    cases hx : view s1 d with
    | none =>
      rw [hx] at q
      exact q.elim
    | some x =>
      rw [hx] at q
      cases hg : g x with
      | none =>
        dsimp only [] at q
        rw [hg] at q
        exact q.elim
      | some z =>
        dsimp only [] at q
        rw [hg] at q
        obtain ⟨G, fh, r1, sub⟩ := read_ok a c hx
        exact rl w1 s1 H1 G v x z a fh sub r1 hg _ fun v' H' w' h1 h2 h3 => q.give h1 (b.trans h2) h3))
end
end
end VM

set_option Elab.async false
set_option linter.all false
set_option maxRecDepth 100000
/-! VM5: operations by values. -/
namespace VM
open PySem L2
section
variable {K : PySem.W.Frag} {T : Tab} {w w' : Wd} {s s' : Store} {H H' : Hp} {X : Cx} {W : WX}

/-- a rule by values whose operands are read at the top; the result is new, or shared -/
def Rl2F (K : PySem.W.Frag) (T : Tab) (r : R2) (g : D → D → Option D) : Prop :=
  ∀ w s H v x v2 x2 y, SOk K T w s H → RepT K T w.F H v x → RepT K T w.F H v2 x2 → g x x2 = some y → ∀ Q : VK, (∀ v' H' w', SOk K T w' s H' → Nxt w s H w' s H' → OwnV K T (.own 1) w H w' H' v' y → Q v' H') → r v v2 H Q
def Rl1F (K : PySem.W.Frag) (T : Tab) (r : V → Hp → VK → Prop) (g : D → Option D) : Prop :=
  ∀ w s H v x y, SOk K T w s H → RepT K T w.F H v x → g x = some y → ∀ Q : VK, (∀ v' H' w', SOk K T w' s H' → Nxt w s H w' s H' → OwnV K T (.own 1) w H w' H' v' y → Q v' H') → r v H Q
theorem RepF.subT {F G : Hp} (s : Sub F G) : ∀ {vs : List (Str × V)} {ds : List (Nat × D)}, RepF K T F vs ds → RepF K T G vs ds := fun r => RepF.sub s r
theorem RepT.sub {F G : Hp} (s : Sub F G) {v : V} {x : D} (r : RepT K T F H v x) : RepT K T G H v x := by
  cases x with
  | lst ds =>
    obtain ⟨a, vs, e, h, r, z⟩ := r
    exact ⟨a, vs, e, h, r.sub s, z⟩
  | dic ds =>
    obtain ⟨a, vs, e, h, r, z⟩ := r
    exact ⟨a, vs, e, h, RepK.sub s r, z⟩
  | ins c fs =>
    obtain ⟨a, C, dx, fv, e, hc, h, r⟩ := r
    exact ⟨a, C, dx, fv, e, hc, h, RepF.sub s r⟩
  | _ => exact Rep.sub s r
theorem own_flat {F : Hp} {md : Nat} {v : V} {y : D} (hc : contD y = false) (k : SOk K T w' s' H') (r : Rep K T w'.F v y) : OwnV K T (.own (md + 1)) w H w' H' v y := ⟨[], .flat hc r, List.nodup_nil, fun _ h => by cases h⟩
theorem se_op2F {E a b : Expr} {r : R2} {g : D → D → Option D} {f1 f2 : ME} (hE : ∀ {ta tb : TE}, PE X a ta → PE X b tb → PE X E (tOp r ta tb)) (rl : Rl2F K T r g) (h1 : SE K T .raw X W a f1) (h2 : SE K T .raw X W b f2) : SE K T (.own 1) X W E (op2F g f1 f2) := .mk fun w env s σ H k eo Q p =>
  wpe_of (hE pe_wp pe_wp) (h1 w env s σ H k eo _ (Post.bind p fun v d H1 w1 s1 a b c q => h2 w1 env s1 σ H1 a (eo.nxt b) _ (Post.bind (Post.nxt (rel1 := fun w' H' => OwnV K T (.own 1) w1 H1 w' H') b q fun _ _ _ _ _ _ z => z.nxt b) fun v2 d2 H2 w2 s2 a2 b2 c2 q2 => by
    cases h1 : open1 d s2 with
    | bad =>
      rw [h1] at q2
      exact q2.elim
    | exc c fs s3 =>
      unfold open1 at h1
      cases d <;> simp at h1
      split at h1 <;> cases h1
    | ok x s3 =>
      rw [h1] at q2
      obtain ⟨w3, k3, n3, r3, i3⟩ := open1_ok a2 (RepS.nxt b2 c) h1
      have q2 : Post K T W w1 s1 σ H1 (fun w' H' => OwnV K T (.own 1) w1 H1 w' H') Q ((open1 d2 s3).bind fun y s4 => ofO s4 (g x y)) := q2
      cases h2 : open1 d2 s3 with
      | bad =>
        rw [h2] at q2
        exact q2.elim
      | exc c fs s4 =>
        unfold open1 at h2
        cases d2 <;> simp at h2
        split at h2 <;> cases h2
      | ok y s4 =>
        rw [h2] at q2
        obtain ⟨w4, k4, n4, r4, i4⟩ := open1_ok k3 (RepS.nxt n3 c2) h2
        have q2 : Post K T W w1 s1 σ H1 (fun w' H' => OwnV K T (.own 1) w1 H1 w' H') Q (ofO s4 (g x y)) := q2
        cases hg : g x y with
        | none =>
          rw [hg] at q2
          exact q2.elim
        | some z =>
          rw [hg] at q2
          exact rl w4 s4 H2 v x v2 y z k4 (r3.sub n4.F) r4 hg _ fun v' H' w' h1 h2 h3 => q2.give h1 ((b2.trans (n3.trans n4)).trans h2) (h3.nxt (b2.trans (n3.trans n4))))))
theorem se_op1F {E a : Expr} {r : V → Hp → VK → Prop} {g : D → Option D} {f1 : ME} (hE : ∀ {ta : TE}, PE X a ta → PE X E (tUn r ta)) (rl : Rl1F K T r g) (h1 : SE K T .raw X W a f1) : SE K T (.own 1) X W E (op1F g f1) := .mk fun w env s σ H k eo Q p =>
  wpe_of (hE pe_wp) (h1 w env s σ H k eo _ (Post.bind p fun v d H1 w1 s1 a b c q => by
    cases h1 : open1 d s1 with
    | bad =>
      rw [h1] at q
      exact q.elim
    | exc c fs s3 =>
      unfold open1 at h1
      cases d <;> simp at h1
      split at h1 <;> cases h1
    | ok x s3 =>
      rw [h1] at q
      obtain ⟨w3, k3, n3, r3, i3⟩ := open1_ok a c h1
      have q : Post K T W w s σ H (fun w' H' => OwnV K T (.own 1) w H w' H') Q (ofO s3 (g x)) := q
      cases hg : g x with
      | none =>
        rw [hg] at q
        exact q.elim
      | some z =>
        rw [hg] at q
        exact rl w3 s3 H1 v x z k3 r3 hg _ fun v' H' w' h1 h2 h3 => q.give h1 ((b.trans n3).trans h2) (h3.nxt (b.trans n3))))

/-! ### a result that is told -/
theorem give_flat (k : SOk K T w s H) {Q : VK} {y : D} {v : V} (q : ∀ v' H' w', SOk K T w' s H' → Nxt w s H w' s H' → OwnV K T (.own 1) w H w' H' v' y → Q v' H') (hc : contD y = false) (r : Rep K T w.F v y) : Q v H := q v H w k .refl (own_flat (F := w.F) hc k r)
theorem give_tup (k : SOk K T w s H) {Q : VK} {ys : List D} {vs : List V} (q : ∀ v' H' w', SOk K T w' s H' → Nxt w s H w' s H' → OwnV K T (.own 1) w H w' H' v' (.tup ys) → Q v' H') (r : Reps K T w.F vs ys) (z : ys.length ≤ sizeMax) : ∀ p, H p = none → Q (.ref p) (upd H p (.tup vs)) := fun p hp => by
  obtain ⟨w2, h1, h2, h3, _⟩ := k.new (o := .tup vs) hp
  exact q _ _ w2 h1 h2 (own_flat (F := w.F) rfl h1 (.tup (.of h3) (r.sub h2.F) z))
theorem give_lst (k : SOk K T w s H) {Q : VK} {ys : List D} {vs : List V} (q : ∀ v' H' w', SOk K T w' s H' → Nxt w s H w' s H' → OwnV K T (.own 1) w H w' H' v' (.lst ys) → Q v' H') (r : Reps K T w.F vs ys) (z : ys.length ≤ sizeMax) : ∀ p, H p = none → Q (.ref p) (upd H p (.lst vs)) := fun p hp =>
  q _ _ w (k.other hp) (.other k hp) ⟨[p], .lst upd_same (owns0 r) z, New.one k hp⟩
theorem rep_int {F : Hp} {v : V} {i : Int} (r : Rep K T F v (.int i)) : v = .int i := by
  cases r
  rfl
theorem rep_bl {F : Hp} {v : V} {i : Bool} (r : Rep K T F v (.bl i)) : v = .bl i := by
  cases r
  rfl
theorem rep_str {F : Hp} {v : V} {i : List Nat} (r : Rep K T F v (.str i)) : v = .str ⟨i.toArray⟩ ∧ i.length ≤ sizeMax := by
  cases r with
  | str _ h => exact ⟨rfl, h⟩
theorem rep_tup {F : Hp} {v : V} {i : List D} (r : Rep K T F v (.tup i)) : ∃ a vs, v = .ref a ∧ SqT K F a vs ∧ Reps K T F vs i ∧ i.length ≤ sizeMax := by
  cases r with
  | tup h r z => exact ⟨_, _, rfl, h, r, z⟩
theorem str_app (a b : List Nat) : ((⟨a.toArray⟩ : Str) ++ ⟨b.toArray⟩ : Str) = ⟨(a ++ b).toArray⟩ := TL.ext_tl (by rw [TL.tl_append, TL.tl_mk, TL.tl_mk, TL.tl_mk])
theorem str_len (a : List Nat) : (⟨a.toArray⟩ : Str).length = a.length := by
  show a.toArray.size = a.length
  simp
theorem nil_of_reps {F : Hp} {vs : List V} {ds : List D} (r : Reps K T F vs ds) : vs = [] ↔ ds = [] := by
  cases r with
  | nil => exact ⟨fun _ => rfl, fun _ => rfl⟩
  | cons h r => exact ⟨fun z => (by cases z), fun z => (by cases z)⟩

/-! ### + - * // % ** -/
def rAddA (K : PySem.W.Frag) : R2 := fun x y H Q => rI0 (fun i j => .int (i + j)) x y H Q ∨ (∃ i j, x = .str i ∧ y = .str j ∧ i.length + j.length ≤ sizeLine ∧ Q (.str (i ++ j)) H) ∨ rCatA K x y H Q ∨ rCat x y H Q
theorem op_addA : OpR X (binaryOp .Add) (rAddA X.K) := op_add.or (op_add_str.or (op_catA.or op_cat))
theorem rl_add : Rl2F K T (rAddA K) dAdd := fun w s H v x v2 x2 y k r1 r2 hg Q q => by
  cases x with
  | int i =>
    cases x2 with
    | int j =>
      cases hg
      cases rep_int r1
      cases rep_int r2
      exact .inl ⟨i, j, rfl, rfl, give_flat k q rfl (.int _)⟩
    | _ => cases hg
  | str a =>
    cases x2 with
    | str b =>
      obtain ⟨rfl, z1⟩ := rep_str r1
      obtain ⟨rfl, z2⟩ := rep_str r2
      dsimp only [dAdd] at hg
      split at hg
      · rename_i z
        cases hg
        refine .inr (.inl ⟨_, _, rfl, rfl, by rw [str_len, str_len]; exact z, ?_⟩)
        rw [str_app]
        exact give_flat k q rfl (.str _ (by rw [List.length_append]; exact z))
      · cases hg
    | _ => cases hg
  | tup a =>
    cases x2 with
    | tup b =>
      obtain ⟨a1, vs, rfl, h1, e1, z1⟩ := rep_tup r1
      obtain ⟨a2, us, rfl, h2, e2, z2⟩ := rep_tup r2
      dsimp only [dAdd] at hg
      split at hg
      · rename_i z
        cases hg
        refine .inr (.inr (.inl ⟨a1, a2, vs, us, rfl, rfl, sqt_fh K k.fh h1, sqt_fh K k.fh h2, by rw [e1.length, e2.length]; exact z, fun h0 => ?_, fun _ h0 => ?_, fun _ _ => ?_⟩))
        · have e0 := (nil_of_reps e1).mp h0
          subst e0
          exact give_flat k q rfl (.tup h2 e2 z2)
        · have e0 := (nil_of_reps e2).mp h0
          subst e0
          refine give_flat k q rfl ?_
          rw [List.append_nil]
          exact .tup h1 e1 z1
        · exact give_tup k q (e1.append e2) (by rw [List.length_append]; exact z)
      · cases hg
    | _ => cases hg
  | lst a =>
    cases x2 with
    | lst b =>
      obtain ⟨a1, vs, rfl, h1, e1, z1⟩ := r1
      obtain ⟨a2, us, rfl, h2, e2, z2⟩ := r2
      dsimp only [dAdd] at hg
      split at hg
      · rename_i z
        cases hg
        exact .inr (.inr (.inr ⟨a1, a2, vs, us, rfl, rfl, h1, h2, by rw [e1.length, e2.length]; exact z, give_lst k q (e1.append e2) (by rw [List.length_append]; exact z)⟩))
      · cases hg
    | _ => cases hg
  | _ => cases hg
def rMulA : R2 := fun x y H Q => rI CMul (fun i j => .int (i * j)) x y H Q ∨ rRep x y H Q
theorem op_mulA : OpR X (binaryOp .Mult) rMulA := op_mul.or op_rep
theorem small64_ok {i : Int} (h : small64 i = true) : -(2 ^ 64) < i ∧ i < 2 ^ 64 := by
  unfold small64 at h
  rw [Bool.and_eq_true, decide_eq_true_eq, decide_eq_true_eq] at h
  omega
theorem rl_mul : Rl2F K T rMulA dMul := fun w s H v x v2 x2 y k r1 r2 hg Q q => by
  cases x with
  | int i =>
    cases x2 with
    | int j =>
      cases rep_int r1
      cases rep_int r2
      dsimp only [dMul] at hg
      split at hg
      · rename_i z
        cases hg
        rw [Bool.or_eq_true] at z
        exact .inl ⟨i, j, rfl, rfl, z.imp small64_ok small64_ok, give_flat k q rfl (.int _)⟩
      · cases hg
    | _ => cases hg
  | lst a =>
    cases x2 with
    | int n =>
      obtain ⟨a1, vs, rfl, h1, e1, z1⟩ := r1
      cases rep_int r2
      dsimp only [dMul] at hg
      split at hg
      · rename_i z
        cases hg
        rw [Bool.and_eq_true, Bool.and_eq_true, decide_eq_true_eq, decide_eq_true_eq, decide_eq_true_eq] at z
        obtain ⟨⟨z1, z2⟩, z3⟩ := z
        refine .inr ⟨a1, n, vs, rfl, rfl, h1, by omega, by omega, by rw [e1.length]; exact z2, give_lst k q (e1.rep n.toNat) ?_⟩
        rw [List.length_flatten, List.map_replicate, List.sum_replicate_nat, Nat.mul_comm]
        exact z2
      · cases hg
    | _ => cases hg
  | _ => cases hg
theorem rl_int {C : Int → Int → Prop} {g : Int → Int → Int} {f : D → D → Option D} (hf : ∀ x y z, f x y = some z → ∃ i j, x = .int i ∧ y = .int j ∧ C i j ∧ z = .int (g i j)) : Rl2F K T (rI C fun i j => .int (g i j)) f := fun w s H v x v2 x2 y k r1 r2 hg Q q => by
  obtain ⟨i, j, rfl, rfl, c, rfl⟩ := hf _ _ _ hg
  cases rep_int r1
  cases rep_int r2
  exact ⟨i, j, rfl, rfl, c, give_flat k q rfl (.int _)⟩
theorem rl_sub : Rl2F K T (rI0 fun i j => .int (i - j)) dSub := fun w s H v x v2 x2 y k r1 r2 hg Q q => by
  cases x <;> try (cases hg; done)
  cases x2 <;> try (cases hg; done)
  cases hg
  cases rep_int r1
  cases rep_int r2
  exact ⟨_, _, rfl, rfl, give_flat k q rfl (.int _)⟩
theorem rl_div : Rl2F K T (rI CDivN fun i j => .int (i.fdiv j)) dDiv := rl_int fun x y z h => by
  cases x <;> try (cases h; done)
  cases y <;> try (cases h; done)
  dsimp only [dDiv] at h
  split at h
  · rename_i q
    cases h
    exact ⟨_, _, rfl, rfl, q, rfl⟩
  · cases h
theorem rl_mod : Rl2F K T (rI (fun _ j => j ≠ 0) fun i j => .int (i.fmod j)) dMod := rl_int fun x y z h => by
  cases x <;> try (cases h; done)
  cases y <;> try (cases h; done)
  dsimp only [dMod] at h
  split at h
  · rename_i q
    cases h
    exact ⟨_, _, rfl, rfl, q, rfl⟩
  · cases h
theorem rl_pow : Rl2F K T (rI CPow fun i j => .int (i ^ j.toNat)) dPow := rl_int fun x y z h => by
  cases x <;> try (cases h; done)
  cases y <;> try (cases h; done)
  dsimp only [dPow] at h
  split at h
  · rename_i q
    cases h
    exact ⟨_, _, rfl, rfl, ⟨q.1, q.2.1, by omega⟩, rfl⟩
  · cases h
theorem rl_neg : Rl1F K T (rU fun i => .int (-i)) dNeg := fun w s H v x y k r1 hg Q q => by
  cases x <;> try (cases hg; done)
  cases hg
  cases rep_int r1
  exact ⟨_, rfl, give_flat k q rfl (.int _)⟩
end
end VM

set_option Elab.async false
set_option linter.all false
set_option maxRecDepth 100000
/-! VM6a: != of lists, tuples and dicts whose items are compared in one model. -/
namespace VM
open PySem PySem.SeqAt
open AutoSeq1 (wpAny_loadPart')
open MeetsSeq MeetsSeq2 MeetsSeq3 SeqRoads2
section
variable {prog : Program} {w : World}
abbrev lsO (dd : Option Addr) (xs : Array Value) (n : Nat) (sl : Array (Option Value)) : Obj := { cls := .type "list", dict := dd, data := .seq xs n, slots := sl }
abbrev tuO (dd : Option Addr) (xs : Array Value) (n : Nat) (sl : Array (Option Value)) : Obj := { cls := .type "tuple", dict := dd, data := .seq xs n, slots := sl }
theorem nl_loop (l b : Addr) (xs ys : Array Value) (n n2 : Nat) (dd dd2 : Option Addr) (sl sl2 : Array (Option Value)) (hsz : xs.size = ys.size) (e : Nat → Bool) (k : Nat) :
    ∀ i : Nat, xs.size - i = k → MeetsIn prog w (Builtin.«list.__eq__.loop» ⟨[.ref l, .ref b, rawInt i, rawInt 3], []⟩)
      (fun A R s => s.heap.get? l = some (lsO dd xs n sl) ∧ s.heap.get? b = some (lsO dd2 ys n2 sl2) ∧
        (∀ j (p : j < xs.size) (q : j < ys.size), EqIn prog w A.in1 s xs[j] ys[j] (e j)) ∧ R (.ok (.ret (.bool (!((List.range xs.size).drop i).all e)))) s) := by
  induction k with
  | zero =>
    intro i hk A R s h
    obtain ⟨hp, g, d, tk, os⟩ := s
    obtain ⟨hl, hb, he, h⟩ := h
    wp_walk using wpAny_loadPart' hl, wpAny_loadPart' hb
    have a1 : xs[((i : Nat) : Int).toNat]? = none := by
      simp
      omega
    have a2 : ys[((i : Nat) : Int).toNat]? = none := by
      simp
      omega
    have a3 : (List.range xs.size).drop i = [] := by
      simp
      omega
    rw [a3] at h
    rw [a1, a2]
    wp_walk using wpAny_loadPart' hl, wpAny_loadPart' hb
    show R (.ok (.ret (.bool (xs.size != ys.size)))) _
    rw [hsz]
    simpa using h
  | succ k ih =>
    intro i hk A R s h
    obtain ⟨hp, g, d, tk, os⟩ := s
    obtain ⟨hl, hb, he, h⟩ := h
    wp_walk using wpAny_loadPart' hl, wpAny_loadPart' hb
    have lt1 : i < xs.size := by omega
    have lt2 : i < ys.size := by omega
    have a1 : xs[((i : Nat) : Int).toNat]? = some xs[i] := by simp [lt1]
    have a2 : ys[((i : Nat) : Int).toNat]? = some ys[i] := by simp [lt2]
    have a3 : (List.range xs.size).drop i = i :: (List.range xs.size).drop (i + 1) := by simp [List.drop_eq_getElem_cons, lt1]
    have a4 : ((i : Int) + 1) = ((i + 1 : Nat) : Int) := by
      push_cast
      rfl
    rw [a3, List.all_cons] at h
    rw [a1, a2]
    refine wpAny_bind (he i lt1 lt2 _ _ ?_)
    cases q : e i with
    | true =>
      rw [q] at h
      wp_walk
      rw [a4]
      refine ⟨plainId_quiet plain_eq_loop _, codeAny_builtin entry_eq_loop ?_⟩
      rw [Around.under_plainId plain_eq_loop _]
      exact ih (i + 1) (by omega) A R _ ⟨hl, hb, he, by simpa using h⟩
    | false =>
      rw [q] at h
      wp_walk using wpAny_loadPart' hl, wpAny_loadPart' hb
      rw [a1, a2]
      wp_walk
      simpa using h
theorem nl_list (l b : Addr) (xs ys : Array Value) (n n2 : Nat) (dd dd2 : Option Addr) (sl sl2 : Array (Option Value)) (hsz : xs.size = ys.size) (e : Nat → Bool) :
    MeetsIn prog w (Builtin.«list.__ne__» ⟨[.ref l, .ref b], []⟩)
      (fun A R s => s.heap.get? l = some (lsO dd xs n sl) ∧ s.heap.get? b = some (lsO dd2 ys n2 sl2) ∧
        (∀ j (p : j < xs.size) (q : j < ys.size), EqIn prog w A.in1 s xs[j] ys[j] (e j)) ∧ R (.ok (.ret (.bool (!(List.range xs.size).all e)))) s) := by
  intro A R s h
  obtain ⟨hp, g, d, tk, os⟩ := s
  obtain ⟨hl, hb, he, h⟩ := h
  have f3 := AutoSeq1.sub_list_list
  have nn : ¬ (xs.size != ys.size) = true := by simp [hsz]
  wp_walk using wpAny_loadPart' hl, wpAny_loadPart' hb
  refine ⟨plainId_quiet plain_eq_loop _, codeAny_builtin entry_eq_loop ?_⟩
  rw [Around.under_plainId plain_eq_loop _]
  exact nl_loop l b xs ys n n2 dd dd2 sl sl2 hsz e _ 0 rfl A R _ ⟨hl, hb, he, by simpa using h⟩
theorem nl_tuple (l b : Addr) (xs ys : Array Value) (n n2 : Nat) (dd dd2 : Option Addr) (sl sl2 : Array (Option Value)) (e : Nat → Bool) :
    MeetsIn prog w (Builtin.«tuple.__ne__» ⟨[.ref l, .ref b], []⟩)
      (fun A R s => s.heap.get? l = some (tuO dd xs n sl) ∧ s.heap.get? b = some (tuO dd2 ys n2 sl2) ∧
        (∀ j (p : j < xs.size) (q : j < ys.size), EqIn prog w A.in1 s xs[j] ys[j] (e j)) ∧
        R (.ok (.ret (.bool (!((List.range (min xs.size ys.size)).all e && xs.size == ys.size))))) s) := by
  intro A R s h
  obtain ⟨hp, g, d, tk, os⟩ := s
  obtain ⟨hl, hb, he, h⟩ := h
  have f2 := AutoSeq1.sub_tuple_tuple
  have zl : (xs.toList.zip ys.toList).length = min xs.size ys.size := by simp
  wp_walk using wpAny_loadPart' hl, wpAny_loadPart' hb, wpAny_forIn_list _ (fun rest b s' => b.1 = none ∧ s' = ⟨hp, g, d, tk, os⟩ ∧ ∃ i, rest = (xs.toList.zip ys.toList).drop i ∧ R (.ok (.ret (.bool (!(((List.range (min xs.size ys.size)).drop i).all e && xs.size == ys.size))))) ⟨hp, g, d, tk, os⟩) _
  case turn =>
    rintro ⟨y, x⟩ rest b s' ⟨hb', rfl, i, hz, hR⟩
    have lt : i < (xs.toList.zip ys.toList).length := by
      rcases Nat.lt_or_ge i (xs.toList.zip ys.toList).length with h' | h'
      · exact h'
      · rw [List.drop_of_length_le h'] at hz
        cases hz
    have hm : i < min xs.size ys.size := zl ▸ lt
    have lt1 : i < xs.size := by omega
    have lt2 : i < ys.size := by omega
    rw [List.drop_eq_getElem_cons lt] at hz
    injection hz with hyx hrest
    have hy : y = xs[i] := by
      have := congrArg Prod.fst hyx
      simpa using this
    have hx : x = ys[i] := by
      have := congrArg Prod.snd hyx
      simpa using this
    subst hy hx
    have hd : (List.range (min xs.size ys.size)).drop i = i :: (List.range (min xs.size ys.size)).drop (i + 1) := by simp [List.drop_eq_getElem_cons, hm]
    rw [hd, List.all_cons] at hR
    refine wpAny_bind (he i lt1 lt2 _ _ ?_)
    cases hy : e i with
    | true =>
      rw [hy] at hR
      wp_walk
      exact ⟨rfl, rfl, i + 1, hrest, by simpa using hR⟩
    | false =>
      rw [hy] at hR
      wp_walk
      simpa using hR
  case fin =>
    rintro ⟨b1, b2⟩ s' ⟨hb', rfl, i, hz, hR⟩
    simp only at hb'
    subst hb'
    have ge : min xs.size ys.size ≤ i := by
      rcases Nat.lt_or_ge i (xs.toList.zip ys.toList).length with h' | h'
      · rw [List.drop_eq_getElem_cons h'] at hz
        cases hz
      · exact zl ▸ h'
    rw [List.drop_of_length_le (by simpa using ge)] at hR
    wp_walk
    simpa [Builtin.Tuple.tupleCompareSizes, bne] using hR
  case h => exact ⟨rfl, rfl, 0, rfl, by simpa using h⟩
/-- y op x by the rich comparison -/
def RcIn (prog : Program) (w : World) (op : CmpOp) (A : Around) (s : Shared) (y x : Value) (b : Bool) : Prop :=
  ∀ (E : Value → Shared → Prop) (Q : Value → Shared → Prop), Q (.bool b) s → wpAny (model prog w) A (richCompare op y x) Q E s
variable {A : Around} {s : Shared}
theorem RcIn.lists {l b : Addr} {xs ys : Array Value} {e : Nat → Bool} (hl : s.heap.IsList l xs) (hb : s.heap.IsList b ys) (hsz : xs.size = ys.size) (hu : A.units < cLine)
    (he : ∀ j (p : j < xs.size) (q : j < ys.size), EqIn prog w A.in1 s xs[j] ys[j] (e j)) : RcIn prog w .NotEq A s (.ref l) (.ref b) (!(List.range xs.size).all e) := fun E Q h => by
  obtain ⟨⟨c1, d1, t1, s1⟩, o1, e1, n1, f1⟩ := id hl
  obtain ⟨⟨c2, d2, t2, s2⟩, o2, e2, n2, f2⟩ := id hb
  simp only at e1 f1 e2 f2
  subst e1 f1 e2 f2
  exact wpAny_richCompare_same_room (T := "list") (op := .NotEq) ⟨_, o1, rfl⟩ ⟨_, o2, rfl⟩ F.slot_list_ne (call_meetsIn F.slot_list_ne ⟨_, o1, rfl⟩ F.entry_list_ne (F.args_list_ne_2 _ _) (nl_list l b xs ys n1 n2 d1 d2 s1 s2 hsz e)
    ⟨o1, o2, he, ⟨(fun z => nomatch z), h⟩⟩) hu
theorem RcIn.tuples {l b : Addr} {xs ys : Array Value} {e : Nat → Bool} (hl : s.heap.IsTuple l xs) (hb : s.heap.IsTuple b ys) (hu : A.units < cLine)
    (he : ∀ j (p : j < xs.size) (q : j < ys.size), EqIn prog w A.in1 s xs[j] ys[j] (e j)) : RcIn prog w .NotEq A s (.ref l) (.ref b) (!((List.range (min xs.size ys.size)).all e && xs.size == ys.size)) := fun E Q h => by
  obtain ⟨⟨c1, d1, t1, s1⟩, o1, e1, n1, f1⟩ := id hl
  obtain ⟨⟨c2, d2, t2, s2⟩, o2, e2, n2, f2⟩ := id hb
  simp only at e1 f1 e2 f2
  subst e1 f1 e2 f2
  exact wpAny_richCompare_same_room (T := "tuple") (op := .NotEq) ⟨_, o1, rfl⟩ ⟨_, o2, rfl⟩ F.slot_tuple_ne (call_meetsIn F.slot_tuple_ne ⟨_, o1, rfl⟩ F.entry_tuple_ne (F.args_tuple_ne_2 _ _) (nl_tuple l b xs ys n1 n2 d1 d2 s1 s2 e)
    ⟨o1, o2, he, ⟨(fun z => nomatch z), h⟩⟩) hu
theorem RcIn.dicts {Q0 : Type} [DecidableEq Q0] {kd : KeyKind prog w Q0} {a b : Addr} {ks ls : List (Q0 × Value)} {r : Bool} (na : (a == sysModules) = false) (nb : (b == sysModules) = false) (da : s.heap.DictOf kd a ks) (db : s.heap.DictOf kd b ls) (hu : A.units < cLine)
    (hits : ks.length = ls.length → PySem.W.KeqHitsIn prog w A.in1 s ls ks r) : RcIn prog w .NotEq A s (.ref a) (.ref b) (!(ks.length == ls.length && r)) := fun E Q h => by
  have T2 := db.typeIs
  refine wpAny_richCompare_same_room (op := .NotEq) da.typeIs T2 F.slot_dict_ne (wpAny_call_entry F.slot_dict_ne da.typeIs F.entry_dict_ne ?_ (F.args_dict_ne_2 _ _)) hu
  refine wpAny_bind (E := _) (Q := _) (show wpAny _ _ (Builtin.Dict.dictSlotArgs "__ne__" ⟨[.ref a, .ref b], []⟩) _ _ s from ?_)
  unfold Builtin.Dict.dictSlotArgs
  refine wpAny_bind (wpAny_notOrdered_dict da.typeIs (show wpAny _ _ (pure (Value.ref a, Value.ref b)) _ _ s from wpAny_pure ?_))
  refine wpAny_bind (wpAny_isInstance (T := "dict") T2 F.sub_dict_dict ?_)
  simp only [Bool.not_true, if_false, Bool.false_eq_true]
  refine wpAny_bind (wpAny_pure (wpAny_bind (wpAny_pure (wpAny_bind (PySem.W.keq_samePairsIn na nb da db hits ?_)))))
  exact wpAny_pure ⟨_, rfl, (fun z => nomatch z), by simpa using h⟩
end
end VM

set_option Elab.async false
set_option linter.all false
set_option maxRecDepth 100000
set_option maxHeartbeats 4000000
/-! VM6c: a dict beside a number. -/
namespace VM
open PySem PySem.SeqAt
open AutoSeq1 (wpAny_loadPart')
open MeetsSeq MeetsSeq2 MeetsSeq3 SeqRoads2
section
variable {prog : Program} {w : World} {A : Around} {E : Value → Shared → Prop} {s : Shared} {Q0 : Type} [DecidableEq Q0] {kd : KeyKind prog w Q0} {a : Addr} {ks : List (Q0 × Value)} {Q : Value → Shared → Prop}
theorem dI_eq (b : Int) (u : Tok) (da : s.heap.DictOf kd a ks) (hq : Q .notImplemented s) : wpAny (model prog w) A (call (.builtin "dict.__eq__") [.ref a, .int b u]) Q E s := by
  refine wpAny_call_entry F.slot_dict_eq da.typeIs F.entry_dict_eq ?_ (F.args_dict_eq_2 _ _)
  refine wpAny_bind (E := _) (Q := _) (show wpAny _ _ (Builtin.Dict.dictSlotArgs "__eq__" ⟨[.ref a, .int b u], []⟩) _ _ s from ?_)
  unfold Builtin.Dict.dictSlotArgs
  refine wpAny_bind (wpAny_notOrdered_dict da.typeIs (show wpAny _ _ (pure (Value.ref a, Value.int b u)) _ _ s from wpAny_pure ?_))
  refine wpAny_bind (wpAny_isInstance (T := "int") (typeIs_int s b u) F.sub_int_dict ?_)
  simp only [Bool.not_false, if_true]
  refine wpAny_bind (wpAny_rule ?_)
  exact wpAny_pure ⟨_, rfl, hq⟩
theorem dI_ne (b : Int) (u : Tok) (da : s.heap.DictOf kd a ks) (hq : Q .notImplemented s) : wpAny (model prog w) A (call (.builtin "dict.__ne__") [.ref a, .int b u]) Q E s := by
  refine wpAny_call_entry F.slot_dict_ne da.typeIs F.entry_dict_ne ?_ (F.args_dict_ne_2 _ _)
  refine wpAny_bind (E := _) (Q := _) (show wpAny _ _ (Builtin.Dict.dictSlotArgs "__ne__" ⟨[.ref a, .int b u], []⟩) _ _ s from ?_)
  unfold Builtin.Dict.dictSlotArgs
  refine wpAny_bind (wpAny_notOrdered_dict da.typeIs (show wpAny _ _ (pure (Value.ref a, Value.int b u)) _ _ s from wpAny_pure ?_))
  refine wpAny_bind (wpAny_isInstance (T := "int") (typeIs_int s b u) F.sub_int_dict ?_)
  simp only [Bool.not_false, if_true]
  refine wpAny_bind (wpAny_rule ?_)
  exact wpAny_pure ⟨_, rfl, hq⟩
theorem iD_eqM (b : Int) (u : Tok) (l : Addr) (c : Value) (es : Array DictEntry) (ep : Nat) (dd : Option Addr) (sl : Array (Option Value)) :
    Meets (Builtin.«int.__eq__» ⟨[.int b u, .ref l], []⟩) (fun _ R s => s.heap.get? l = some { cls := c, dict := dd, data := .dict es ep, slots := sl } ∧ R (.ok (.ret .notImplemented)) s) :=
  .of_wp fun prog w A R s h => by
    obtain ⟨hp, g, d, tk, os⟩ := s
    obtain ⟨hl, h⟩ := h
    wp_walk using wpAny_loadPart' hl, wpAny_load hl
    exact ⟨_, rfl, h⟩
theorem iD_neM (b : Int) (u : Tok) (l : Addr) (c : Value) (es : Array DictEntry) (ep : Nat) (dd : Option Addr) (sl : Array (Option Value)) :
    Meets (Builtin.«int.__ne__» ⟨[.int b u, .ref l], []⟩) (fun _ R s => s.heap.get? l = some { cls := c, dict := dd, data := .dict es ep, slots := sl } ∧ R (.ok (.ret .notImplemented)) s) :=
  .of_wp fun prog w A R s h => by
    obtain ⟨hp, g, d, tk, os⟩ := s
    obtain ⟨hl, h⟩ := h
    wp_walk using wpAny_loadPart' hl, wpAny_load hl
    exact ⟨_, rfl, h⟩
theorem iD_eq (b : Int) (u : Tok) (da : s.heap.DictOf kd a ks) (hq : Q .notImplemented s) : wpAny (model prog w) A (call (.builtin "int.__eq__") [.int b u, .ref a]) Q E s := by
  obtain ⟨⟨c, dd, dt, sl⟩, es, ep, ho, hx, hd, _⟩ := da
  simp only at hd
  subst hd
  exact call_meets F.slot_int_eq_refl (typeIs_int s b u) F.entry_int_eq (F.args_int_eq_2 _ _) (iD_eqM b u a c es ep dd sl) ⟨ho, hq⟩
theorem iD_ne (b : Int) (u : Tok) (da : s.heap.DictOf kd a ks) (hq : Q .notImplemented s) : wpAny (model prog w) A (call (.builtin "int.__ne__") [.int b u, .ref a]) Q E s := by
  obtain ⟨⟨c, dd, dt, sl⟩, es, ep, ho, hx, hd, _⟩ := da
  simp only at hd
  subst hd
  exact call_meets F.slot_int_ne_refl (typeIs_int s b u) F.entry_int_ne (F.args_int_ne_2 _ _) (iD_neM b u a c es ep dd sl) ⟨ho, hq⟩
theorem rcDI (b : Int) (u : Tok) (da : s.heap.DictOf kd a ks) (hu : A.units < cLine) : RcIn prog w .Eq A s (.ref a) (.int b u) false := fun E Q h =>
  rc_eq_decline_or (k := false) da.typeIs (typeIs_int s b u) (by decide) F.sub_int_dict F.slot_dict_eq F.slot_int_eq_refl (fun _ hq => dI_eq b u da hq) (fun _ hq => iD_eq b u da hq) (fun _ hq => wpAny_of_eq (rfl : isSame (.ref a) (.int b u) = pure false) hq) (.inr hu) h
theorem rnDI (b : Int) (u : Tok) (da : s.heap.DictOf kd a ks) (hu : A.units < cLine) : RcIn prog w .NotEq A s (.ref a) (.int b u) true := fun E Q h =>
  rc_ne_decline_or (k := false) da.typeIs (typeIs_int s b u) (by decide) F.sub_int_dict F.slot_dict_ne F.slot_int_ne_refl (fun _ hq => dI_ne b u da hq) (fun _ hq => iD_ne b u da hq) (fun _ hq => wpAny_of_eq (rfl : isSame (.ref a) (.int b u) = pure false) hq) (.inr hu) h
theorem rcID (b : Int) (u : Tok) (da : s.heap.DictOf kd a ks) (hu : A.units < cLine) : RcIn prog w .Eq A s (.int b u) (.ref a) false := fun E Q h =>
  rc_eq_decline_or (k := false) (typeIs_int s b u) da.typeIs (by decide) F.sub_dict_int F.slot_int_eq F.slot_dict_eq_refl (fun _ hq => iD_eq b u da hq) (fun _ hq => dI_eq b u da hq) (fun _ hq => wpAny_of_eq (rfl : isSame (.int b u) (.ref a) = pure false) hq) (.inr hu) h
theorem rnID (b : Int) (u : Tok) (da : s.heap.DictOf kd a ks) (hu : A.units < cLine) : RcIn prog w .NotEq A s (.int b u) (.ref a) true := fun E Q h =>
  rc_ne_decline_or (k := false) (typeIs_int s b u) da.typeIs (by decide) F.sub_dict_int F.slot_int_ne F.slot_dict_ne_refl (fun _ hq => iD_ne b u da hq) (fun _ hq => dI_ne b u da hq) (fun _ hq => wpAny_of_eq (rfl : isSame (.int b u) (.ref a) = pure false) hq) (.inr hu) h
theorem itDI (b : Int) (u : Tok) (da : s.heap.DictOf kd a ks) (hu : A.units < cLine) : EqIn prog w A s (.ref a) (.int b u) false := fun E Q h => by
  unfold eqBool
  refine wpAny_holding ?_
  refine wpAny_ite_split (fun hab => absurd (eq_of_beq hab) nofun) (fun _ => ?_)
  exact wpAny_bind (rcDI b u da hu E _ (wpAny_truthy_bool h))
theorem itID (b : Int) (u : Tok) (da : s.heap.DictOf kd a ks) (hu : A.units < cLine) : EqIn prog w A s (.int b u) (.ref a) false := fun E Q h => by
  unfold eqBool
  refine wpAny_holding ?_
  refine wpAny_ite_split (fun hab => absurd (eq_of_beq hab) nofun) (fun _ => ?_)
  exact wpAny_bind (rcID b u da hu E _ (wpAny_truthy_bool h))
end
end VM

set_option Elab.async false
set_option linter.all false
set_option maxRecDepth 100000
set_option maxHeartbeats 4000000
/-! VM6: ==, in, the order of numbers and texts. -/
namespace VM
open PySem L2
section
variable {K : PySem.W.Frag} {T : Tab} {w w' : Wd} {s s' : Store} {H H' : Hp} {X : Cx} {W : WX}

theorem allO_some : ∀ {l : List (Option Bool)} {c : Bool}, allO l = some c → ∃ bs : List Bool, l = bs.map some ∧ c = bs.all id
  | [], c, h => ⟨[], rfl, by cases h; rfl⟩
  | none :: r, c, h => by cases h
  | some b :: r, c, h => by
    unfold allO at h
    cases q : allO r with
    | none =>
      rw [q] at h
      cases h
    | some c' =>
      rw [q] at h
      cases h
      obtain ⟨bs, e1, e2⟩ := allO_some q
      refine ⟨b :: bs, by rw [e1]; rfl, ?_⟩
      rw [e2]
      rfl
theorem range_all (bs : List Bool) : (List.range bs.length).all (fun j => bs.getD j false) = bs.all id := by
  rw [Bool.eq_iff_iff]
  rw [List.all_eq_true, List.all_eq_true]
  constructor
  · intro h b hb
    obtain ⟨i, hi⟩ := List.getElem?_of_mem hb
    have q := h i (List.mem_range.mpr (List.getElem?_eq_some_iff.mp hi).1)
    rw [List.getD_eq_getElem?_getD, hi] at q
    exact q
  · intro h j hj
    have hj := List.mem_range.mp hj
    rw [List.getD_eq_getElem?_getD, List.getElem?_eq_getElem hj]
    exact h _ (List.getElem_mem hj)
theorem reps_item {G : Hp} {vs : List V} {ds : List D} {us : List Value} (r : Reps K T G vs ds) (rv : Vals vs us) {j : Nat} (h : j < us.toArray.size) : ∃ d v, ds[j]? = some d ∧ Rep K T G v d ∧ RelV v us.toArray[j] := by
  have h' : j < us.length := by simpa using h
  have hv : j < vs.length := by
    rw [rv.length]
    exact h'
  obtain ⟨d, h1, h2⟩ := r.get' (List.getElem?_eq_getElem hv)
  obtain ⟨u, h3, h4⟩ := rv.get (List.getElem?_eq_getElem hv)
  refine ⟨d, _, h1, h2, ?_⟩
  rw [List.getElem?_eq_getElem h'] at h3
  cases h3
  simpa using h4
theorem sqt_val {pins : List (Addr × Obj)} {σ : L2.St} {ss : Shared} (I : Inv X pins σ H ss) {G : Hp} (hG : FH G H) {a : Addr} {vs : List V} (h : SqT X.K G a vs) : ∃ its : List Value, Vals vs its ∧ ss.heap.IsTuple a its.toArray := by
  obtain ⟨its, r, p, _⟩ := I.tuple (sqt_fh X.K hG h)
  obtain ⟨o, e, c, n, d⟩ := p
  exact ⟨its, r, o, e, c, n, d⟩
theorem lst_val {pins : List (Addr × Obj)} {σ : L2.St} {ss : Shared} (I : Inv X pins σ H ss) {G : Hp} (hG : FH G H) {a : Addr} {vs : List V} (h : G a = some (.lst vs)) : ∃ its : List Value, Vals vs its ∧ ss.heap.IsList a its.toArray := by
  obtain ⟨its, r, p, _⟩ := I.list (.of (hG.lst h))
  exact ⟨its, r, p.isList⟩
theorem FH.dic {F H : Hp} (f : FH F H) {a : Addr} {vs : List (Key × V)} (h : F a = some (.dK vs)) : Rd H a (.dK vs) := f.rd h
theorem dic_val {pins : List (Addr × Obj)} {σ : L2.St} {ss : Shared} (I : Inv X pins σ H ss) {G : Hp} (hG : FH G H) {a : Addr} {vs : List (Key × V)} (h : G a = some (.dK vs)) : (a == sysModules) = false ∧ ∃ us, KV vs us ∧ ss.heap.DictOf (mixKind X.prog X.w) a us := by
  obtain ⟨_, b, us, c, d⟩ := (hG.dic h).ok I.hok
  exact ⟨b, us, c, d⟩
/-- two trees at one place -/
theorem key_eq (n : Nat) (k l : Key) : eqO n (keyOf k) (keyOf l) = some (decide (k = l)) := by
  cases k with
  | inl i =>
    cases l with
    | inl j =>
      cases n <;> exact congrArg some (key_ll i j).symm
    | inr y => cases n <;> rfl
  | inr x =>
    cases l with
    | inl j => cases n <;> rfl
    | inr y =>
      have e : (x.cps.toList == y.cps.toList) = decide ((Sum.inr x : Key) = Sum.inr y) := by
        rw [key_rr]
        by_cases q : x = y
        · subst q
          rw [decide_eq_true rfl]
          exact beq_self_eq_true _
        · rw [decide_eq_false q]
          refine beq_eq_false_iff_ne.mpr fun z => q ?_
          exact TL.ext_tl z
      cases n <;> exact congrArg some e
theorem valV_cons (k k' : Key) (v : V) (r : List (Key × V)) : valV ((k', v) :: r) k = if k' = k then some v else valV r k := by
  unfold valV
  rw [List.find?_cons]
  by_cases q : k' = k
  · rw [if_pos q, show decide (((k', v) : Key × V).1 = k) = true from decide_eq_true q]
    rfl
  · rw [if_neg q, show decide (((k', v) : Key × V).1 = k) = false from decide_eq_false q]
theorem getK_rep {G : Hp} {n : Nat} (k : Key) : ∀ {kvs : List (Key × V)} {ds : List (D × D)}, RepK K T G kvs ds → (getK (eqO n) (keyOf k) ds = some none ∧ valV kvs k = none) ∨ ∃ v d, getK (eqO n) (keyOf k) ds = some (some d) ∧ valV kvs k = some v ∧ Rep K T G v d
  | _, _, .nil => .inl ⟨rfl, rfl⟩
  | _, _, .cons (k := k') (v := v) (e := e) (vs := vs) (ds := ds) hk h r => by
    obtain ⟨hk, _⟩ := hk
    subst hk
    unfold getK
    rw [key_eq, valV_cons]
    by_cases q : k' = k
    · subst q
      rw [decide_eq_true rfl, if_pos rfl]
      exact .inr ⟨v, e, rfl, rfl, h⟩
    · rw [decide_eq_false q, if_neg q]
      exact getK_rep k r
theorem look_val (k : Key) : ∀ {ks : List (Key × V)} {us : List (Key × Value)}, KV ks us → RelO (valV ks k) (valueAt us k)
  | _, _, .nil => trivial
  | (k1, v1) :: ks, (k2, u2) :: us, .cons h r => by
    obtain ⟨e, rv⟩ := h
    have e : k1 = k2 := e
    subst e
    rw [valV_cons]
    unfold valueAt
    rw [List.find?_cons]
    by_cases q : k1 = k
    · rw [if_pos q, show decide (((k1, u2) : Key × Value).1 = k) = true from decide_eq_true q]
      exact rv
    · rw [if_neg q, show decide (((k1, u2) : Key × Value).1 = k) = false from decide_eq_false q]
      exact look_val k r
/-- scalars -/
def scD : D → Bool
  | .non => true
  | .bl _ => true
  | .int _ => true
  | .str _ => true
  | _ => false
theorem sc_flat {F : Hp} {v : V} {d : D} (r : Rep K T F v d) (h : scD d = true) : flatV v = true := by
  cases r <;> first | rfl | cases h
theorem str_beq (a b : List Nat) : ((⟨a.toArray⟩ : Str) == ⟨b.toArray⟩) = (a == b) := by
  by_cases q : a = b
  · subst q
    rw [beq_self_eq_true a]
    exact beq_self_eq_true _
  · rw [beq_eq_false_iff_ne.mpr q]
    exact beq_eq_false_iff_ne.mpr fun z => q (by
      have := congrArg TL.tl z
      rw [TL.tl_mk, TL.tl_mk] at this
      exact this)
theorem sc_eq {F : Hp} {v u : V} {a b : D} {r : Bool} {n : Nat} (r1 : Rep K T F v a) (r2 : Rep K T F u b) (h1 : scD a = true) (h2 : scD b = true) (e : eqO n a b = some r) : eqV v u = r := by
  cases r1 <;> try (cases h1; done)
  all_goals (cases r2 <;> try (cases h2; done))
  all_goals (cases n <;> cases e)
  all_goals first | rfl | exact str_beq _ _
/-- == and != by the rich comparison, == of items -/
structure Cmp3 (prog : Program) (w : World) (ss : Shared) (A : Around) (v u : Value) (r : Bool) : Prop where
  eq : RcIn prog w .Eq A ss v u r
  ne : RcIn prog w .NotEq A ss v u (!r)
  it : SeqAt.EqIn prog w A ss v u r
section
open PySem.SeqAt
variable {prog : Program} {wd : World} {ss : Shared}
theorem Cmp3.of {A : Around} {v u : Value} {r : Bool} (a : RcAt A ss v u r) (b : RcNeAt A ss v u (!r)) (c : EqAt A ss v u r) : Cmp3 prog wd ss A v u r := ⟨a prog wd, b prog wd, c.inModel prog wd⟩
theorem Cmp3.refs {A : Around} {l b : Addr} {r : Bool} (a : RcIn prog wd .Eq A ss (.ref l) (.ref b) r) (c : RcIn prog wd .NotEq A ss (.ref l) (.ref b) (!r)) (self : l = b → r = true) : Cmp3 prog wd ss A (.ref l) (.ref b) r := by
  refine ⟨a, c, ?_⟩
  by_cases q : l = b
  · subst q
    rw [self rfl]
    exact (EqAt.same _).inModel prog wd
  · exact EqIn.of_refs q a
theorem cmp_sc {v u : V} {v' u' : Value} (rv : RelV v v') (ru : RelV u u') (hv : flatV v = true) (hu : flatV u = true) (A : Around) : Cmp3 prog wd ss A v' u' (eqV v u) := by
  cases v with
  | non =>
    cases rv
    cases u with
    | non =>
      cases ru
      exact .of .none_none .none_none (.same _)
    | bl b2 =>
      cases ru
      exact .of (.none_bool b2) (.none_bool b2) (.none_bool b2)
    | int i2 =>
      obtain ⟨t2, rfl⟩ := ru
      exact .of (.none_int i2 t2) (.none_int i2 t2) (.none_int i2 t2)
    | str x2 =>
      obtain ⟨t2, rfl⟩ := ru
      exact .of (.none_str x2 t2) (.none_str x2 t2) (.none_str x2 t2)
    | _ => cases hu
  | bl b1 =>
    cases rv
    cases u with
    | non =>
      cases ru
      exact .of (.bool_none b1) (.bool_none b1) (.bool_none b1)
    | bl b2 =>
      cases ru
      exact .of (.bool_bool b1 b2) (.bool_bool b1 b2) (.bool_bool b1 b2)
    | int i2 =>
      obtain ⟨t2, rfl⟩ := ru
      exact .of (.bool_int b1 i2 t2) (.bool_int b1 i2 t2) (.bool_int b1 i2 t2)
    | str x2 =>
      obtain ⟨t2, rfl⟩ := ru
      exact .of (.bool_str b1 x2 t2) (.bool_str b1 x2 t2) (.bool_str b1 x2 t2)
    | _ => cases hu
  | int i1 =>
    obtain ⟨t1, rfl⟩ := rv
    cases u with
    | non =>
      cases ru
      exact .of (.int_none i1 t1) (.int_none i1 t1) (.int_none i1 t1)
    | bl b2 =>
      cases ru
      exact .of (.int_bool i1 t1 b2) (.int_bool i1 t1 b2) (.int_bool i1 t1 b2)
    | int i2 =>
      obtain ⟨t2, rfl⟩ := ru
      exact .of (.int_int i1 t1 i2 t2) (.int_int i1 t1 i2 t2) (.int_int i1 t1 i2 t2)
    | str x2 =>
      obtain ⟨t2, rfl⟩ := ru
      exact .of (.int_str i1 t1 x2 t2) (.int_str i1 t1 x2 t2) (.int_str i1 t1 x2 t2)
    | _ => cases hu
  | str x1 =>
    obtain ⟨t1, rfl⟩ := rv
    cases u with
    | non =>
      cases ru
      exact .of (.str_none x1 t1) (.str_none x1 t1) (.str_none x1 t1)
    | bl b2 =>
      cases ru
      exact .of (.str_bool x1 t1 b2) (.str_bool x1 t1 b2) (.str_bool x1 t1 b2)
    | int i2 =>
      obtain ⟨t2, rfl⟩ := ru
      exact .of (.str_int x1 t1 i2 t2) (.str_int x1 t1 i2 t2) (.str_int x1 t1 i2 t2)
    | str x2 =>
      obtain ⟨t2, rfl⟩ := ru
      exact .of (.str_str x1 t1 x2 t2) (.str_str x1 t1 x2 t2) (.str_str x1 t1 x2 t2)
    | _ => cases hu
  | _ => cases hv
theorem cmp_tup {l : Addr} {its : Array Value} (hl : ss.heap.IsTuple l its) {u : V} {u' : Value} (fu : flatV u = true) (ru : RelV u u') (A : Around) (hu : A.units < cLine) : Cmp3 prog wd ss A (.ref l) u' false ∧ Cmp3 prog wd ss A u' (.ref l) false := by
  cases u with
  | non =>
    cases ru
    exact ⟨.of (.tuple_none hl hu) (.tuple_none hl hu) (.tuple_none hl hu), .of (.none_tuple hl hu) (.none_tuple hl hu) (.none_tuple hl hu)⟩
  | bl b =>
    cases ru
    exact ⟨.of (.tuple_bool b hl hu) (.tuple_bool b hl hu) (.tuple_bool b hl hu), .of (.bool_tuple b hl hu) (.bool_tuple b hl hu) (.bool_tuple b hl hu)⟩
  | int i =>
    obtain ⟨t, rfl⟩ := ru
    exact ⟨.of (.tuple_int i t hl hu) (.tuple_int i t hl hu) (.tuple_int i t hl hu), .of (.int_tuple i t hl hu) (.int_tuple i t hl hu) (.int_tuple i t hl hu)⟩
  | str x =>
    obtain ⟨t, rfl⟩ := ru
    exact ⟨.of (.tuple_str x t hl hu) (.tuple_str x t hl hu) (.tuple_str x t hl hu), .of (.str_tuple x t hl hu) (.str_tuple x t hl hu) (.str_tuple x t hl hu)⟩
  | _ => cases fu
theorem cmp_lst {l : Addr} {its : Array Value} (hl : ss.heap.IsList l its) {u : V} {u' : Value} (fu : flatV u = true) (ru : RelV u u') (A : Around) (hu : A.units < cLine) : Cmp3 prog wd ss A (.ref l) u' false ∧ Cmp3 prog wd ss A u' (.ref l) false := by
  cases u with
  | non =>
    cases ru
    exact ⟨.of (.list_none hl hu) (.list_none hl hu) (.list_none hl hu), .of (.none_list hl hu) (.none_list hl hu) (.none_list hl hu)⟩
  | bl b =>
    cases ru
    exact ⟨.of (.list_bool b hl hu) (.list_bool b hl hu) (.list_bool b hl hu), .of (.bool_list b hl hu) (.bool_list b hl hu) (.bool_list b hl hu)⟩
  | int i =>
    obtain ⟨t, rfl⟩ := ru
    exact ⟨.of (.list_int i t hl hu) (.list_int i t hl hu) (.list_int i t hl hu), .of (.int_list i t hl hu) (.int_list i t hl hu) (.int_list i t hl hu)⟩
  | str x =>
    obtain ⟨t, rfl⟩ := ru
    exact ⟨.of (.list_str x t hl hu) (.list_str x t hl hu) (.list_str x t hl hu), .of (.str_list x t hl hu) (.str_list x t hl hu) (.str_list x t hl hu)⟩
  | _ => cases fu
theorem cmp_lt {l b : Addr} {xs ys : Array Value} (hl : ss.heap.IsList l xs) (hb : ss.heap.IsTuple b ys) (A : Around) (hu : A.units < cLine) : Cmp3 prog wd ss A (.ref l) (.ref b) false ∧ Cmp3 prog wd ss A (.ref b) (.ref l) false :=
  ⟨.of (.list_tuple hl hb hu) (.list_tuple hl hb hu) (.list_tuple hl hb hu), .of (.tuple_list hb hl hu) (.tuple_list hb hl hu) (.tuple_list hb hl hu)⟩
end
theorem tup_lst {pins : List (Addr × Obj)} {σ : L2.St} {ss : Shared} (I : Inv X pins σ H ss) {G : Hp} (hG : FH G H) {a : Addr} {vs us : List V} (h : SqT X.K G a vs) (h2 : G a = some (.lst us)) : False := by
  obtain ⟨its, _, o, e, c, _⟩ := sqt_val I hG h
  obtain ⟨its2, _, o2, e2, c2, _⟩ := lst_val I hG h2
  rw [e] at e2
  cases e2
  rw [c] at c2
  simp at c2
theorem zip_self {pins : List (Addr × Obj)} {σ : L2.St} {ss : Shared} (I : Inv X pins σ H ss) {G : Hp} {n : Nat} (ih : ∀ (a b : D) (r : Bool) (v : V), eqO n a b = some r → Rep X.K T G v a → Rep X.K T G v b → r = true) : ∀ (vs : List V) (xs ys : List D) (bs : List Bool), Reps X.K T G vs xs → Reps X.K T G vs ys → List.zipWith (eqO n) xs ys = bs.map some → bs.all id = true := by
  intro vs
  induction vs with
  | nil =>
    intro xs ys bs r1 r2 e
    cases r1
    cases r2
    cases bs with
    | nil => rfl
    | cons => cases e
  | cons v vs ihv =>
    intro xs ys bs r1 r2 e
    cases r1 with
    | cons h1 r1 =>
      cases r2 with
      | cons h2 r2 =>
        cases bs with
        | nil => cases e
        | cons b bs =>
          rw [List.zipWith_cons_cons, List.map_cons] at e
          injection e with e1 e2
          rw [List.all_cons, ihv _ _ bs r1 r2 e2, show id b = true from ih _ _ b v e1 h1 h2]
          rfl
theorem keyOf_inj {k l : Key} (h : keyOf k = keyOf l) : k = l := by
  have e := key_eq 0 k l
  rw [h, key_eq 0 l l, decide_eq_true rfl] at e
  injection e with e
  exact of_decide_eq_true e.symm
theorem repK_mem {G : Hp} : ∀ {kvs : List (Key × V)} {ds : List (D × D)}, RepK K T G kvs ds → ∀ p ∈ ds, ∃ k v, p.1 = keyOf k ∧ (k, v) ∈ kvs ∧ Rep K T G v p.2
  | _, _, .nil, p, hp => by cases hp
  | _, _, .cons hk h r, p, hp => by
    rcases List.mem_cons.mp hp with rfl | hp
    · exact ⟨_, _, hk.1.symm, List.mem_cons_self, h⟩
    · obtain ⟨k, v, h1, h2, h3⟩ := repK_mem r p hp
      exact ⟨k, v, h1, List.mem_cons_of_mem _ h2, h3⟩
theorem valV_mem : ∀ {kvs : List (Key × V)} (nd : (kvs.map (·.1)).Nodup) {k : Key} {v : V}, (k, v) ∈ kvs → valV kvs k = some v
  | (k', v') :: r, nd, k, v, h => by
    rw [valV_cons]
    rw [List.map_cons, List.nodup_cons] at nd
    rcases List.mem_cons.mp h with h | h
    · cases h
      rw [if_pos rfl]
    · rw [if_neg fun z => nd.1 (by
        have z : k' = k := z
        rw [z]
        exact List.mem_map.mpr ⟨(k, v), h, rfl⟩)]
      exact valV_mem nd.2 h
theorem kv_keys : ∀ {ks : List (Key × V)} {us : List (Key × Value)}, KV ks us → us.map (·.1) = ks.map (·.1)
  | _, _, .nil => rfl
  | _, _, .cons h r => by
    rw [List.map_cons, List.map_cons, kv_keys r, h.1]
theorem dic_nodup {pins : List (Addr × Obj)} {σ : L2.St} {ss : Shared} (I : Inv X pins σ H ss) {G : Hp} (hG : FH G H) {a : Addr} {vs : List (Key × V)} (h : G a = some (.dK vs)) : (vs.map (·.1)).Nodup := by
  obtain ⟨_, us, r, _, _, _, _, _, _, _, _, nd⟩ := dic_val I hG h
  rw [← kv_keys r]
  exact nd
theorem kv_back : ∀ {ks : List (Key × V)} {us : List (Key × Value)}, KV ks us → ∀ {i : Nat} {k : Key} {u : Value}, us[i]? = some (k, u) → ∃ v, ks[i]? = some (k, v) ∧ RelV v u
  | _, _, .nil, i, k, u, h => by simp at h
  | (k1, v1) :: ks, (k2, u2) :: us, .cons h r, 0, k, u, e => by
    cases e
    obtain ⟨e, rv⟩ := h
    cases e
    exact ⟨v1, rfl, rv⟩
  | _ :: ks, _ :: us, .cons _ r, i + 1, k, u, e => by
    obtain ⟨v, h1, h2⟩ := kv_back r (i := i) (by simpa using e)
    exact ⟨v, by simpa using h1, h2⟩
theorem repK_at {G : Hp} : ∀ {kvs : List (Key × V)} {ds : List (D × D)}, RepK K T G kvs ds → ∀ {i : Nat} {k : Key} {v : V}, kvs[i]? = some (k, v) → ∃ d, ds[i]? = some (keyOf k, d) ∧ Rep K T G v d
  | _, _, .nil, i, k, v, h => by simp at h
  | _, _, .cons ⟨hk, _⟩ h r, 0, k, v, e => by
    cases e
    subst hk
    exact ⟨_, rfl, h⟩
  | _, _, .cons _ _ r, i + 1, k, v, e => by
    obtain ⟨d, h1, h2⟩ := repK_at r (i := i) (by simpa using e)
    exact ⟨d, by simpa using h1, h2⟩
theorem zip_find : ∀ {ks : List (Key × V)} {bs : List Bool} (_ : (ks.map (·.1)).Nodup) (i : Nat) {k : Key} {v : V} {b : Bool}, ks[i]? = some (k, v) → bs[i]? = some b → ((ks.map (·.1)).zip bs).find? (fun p => decide (p.1 = k)) = some (k, b)
  | [], _, _, i, _, _, _, h, _ => by simp at h
  | _ :: _, [], _, i, _, _, _, _, h => by simp at h
  | (k1, v1) :: ks, b1 :: bs, nd, 0, k, v, b, h, h2 => by
    cases h
    cases h2
    rw [List.map_cons, List.zip_cons_cons, List.find?_cons, show decide (((k1, b1) : Key × Bool).1 = k1) = true from decide_eq_true rfl]
  | (k1, v1) :: ks, b1 :: bs, nd, i + 1, k, v, b, h, h2 => by
    rw [List.map_cons, List.nodup_cons] at nd
    have h : ks[i]? = some (k, v) := by simpa using h
    rw [List.map_cons, List.zip_cons_cons, List.find?_cons, show decide (((k1, b1) : Key × Bool).1 = k) = false from decide_eq_false fun z => nd.1 (by
      have z : k1 = k := z
      show k1 ∈ ks.map (·.1)
      rw [z]
      exact List.mem_map.mpr ⟨(k, v), List.mem_of_getElem? h, rfl⟩)]
    exact zip_find nd.2 i h (by simpa using h2)
/-- one place, one tree -/
theorem eq_self {pins : List (Addr × Obj)} {σ : L2.St} {ss : Shared} (I : Inv X pins σ H ss) {G : Hp} (hG : FH G H) : ∀ (n : Nat) (a b : D) (r : Bool) (v : V), eqO n a b = some r → Rep X.K T G v a → Rep X.K T G v b → r = true := by
  intro n
  induction n with
  | zero =>
    intro a b r v e r1 r2
    cases r1 <;> cases r2 <;> first | (cases e; done) | (cases e; exact beq_self_eq_true _) | (cases e; rfl) | (exfalso; exact tup_lst I hG (by assumption) (by assumption))
  | succ n ih =>
    intro a b r v e r1 r2
    cases r1 with
    | tup h1 q1 z1 =>
      cases r2 with
      | tup h2 q2 z2 =>
        cases I.tuple_inj (sqt_fh X.K hG h1) (sqt_fh X.K hG h2)
        rename_i ds1 ds2
        unfold eqO at e
        dsimp only [] at e
        cases q : allO (List.zipWith (eqO n) ds1 ds2) with
        | none =>
          rw [q] at e
          cases e
        | some c =>
          rw [q] at e
          cases e
          obtain ⟨bs, e1, e2⟩ := allO_some q
          rw [e2, zip_self I ih _ _ _ bs q1 q2 e1, ← q1.length, ← q2.length]
          simp
      | lst h2 q2 z2 => exact (tup_lst I hG h1 h2).elim
      | fl => cases e
      | tpn => cases e
      | szs => cases e
      | clsv => cases e
      | exi => cases e
      | exb => cases e
      | dic => cases e
      | ins => cases e
    | lst h1 q1 z1 =>
      cases r2 with
      | tup h2 q2 z2 => exact (tup_lst I hG h2 h1).elim
      | lst h2 q2 z2 =>
        rw [h1] at h2
        cases h2
        unfold eqO at e
        dsimp only [] at e
        rw [if_pos (q1.length.symm.trans q2.length)] at e
        obtain ⟨bs, e1, e2⟩ := allO_some e
        rw [e2]
        exact zip_self I ih _ _ _ bs q1 q2 e1
      | fl => cases e
      | tpn => cases e
      | szs => cases e
      | clsv => cases e
      | exi => cases e
      | exb => cases e
      | dic => cases e
      | ins => cases e
    | dic h1 q1 z1 =>
      cases r2 with
      | tup h2 q2 z2 => cases e
      | lst h2 q2 z2 => cases e
      | fl => cases e
      | tpn => cases e
      | szs => cases e
      | clsv => cases e
      | exi => cases e
      | exb => cases e
      | dic h2 q2 z2 =>
        rw [h1] at h2
        cases h2
        unfold eqO at e
        dsimp only [] at e
        rw [if_pos (q1.length.symm.trans q2.length)] at e
        obtain ⟨bs, e1, e2⟩ := allO_some e
        rw [e2]
        refine List.all_eq_true.mpr fun b hb => ?_
        obtain ⟨p, hp, he⟩ : ∃ p, p ∈ _ ∧ _ = some b := List.mem_map.mp (show some b ∈ List.map _ _ by rw [e1]; exact List.mem_map.mpr ⟨b, hb, rfl⟩)
        obtain ⟨k, v, k1, k2, k3⟩ := repK_mem q1 p hp
        rw [k1] at he
        rcases getK_rep (n := n) k q2 with ⟨g1, g2⟩ | ⟨v', d, g1, g2, g3⟩
        · rw [valV_mem (dic_nodup I hG h1) k2] at g2
          cases g2
        · rw [valV_mem (dic_nodup I hG h1) k2] at g2
          cases g2
          rw [g1] at he
          exact ih _ _ b v he k3 g3
      | ins => cases e
    | non => cases r2 <;> cases e <;> rfl
    | bl => cases r2 <;> cases e <;> exact beq_self_eq_true _
    | int => cases r2 <;> cases e <;> exact beq_self_eq_true _
    | str => cases r2 <;> cases e <;> exact beq_self_eq_true _
    | fl => cases r2 <;> cases e
    | tpn => cases r2 <;> cases e
    | szs => cases r2 <;> cases e
    | clsv => cases r2 <;> cases e
    | exi => cases r2 <;> cases e
    | exb => cases r2 <;> cases e
    | ins => cases r2 <;> cases e
/-- == of trees without instances -/
theorem cmp_trees {pins : List (Addr × Obj)} {σ : L2.St} {ss : Shared} (I : Inv X pins σ H ss) {G : Hp} (hG : FH G H) : ∀ (n : Nat) (a b : D) (r : Bool) (v u : V) (v' u' : Value), eqO n a b = some r → Rep X.K T G v a → Rep X.K T G u b → RelV v v' → RelV u u' →
    ∀ A : Around, A.units + (n + 1) < cLine → Cmp3 X.prog X.w ss A v' u' r := by
  have scal : ∀ (n : Nat) (a b : D) (r : Bool) (v u : V) (v' u' : Value), scD a = true → scD b = true → eqO n a b = some r → Rep X.K T G v a → Rep X.K T G u b → RelV v v' → RelV u u' → ∀ A : Around, A.units + (n + 1) < cLine → Cmp3 X.prog X.w ss A v' u' r := fun n a b r v u v' u' ha hb e r1 r2 k1 k2 A hA => by
    rw [← sc_eq r1 r2 ha hb e]
    exact cmp_sc k1 k2 (sc_flat r1 ha) (sc_flat r2 hb) A
  have tupsc : ∀ (n : Nat) (xs : List D) (b : D) (v u : V) (v' u' : Value), scD b = true → Rep X.K T G v (.tup xs) → Rep X.K T G u b → RelV v v' → RelV u u' → ∀ A : Around, A.units + (n + 1) < cLine → Cmp3 X.prog X.w ss A v' u' false ∧ Cmp3 X.prog X.w ss A u' v' false := fun n xs b v u v' u' hb r1 r2 k1 k2 A hA => by
    obtain ⟨a, vs, rfl, h, q, z⟩ := rep_tup r1
    cases k1
    obtain ⟨its, _, ht⟩ := sqt_val I hG h
    exact cmp_tup ht (sc_flat r2 hb) k2 A (by omega)
  have lstsc : ∀ (n : Nat) (xs : List D) (b : D) (v u : V) (v' u' : Value), scD b = true → Rep X.K T G v (.lst xs) → Rep X.K T G u b → RelV v v' → RelV u u' → ∀ A : Around, A.units + (n + 1) < cLine → Cmp3 X.prog X.w ss A v' u' false ∧ Cmp3 X.prog X.w ss A u' v' false := fun n xs b v u v' u' hb r1 r2 k1 k2 A hA => by
    cases r1 with
    | lst h q z =>
      cases k1
      obtain ⟨its, _, ht⟩ := lst_val I hG h
      exact cmp_lst ht (sc_flat r2 hb) k2 A (by omega)
  have tl : ∀ (n : Nat) (xs ys : List D) (v u : V) (v' u' : Value), Rep X.K T G v (.lst xs) → Rep X.K T G u (.tup ys) → RelV v v' → RelV u u' → ∀ A : Around, A.units + (n + 1) < cLine → Cmp3 X.prog X.w ss A v' u' false ∧ Cmp3 X.prog X.w ss A u' v' false := fun n xs ys v u v' u' r1 r2 k1 k2 A hA => by
    cases r1 with
    | lst h q z =>
      cases k1
      obtain ⟨its, _, ht⟩ := lst_val I hG h
      obtain ⟨a, vs, rfl, h2, q, z⟩ := rep_tup r2
      cases k2
      obtain ⟨its2, _, ht2⟩ := sqt_val I hG h2
      exact cmp_lt ht ht2 A (by omega)
  have di : ∀ (n : Nat) (xs : List (D × D)) (i : Int) (v u : V) (v' u' : Value), Rep X.K T G v (.dic xs) → Rep X.K T G u (.int i) → RelV v v' → RelV u u' → ∀ A : Around, A.units + (n + 1) < cLine → Cmp3 X.prog X.w ss A v' u' false ∧ Cmp3 X.prog X.w ss A u' v' false := fun n xs i v u v' u' r1 r2 k1 k2 A hA => by
    cases r1 with
    | dic h q z =>
      cases k1
      obtain ⟨_, us, _, da⟩ := dic_val I hG h
      cases r2
      obtain ⟨t, rfl⟩ := k2
      have hu : A.units < cLine := by omega
      exact ⟨⟨rcDI i t da hu, rnDI i t da hu, itDI i t da hu⟩, ⟨rcID i t da hu, rnID i t da hu, itID i t da hu⟩⟩
  intro n
  induction n with
  | zero =>
    intro a b r v u v' u' e r1 r2 k1 k2 A hA
    cases a <;> cases b <;> first | (cases e; done) | exact scal _ _ _ _ _ _ _ _ rfl rfl e r1 r2 k1 k2 A hA | (cases e; exact (tupsc 0 _ _ _ _ _ _ rfl r1 r2 k1 k2 A hA).1) | (cases e; exact (tupsc 0 _ _ _ _ _ _ rfl r2 r1 k2 k1 A hA).2) | (cases e; exact (lstsc 0 _ _ _ _ _ _ rfl r1 r2 k1 k2 A hA).1) | (cases e; exact (lstsc 0 _ _ _ _ _ _ rfl r2 r1 k2 k1 A hA).2) | (cases e; exact (tl 0 _ _ _ _ _ _ r1 r2 k1 k2 A hA).1) | (cases e; exact (tl 0 _ _ _ _ _ _ r2 r1 k2 k1 A hA).2) | (cases e; exact (di 0 _ _ _ _ _ _ r1 r2 k1 k2 A hA).1) | (cases e; exact (di 0 _ _ _ _ _ _ r2 r1 k2 k1 A hA).2)
  | succ n ih =>
    intro a b r v u v' u' e r1 r2 k1 k2 A hA
    have hA1 : A.in1.units + (n + 1) < cLine := by
      show A.units + 1 + (n + 1) < cLine
      omega
    cases a <;> cases b <;> first | (cases e; done) | exact scal _ _ _ _ _ _ _ _ rfl rfl e r1 r2 k1 k2 A hA | (cases e; exact (tupsc _ _ _ _ _ _ _ rfl r1 r2 k1 k2 A hA).1) | (cases e; exact (tupsc _ _ _ _ _ _ _ rfl r2 r1 k2 k1 A hA).2) | (cases e; exact (lstsc _ _ _ _ _ _ _ rfl r1 r2 k1 k2 A hA).1) | (cases e; exact (lstsc _ _ _ _ _ _ _ rfl r2 r1 k2 k1 A hA).2) | (cases e; exact (tl _ _ _ _ _ _ _ r1 r2 k1 k2 A hA).1) | (cases e; exact (tl _ _ _ _ _ _ _ r2 r1 k2 k1 A hA).2) | (cases e; exact (di _ _ _ _ _ _ _ r1 r2 k1 k2 A hA).1) | (cases e; exact (di _ _ _ _ _ _ _ r2 r1 k2 k1 A hA).2) | skip
    · rename_i xs ys
      obtain ⟨a1, vs, rfl, h1, q1, z1⟩ := rep_tup r1
      obtain ⟨a2, us, rfl, h2, q2, z2⟩ := rep_tup r2
      cases k1
      cases k2
      obtain ⟨i1, rv1, t1⟩ := sqt_val I hG h1
      obtain ⟨i2, rv2, t2⟩ := sqt_val I hG h2
      have self : a1 = a2 → r = true := fun ea => by
        subst ea
        exact eq_self I hG _ _ _ _ _ e r1 r2
      unfold eqO at e
      dsimp only [] at e
      cases q : allO (List.zipWith (eqO n) xs ys) with
      | none =>
        rw [q] at e
        cases e
      | some c =>
        rw [q] at e
        injection e with e
        obtain ⟨bs, e1, e2⟩ := allO_some q
        have hl : bs.length = min i1.toArray.size i2.toArray.size := by
          have := congrArg List.length e1
          rw [List.length_zipWith, List.length_map] at this
          rw [← this, List.size_toArray, List.size_toArray, ← rv1.length, ← rv2.length, q1.length, q2.length]
        have hb : (xs.length == ys.length) = (i1.toArray.size == i2.toArray.size) := by
          rw [List.size_toArray, List.size_toArray, ← rv1.length, ← rv2.length, q1.length, q2.length]
        have items : ∀ j (p : j < i1.toArray.size) (q : j < i2.toArray.size), SeqAt.EqIn X.prog X.w A.in1 ss i1.toArray[j] i2.toArray[j] (bs.getD j false) := fun j h1 h2 => by
          obtain ⟨d1, v1, g1, g2, g3⟩ := reps_item q1 rv1 h1
          obtain ⟨d2, v2, g4, g5, g6⟩ := reps_item q2 rv2 h2
          have hz : (List.zipWith (eqO n) xs ys)[j]? = some (eqO n d1 d2) := by rw [List.getElem?_zipWith, g1, g4]
          rw [e1, List.getElem?_map] at hz
          cases hbj : bs[j]? with
          | none =>
            rw [hbj] at hz
            cases hz
          | some b =>
            rw [hbj] at hz
            injection hz with hz
            rw [List.getD_eq_getElem?_getD, hbj]
            exact (ih _ _ _ _ _ _ _ hz.symm g2 g5 g3 g6 A.in1 hA1).it
        have er : r = ((List.range (min i1.toArray.size i2.toArray.size)).all (fun j => bs.getD j false) && i1.toArray.size == i2.toArray.size) := by
          rw [← e, e2, ← range_all bs, hl, hb]
        refine Cmp3.refs ?_ ?_ self
        · rw [er]
          exact fun E Q hq => PySem.SeqAt.rcIn_tuples t1 t2 (by omega) items hq
        · rw [er]
          exact RcIn.tuples t1 t2 (by omega) items
    · rename_i xs ys
      cases r1 with
      | lst h1 q1 z1 =>
        cases r2 with
        | lst h2 q2 z2 =>
          rename_i a1 vs a2 us
          cases k1
          cases k2
          obtain ⟨i1, rv1, t1⟩ := lst_val I hG h1
          obtain ⟨i2, rv2, t2⟩ := lst_val I hG h2
          have self : a1 = a2 → r = true := fun ea => by
            subst ea
            exact eq_self I hG _ _ _ _ _ e (.lst h1 q1 z1) (.lst h2 q2 z2)
          have l1 : i1.toArray.size = xs.length := by rw [List.size_toArray, ← rv1.length, q1.length]
          have l2 : i2.toArray.size = ys.length := by rw [List.size_toArray, ← rv2.length, q2.length]
          unfold eqO at e
          dsimp only [] at e
          split at e
          · rename_i hlen
            obtain ⟨bs, e1, e2⟩ := allO_some e
            have hl : bs.length = i1.toArray.size := by
              have := congrArg List.length e1
              rw [List.length_zipWith, List.length_map] at this
              omega
            have items : ∀ j (p : j < i1.toArray.size) (q : j < i2.toArray.size), SeqAt.EqIn X.prog X.w A.in1 ss i1.toArray[j] i2.toArray[j] (bs.getD j false) := fun j h1 h2 => by
              obtain ⟨d1, v1, g1, g2, g3⟩ := reps_item q1 rv1 h1
              obtain ⟨d2, v2, g4, g5, g6⟩ := reps_item q2 rv2 h2
              have hz : (List.zipWith (eqO n) xs ys)[j]? = some (eqO n d1 d2) := by rw [List.getElem?_zipWith, g1, g4]
              rw [e1, List.getElem?_map] at hz
              cases hbj : bs[j]? with
              | none =>
                rw [hbj] at hz
                cases hz
              | some b =>
                rw [hbj] at hz
                injection hz with hz
                rw [List.getD_eq_getElem?_getD, hbj]
                exact (ih _ _ _ _ _ _ _ hz.symm g2 g5 g3 g6 A.in1 hA1).it
            have er : r = (List.range i1.toArray.size).all (fun j => bs.getD j false) := by rw [e2, ← range_all bs, hl]
            refine Cmp3.refs ?_ ?_ self
            · rw [er]
              exact fun E Q hq => PySem.SeqAt.rcIn_lists t1 t2 (by omega) (by omega) items hq
            · rw [er]
              exact RcIn.lists t1 t2 (by omega) (by omega) items
          · rename_i hlen
            cases e
            have hne : (i1.toArray.size != i2.toArray.size) = true := by
              rw [l1, l2]
              simp [hlen]
            exact Cmp3.refs ((SeqAt.RcAt.lists_lengths t1 t2 hne (by omega)) X.prog X.w) ((SeqAt.RcNeAt.lists_lengths t1 t2 hne (by omega)) X.prog X.w) self
    · rename_i xs ys
      cases r1 with
      | dic h1 q1 z1 =>
        cases r2 with
        | dic h2 q2 z2 =>
          rename_i a1 ks a2 ls
          cases k1
          cases k2
          obtain ⟨b1, us1, rv1, t1⟩ := dic_val I hG h1
          obtain ⟨b2, us2, rv2, t2⟩ := dic_val I hG h2
          have self : a1 = a2 → r = true := fun ea => by
            subst ea
            exact eq_self I hG _ _ _ _ _ e (.dic h1 q1 z1) (.dic h2 q2 z2)
          have l1 : us1.length = xs.length := by rw [← Paired.length rv1, q1.length]
          have l2 : us2.length = ys.length := by rw [← Paired.length rv2, q2.length]
          unfold eqO at e
          dsimp only [] at e
          split at e
          · rename_i hlen
            obtain ⟨bs, e1, e2⟩ := allO_some e
            have nd := dic_nodup I hG h1
            have hbl : bs.length = xs.length := by
              have := congrArg List.length e1
              rw [List.length_map, List.length_map] at this
              omega
            let f : Key → Bool := fun k => ((((ks.map (·.1)).zip bs).find? fun p => decide (p.1 = k)).map (·.2)).getD false
            have at_ : ∀ (i : Nat) (k : Key) (u : Value), us1[i]? = some (k, u) → ∃ v d b, ks[i]? = some (k, v) ∧ xs[i]? = some (keyOf k, d) ∧ bs[i]? = some b ∧ Rep X.K T G v d ∧ RelV v u ∧ f k = b ∧
                (match getK (eqO n) (keyOf k) ys with | none => none | some none => some false | some (some y) => eqO n d y) = some b := by
              intro i k u hu
              obtain ⟨hi, _⟩ := List.getElem?_eq_some_iff.mp hu
              obtain ⟨v, hv, rv⟩ := kv_back rv1 hu
              obtain ⟨d, hd, rd⟩ := repK_at q1 hv
              have hib : i < bs.length := by
                rw [hbl, ← l1]
                exact hi
              have hb := List.getElem?_eq_getElem hib
              refine ⟨v, d, _, hv, hd, hb, rd, rv, ?_, ?_⟩
              · show ((((ks.map (·.1)).zip bs).find? fun p => decide (p.1 = k)).map (·.2)).getD false = bs[i]
                rw [zip_find nd i hv hb]
                rfl
              · have := congrArg (fun l => l[i]?) e1
                simp only [List.getElem?_map] at this
                rw [hd, hb] at this
                injection this with this
            have fin : r = (us1.length == us2.length && us1.all fun p => (valueAt us2 p.1).isSome && f p.1) := by
              rw [l1, l2, hlen, beq_self_eq_true, Bool.true_and, e2]
              have em : us1.map (fun p => (valueAt us2 p.1).isSome && f p.1) = bs := by
                refine List.ext_getElem? fun i => ?_
                rw [List.getElem?_map]
                cases hu : us1[i]? with
                | none =>
                  have := List.getElem?_eq_none_iff.mp hu
                  exact (List.getElem?_eq_none_iff.mpr (by omega)).symm
                | some p =>
                  obtain ⟨k, u⟩ := p
                  obtain ⟨v, d, b, _, _, hb, rd, rv, ef, eb⟩ := at_ i k u hu
                  show some ((valueAt us2 k).isSome && f k) = bs[i]?
                  rw [hb, ef]
                  have lv := rv2.val k
                  rcases getK_rep (n := n) k q2 with ⟨g1, g2⟩ | ⟨v', d', g1, g2, g3⟩
                  · rw [g1] at eb
                    cases eb
                    rw [g2] at lv
                    rw [RelO.none_of lv]
                    rfl
                  · rw [g2] at lv
                    obtain ⟨u', lu, _⟩ := RelO.some_of lv
                    rw [lu]
                    rfl
              rw [← em, List.all_map]
              rfl
            have hits : us1.length = us2.length → PySem.W.KeqHitsIn X.prog X.w A.in1 ss us2 us1 (us1.all fun p => (valueAt us2 p.1).isSome && f p.1) := fun _ => PySem.W.KeqHitsIn.of us1 fun k v y hm hv => by
              obtain ⟨i, hi⟩ := List.getElem?_of_mem hm
              obtain ⟨v1, d, b, _, _, hb, rd, rv, ef, eb⟩ := at_ i k v hi
              have lv := rv2.val k
              rcases getK_rep (n := n) k q2 with ⟨g1, g2⟩ | ⟨v', d', g1, g2, g3⟩
              · rw [g2, hv] at lv
                exact lv.elim
              · rw [g2, hv] at lv
                rw [g1] at eb
                rw [ef]
                exact (ih _ _ _ _ _ _ _ eb rd g3 rv lv A.in1 hA1).it
            refine Cmp3.refs ?_ ?_ self
            · rw [fin]
              exact fun E Q hq => PySem.W.keq_eqIn b1 b2 t1 t2 (by omega) hits hq
            · rw [fin]
              exact RcIn.dicts b1 b2 t1 t2 (by omega) hits
          · rename_i hlen
            cases e
            have q : (us1.length == us2.length && true) = false := by
              rw [l1, l2, beq_eq_false_iff_ne.mpr hlen]
              rfl
            have hits : us1.length = us2.length → PySem.W.KeqHitsIn X.prog X.w A.in1 ss us2 us1 true := fun z => absurd (by rw [← l1, ← l2, z]) hlen
            refine Cmp3.refs ?_ ?_ self
            · rw [← q]
              exact fun E Q hq => PySem.W.keq_eqIn b1 b2 t1 t2 (by omega) hits hq
            · rw [← q]
              exact RcIn.dicts b1 b2 t1 t2 (by omega) hits
end
end VM

set_option Elab.async false
set_option linter.all false
set_option maxRecDepth 100000
/-! VM6b: in, not in, index, the items compared in one model. -/
namespace VM
open PySem PySem.SeqAt
open AutoSeq1 (wpAny_loadPart')
open MeetsSeq MeetsSeq2 MeetsSeq3 SeqRoads2
section
variable {prog : Program} {w : World}
abbrev ItemsIn (prog : Program) (w : World) (A : Around) (s : Shared) (xs : Array Value) (x : Value) (e : Nat → Bool) : Prop := ∀ j (p : j < xs.size), EqIn prog w A s xs[j] x (e j)
theorem cl_loop (l : Addr) (xs : Array Value) (n : Nat) (dd : Option Addr) (sl : Array (Option Value)) (x : Value) (e : Nat → Bool) (k : Nat) :
    ∀ i : Nat, xs.size - i = k → MeetsIn prog w (Builtin.«list.__contains__.loop» ⟨[.ref l, x, rawInt i], []⟩)
      (fun A R s => s.heap.get? l = some (lsO dd xs n sl) ∧ ItemsIn prog w A.in1 s xs x e ∧ R (.ok (.ret (.bool (((List.range xs.size).drop i).any e)))) s) := by
  induction k with
  | zero =>
    intro i hk A R s h
    obtain ⟨hp, g, d, tk, os⟩ := s
    obtain ⟨hl, he, h⟩ := h
    wp_walk using wpAny_loadPart' hl
    have a1 : xs[((i : Nat) : Int).toNat]? = none := by
      simp
      omega
    have a3 : (List.range xs.size).drop i = [] := by
      simp
      omega
    rw [a3] at h
    rw [a1]
    wp_walk
    exact h
  | succ k ih =>
    intro i hk A R s h
    obtain ⟨hp, g, d, tk, os⟩ := s
    obtain ⟨hl, he, h⟩ := h
    wp_walk using wpAny_loadPart' hl
    have lt1 : i < xs.size := by omega
    have a1 : xs[((i : Nat) : Int).toNat]? = some xs[i] := by simp [lt1]
    have a3 : (List.range xs.size).drop i = i :: (List.range xs.size).drop (i + 1) := by simp [List.drop_eq_getElem_cons, lt1]
    rw [a3, List.any_cons] at h
    rw [a1]
    refine wpAny_bind (he i lt1 _ _ ?_)
    cases q : e i with
    | true =>
      rw [q] at h
      wp_walk
      simpa using h
    | false =>
      rw [q] at h
      have a4 : ((i : Int) + 1) = ((i + 1 : Nat) : Int) := by
        push_cast
        rfl
      wp_walk
      rw [a4]
      refine ⟨plainId_quiet plain_contains_loop _, codeAny_builtin entry_contains_loop ?_⟩
      rw [Around.under_plainId plain_contains_loop _]
      exact ih (i + 1) (by omega) A R _ ⟨hl, he, by simpa using h⟩
theorem cl_list (l : Addr) (xs : Array Value) (n : Nat) (dd : Option Addr) (sl : Array (Option Value)) (x : Value) (e : Nat → Bool) :
    MeetsIn prog w (Builtin.«list.__contains__» ⟨[.ref l, x], []⟩)
      (fun A R s => s.heap.get? l = some (lsO dd xs n sl) ∧ ItemsIn prog w A.in1 s xs x e ∧ R (.ok (.ret (.bool ((List.range xs.size).any e)))) s) := by
  intro A R s h
  obtain ⟨hp, g, d, tk, os⟩ := s
  obtain ⟨hl, he, h⟩ := h
  wp_walk using wpAny_loadPart' hl
  refine ⟨plainId_quiet plain_contains_loop _, codeAny_builtin entry_contains_loop ?_⟩
  rw [Around.under_plainId plain_contains_loop _]
  exact cl_loop l xs n dd sl x e _ 0 rfl A R _ ⟨hl, he, by simpa using h⟩
theorem cl_tuple (l : Addr) (xs : Array Value) (n : Nat) (dd : Option Addr) (sl : Array (Option Value)) (x : Value) (e : Nat → Bool) :
    MeetsIn prog w (Builtin.«tuple.__contains__» ⟨[.ref l, x], []⟩)
      (fun A R s => s.heap.get? l = some (tuO dd xs n sl) ∧ ItemsIn prog w A.in1 s xs x e ∧ R (.ok (.ret (.bool ((List.range xs.size).any e)))) s) := by
  intro A R s h
  obtain ⟨hp, g, d, tk, os⟩ := s
  obtain ⟨hl, he, h⟩ := h
  wp_walk using wpAny_loadPart' hl, wpAny_forIn_array _ (fun rest b s' => b.1 = none ∧ s' = ⟨hp, g, d, tk, os⟩ ∧ ∃ i, rest = xs.toList.drop i ∧ R (.ok (.ret (.bool (((List.range xs.size).drop i).any e)))) ⟨hp, g, d, tk, os⟩) _
  case turn =>
    rintro y rest b s' ⟨hb, rfl, i, hz, hR⟩
    have lt1 : i < xs.size := by
      rcases Nat.lt_or_ge i xs.size with h' | h'
      · exact h'
      · rw [List.drop_of_length_le (by simpa using h')] at hz
        cases hz
    rw [List.drop_eq_getElem_cons (by simpa using lt1)] at hz
    injection hz with hy hrest
    have hy : y = xs[i] := by simpa using hy
    subst hy
    have a3 : (List.range xs.size).drop i = i :: (List.range xs.size).drop (i + 1) := by simp [List.drop_eq_getElem_cons, lt1]
    rw [a3, List.any_cons] at hR
    refine wpAny_bind (he i lt1 _ _ ?_)
    cases q : e i with
    | true =>
      rw [q] at hR
      wp_walk
      simpa using hR
    | false =>
      rw [q] at hR
      wp_walk
      exact ⟨rfl, rfl, i + 1, hrest, by simpa using hR⟩
  case fin =>
    rintro ⟨b1, b2⟩ s' ⟨hb, rfl, i, hz, hR⟩
    simp only at hb
    subst hb
    have ge : xs.size ≤ i := by
      rcases Nat.lt_or_ge i xs.size with h' | h'
      · rw [List.drop_eq_getElem_cons (by simpa using h')] at hz
        cases hz
      · exact h'
    rw [List.drop_of_length_le (by simpa using ge)] at hR
    wp_walk
    simpa using hR
  case h => exact ⟨rfl, rfl, 0, rfl, by simpa using h⟩
theorem cl_index_loop (l : Addr) (xs : Array Value) (n : Nat) (dd : Option Addr) (sl : Array (Option Value)) (x : Value) (e : Nat → Bool) (upto : Int) (j : Nat) (hj : j < xs.size) (hu : (j : Int) < upto) (hit : e j = true) (k : Nat) :
    ∀ i : Nat, j - i = k → i ≤ j → (∀ m, i ≤ m → m < j → e m = false) → MeetsIn prog w (Builtin.«list.index.loop» ⟨[.ref l, x, rawInt i, rawInt upto], []⟩)
      (fun A R s => s.heap.get? l = some (lsO dd xs n sl) ∧ ItemsIn prog w A.in1 s xs x e ∧ R (.ok (.ret (.int j s.toks))) { s with toks := s.toks + 1 }) := by
  induction k with
  | zero =>
    intro i hk hij hno A R s h
    obtain ⟨hp, g, d, tk, os⟩ := s
    obtain ⟨hl, he, h⟩ := h
    have ij : i = j := by omega
    subst ij
    wp_walk using wpAny_loadPart' hl
    have a1 : (if (i : Int) < upto then xs[((i : Nat) : Int).toNat]? else none) = some xs[i] := by simp [hu, hj]
    rw [a1]
    refine wpAny_bind (he i hj _ _ ?_)
    rw [hit]
    wp_walk
    exact h
  | succ k ih =>
    intro i hk hij hno A R s h
    obtain ⟨hp, g, d, tk, os⟩ := s
    obtain ⟨hl, he, h⟩ := h
    have lt1 : i < xs.size := by omega
    have lt2 : (i : Int) < upto := by omega
    wp_walk using wpAny_loadPart' hl
    have a1 : (if (i : Int) < upto then xs[((i : Nat) : Int).toNat]? else none) = some xs[i] := by simp [lt2, lt1]
    have a4 : ((i : Int) + 1) = ((i + 1 : Nat) : Int) := by
      push_cast
      rfl
    rw [a1]
    refine wpAny_bind (he i lt1 _ _ ?_)
    rw [hno i (Nat.le_refl _) (by omega)]
    wp_walk
    rw [a4]
    refine ⟨plainId_quiet plain_index_loop _, codeAny_builtin entry_index_loop ?_⟩
    rw [Around.under_plainId plain_index_loop _]
    exact ih (i + 1) (by omega) (by omega) (fun m h1 h2 => hno m (by omega) h2) A R _ ⟨hl, he, h⟩
theorem cl_index (l : Addr) (xs : Array Value) (n : Nat) (dd : Option Addr) (sl : Array (Option Value)) (x : Value) (e : Nat → Bool) (j : Nat) (hj : j < xs.size) (hs : (j : Int) < 2 ^ 63 - 1) (hit : e j = true) (hno : ∀ m, m < j → e m = false) :
    MeetsIn prog w (Builtin.«list.index» ⟨[.ref l, x], []⟩)
      (fun A R s => s.heap.get? l = some (lsO dd xs n sl) ∧ ItemsIn prog w A.in1 s xs x e ∧ R (.ok (.ret (.int j s.toks))) { s with toks := s.toks + 1 }) := by
  intro A R s h
  obtain ⟨hp, g, d, tk, os⟩ := s
  obtain ⟨hl, he, h⟩ := h
  wp_walk using wpAny_loadPart' hl
  have b1 : ((fun i : Int => if i < 0 then max 0 (i + (xs.size : Int)) else i) ((none : Option Int).getD 0)) = ((0 : Nat) : Int) := by simp
  have b2 : ((fun i : Int => if i < 0 then max 0 (i + (xs.size : Int)) else i) ((none : Option Int).getD (2 ^ 63 - 1))) = 2 ^ 63 - 1 := by simp
  rw [b1, b2]
  refine ⟨plainId_quiet plain_index_loop _, codeAny_builtin entry_index_loop ?_⟩
  rw [Around.under_plainId plain_index_loop _]
  exact cl_index_loop l xs n dd sl x e (2 ^ 63 - 1) j hj hs hit _ 0 rfl (Nat.zero_le _) (fun m _ h2 => hno m h2) A R _ ⟨hl, he, h⟩
end
end VM

set_option Elab.async false
set_option linter.all false
set_option maxRecDepth 100000
set_option maxHeartbeats 1000000
/-! VM7: comparisons, subscripts, len and their like, by values. -/
namespace VM
open PySem L2 MeetsSeq MeetsSeq2 MeetsSeq3 SeqRoads2
section
variable {K : PySem.W.Frag} {T : Tab} {w w' : Wd} {s s' : Store} {H H' : Hp} {X : Cx} {W : WX}

/-! ### == != -/
def rDEq (K : PySem.W.Frag) (T : Tab) (neg : Bool) : R2 := fun x y H Q => ∃ G a b c, FH G H ∧ Rep K T G x a ∧ Rep K T G y b ∧ eqN a b = some c ∧ Q (.bl (neg != c)) H
theorem op_eqT (hu : X.A.units + 41 < cLine) : OpR X (compareOp .Eq) (rDEq X.K T false) := by
  intro pins s σ H x y v u Q I rx ry h
  obtain ⟨G, a, b, c, fh, r1, r2, e, q⟩ := h
  refine (cmp_trees I fh 40 a b c x y v u e r1 r2 rx ry X.A hu).eq X.xe (EP X pins σ Q) ⟨.bl c, H, I, rfl, ?_⟩
  cases c <;> exact q
theorem op_neT (hu : X.A.units + 41 < cLine) : OpR X (compareOp .NotEq) (rDEq X.K T true) := by
  intro pins s σ H x y v u Q I rx ry h
  obtain ⟨G, a, b, c, fh, r1, r2, e, q⟩ := h
  refine (cmp_trees I fh 40 a b c x y v u e r1 r2 rx ry X.A hu).ne X.xe (EP X pins σ Q) ⟨.bl (!c), H, I, rfl, ?_⟩
  cases c <;> exact q
theorem rl_eq : Rl2 K T (rDEq K T false) dEq := fun w s H G v x v2 x2 y k fh sub r1 r2 hg Q q => by
  unfold dEq at hg
  cases e : eqN x x2 with
  | none =>
    rw [e] at hg
    cases hg
  | some c =>
    rw [e] at hg
    cases hg
    exact ⟨G, x, x2, c, fh, r1, r2, e, q _ _ _ k .refl (by cases c <;> exact .bl _)⟩
theorem rl_ne : Rl2 K T (rDEq K T true) dNe := fun w s H G v x v2 x2 y k fh sub r1 r2 hg Q q => by
  unfold dNe at hg
  cases e : eqN x x2 with
  | none =>
    rw [e] at hg
    cases hg
  | some c =>
    rw [e] at hg
    cases hg
    exact ⟨G, x, x2, c, fh, r1, r2, e, q _ _ _ k .refl (by cases c <;> exact .bl _)⟩
/-! ### < <= > >= -/
theorem ltN_lt : ∀ a b : List Nat, ltN a b = decide (a < b)
  | [], [] => rfl
  | [], _ :: _ => rfl
  | _ :: _, [] => rfl
  | a :: as, b :: bs => by
    unfold ltN
    rw [ltN_lt as bs]
    by_cases q : a = b
    · subst q
      rw [if_pos rfl]
      exact decide_eq_decide.mpr ⟨fun h => List.cons_lt_cons_iff.mpr (.inr ⟨rfl, h⟩), fun h => (List.cons_lt_cons_iff.mp h).elim (fun z => absurd z (Nat.lt_irrefl _)) fun z => z.2⟩
    · rw [if_neg q]
      exact decide_eq_decide.mpr ⟨fun h => List.cons_lt_cons_iff.mpr (.inl h), fun h => (List.cons_lt_cons_iff.mp h).elim id fun z => absurd z.1 q⟩
def rDLt : R2 := fun x y H Q => rI0 (fun i j => .bl (decide (i < j))) x y H Q ∨ ∃ i j, x = .str i ∧ y = .str j ∧ Q (.bl (decide (i.cps.toList < j.cps.toList))) H
theorem op_ltT : OpR X (compareOp .Lt) rDLt := op_lt.or op_lt_str
theorem rl_lt : Rl2 K T rDLt dLt := fun w s H G v x v2 x2 y k fh sub r1 r2 hg Q q => by
  cases x with
  | int i =>
    cases x2 with
    | int j =>
      cases hg
      cases rep_int r1
      cases rep_int r2
      exact .inl ⟨_, _, rfl, rfl, q _ _ _ k .refl (.bl _)⟩
    | _ => cases hg
  | str a =>
    cases x2 with
    | str b =>
      obtain ⟨rfl, _⟩ := rep_str r1
      obtain ⟨rfl, _⟩ := rep_str r2
      cases hg
      refine .inr ⟨_, _, rfl, rfl, ?_⟩
      have e : decide (a.toArray.toList < b.toArray.toList) = ltN a b := by rw [ltN_lt]
      show Q (.bl (decide (a.toArray.toList < b.toArray.toList))) H
      rw [e]
      exact q _ _ _ k .refl (.bl _)
    | _ => cases hg
  | _ => cases hg
theorem rl_cmpI {g : Int → Int → Bool} {f : D → D → Option D} (hf : ∀ x y z, f x y = some z → ∃ i j, x = .int i ∧ y = .int j ∧ z = .bl (g i j)) : Rl2 K T (rI0 fun i j => .bl (g i j)) f := fun w s H G v x v2 x2 y k fh sub r1 r2 hg Q q => by
  obtain ⟨i, j, rfl, rfl, rfl⟩ := hf _ _ _ hg
  cases rep_int r1
  cases rep_int r2
  exact ⟨i, j, rfl, rfl, q _ _ _ k .refl (.bl _)⟩
theorem rl_le : Rl2 K T (rI0 fun i j => .bl (decide (i ≤ j))) dLe := rl_cmpI fun x y z h => by
  cases x <;> try (cases h; done)
  cases y <;> try (cases h; done)
  cases h
  exact ⟨_, _, rfl, rfl, rfl⟩
theorem rl_gt : Rl2 K T (rI0 fun i j => .bl (decide (j < i))) dGt := rl_cmpI fun x y z h => by
  cases x <;> try (cases h; done)
  cases y <;> try (cases h; done)
  cases h
  exact ⟨_, _, rfl, rfl, rfl⟩
theorem rl_ge : Rl2 K T (rI0 fun i j => .bl (decide (j ≤ i))) dGe := rl_cmpI fun x y z h => by
  cases x <;> try (cases h; done)
  cases y <;> try (cases h; done)
  cases h
  exact ⟨_, _, rfl, rfl, rfl⟩
/-! ### in, not in -/
def rDIn (K : PySem.W.Frag) (T : Tab) (neg : Bool) : R2 := fun x y H Q => ∃ G a b c, FH G H ∧ Rep K T G x a ∧ Rep K T G y b ∧ inO a b = some c ∧ Q (.bl (neg != c)) H
theorem memO_some {x : D} : ∀ {ys : List D} {c : Bool}, memO x ys = some c → ∃ bs : List Bool, (∀ (j : Nat) (y : D), ys[j]? = some y → eqN y x = some (bs.getD j false)) ∧ bs.length = ys.length ∧ c = bs.any id
  | [], c, h => ⟨[], fun j y e => by simp at e, rfl, by cases h; rfl⟩
  | y :: r, c, h => by
    unfold memO at h
    cases e1 : eqN y x with
    | none =>
      rw [e1] at h
      cases h
    | some b =>
      cases e2 : memO x r with
      | none =>
        rw [e1, e2] at h
        cases h
      | some d =>
        rw [e1, e2] at h
        cases h
        obtain ⟨bs, h1, h2, h3⟩ := memO_some e2
        refine ⟨b :: bs, fun j z e => ?_, by rw [List.length_cons, List.length_cons, h2], by rw [h3]; rfl⟩
        cases j with
        | zero =>
          cases e
          exact e1
        | succ j => exact h1 j z (by simpa using e)
theorem range_any (bs : List Bool) : (List.range bs.length).any (fun j => bs.getD j false) = bs.any id := by
  rw [Bool.eq_iff_iff, List.any_eq_true, List.any_eq_true]
  constructor
  · rintro ⟨j, hj, h⟩
    have hj := List.mem_range.mp hj
    rw [List.getD_eq_getElem?_getD, List.getElem?_eq_getElem hj] at h
    exact ⟨_, List.getElem_mem hj, h⟩
  · rintro ⟨b, hb, h⟩
    obtain ⟨i, hi⟩ := List.getElem?_of_mem hb
    refine ⟨i, List.mem_range.mpr (List.getElem?_eq_some_iff.mp hi).1, ?_⟩
    rw [List.getD_eq_getElem?_getD, hi]
    exact h
theorem items_in {pins : List (Addr × Obj)} {σ : L2.St} {ss : Shared} (I : Inv X pins σ H ss) {G : Hp} (fh : FH G H) {x : V} {a : D} {v : Value} (rx : RelV x v) (r1 : Rep X.K T G x a) {vs : List V} {ys : List D} {its : List Value} (q1 : Reps X.K T G vs ys) (rv : Vals vs its) {bs : List Bool}
    (hb : ∀ (j : Nat) (y : D), ys[j]? = some y → eqN y a = some (bs.getD j false)) (A : Around) (hA : A.units + 41 < cLine) : ItemsIn X.prog X.w A ss its.toArray v (fun j => bs.getD j false) := fun j p => by
  obtain ⟨d1, v1, g1, g2, g3⟩ := reps_item q1 rv p
  exact (cmp_trees I fh 40 d1 a _ v1 x _ v (hb j d1 g1) g2 r1 g3 rx A hA).it
theorem cond_bl {neg : Bool} {c : Bool} {Q : VK} {σ : L2.St} {pins : List (Addr × Obj)} {s : Shared} (I : Inv X pins σ H s) (q : Q (.bl (neg != c)) H) : EP X pins σ Q (.bool (if neg then !c else c)) s := ⟨.bl _, H, I, rfl, by cases neg <;> cases c <;> exact q⟩
theorem isTup_of {h : Heap} {a : Addr} {its : Array Value} (t : h.IsTuple a its) : ∃ dd n sl, h.get? a = some (tuO dd its n sl) := by
  obtain ⟨⟨c, d, t', sl⟩, e, e2, n, e3⟩ := t
  simp only at e2 e3
  subst e2 e3
  exact ⟨d, n, sl, e⟩
theorem isLst_of {h : Heap} {a : Addr} {its : Array Value} (t : h.IsList a its) : ∃ dd n sl, h.get? a = some (lsO dd its n sl) := by
  obtain ⟨⟨c, d, t', sl⟩, e, e2, n, e3⟩ := t
  simp only at e2 e3
  subst e2 e3
  exact ⟨d, n, sl, e⟩
def inOp (neg : Bool) : CmpOp := if neg then .NotIn else .In
theorem in_slot {prog : Program} {w : World} {A : Around} {E : Value → Shared → Prop} {s : Shared} {neg : Bool} {c x : Value} {t id : String} {Q : Value → Shared → Prop} (hT : s.TypeIs c t) (slot : Slot t "__contains__" id)
    (h : ∀ E, wpAny (model prog w) A (call (.builtin id) [c, x]) (fun v s' => ∃ b, v = .bool b ∧ Q (.bool (if neg then !b else b)) s') E s) : wpAny (model prog w) A (compareOp (inOp neg) x c) Q E s := by
  cases neg with
  | false =>
    refine wpAny_bind (E := E) (Q := Q) (show wpAny _ A (contains c x) _ E s from wpAny_contains_slot hT slot (thn (h E) ?_))
    rintro v s' ⟨b, rfl, q⟩
    exact wpAny_truthy_bool (wpAny_pure q)
  | true =>
    refine wpAny_bind (E := E) (Q := Q) (show wpAny _ A (contains c x) _ E s from wpAny_contains_slot hT slot (thn (h E) ?_))
    rintro v s' ⟨b, rfl, q⟩
    exact wpAny_truthy_bool (wpAny_pure q)
theorem op_inT (hu : X.A.units + 64 < cLine) (neg : Bool) : OpR X (compareOp (inOp neg)) (rDIn X.K T neg) := by
  intro pins s σ H x y v u Q I rx ry h
  obtain ⟨G, a, b, c, fh, r1, r2, e, q⟩ := h
  have hA : X.A.in1.units + 41 < cLine := by
    show X.A.units + 1 + 41 < cLine
    omega
  cases b with
  | lst ys =>
    cases r2 with
    | lst h2 q2 z2 =>
      cases ry
      obtain ⟨its, rv, t1⟩ := lst_val I fh h2
      obtain ⟨bs, b1, b2, b3⟩ := memO_some e
      obtain ⟨dd, n, sl, e1⟩ := isLst_of t1
      refine in_slot (s := s) (neg := neg) (t := "list") ⟨_, e1, rfl⟩ PySem.F.slot_list_contains fun E => ?_
      refine call_meetsIn PySem.F.slot_list_contains ⟨_, e1, rfl⟩ PySem.F.entry_list_contains (PySem.F.args_list_contains_2 _ _) (cl_list _ its.toArray n dd sl v fun j => bs.getD j false) ⟨e1, items_in I fh rx r1 q2 rv b1 _ hA, _, rfl, ?_⟩
      rw [show its.toArray.size = bs.length by rw [List.size_toArray, ← rv.length, q2.length, b2], range_any, ← b3]
      exact cond_bl I q
  | tup ys =>
    obtain ⟨p, vs, rfl, h2, q2, z2⟩ := rep_tup r2
    cases ry
    obtain ⟨its, rv, t1⟩ := sqt_val I fh h2
    obtain ⟨bs, b1, b2, b3⟩ := memO_some e
    obtain ⟨dd, n, sl, e1⟩ := isTup_of t1
    refine in_slot (s := s) (neg := neg) (t := "tuple") ⟨_, e1, rfl⟩ PySem.F.slot_tuple_contains fun E => ?_
    refine call_meetsIn PySem.F.slot_tuple_contains ⟨_, e1, rfl⟩ PySem.F.entry_tuple_contains (PySem.F.args_tuple_contains_2 _ _) (cl_tuple _ its.toArray n dd sl v fun j => bs.getD j false) ⟨e1, items_in I fh rx r1 q2 rv b1 _ hA, _, rfl, ?_⟩
    rw [show its.toArray.size = bs.length by rw [List.size_toArray, ← rv.length, q2.length, b2], range_any, ← b3]
    exact cond_bl I q
  | dic kvs =>
    cases r2 with
    | dic h2 q2 z2 =>
      rename_i ad ks
      cases ry
      unfold inO at e
      dsimp only [] at e
      split at e
      · rename_i hk
        obtain ⟨k, rfl, ek⟩ : ∃ k, x = kV k ∧ a = keyOf k := by
          cases a <;> try (cases hk; done)
          · cases rep_int r1
            exact ⟨.inl _, rfl, rfl⟩
          · obtain ⟨rfl, _⟩ := rep_str r1
            exact ⟨.inr _, rfl, rfl⟩
        subst ek
        have g := fh.rd h2
        have gg : DGet H _ (kV k) (valV _ k) := .inl ⟨_, k, g, rfl, rfl⟩
        have ec : c = (valV ks k).isSome := by
          rcases getK_rep (n := 40) k q2 with ⟨g1, g2⟩ | ⟨v', d, g1, g2, g3⟩
          · rw [show getK eqN (keyOf k) kvs = some none from g1] at e
            cases e
            rw [g2]
            rfl
          · rw [show getK eqN (keyOf k) kvs = some (some d) from g1] at e
            cases e
            rw [g2]
            rfl
        cases neg with
        | false =>
          refine d_in (by omega) I gg rx fun s' I' => ?_
          rw [← ec]
          exact cond_bl (neg := false) I' q
        | true =>
          refine d_notIn (by omega) I gg rx fun s' I' => ?_
          rw [← ec]
          exact cond_bl (neg := true) I' q
      · cases e
  | str z =>
    obtain ⟨rfl, _⟩ := rep_str r2
    unfold inO at e
    cases a <;> try (cases e; done)
    rename_i t
    obtain ⟨rfl, _⟩ := rep_str r1
    match t, e with
    | [c'], e =>
      cases e
      have e1 : decide (c' ∈ (⟨z.toArray⟩ : Str).cps.toList) = decide (c' ∈ z) := by simp
      cases neg with
      | false => exact op_in_sign pins s σ H _ _ v u Q I rx ry ⟨c', _, rfl, rfl, by rw [e1]; revert q; cases decide (c' ∈ z) <;> exact id⟩
      | true => exact op_notIn_sign pins s σ H _ _ v u Q I rx ry ⟨c', _, rfl, rfl, by rw [e1]; revert q; cases decide (c' ∈ z) <;> exact id⟩
  | _ => cases e
theorem rl_in : Rl2 K T (rDIn K T false) dIn := fun w s H G v x v2 x2 y k fh sub r1 r2 hg Q q => by
  unfold dIn at hg
  cases e : inO x x2 with
  | none =>
    rw [e] at hg
    cases hg
  | some c =>
    rw [e] at hg
    cases hg
    exact ⟨G, x, x2, c, fh, r1, r2, e, q _ _ _ k .refl (by cases c <;> exact .bl _)⟩
theorem rl_notIn : Rl2 K T (rDIn K T true) dNotIn := fun w s H G v x v2 x2 y k fh sub r1 r2 hg Q q => by
  unfold dNotIn at hg
  cases e : inO x x2 with
  | none =>
    rw [e] at hg
    cases hg
  | some c =>
    rw [e] at hg
    cases hg
    exact ⟨G, x, x2, c, fh, r1, r2, e, q _ _ _ k .refl (by cases c <;> exact .bl _)⟩
end
end VM

set_option Elab.async false
set_option linter.all false
set_option maxRecDepth 100000
set_option maxHeartbeats 1000000
/-! VM8: subscripts, slices, len and other built-in functions, by values. -/
namespace VM
open PySem L2 MeetsSeq MeetsSeq2 MeetsSeq3 SeqRoads2
section
variable {K : PySem.W.Frag} {T : Tab} {w w' : Wd} {s s' : Store} {H H' : Hp} {X : Cx} {W : WX}

/-! ### x[i] -/
theorem ixO_at {α : Type} (xs : List α) (i : Int) : ixO xs i = atI xs i := by
  unfold ixO atI ixN
  by_cases h0 : 0 ≤ i
  · rw [if_pos h0, if_pos h0]
    by_cases h1 : i < (xs.length : Int)
    · rw [if_pos h1]
      rfl
    · rw [if_neg h1]
      exact List.getElem?_eq_none_iff.mpr (by omega)
  · rw [if_neg h0, if_neg h0]
    by_cases h1 : -(xs.length : Int) ≤ i
    · rw [if_pos h1, if_pos h1]
      rfl
    · rw [if_neg h1, if_neg h1]
      rfl
theorem atI_reps {F : Hp} {vs : List V} {ds : List D} (r : Reps K T F vs ds) {i : Int} {d : D} (h : ixO ds i = some d) : ∃ v, atI vs i = some v ∧ Rep K T F v d := by
  rw [ixO_at] at h
  unfold atI at h ⊢
  rw [r.length]
  cases e : ixN ds.length i with
  | none =>
    rw [e] at h
    cases h
  | some j =>
    rw [e] at h
    exact r.get h
def rIxDic : R2 := fun x y H Q => ∃ a v, x = .ref a ∧ DGet H a y (some v) ∧ Q v H
theorem ix_dic (hu : X.A.units + 1 < cLine) : IxR X rIxDic := by
  intro value slice pins s σ H x y v u Q I rx ry h hs
  obtain ⟨a, z, rfl, g, q⟩ := h
  cases rx
  exact PyProof.Rows.tail_any (dict_typeIs I g) PySem.F.slot_dict_getitem.lookup (d_getItem hu I g ry fun w' s' I' r' => ⟨z, H, I', r', q⟩) hs
def rIxA (K : PySem.W.Frag) : R2 := fun x y H Q => rIxL K x y H Q ∨ rIxT K x y H Q ∨ rIxS x y H Q ∨ rIxDic x y H Q
theorem ix_all (hu : X.A.units + 1 < cLine) : IxR X (rIxA X.K) := ix_list.or (ix_tup.or (ix_str.or (ix_dic hu)))
theorem key_of_rep {F : Hp} {x : V} {a : D} (r1 : Rep K T F x a) (hk : keyD a = true) : ∃ k, x = kV k ∧ a = keyOf k := by
  cases a <;> try (cases hk; done)
  · cases rep_int r1
    exact ⟨.inl _, rfl, rfl⟩
  · obtain ⟨rfl, _⟩ := rep_str r1
    exact ⟨.inr _, rfl, rfl⟩
/-- a rule whose result is shared already -/
def Rl2T (K : PySem.W.Frag) (T : Tab) (r : R2) (g : D → D → Option D) : Prop :=
  ∀ w s H v x v2 x2 y, SOk K T w s H → RepT K T w.F H v x → RepT K T w.F H v2 x2 → g x x2 = some y → ∀ Q : VK, (∀ v' H' w', SOk K T w' s H' → Nxt w s H w' s H' → Rep K T w'.F v' y → Q v' H') → r v v2 H Q
theorem se_op2T {E a b : Expr} {r : R2} {g : D → D → Option D} {f1 f2 : ME} (hE : ∀ {ta tb : TE}, PE X a ta → PE X b tb → PE X E (tOp r ta tb)) (rl : Rl2T K T r g) (h1 : SE K T .raw X W a f1) (h2 : SE K T .raw X W b f2) : SE K T .tree X W E (op2F g f1 f2) := .mk fun w env s σ H k eo Q p =>
  wpe_of (hE pe_wp pe_wp) (h1 w env s σ H k eo _ (Post.bind p fun v d H1 w1 s1 a b c q => h2 w1 env s1 σ H1 a (eo.nxt b) _ (Post.bind (Post.nxt (rel1 := fun w' _ => Rep K T w'.F) b q fun _ _ _ _ _ _ z => z) fun v2 d2 H2 w2 s2 a2 b2 c2 q2 => by
    cases h1 : open1 d s2 with
    | bad =>
      rw [h1] at q2
      exact q2.elim
    | exc c fs s3 =>
      unfold open1 at h1
      cases d <;> simp at h1
      split at h1 <;> cases h1
    | ok x s3 =>
      rw [h1] at q2
      obtain ⟨w3, k3, n3, r3, i3⟩ := open1_ok a2 (RepS.nxt b2 c) h1
      have q2 : Post K T W w1 s1 σ H1 (fun w' _ => Rep K T w'.F) Q ((open1 d2 s3).bind fun y s4 => ofO s4 (g x y)) := q2
      cases h2 : open1 d2 s3 with
      | bad =>
        rw [h2] at q2
        exact q2.elim
      | exc c fs s4 =>
        unfold open1 at h2
        cases d2 <;> simp at h2
        split at h2 <;> cases h2
      | ok y s4 =>
        rw [h2] at q2
        obtain ⟨w4, k4, n4, r4, i4⟩ := open1_ok k3 (RepS.nxt n3 c2) h2
        have q2 : Post K T W w1 s1 σ H1 (fun w' _ => Rep K T w'.F) Q (ofO s4 (g x y)) := q2
        cases hg : g x y with
        | none =>
          rw [hg] at q2
          exact q2.elim
        | some z =>
          rw [hg] at q2
          exact rl w4 s4 H2 v x v2 y z k4 (r3.sub n4.F) r4 hg _ fun v' H' w' h1 h2 h3 => q2.give h1 ((b2.trans (n3.trans n4)).trans h2) h3)))
theorem rl_ix : Rl2T K T (rIxA K) dIx := fun w s H v x v2 x2 y k r1 r2 hg Q q => by
  cases x with
  | lst xs =>
    cases x2 with
    | int i =>
      cases rep_int r2
      obtain ⟨a, vs, rfl, h, r, z⟩ := r1
      obtain ⟨v', e, r'⟩ := atI_reps r hg
      exact .inl ⟨a, vs, i, v', rfl, rfl, .of h, e, q _ _ _ k .refl r'⟩
    | _ => cases hg
  | tup xs =>
    cases x2 with
    | int i =>
      cases rep_int r2
      obtain ⟨a, vs, rfl, h, r, z⟩ := rep_tup r1
      obtain ⟨v', e, r'⟩ := atI_reps r hg
      exact .inr (.inl ⟨a, vs, i, v', rfl, rfl, sqt_fh K k.fh h, e, q _ _ _ k .refl r'⟩)
    | _ => cases hg
  | str z =>
    cases x2 with
    | int i =>
      cases rep_int r2
      obtain ⟨rfl, hz⟩ := rep_str r1
      have hg : (ixO z i).map (fun c => D.str [c]) = some y := hg
      cases e : ixO z i with
      | none =>
        rw [e] at hg
        cases hg
      | some c =>
        rw [e] at hg
        cases hg
        refine .inr (.inr (.inl ⟨_, i, c, rfl, rfl, by rw [str_len]; exact hz, ?_, q _ _ _ k .refl (.str [c] (show 1 ≤ sizeMax by decide))⟩))
        rw [← ixO_at]
        exact e
    | _ => cases hg
  | dic kvs =>
    obtain ⟨a, ks, rfl, h, r, z⟩ := r1
    have hg : (if keyD x2 then (match getK eqN x2 kvs with
      | some (some v) => some v
      | _ => none) else none) = some y := by cases x2 <;> exact hg
    split at hg
    · rename_i hk
      have r2' : Rep K T w.F v2 x2 := by cases x2 <;> first | exact r2 | cases hk
      obtain ⟨kk, rfl, rfl⟩ := key_of_rep r2' hk
      rcases getK_rep (n := 40) kk r with ⟨g1, g2⟩ | ⟨v', d, g1, g2, g3⟩
      · rw [show getK eqN (keyOf kk) kvs = some none from g1] at hg
        cases hg
      · rw [show getK eqN (keyOf kk) kvs = some (some d) from g1] at hg
        cases hg
        refine .inr (.inr (.inr ⟨a, v', rfl, .inl ⟨ks, kk, h, rfl, g2.symm⟩, q _ _ _ k .refl g3⟩))
    · cases hg
  | _ => cases hg

/-! ### x[a:b], x[::-1] -/
theorem sIx_eq (n d : Nat) (o : Option Int) : HT.sIx n d o = sIx n d o := by cases o <;> rfl
theorem cut_reps {F : Hp} {vs : List V} {ds : List D} (r : Reps K T F vs ds) (lo hi : Option Int) : Reps K T F (cutV vs lo hi) (cut ds lo hi) := by
  unfold cutV cut
  rw [r.length, sIx_eq, sIx_eq]
  exact (r.drop _).take _
theorem cut_le {α : Type} (xs : List α) (lo hi : Option Int) : (cut xs lo hi).length ≤ xs.length := by
  unfold cut
  rw [List.length_take, List.length_drop]
  omega
def rSlAll (K : PySem.W.Frag) : V → Option Int → Option Int → Hp → VK → Prop := fun x lo hi H Q => rSlL K x lo hi H Q ∨ rSlA K x lo hi H Q ∨ rSlS x lo hi H Q
theorem sl_all : SlR X (rSlAll X.K) := sl_list.or (sl_tupA.or sl_str)
theorem cut_str (z : List Nat) (lo hi : Option Int) : cutS ⟨z.toArray⟩ lo hi = ⟨(cut z lo hi).toArray⟩ := by
  unfold cutS cut
  rw [str_len, sIx_eq, sIx_eq]
theorem cut_whole {α : Type} (xs : List α) (lo hi : Option Int) (h : sIx xs.length 0 lo = 0 ∧ sIx xs.length xs.length hi = xs.length) : cut xs lo hi = xs := by
  unfold cut
  rw [h.1, h.2, List.drop_zero, Nat.sub_zero, List.take_length]
theorem rl_slice {lo hi : Option Int} : Rl1F K T (fun x H Q => rSlAll K x lo hi H Q) (dSlice lo hi) := fun w s H v x y k r1 hg Q q => by
  cases x with
  | lst xs =>
    cases hg
    obtain ⟨a, vs, rfl, h, r, z⟩ := r1
    exact .inl ⟨a, vs, rfl, .of h, give_lst k q (cut_reps r lo hi) (Nat.le_trans (cut_le _ _ _) z)⟩
  | tup xs =>
    cases hg
    obtain ⟨a, vs, rfl, h, r, z⟩ := rep_tup r1
    refine .inr (.inl ⟨a, vs, rfl, sqt_fh K k.fh h, fun e => ?_, fun _ => give_tup k q (cut_reps r lo hi) (Nat.le_trans (cut_le _ _ _) z)⟩)
    rw [r.length, sIx_eq, sIx_eq] at e
    refine give_flat k q rfl ?_
    rw [cut_whole xs lo hi e]
    exact .tup h r z
  | str xs =>
    cases hg
    obtain ⟨rfl, z⟩ := rep_str r1
    refine .inr (.inr ⟨_, rfl, by rw [str_len]; exact z, ?_⟩)
    rw [cut_str]
    exact give_flat k q rfl (.str _ (Nat.le_trans (cut_le _ _ _) z))
  | _ => cases hg
def WPO (X : Cx) (e : Option Expr) (σ : L2.St) (H : Hp) (Q : Option Int → Hp → Prop) : Prop := ∀ (pins : List (Addr × Obj)) (s : Shared), Inv X pins σ H s → wpAny (model X.prog X.w) X.A (evalPart e X.env) (fun u s' => ∃ o H', Inv X pins σ H' s' ∧ PySem.IsPart u o ∧ Q o H') X.xe s
theorem po_wp {e : Option Expr} : PO X e (WPO X e) := ⟨fun pins s σ H Q I h => h pins s I⟩
theorem wpo_of {e : Option Expr} {t : TO} (h : PO X e t) {σ : L2.St} {Q : Option Int → Hp → Prop} (q : t σ H Q) : WPO X e σ H Q := fun pins s I => h.run pins s σ H Q I q
def SO0 (K : PySem.W.Frag) (T : Tab) (X : Cx) (W : WX) (e : Option Expr) (f : Option ME) : Prop := ∀ w env s σ H, SOk K T w s H → EOk K T w env σ → ∀ Q : Option Int → Hp → Prop, Post K T W w s σ H (fun _ _ b c => b = c) Q (optI f env s) → WPO X e σ H Q
structure SO (K : PySem.W.Frag) (T : Tab) (X : Cx) (W : WX) (e : Option Expr) (f : Option ME) : Prop where
  run : SO0 K T X W e f
instance {K : PySem.W.Frag} {T : Tab} {X : Cx} {W : WX} {e : Option Expr} {f : Option ME} : CoeFun (SO K T X W e f) fun _ => SO0 K T X W e f := ⟨SO.run⟩
theorem so_none : SO K T X W none none := .mk fun w env s σ H k eo Q p => wpo_of po_none (p none H w k .refl rfl)
theorem so_some {e : Expr} {f : ME} (h : SE K T .raw X W e f) : SO K T X W (some e) (some f) := .mk fun w env s σ H k eo Q p =>
  wpo_of (po_some pe_wp) (h w env s σ H k eo _ (Post.bind p fun v d H1 w1 s1 a b c q => by
    cases d with
    | int i =>
      have c : Rep K T w1.F v (.int i) := c
      exact ⟨i, rep_int c, q _ H1 w1 a b rfl⟩
    | _ => exact q.elim))
theorem se_slice {a : Expr} {lo hi : Option Expr} {p2 pos : Pos} {f : ME} {g h : Option ME} (h1 : SE K T .raw X W a f) (h2 : SO K T X W lo g) (h3 : SO K T X W hi h) (hK : X.K = K) : SE K T (.own 1) X W (.Subscript a (.Slice lo hi none p2) pos) (eSlice f g h) := .mk fun w env s σ H k eo Q p => by
  subst hK
  exact wpe_of (pe_slice sl_all pe_wp po_wp po_wp) (h1 w env s σ H k eo _ (Post.bind p fun v d H1 w1 s1 a b c q => h2 w1 env s1 σ H1 a (eo.nxt b) _ (Post.bind (Post.nxt (rel1 := fun w' H' => OwnV X.K T (.own 1) w1 H1 w' H') b q fun _ _ _ _ _ _ z => z.nxt b) fun l l' H2 w2 s2 a2 b2 c2 q2 =>
    h3 w2 env s2 σ H2 a2 ((eo.nxt b).nxt b2) _ (Post.bind (Post.nxt (rel1 := fun w' H' => OwnV X.K T (.own 1) w2 H2 w' H') b2 q2 fun _ _ _ _ _ _ z => z.nxt b2) fun u u' H3 w3 s3 a3 b3 c3 q3 => by
      subst c2 c3
      cases ho : open1 d s3 with
      | bad =>
        rw [ho] at q3
        exact q3.elim
      | exc c fs s4 =>
        unfold open1 at ho
        cases d <;> simp at ho
        split at ho <;> cases ho
      | ok x s4 =>
        rw [ho] at q3
        obtain ⟨w4, k4, n4, r4, i4⟩ := open1_ok a3 ((RepS.nxt b2 c).nxt b3) ho
        have q3 : Post X.K T W w2 s2 σ H2 (fun w' H' => OwnV X.K T (.own 1) w2 H2 w' H') Q (ofO s4 (dSlice l u x)) := q3
        cases hg : dSlice l u x with
        | none =>
          rw [hg] at q3
          exact q3.elim
        | some z =>
          rw [hg] at q3
          exact rl_slice w4 s4 H3 v x z k4 r4 hg _ fun v' H' w' h1 h2 h3 => q3.give h1 ((b3.trans n4).trans h2) (h3.nxt (b3.trans n4))))))
/-! ### len, list, tuple, int .. -/
def rLenA (K : PySem.W.Frag) : List V → Hp → VK → Prop := fun xs H Q => (∃ x n, xs = [x] ∧ LenV K x H n ∧ Q (.int n) H) ∨ ∃ a kvs, xs = [.ref a] ∧ Rd H a (.dK kvs) ∧ Q (.int (kvs.length : Nat)) H
theorem call_lenA : CallR X (.builtin "len") (rLenA X.K) := call_len.or fun pins s σ H xs us Q I r h => by
  obtain ⟨a, kvs, rfl, e, q⟩ := h
  cases Vals.ref1 r
  exact d_len I e fun t s' I' => ⟨.int kvs.length, H, I', ⟨t, rfl⟩, q⟩
theorem rl_len : Rl1 K T (fun x H Q => rLenA K [x] H Q) dLen := fun w s H G v x y k fh sub r1 hg Q q => by
  cases x with
  | lst xs =>
    cases hg
    cases r1 with
    | lst h r z => exact .inl ⟨_, xs.length, rfl, .inl ⟨_, .of (fh.lst h), r.length.symm⟩, q _ _ _ k .refl (.int _)⟩
  | tup xs =>
    cases hg
    obtain ⟨a, vs, rfl, h, r, z⟩ := rep_tup r1
    exact .inl ⟨_, xs.length, rfl, .inr ⟨_, sqt_fh K fh h, r.length.symm⟩, q _ _ _ k .refl (.int _)⟩
  | str xs =>
    cases hg
    obtain ⟨rfl, z⟩ := rep_str r1
    exact .inl ⟨_, xs.length, rfl, ⟨by rw [str_len]; exact z, (str_len _).symm⟩, q _ _ _ k .refl (.int _)⟩
  | dic kvs =>
    cases hg
    cases r1 with
    | dic h r z =>
      refine .inr ⟨_, _, rfl, fh.rd h, ?_⟩
      rw [r.length]
      exact q _ _ _ k .refl (.int _)
  | set xs =>
    cases hg
    cases r1 with
    | tpn h hd r z => exact .inl ⟨_, xs.length, rfl, .inr ⟨_, sqt_fh K fh (.inl (.inr ⟨_, h⟩)), r.length.symm⟩, q _ _ _ k .refl (.int _)⟩
  | _ => cases hg
theorem rl_intOf : Rl1F K T (fun x H Q => (∃ i, [x] = [V.int i] ∧ Q (.int i) H) ∨ ∃ k, [x] = [V.bl k] ∧ Q (.int (if k then 1 else 0)) H) (fun d => match d with
    | .int a => some (.int a)
    | .bl b => some (.int (b2i b))
    | _ => none) := fun w s H v x y k r1 hg Q q => by
  cases x with
  | int i =>
    cases hg
    cases rep_int r1
    exact .inl ⟨_, rfl, give_flat k q rfl (.int _)⟩
  | bl b =>
    cases hg
    cases rep_bl r1
    exact .inr ⟨_, rfl, give_flat k q rfl (.int _)⟩
  | _ => cases hg
theorem rl_list : Rl1F K T (fun x H Q => ∃ p ys, [x] = [V.ref p] ∧ (SqL K H p ys ∨ SqT K H p ys) ∧ ∀ l, H l = none → Q (.ref l) (upd H l (.lst ys))) (fun d => match d with
    | .lst xs => some (.lst xs)
    | .tup xs => some (.lst xs)
    | _ => none) := fun w s H v x y k r1 hg Q q => by
  cases x with
  | lst xs =>
    cases hg
    obtain ⟨a, vs, rfl, h, r, z⟩ := r1
    exact ⟨a, vs, rfl, .inl (.of h), give_lst k q r z⟩
  | tup xs =>
    cases hg
    obtain ⟨a, vs, rfl, h, r, z⟩ := rep_tup r1
    exact ⟨a, vs, rfl, .inr (sqt_fh K k.fh h), give_lst k q r z⟩
  | _ => cases hg
theorem rl_tupleOf : Rl1F K T (fun x H Q => ∃ p ys, [x] = [V.ref p] ∧ ((SqL K H p ys ∧ ∀ l, H l = none → Q (.ref l) (upd H l (.tup ys))) ∨ (SqT K H p ys ∧ Q (.ref p) H))) dTuple := fun w s H v x y k r1 hg Q q => by
  cases x with
  | lst xs =>
    cases hg
    obtain ⟨a, vs, rfl, h, r, z⟩ := r1
    exact ⟨a, vs, rfl, .inl ⟨.of h, give_tup k q r z⟩⟩
  | tup xs =>
    cases hg
    obtain ⟨a, vs, rfl, h, r, z⟩ := rep_tup r1
    exact ⟨a, vs, rfl, .inr ⟨sqt_fh K k.fh h, give_flat k q rfl (.tup h r z)⟩⟩
  | _ => cases hg
end
end VM

set_option Elab.async false
set_option linter.all false
set_option maxRecDepth 100000
/-! VM9: tests, statements. -/
namespace VM
open PySem L2
section
variable {K : PySem.W.Frag} {T : Tab} {w w' : Wd} {s s' : Store} {H H' : Hp} {X : Cx} {W : WX}

/-! ### tests -/
theorem st_pw {e : Expr} {f : MT} (h : SW K T X W e f) : ST K T X W e f := .mk fun w env s σ H k eo Q p => wpt_of (PW.pt pw_wp) (h w env s σ H k eo Q p)
theorem sw_and1 {e : Expr} {pos : Pos} {f : MT} (h : ST K T X W e f) : SW K T X W (.BoolOp .And [e] pos) f := .mk fun w env s σ H k eo Q p => wpw_of (pw_and1 pt_wp) (h w env s σ H k eo Q p)
theorem sw_or1 {e : Expr} {pos : Pos} {f : MT} (h : ST K T X W e f) : SW K T X W (.BoolOp .Or [e] pos) f := .mk fun w env s σ H k eo Q p => wpw_of (pw_or1 pt_wp) (h w env s σ H k eo Q p)
theorem st_run {e : Expr} {f : MT} (h : ST K T X W e f) {w w1 : Wd} {s s1 : Store} {env : Env} {σ : L2.St} {H H1 : Hp} (k : SOk K T w1 s1 H1) (b : Nxt w s H w1 s1 H1) (eo : EOk K T w env σ) {Q : Bool → Hp → Prop} (p : Post K T W w s σ H (fun _ _ b c => b = c) Q (f env s1)) : WPT X e σ H1 Q :=
  h w1 env s1 σ H1 k (eo.nxt b) Q (Post.nxt b p fun _ _ _ _ _ _ z => z)
theorem se_run {md : Md} {e : Expr} {f : ME} (h : SE K T md X W e f) {w w1 : Wd} {s s1 : Store} {env : Env} {σ : L2.St} {H H1 : Hp} (k : SOk K T w1 s1 H1) (b : Nxt w s H w1 s1 H1) (eo : EOk K T w env σ) {Q : VK} (p : Post K T W w s σ H (fun w' H' => OwnV K T md w H w' H') Q (f env s1)) : WPE X e σ H1 Q :=
  h w1 env s1 σ H1 k (eo.nxt b) Q (Post.nxt b p fun _ _ _ _ _ _ z => z.nxt b)
theorem sw_and {a b : Expr} {rest : List Expr} {pos : Pos} {f g : MT} (ha : ST K T X W a f) (hb : SW K T X W (.BoolOp .And (b :: rest) pos) g) : SW K T X W (.BoolOp .And (a :: b :: rest) pos) (tAnd f g) := .mk fun w env s σ H k eo Q p =>
  wpw_of (pw_and pt_wp pw_wp) (ha w env s σ H k eo _ (Post.bind p fun v d H1 w1 s1 a1 b1 c q => by
    subst c
    cases v with
    | true => exact hb w1 env s1 σ H1 a1 (eo.nxt b1) Q (Post.nxt b1 q fun _ _ _ _ _ _ z => z)
    | false => exact q.give a1 b1 rfl))
theorem sw_or {a b : Expr} {rest : List Expr} {pos : Pos} {f g : MT} (ha : ST K T X W a f) (hb : SW K T X W (.BoolOp .Or (b :: rest) pos) g) : SW K T X W (.BoolOp .Or (a :: b :: rest) pos) (tOr f g) := .mk fun w env s σ H k eo Q p =>
  wpw_of (pw_or pt_wp pw_wp) (ha w env s σ H k eo _ (Post.bind p fun v d H1 w1 s1 a1 b1 c q => by
    subst c
    cases v with
    | false => exact hb w1 env s1 σ H1 a1 (eo.nxt b1) Q (Post.nxt b1 q fun _ _ _ _ _ _ z => z)
    | true => exact q.give a1 b1 rfl))
theorem st_not {a : Expr} {pos : Pos} {f : MT} (ha : ST K T X W a f) : ST K T X W (.UnaryOp .Not a pos) (tNot f) := .mk fun w env s σ H k eo Q p =>
  wpt_of (pt_not pt_wp) (ha w env s σ H k eo _ (Post.bind p fun v d H1 w1 s1 a1 b1 c q => by
    subst c
    exact q.give a1 b1 rfl))
theorem se_ifExp {md : Md} {c a b : Expr} {pos : Pos} {t : MT} {f g : ME} (hc : ST K T X W c t) (ha : SE K T md X W a f) (hb : SE K T md X W b g) : SE K T md X W (.IfExp c a b pos) (eIf t f g) := .mk fun w env s σ H k eo Q p =>
  wpe_of (pe_ifExp pt_wp pe_wp pe_wp) (hc w env s σ H k eo _ (Post.bind p fun v d H1 w1 s1 a1 b1 c q => by
    subst c
    cases v with
    | false => exact se_run hb a1 b1 eo q
    | true => exact se_run ha a1 b1 eo q))
/-- and, or, not as values -/
def eAnd (f g : ME) : ME := fun e s => (f e s).bind fun x s => match x with
  | .bl true => g e s
  | .bl false => .ok (.bl false) s
  | _ => .bad
def eOr (f g : ME) : ME := fun e s => (f e s).bind fun x s => match x with
  | .bl true => .ok (.bl true) s
  | .bl false => g e s
  | _ => .bad
def eNot (f : ME) : ME := fun e s => (f e s).bind fun x s => match x with
  | .bl b => .ok (.bl (!b)) s
  | _ => .bad
theorem rep_blx {F : Hp} {v : V} {b : Bool} (r : Rep K T F v (.bl b)) : v = .bl b := rep_bl r
theorem se_one {op : BoolOp} {e : Expr} {pos : Pos} {md : Md} {f : ME} (h : SE K T md X W e f) : SE K T md X W (.BoolOp op [e] pos) f := .mk fun w env s σ H k eo Q p => wpe_of (pe_one pe_wp) (h w env s σ H k eo Q p)
theorem se_and {a b : Expr} {rest : List Expr} {pos : Pos} {f g : ME} (ha : SE K T .tree X W a f) (hb : SE K T .tree X W (.BoolOp .And (b :: rest) pos) g) : SE K T .tree X W (.BoolOp .And (a :: b :: rest) pos) (eAnd f g) := .mk fun w env s σ H k eo Q p =>
  wpe_of (pe_and pe_wp pe_wp) (ha w env s σ H k eo _ (Post.bind p fun v d H1 w1 s1 a1 b1 c q => by
    cases d with
    | bl x =>
      have c : Rep K T w1.F v (.bl x) := c
      refine ⟨x, rep_bl c, ?_⟩
      cases x with
      | true => exact se_run hb a1 b1 eo q
      | false => exact q.give a1 b1 (.bl _)
    | _ => exact q.elim))
theorem se_or {a b : Expr} {rest : List Expr} {pos : Pos} {f g : ME} (ha : SE K T .tree X W a f) (hb : SE K T .tree X W (.BoolOp .Or (b :: rest) pos) g) : SE K T .tree X W (.BoolOp .Or (a :: b :: rest) pos) (eOr f g) := .mk fun w env s σ H k eo Q p =>
  wpe_of (pe_or pe_wp pe_wp) (ha w env s σ H k eo _ (Post.bind p fun v d H1 w1 s1 a1 b1 c q => by
    cases d with
    | bl x =>
      have c : Rep K T w1.F v (.bl x) := c
      refine ⟨x, rep_bl c, ?_⟩
      cases x with
      | false => exact se_run hb a1 b1 eo q
      | true => exact q.give a1 b1 (.bl _)
    | _ => exact q.elim))
theorem se_not {a : Expr} {pos : Pos} {f : ME} (ha : SE K T .tree X W a f) : SE K T .tree X W (.UnaryOp .Not a pos) (eNot f) := .mk fun w env s σ H k eo Q p =>
  wpe_of (pe_not pe_wp) (ha w env s σ H k eo _ (Post.bind p fun v d H1 w1 s1 a1 b1 c q => by
    cases d with
    | bl x =>
      have c : Rep K T w1.F v (.bl x) := c
      exact ⟨x, rep_bl c, q.give a1 b1 (.bl _)⟩
    | _ => exact q.elim))

/-! ### statements -/
section
variable (K T)
/-- what is wanted behind a statement's end -/
def PostS (rk : Nat) (W : WX) (w : Wd) (s : Store) (H : Hp) (D : Ends) (r : RS) : Prop := match r with
  | .nx e s' => ∀ σ' H' w', SOk K T w' s' H' → Nxt w s H w' s' H' → EOk K T w' e σ' → D.nx σ' H'
  | .cnt e s' => ∀ σ' H' w', SOk K T w' s' H' → Nxt w s H w' s' H' → EOk K T w' e σ' → D.ct σ' H'
  | .ret d s' => ∀ v H' w', SOk K T w' s' H' → Nxt w s H w' s' H' → OwnV K T (.own rk) w H w' H' v d → D.rt v H'
  | .exc c fs e s' => ∀ C dd fv σ' H' w', SOk K T w' s' H' → Nxt w s H w' s' H' → EOk K T w' e σ' → T.exc c = some C → w'.F dd = some (.xd fv) → RepF K T w'.F fv fs → W (.ref C) (some dd) σ' H'
  | .bad => False
def SS0 (rk : Nat) (X : Cx) (W : WX) (st : Stmt) (m : MS) : Prop := ∀ w env s σ H, SOk K T w s H → EOk K T w env σ → ∀ D : Ends, PostS K T rk W w s H D (m env s) → WPS X st D σ H
structure SS (rk : Nat) (X : Cx) (W : WX) (st : Stmt) (m : MS) : Prop where
  run : SS0 K T rk X W st m
instance {rk : Nat} {X : Cx} {W : WX} {st : Stmt} {m : MS} : CoeFun (SS K T rk X W st m) fun _ => SS0 K T rk X W st m := ⟨SS.run⟩
def SSs0 (rk : Nat) (X : Cx) (W : WX) (st : List Stmt) (m : MS) : Prop := ∀ w env s σ H, SOk K T w s H → EOk K T w env σ → ∀ D : Ends, PostS K T rk W w s H D (m env s) → WPSs X st D σ H
structure SSs (rk : Nat) (X : Cx) (W : WX) (st : List Stmt) (m : MS) : Prop where
  run : SSs0 K T rk X W st m
instance {rk : Nat} {X : Cx} {W : WX} {st : List Stmt} {m : MS} : CoeFun (SSs K T rk X W st m) fun _ => SSs0 K T rk X W st m := ⟨SSs.run⟩
end
theorem PostS.nxt {rk : Nat} {w1 : Wd} {s1 : Store} {H1 : Hp} {D : Ends} {r : RS} (n : Nxt w s H w1 s1 H1) (h : PostS K T rk W w s H D r) : PostS K T rk W w1 s1 H1 D r := by
  cases r with
  | nx e s' => exact fun σ' H' w' a b c => h σ' H' w' a (n.trans b) c
  | cnt e s' => exact fun σ' H' w' a b c => h σ' H' w' a (n.trans b) c
  | ret d s' => exact fun v H' w' a b c => h v H' w' a (n.trans b) (c.nxt n)
  | exc c fs e s' => exact fun C dd fv σ' H' w' a b c => h C dd fv σ' H' w' a (n.trans b) c
  | bad => exact h
theorem PostS.imp {rk : Nat} {D D' : Ends} {r : RS} (h : PostS K T rk W w s H D r) (h1 : ∀ σ H, D.nx σ H → D'.nx σ H) (h2 : ∀ σ H, D.ct σ H → D'.ct σ H) (h3 : ∀ v H, D.rt v H → D'.rt v H) : PostS K T rk W w s H D' r := by
  cases r with
  | nx e s' => exact fun σ' H' w' a b c => h1 _ _ (h σ' H' w' a b c)
  | cnt e s' => exact fun σ' H' w' a b c => h2 _ _ (h σ' H' w' a b c)
  | ret d s' => exact fun v H' w' a b c => h3 _ _ (h v H' w' a b c)
  | exc c fs e s' => exact h
  | bad => exact h
/-- an expression's value within a statement -/
theorem PostS.bind {α β : Type} {rk : Nat} {env : Env} {σ : L2.St} {rel : Wd → Hp → β → α → Prop} {Q : β → Hp → Prop} {D : Ends} {x : R α} {f : α → Store → RS} (eo : EOk K T w env σ) (h : PostS K T rk W w s H D (RSb x env f))
    (k : ∀ v d H' w' s', SOk K T w' s' H' → Nxt w s H w' s' H' → rel w' H' v d → PostS K T rk W w s H D (f d s') → Q v H') : Post K T W w s σ H rel Q x := by
  cases x with
  | ok d s' => exact fun v H' w' a b c => k v d H' w' s' a b c h
  | exc c fs s' => exact fun C dd fv H' w' a b c1 c2 c3 => h C dd fv σ H' w' a b (eo.nxt b) c1 c2 c3
  | bad => exact h
theorem PostS.giveN {rk : Nat} {D : Ends} {e : Env} (p : PostS K T rk W w s H D (.nx e s')) {σ' : L2.St} (a : SOk K T w' s' H') (b : Nxt w s H w' s' H') (c : EOk K T w' e σ') : D.nx σ' H' := p σ' H' w' a b c
theorem ss_nil {rk : Nat} : SSs K T rk X W [] sNil := .mk fun w env s σ H k eo D p => wpss_of pss_nil (p σ H w k .refl eo)
theorem ss_cons {rk : Nat} {st : Stmt} {rest : List Stmt} {m r : MS} (h1 : SS K T rk X W st m) (h2 : SSs K T rk X W rest r) : SSs K T rk X W (st :: rest) (sCons m r) := .mk fun w env s σ H k eo D p =>
  wpss_of (pss_cons ps_wp pss_wp) (h1 w env s σ H k eo _ (by
    unfold sCons at p
    cases e : m env s with
    | nx e1 s1 =>
      rw [e] at p
      exact fun σ' H' w' a b c => h2 w' e1 s1 σ' H' a c D (p.nxt b)
    | ret d s1 =>
      rw [e] at p
      exact p
    | cnt e1 s1 =>
      rw [e] at p
      exact p
    | exc c fs e1 s1 =>
      rw [e] at p
      exact p
    | bad =>
      rw [e] at p
      exact p))
theorem ss_one {rk : Nat} {st : Stmt} {m : MS} (h1 : SS K T rk X W st m) : SSs K T rk X W [st] m := .mk fun w env s σ H k eo D p => wpss_of (pss_one ps_wp) (h1 w env s σ H k eo D p)
theorem ss_pass {rk : Nat} {pos : Pos} : SS K T rk X W (.Pass pos) sNil := .mk fun w env s σ H k eo D p => wps_of ps_pass (p σ H w k .refl eo)
theorem ss_doc {rk : Nat} {x : Str} {j : Nat} {pos pos' : Pos} : SS K T rk X W (.Expr (.Constant (.str x) j pos) pos') sNil := .mk fun w env s σ H k eo D p => wps_of ps_doc (p σ H w k .refl eo)
theorem ss_cont {rk : Nat} {pos : Pos} : SS K T rk X W (.Continue pos) sCont := .mk fun w env s σ H k eo D p => wps_of ps_continue (p σ H w k .refl eo)
theorem ss_expr {rk : Nat} {md : Md} {e : Expr} {pos : Pos} {f : ME} (h : SE K T md X W e f) (hs : swapsWith e none pos.line X.env = pure false) : SS K T rk X W (.Expr e pos) (sExpr f) := .mk fun w env s σ H k eo D p =>
  wps_of (ps_expr pe_wp hs) (h w env s σ H k eo _ (PostS.bind eo p fun v d H1 w1 s1 a b c q => q.giveN a b (eo.nxt b)))
theorem ss_ret {rk : Nat} {e : Expr} {pos : Pos} {f : ME} (h : SE K T (.own rk) X W e f) : SS K T rk X W (.Return (some e) pos) (sRet f) := .mk fun w env s σ H k eo D p =>
  wps_of (ps_ret pe_wp) (h w env s σ H k eo _ (PostS.bind eo p fun v d H1 w1 s1 a b c q => q v H1 w1 a b c))
theorem ss_retN {rk : Nat} {pos : Pos} : SS K T rk X W (.Return none pos) (sRet (eC .non)) := .mk fun w env s σ H k eo D p =>
  wps_of ps_retN (p .non H w k .refl (by
    cases rk with
    | zero => exact ⟨[], .frz .non, List.nodup_nil, fun _ h => by cases h⟩
    | succ n => exact own_flat (F := w.F) rfl k .non))
theorem se_own0 {e : Expr} {f : ME} (h : SE K T .tree X W e f) : SE K T (.own 0) X W e f := .mk fun w env s σ H k eo Q p => h w env s σ H k eo Q (p.imp fun v d H' w' s' _ a b c q => q v H' w' a b ⟨[], .frz c, List.nodup_nil, fun _ h => by cases h⟩)
theorem ss_if {rk : Nat} {c : Expr} {a b : List Stmt} {pos : Pos} {t : MT} {m n : MS} (hc : ST K T X W c t) (ha : SSs K T rk X W a m) (hb : SSs K T rk X W b n) : SS K T rk X W (.If c a b pos) (sIf t m n) := .mk fun w env s σ H k eo D p =>
  wps_of (ps_if pt_wp pss_wp pss_wp) (hc w env s σ H k eo _ (PostS.bind eo p fun v d H1 w1 s1 a1 b1 c q => by
    subst c
    cases v with
    | true => exact ha w1 env s1 σ H1 a1 (eo.nxt b1) D (q.nxt b1)
    | false => exact hb w1 env s1 σ H1 a1 (eo.nxt b1) D (q.nxt b1)))

/-! ### targets -/
theorem EOk.set {env : Env} {σ : L2.St} (eo : EOk K T w env σ) (i : Nat) {v : V} {d : D} (r : RepS K T w v d) : EOk K T w (env.set i (some d)) (σ.set i (some v)) :=
  ⟨by rw [List.length_set, List.length_set]; exact eo.len, fun j x e => by
    rw [List.getElem?_set] at e ⊢
    by_cases ij : i = j
    · rw [if_pos ij] at e ⊢
      split at e
      · cases e
        rw [if_pos (by rw [← eo.len]; assumption)]
        exact ⟨v, rfl, r⟩
      · cases e
    · rw [if_neg ij] at e ⊢
      exact eo.get j x e⟩
theorem wipe_put {σ : L2.St} {i : Nat} {x : Option V} : ∀ {vs : List Nat}, i ∈ vs → L2.wipe (σ.set i x) vs = L2.wipe σ vs
  | v :: vs, h => by
    unfold L2.wipe
    rcases List.mem_cons.mp h with rfl | h
    · by_cases q : i ∈ vs
      · rw [wipe_put q]
      · have go : ∀ {vs : List Nat}, i ∉ vs → L2.wipe (σ.set i x) vs = (L2.wipe σ vs).set i x := fun {vs} => by
          induction vs with
          | nil => exact fun _ => rfl
          | cons u us ih =>
            intro hn
            unfold L2.wipe
            rw [ih (fun z => hn (List.mem_cons_of_mem _ z)), List.set_comm]
            exact fun z => hn (by rw [z]; exact List.mem_cons_self)
        rw [go q, List.set_set]
    · rw [wipe_put h]
def SG (K : PySem.W.Frag) (T : Tab) (is : List Nat) (g : MG) (tg : TG) : Prop := ∀ w s H, SOk K T w s H → ∀ env σ v d env', EOk K T w env σ → Rep K T w.F v d → g env d = some env' → ∀ Q : L2.St → Hp → Prop, (∀ σ', EOk K T w env' σ' → (∀ vs : List Nat, (∀ i ∈ is, i ∈ vs) → L2.wipe σ' vs = L2.wipe σ vs) → Q σ' H) → tg v σ H Q
theorem sg_name {i : Nat} : SG K T [i] (gName i) (L2.gName i) := fun w s H k env σ v d env' eo r hg Q q => by
  unfold VM.gName at hg
  split at hg
  · cases hg
    exact q _ (eo.set i (.of r)) fun vs h => wipe_put (h i List.mem_cons_self)
  · cases hg
def SGs (K : PySem.W.Frag) (T : Tab) (is : List Nat) (gs : List MG) (tg : TGs) : Prop := ∀ w s H, SOk K T w s H → ∀ env σ vs ds env', EOk K T w env σ → Reps K T w.F vs ds → gAll gs env ds = some env' → ∀ Q : L2.St → Hp → Prop, (∀ σ', EOk K T w env' σ' → (∀ vs : List Nat, (∀ i ∈ is, i ∈ vs) → L2.wipe σ' vs = L2.wipe σ vs) → Q σ' H) → tg vs σ H Q
theorem sgs_nil : SGs K T [] [] gNil := fun w s H k env σ vs ds env' eo r hg Q q => by
  cases r with
  | nil =>
    cases hg
    exact ⟨rfl, q _ eo fun _ _ => rfl⟩
  | cons h r => cases hg
theorem sgs_cons {is js : List Nat} {g : MG} {gs : List MG} {t : TG} {u : TGs} (h1 : SG K T is g t) (h2 : SGs K T js gs u) : SGs K T (is ++ js) (g :: gs) (gCons t u) := fun w s H k env σ vs ds env' eo r hg Q q => by
  cases r with
  | nil => cases hg
  | cons h r =>
    dsimp only [gAll] at hg
    split at hg
    · rename_i e1 he
      exact ⟨_, _, rfl, h1 w s H k env σ _ _ e1 eo h he _ fun σ' eo' w1 => h2 w s H k e1 σ' _ _ env' eo' r hg Q fun σ2 eo2 w2 => q σ2 eo2 fun vs hv => (w2 vs fun i hi => hv i (List.mem_append_right _ hi)).trans (w1 vs fun i hi => hv i (List.mem_append_left _ hi))⟩
    · cases hg
theorem gAll_len : ∀ {gs : List MG} {e e' : Env} {ds : List D}, gAll gs e ds = some e' → ds.length = gs.length
  | [], _, _, [], _ => rfl
  | [], _, _, _ :: _, h => by cases h
  | _ :: _, _, _, [], h => by cases h
  | g :: gs, e, e', d :: ds, h => by
    dsimp only [gAll] at h
    split at h
    · rw [List.length_cons, List.length_cons, gAll_len h]
    · cases h
/-- (a, b, ..) = a tuple -/
def gTupT (gs : List MG) : MG := fun e d => match d with
  | .tup ds => gAll gs e ds
  | _ => none
theorem sg_tup {is : List Nat} {gs : List MG} {t : TGs} (h : SGs K T is gs t) : SG K T is (gTupT gs) (L2.gTup K gs.length t) := fun w s H k env σ v d env' eo r hg Q q => by
  cases d with
  | tup ds =>
    obtain ⟨a, vs, rfl, h1, e1, z⟩ := rep_tup r
    have hg : gAll gs env ds = some env' := hg
    exact ⟨a, vs, rfl, sqt_fh K k.fh h1, by rw [e1.length]; exact gAll_len hg, h w s H k env σ vs ds env' eo e1 hg Q q⟩
  | _ => cases hg
theorem ss_asg {rk : Nat} {tg e : Expr} {pos : Pos} {f : ME} {g : MG} {t : TG} {is : List Nat} (he : SE K T .tree X W e f) (hg : PG X tg t) (hm : SG K T is g t) (hs : swapsWithSole [tg] e pos.line X.env = pure false) (hw : swappedStores [tg] e X.env = pure none)
    (h1 : (assignEach [tg] X.env).map (·.2) = [assign tg X.env]) : SS K T rk X W (.Assign [tg] e pos) (sAsg g f) := .mk fun w env s σ H k eo D p =>
  wps_of (ps_asg pe_wp hg hs hw h1) (he w env s σ H k eo _ (PostS.bind eo p fun v d H1 w1 s1 a b c q => by
    cases hgd : g env d with
    | none =>
      rw [hgd] at q
      exact q.elim
    | some e1 =>
      rw [hgd] at q
      exact hm w1 s1 H1 a env σ v d e1 (eo.nxt b) c hgd _ fun σ' eo' _ => q.giveN a b eo'))
theorem ss_set {rk : Nat} {i : Nat} {x : Str} {e : Expr} {pos pos' : Pos} {f : ME} (he : SE K T .tree X W e f) (hN : X.N.Nodup) (hi : X.N[i]? = some x) (hx : Loc X.env.scope x) (hf : X.fn x = true ∨ X.env.scope.names.lookup x = some .local) (hs : swapsWith e (some (.Name x pos')) pos.line X.env = pure false) :
    SS K T rk X W (.Assign [.Name x pos'] e pos) (sAsg (gName i) f) := .mk fun w env s σ H k eo D p =>
  wps_of (ps_set hN hi hx pe_wp hs hf) (he w env s σ H k eo _ (PostS.bind eo p fun v d H1 w1 s1 a b c q => by
    cases hgd : gName i env d with
    | none =>
      rw [hgd] at q
      exact q.elim
    | some e1 =>
      rw [hgd] at q
      exact sg_name w1 s1 H1 a env σ v d e1 (eo.nxt b) c hgd _ fun σ' eo' _ => q.giveN a b eo'))

/-! ### a thing of one's own is named -/
theorem SOk.own (k : SOk K T w s H) {w0 : Wd} {s0 : Store} {H0 : Hp} (n : Nxt w0 s0 H0 w s H) {j : Nat} {a : Addr} {d : D} {Q : List Addr} (o : Own K T w.F H j (.ref a) d (a :: Q)) (nw : New w0 H0 w (a :: Q)) :
    ∃ w', SOk K T w' (s ++ [⟨false, j, some d⟩]) H ∧ Nxt w0 s0 H0 w' (s ++ [⟨false, j, some d⟩]) H ∧ RepS K T w' (.ref a) (.ref s.length) ∧ Nxt w s H ⟨w.F, w.io ++ [a], w.Ps⟩ s H ∧ w' = ⟨w.F, w.io ++ [a], w.Ps ++ [a :: Q]⟩ := by
  have fl : (w.Ps ++ [a :: Q]).flatten = w.Ps.flatten ++ (a :: Q) := by simp
  have hio : ∀ (h : Nat) (b : Addr), w.io[h]? = some b → (w.io ++ [a])[h]? = some b := fun h b e => by
    rw [List.getElem?_append_left (List.getElem?_eq_some_iff.mp e).1]
    exact e
  refine ⟨⟨w.F, w.io ++ [a], w.Ps ++ [a :: Q]⟩, ⟨k.fh, by rw [List.length_append, List.length_append, k.lenI]; rfl, by rw [List.length_append, List.length_append, k.lenP]; rfl, fun h e b P he hb hP => ?_, ?_, fun p hp => ?_⟩, ⟨n.F, fun h b e => hio h b (n.io h b e), Nat.le_trans n.len (by rw [List.length_append]; omega), fun p hp hf hn => ?_, fun h e he hl => ?_⟩, ⟨a, by
      rw [← k.lenI]
      exact List.getElem?_concat_length, rfl⟩, ⟨Sub.refl _, hio, Nat.le_refl _, fun _ _ _ z => ⟨rfl, rfl, z⟩, fun _ _ z _ => ⟨z, rfl, fun _ _ _ _ => rfl⟩⟩, rfl⟩
  · by_cases lt : h < s.length
    · rw [List.getElem?_append_left lt] at he
      have hb : (w.io ++ [a])[h]? = some b := hb
      have hP : (w.Ps ++ [a :: Q])[h]? = some P := hP
      rw [List.getElem?_append_left (by rw [k.lenI]; exact lt)] at hb
      rw [List.getElem?_append_left (by rw [k.lenP]; exact lt)] at hP
      exact k.ent h e b P he hb hP
    · have hh : h = s.length := by
        have := (List.getElem?_eq_some_iff.mp he).1
        rw [List.length_append] at this
        simp at this
        omega
      subst hh
      have hb : (w.io ++ [a])[s.length]? = some b := hb
      have hP : (w.Ps ++ [a :: Q])[s.length]? = some P := hP
      rw [List.getElem?_concat_length] at he
      rw [← k.lenI, List.getElem?_concat_length] at hb
      rw [← k.lenP, List.getElem?_concat_length] at hP
      cases he
      cases hb
      cases hP
      exact ⟨o, fun _ => ⟨Q, rfl⟩⟩
  · show (w.Ps ++ [a :: Q]).flatten.Nodup
    rw [fl]
    refine List.nodup_append.mpr ⟨k.dis, nw.nd, fun x hx y hy e => ?_⟩
    subst e
    exact (nw.out x hy).2.1 hx
  · have hp : p ∈ (w.Ps ++ [a :: Q]).flatten := hp
    rw [fl] at hp
    rcases List.mem_append.mp hp with hp | hp
    · exact k.out p hp
    · exact (nw.out p hp).1
  · obtain ⟨x, y, z⟩ := n.keep p hp hf hn
    refine ⟨x, y, fun q => ?_⟩
    have q : p ∈ (w.Ps ++ [a :: Q]).flatten := q
    rw [fl] at q
    rcases List.mem_append.mp q with q | q
    · exact z q
    · rcases (nw.out p q).2.2.2 with r | r
      · exact hp r
      · exact hn r
  · obtain ⟨x, y, z⟩ := n.lock h e he hl
    have lt := (List.getElem?_eq_some_iff.mp x).1
    refine ⟨by rw [List.getElem?_append_left lt]; exact x, ?_, z⟩
    show (w.Ps ++ [a :: Q])[h]? = w0.Ps[h]?
    rw [List.getElem?_append_left (by rw [k.lenP]; exact lt)]
    exact y
/-- name = a new thing; what is no list or dict is a tree -/
def sOwnV (k i : Nat) (f : ME) : MS := fun e s => RSb (f e s) e fun d s => if i < e.length then (if contD d then .nx (e.set i (some (.ref s.length))) (s ++ [⟨false, k, some d⟩]) else .nx (e.set i (some d)) s) else .bad
theorem own_cont {F : Hp} {k : Nat} {v : V} {d : D} {P : List Addr} (o : Own K T F H (k + 1) v d P) (h : contD d = true) : ∃ a Q, v = .ref a ∧ P = a :: Q := by
  cases o with
  | flat hc _ => rw [hc] at h; cases h
  | lst h r z => exact ⟨_, _, rfl, rfl⟩
  | dic h r z => exact ⟨_, _, rfl, rfl⟩
  | ins hc h r => exact ⟨_, _, rfl, rfl⟩
theorem own_named {rk j i : Nat} {env : Env} {σ : L2.St} {v : V} {d : D} {w1 : Wd} {s1 : Store} {H1 : Hp} {D : Ends} (eo : EOk K T w env σ) (a : SOk K T w1 s1 H1) (b : Nxt w s H w1 s1 H1) (c : OwnV K T (.own (j + 1)) w H w1 H1 v d)
    (q : PostS K T rk W w s H D (if i < env.length then (if contD d then .nx (env.set i (some (.ref s1.length))) (s1 ++ [⟨false, j + 1, some d⟩]) else .nx (env.set i (some d)) s1) else .bad)) : D.nx (σ.set i (some v)) H1 := by
  split at q
  · obtain ⟨P, o, nw⟩ := c
    split at q
    · rename_i hc
      obtain ⟨x, Q, rfl, rfl⟩ := own_cont o hc
      obtain ⟨w2, k2, n2, r2, n3, e2⟩ := a.own b o nw
      exact q.giveN k2 n2 ((eo.nxt n2).set i r2)
    · obtain ⟨w2, k2, n2, r2⟩ := freeze_new a b o nw
      exact q.giveN k2 n2 ((eo.nxt n2).set i (.of r2))
  · exact q.elim
theorem ss_own {rk j : Nat} {i : Nat} {x : Str} {e : Expr} {pos pos' : Pos} {f : ME} (he : SE K T (.own (j + 1)) X W e f) (hN : X.N.Nodup) (hi : X.N[i]? = some x) (hx : Loc X.env.scope x) (hf : X.fn x = true ∨ X.env.scope.names.lookup x = some .local) (hs : swapsWith e (some (.Name x pos')) pos.line X.env = pure false) :
    SS K T rk X W (.Assign [.Name x pos'] e pos) (sOwnV (j + 1) i f) := .mk fun w env s σ H k eo D p =>
  wps_of (ps_set hN hi hx pe_wp hs hf) (he w env s σ H k eo _ (PostS.bind eo p fun v d H1 w1 s1 a b c q => own_named eo a b c q))
end
end VM

set_option Elab.async false
set_option linter.all false
set_option maxRecDepth 100000
set_option maxHeartbeats 1000000
/-! VM10: what is walked; for, while. -/
namespace VM
open PySem L2
section
variable {K : PySem.W.Frag} {T : Tab} {w w' : Wd} {s s' : Store} {H H' : Hp} {X : Cx} {W : WX}

/-! ### locks -/
theorem SOk.relk (k : SOk K T w s H) {h : Nat} {e : Ent} (he : s[h]? = some e) (b : Bool) : SOk K T w (s.set h ⟨b, e.k, e.d⟩) H where
  fh := k.fh
  lenI := by rw [List.length_set]; exact k.lenI
  lenP := by rw [List.length_set]; exact k.lenP
  ent := fun j f a P hj ha hP => by
    by_cases hh : h = j
    · subst hh
      rw [List.getElem?_set, if_pos rfl, if_pos (List.getElem?_eq_some_iff.mp he).1] at hj
      cases hj
      exact k.ent h e a P he ha hP
    · rw [List.getElem?_set, if_neg hh] at hj
      exact k.ent j f a P hj ha hP
  dis := k.dis
  out := k.out
theorem Nxt.relk {w0 : Wd} {s0 : Store} {H0 : Hp} (n : Nxt w0 s0 H0 w s H) {h : Nat} {e : Ent} (hs : ∀ f, s0[h]? = some f → f.lk = false) : Nxt w0 s0 H0 w (s.set h e) H where
  F := n.F
  io := n.io
  len := by rw [List.length_set]; exact n.len
  keep := n.keep
  lock := fun j f hj hl => by
    have ne : h ≠ j := fun z => by
      subst z
      rw [hs f hj] at hl
      cases hl
    obtain ⟨x, y, z⟩ := n.lock j f hj hl
    exact ⟨by rw [List.getElem?_set, if_neg ne]; exact x, y, z⟩
theorem unlock_ok (k : SOk K T w s H) (o : Option Nat) : SOk K T w (unlock o s) H := by
  unfold unlock
  split
  · rename_i h
    split
    · rename_i e
      exact k.relk e false
    · exact k
  · exact k
theorem unlock_nxt {w0 : Wd} {s0 : Store} {H0 : Hp} (n : Nxt w0 s0 H0 w s H) {o : Option Nat} (hs : ∀ h, o = some h → ∀ f, s0[h]? = some f → f.lk = false) : Nxt w0 s0 H0 w (unlock o s) H := by
  unfold unlock
  split
  · rename_i h
    split
    · exact n.relk (hs h rfl)
    · exact n
  · exact n
/-- true from now on -/
def Stb (K : PySem.W.Frag) (T : Tab) (w0 : Wd) (s0 : Store) (H0 : Hp) (φ : Hp → Prop) : Prop := ∀ w s H, SOk K T w s H → Nxt w0 s0 H0 w s H → φ H
def Lk (s : Store) (o : Option Nat) : Prop := ∀ h, o = some h → ∀ e, s[h]? = some e → e.lk = false
theorem stb_lst {a : Addr} {vs : List V} (h : w.F a = some (.lst vs)) : Stb K T w s H fun H => SqL K H a vs := fun w' s' H' k n => .of (k.fh.lst (n.F _ _ h))
/-- a list, its items shared and itself locked -/
theorem lock_lst (k : SOk K T w s H) {v : V} {d : D} {xs : List D} {s1 : Store} (r : RepS K T w v d) (h : open1 d s = .ok (.lst xs) s1) : ∃ a vs w2, v = .ref a ∧ SOk K T w2 (lockOf d s1).1 H ∧ Nxt w s H w2 (lockOf d s1).1 H ∧ Reps K T w2.F vs xs ∧ xs.length ≤ sizeMax ∧ Stb K T w2 (lockOf d s1).1 H (fun H => SqL K H a vs) ∧ Lk s (lockOf d s1).2 := by
  have tree : ∀ {v : V} {d : D}, d = .lst xs → Rep K T w.F v d → ∃ a vs, v = .ref a ∧ w.F a = some (.lst vs) ∧ Reps K T w.F vs xs ∧ xs.length ≤ sizeMax := fun e r => by
    subst e
    cases r with
    | lst h r z => exact ⟨_, _, rfl, h, r, z⟩
  cases d with
  | ref j =>
    obtain ⟨w1, k1, n1, r1, i1⟩ := open1_ok k r h
    obtain ⟨a, ha, rfl⟩ := r
    dsimp only [open1] at h
    cases he : s[j]? with
    | none =>
      rw [he] at h
      cases h
    | some e =>
      obtain ⟨lk, kk, x'⟩ := e
      rw [he] at h
      have ha1 : w1.io[j]? = some a := by rw [i1]; exact ha
      have fin : ∀ lk', s1[j]? = some ⟨lk', 1, some (.lst xs)⟩ → (lk' = false → lk = false) → ∃ a' vs w2, V.ref a = .ref a' ∧ SOk K T w2 (lockOf (.ref j) s1).1 H ∧ Nxt w s H w2 (lockOf (.ref j) s1).1 H ∧ Reps K T w2.F vs xs ∧ xs.length ≤ sizeMax ∧ Stb K T w2 (lockOf (.ref j) s1).1 H (fun H => SqL K H a' vs) ∧ Lk s (lockOf (.ref j) s1).2 := fun lk' he1 hlk => by
        obtain ⟨a2, P, ha2, hP, ok⟩ := k1.entry he1
        rw [ha1] at ha2
        cases ha2
        obtain ⟨Q, rfl⟩ := ok.2 (by intro z; cases z)
        have q0 := own1_nil ok.1
        subst q0
        obtain ⟨_, a3, vs, e3, hH, rr, zz⟩ := ok.1.shallow (Sub.refl _) fun _ hp => by cases hp
        cases e3
        have stab : ∀ st, st[j]? = some ⟨true, 1, some (.lst xs)⟩ → Stb K T w1 st H (fun H => SqL K H a vs) := fun st hst w' s' H' k' n' => by
          obtain ⟨_, _, hh⟩ := n'.lock j _ hst rfl
          have := hh [a] hP a List.mem_cons_self
          exact .of (this.trans hH)
        cases lk' with
        | true =>
          have el : lockOf (.ref j) s1 = (s1, none) := by
            dsimp only [lockOf]
            rw [he1]
          rw [el]
          exact ⟨a, vs, w1, rfl, k1, n1, rr, zz, stab s1 he1, fun h z => by cases z⟩
        | false =>
          have el : lockOf (.ref j) s1 = (s1.set j ⟨true, 1, some (.lst xs)⟩, some j) := by
            dsimp only [lockOf]
            rw [he1]
          rw [el]
          have l0 : ∀ f, s[j]? = some f → f.lk = false := fun f hf => by
            rw [he] at hf
            cases hf
            exact hlk rfl
          exact ⟨a, vs, w1, rfl, k1.relk he1 true, n1.relk l0, rr, zz, stab _ (by rw [List.getElem?_set, if_pos rfl, if_pos (List.getElem?_eq_some_iff.mp he1).1]), fun h z => by cases z; exact l0⟩
      cases x' with
      | none => cases lk <;> rcases kk with _ | _ | kk <;> cases h
      | some y =>
        rcases kk with _ | _ | kk
        · have hh : R.ok y s = R.ok (.lst xs) s1 := by cases lk <;> exact h
          cases hh
          have el : lockOf (.ref j) s = (s, none) := by
            dsimp only [lockOf]
            rw [he]
            cases lk <;> rfl
          rw [el]
          obtain ⟨a2, P, ha2, hP, ok⟩ := k.entry he
          rw [ha] at ha2
          cases ha2
          cases ok.1 with
          | frz q =>
            obtain ⟨a3, vs, e3, hF, rr, zz⟩ := tree rfl q
            cases e3
            exact ⟨a, vs, w, rfl, k, .refl, rr, zz, stb_lst hF, fun h z => by cases z⟩
        · have hh : R.ok y s = R.ok (.lst xs) s1 := by cases lk <;> exact h
          cases hh
          exact fin lk he fun z => z
        · cases lk with
          | true => cases h
          | false =>
            cases h
            exact fin false (by rw [List.getElem?_set, if_pos rfl, if_pos (List.getElem?_eq_some_iff.mp he).1]) fun _ => rfl
  | lst ys =>
    cases h
    obtain ⟨a, vs, rfl, hF, rr, zz⟩ := tree rfl r
    exact ⟨a, vs, w, rfl, k, .refl, rr, zz, stb_lst hF, fun h z => by cases z⟩
  | _ => cases h

/-! ### what is walked -/
def WPI (X : Cx) (tg iter : Expr) (σ : L2.St) (H : Hp) (R : It → Hp → Prop) : Prop := ∀ (pins : List (Addr × Obj)) (s : Shared), Inv X pins σ H s →
  wpAny (model X.prog X.w) X.A (eval iter X.env) (fun v s1 => wpAny (model X.prog X.w) X.A (pyIter v) (PIE X pins σ tg R) X.xe s1) X.xe s
theorem pi_wp {tg iter : Expr} : PI X tg iter (WPI X tg iter) := ⟨fun pins s σ H R I h => h pins s I⟩
theorem wpi_of {tg iter : Expr} {t : TI} (h : PI X tg iter t) {σ : L2.St} {R : It → Hp → Prop} (q : t σ H R) : WPI X tg iter σ H R := fun pins s I => h.run pins s σ H R I q
def Src (K : PySem.W.Frag) (T : Tab) (J : It) (ds : List D) (w0 : Wd) (s0 : Store) (H0 : Hp) : Prop := ∀ w s H, SOk K T w s H → Nxt w0 s0 H0 w s H →
  (∀ i, ds.length ≤ i → J.stop i H) ∧ ∀ i d, ds[i]? = some d → J.go i H ∧ ∀ x H', J.yld i H x H' → ∃ w', SOk K T w' s H' ∧ Nxt w s H w' s H' ∧ Rep K T w'.F x d
def PostI (K : PySem.W.Frag) (T : Tab) (W : WX) (w : Wd) (s : Store) (σ : L2.St) (H : Hp) (R : It → Hp → Prop) (r : VM.R (List D × Option Nat)) : Prop := match r with
  | .ok xo s' => ∀ J H' w', SOk K T w' s' H' → Nxt w s H w' s' H' → Src K T J xo.1 w' s' H' → Lk s xo.2 → R J H'
  | .exc c fs s' => ∀ C dd fv H' w', SOk K T w' s' H' → Nxt w s H w' s' H' → T.exc c = some C → w'.F dd = some (.xd fv) → RepF K T w'.F fv fs → W (.ref C) (some dd) σ H'
  | .bad => False
def SI0 (K : PySem.W.Frag) (T : Tab) (X : Cx) (W : WX) (tg iter : Expr) (f : MI) : Prop := ∀ w env s σ H, SOk K T w s H → EOk K T w env σ → ∀ R : It → Hp → Prop, PostI K T W w s σ H R (f env s) → WPI X tg iter σ H R
structure SI (K : PySem.W.Frag) (T : Tab) (X : Cx) (W : WX) (tg iter : Expr) (f : MI) : Prop where
  run : SI0 K T X W tg iter f
instance {K : PySem.W.Frag} {T : Tab} {X : Cx} {W : WX} {tg iter : Expr} {f : MI} : CoeFun (SI K T X W tg iter f) fun _ => SI0 K T X W tg iter f := ⟨SI.run⟩
theorem PostI.bind {α β : Type} {σ : L2.St} {rel : Wd → Hp → β → α → Prop} {Q : β → Hp → Prop} {RR : It → Hp → Prop} {x : R α} {g : α → Store → R (List D × Option Nat)} (h : PostI K T W w s σ H RR (x.bind g))
    (k : ∀ v d H' w' s', SOk K T w' s' H' → Nxt w s H w' s' H' → rel w' H' v d → PostI K T W w s σ H RR (g d s') → Q v H') : Post K T W w s σ H rel Q x := by
  cases x with
  | ok d s' => exact fun v H' w' a b c => k v d H' w' s' a b c h
  | exc c fs s' => exact h
  | bad => exact h
/-- anything that is walked: a list, a tuple, a text, a dict (which stays as it is) -/
def iAll (K : PySem.W.Frag) (te : TE) : TI := fun σ H R => te σ H fun x H1 => (∃ a xs, x = .ref a ∧ SqL K H1 a xs ∧ R (Itl K a) H1) ∨ (∃ a xs, x = .ref a ∧ SqT K H1 a xs ∧ R (Itt K a) H1) ∨ (∃ z, x = .str z ∧ R (Its z) H1) ∨
  ∃ d kvs, x = .ref d ∧ ((∃ o, H1 d = some (.frz o (.dK kvs)) ∧ R (Itk d o kvs) H1) ∨ (H1 d = some (.dK kvs) ∧ ∀ o, R (Itk d o kvs) (upd H1 d (.frz o (.dK kvs)))))
theorem pi_all {tg e : Expr} {te : TE} (hte : PE X e te) : PI X tg e (iAll X.K te) := by
  refine ⟨fun pins sh σ H RR inv hw => ?_⟩
  refine thn (hte.run pins sh σ H _ inv hw) fun val sh1 ⟨x, H1, inv1, rel1, post⟩ => ?_
  rcases post with ⟨a, xs, ex, sq, post⟩ | ⟨a, xs, ex, sq, post⟩ | ⟨z, ex, post⟩ | ⟨d, kvs, ex, post⟩
  · subst ex
    cases rel1
    obtain ⟨its, _, pl, _⟩ := inv1.list sq
    refine wpAny_pyIter_list pl.isList ?_
    exact pi_one (tk := sh1.toks) inv1 _ (turn_list a _) ⟨_, Heap.get?_push_size _ rfl, rfl, rfl⟩ post
  · subst ex
    cases rel1
    obtain ⟨its, _, pl, _⟩ := inv1.tuple sq
    refine wpAny_pyIter_tuple (show sh1.heap.IsTuple a its.toArray from pl) ?_
    exact pi_one (tk := sh1.toks) inv1 _ (turn_tuple a _) ⟨_, Heap.get?_push_size _ rfl, rfl, rfl⟩ post
  · subst ex
    obtain ⟨tk, rfl⟩ := rel1
    cases asc : z.cps.all (· < 128) with
    | false => exact wpAny_pyIter_wide asc (pi_one (tk := sh1.toks) inv1 _ (turn_str _ z tk "str_iterator" (.inr rfl)) ⟨_, Heap.get?_push_size _ rfl, rfl, rfl⟩ post)
    | true => exact wpAny_pyIter_ascii asc (pi_one (tk := sh1.toks) inv1 _ (turn_str _ z tk "str_ascii_iterator" (.inl rfl)) ⟨_, Heap.get?_push_size _ rfl, rfl, rfl⟩ post)
  · subst ex
    obtain rfl : val = Value.ref d := rel1
    have locked : ∀ (o : Obj) (H2 : Hp), Inv X pins σ H2 sh1 → H2 d = some (.frz o (.dK kvs)) → RR (Itk d o kvs) H2 → wpAny (model X.prog X.w) X.A (pyIter (.ref d)) (PIE X pins σ tg RR) X.xe sh1 := fun o H2 inv2 hd post2 => by
      obtain ⟨u1, u2, u3, es, ep, vs, u4, u5, kv, mm⟩ := inv2.frzK hd
      refine iter_keys u1 u2 u3 u4 (pi_one (tk := sh1.toks) inv2 _ (turn_keys _ u4) ⟨_, Heap.get?_push_size _ rfl, rfl, ?_⟩ post2)
      rw [u5] <;> rfl
    rcases post with ⟨o, hd, post⟩ | ⟨hd, post⟩
    · exact locked o H1 inv1 hd post
    · obtain ⟨o, inv2⟩ := inv1.lock hd trivial
      exact locked o _ inv2 upd_same (post o)
/-- a dict is locked for good -/
def tLk (td : TE) : TE := fun σ H Q => td σ H fun x H1 => ∃ d kvs, x = .ref d ∧ ((∃ o, H1 d = some (.frz o (.dK kvs)) ∧ Q x H1) ∨ (H1 d = some (.dK kvs) ∧ ∀ o, Q x (upd H1 d (.frz o (.dK kvs)))))
theorem pe_lk {e : Expr} {td : TE} (he : PE X e td) : PE X e (tLk td) := by
  refine ⟨fun pins sh σ H Q inv hw => ?_⟩
  refine thn (he.run pins sh σ H _ inv hw) fun val sh1 ⟨x, H1, inv1, rel1, d, kvs, ex, post⟩ => ?_
  rcases post with ⟨o, hd, post⟩ | ⟨hd, post⟩
  · exact ⟨x, H1, inv1, rel1, post⟩
  · obtain ⟨o, inv2⟩ := inv1.lock hd trivial
    exact ⟨x, _, inv2, rel1, post o⟩
/-- the lock does not show -/
theorem SOk.lockD (k : SOk K T w s H) {d : Addr} {o : Obj} {kvs : List (Key × V)} (hF : w.F d = some (.dK kvs)) (hH : H d = some (.dK kvs)) : SOk K T w s (upd H d (.frz o (.dK kvs))) ∧ Nxt w s H w s (upd H d (.frz o (.dK kvs))) := by
  have nP : d ∉ w.Ps.flatten := fun z => by
    rw [k.out d z] at hF
    cases hF
  refine ⟨⟨fun a u e => ?_, k.lenI, k.lenP, fun h e a P he ha hP => ?_, k.dis, k.out⟩, ⟨Sub.refl _, fun _ _ z => z, Nat.le_refl _, fun p hp hf hn => ⟨upd_ne fun z => by
    subst z
    rcases hf with hf | hf
    · rw [hF] at hf; cases hf
    · exact hf _ hH, rfl, hn⟩, fun h e he hl => ⟨he, rfl, fun P hP p hp => upd_ne fun z => nP (mem_flat hP (by rw [← z]; exact hp))⟩⟩⟩
  · by_cases z : a = d
    · subst z
      rw [hF] at e
      cases e
      exact .inr ⟨⟨kvs, rfl⟩, o, upd_same⟩
    · rw [upd_ne z]
      exact k.fh a u e
  · have old := k.ent h e a P he ha hP
    unfold EntOk at old ⊢
    cases q : e.d with
    | none =>
      rw [q] at old
      exact old
    | some y =>
      rw [q] at old
      exact ⟨old.1.sub (Sub.refl _) fun p hp => upd_ne fun z => nP (mem_flat hP (by rw [← z]; exact hp)), old.2⟩
theorem FH.dicL {F H : Hp} (f : FH F H) {d : Addr} {kvs : List (Key × V)} (hF : F d = some (.dK kvs)) : H d = some (.dK kvs) ∨ ∃ o, H d = some (.frz o (.dK kvs)) := (f d _ hF).elim .inl fun ⟨_, o, h⟩ => .inr ⟨o, h⟩
/-- of a tree's dict: the state with the dict locked -/
theorem dict_locked (k : SOk K T w s H) {d : Addr} {kvs : List (Key × V)} (hF : w.F d = some (.dK kvs)) {φ : Obj → Hp → Prop} (h : ∀ o H', SOk K T w s H' → Nxt w s H w s H' → H' d = some (.frz o (.dK kvs)) → φ o H') :
    (∃ o, H d = some (.frz o (.dK kvs)) ∧ φ o H) ∨ (H d = some (.dK kvs) ∧ ∀ o, φ o (upd H d (.frz o (.dK kvs)))) := by
  rcases k.fh.dicL hF with hH | ⟨o, hH⟩
  · exact .inr ⟨hH, fun o => h o _ (k.lockD hF hH).1 (k.lockD hF hH).2 upd_same⟩
  · exact .inl ⟨o, hH, h o H k .refl hH⟩
theorem frz_stb (k : SOk K T w s H) {d : Addr} {o : Obj} {kvs : List (Key × V)} (hF : w.F d = some (.dK kvs)) (hH : H d = some (.frz o (.dK kvs))) : Stb K T w s H fun H => H d = some (.frz o (.dK kvs)) := fun w' s' H' k' n => by
  have nP : d ∉ w.Ps.flatten := fun z => by
    rw [k.out d z] at hF
    cases hF
  obtain ⟨x, _, _⟩ := n.keep d (by rw [hH]; intro z; cases z) (.inr fun kvs z => by rw [hH] at z; cases z) nP
  exact x.trans hH
end
end VM

set_option Elab.async false
set_option linter.all false
set_option maxRecDepth 100000
set_option maxHeartbeats 1000000
/-! VM11: what is walked, by expressions; for, while. -/
namespace VM
open PySem L2
section
variable {K : PySem.W.Frag} {T : Tab} {w w' : Wd} {s s' : Store} {H H' : Hp} {X : Cx} {W : WX}

theorem open1_noexc {d : D} {c : Nat} {fs : List (Nat × D)} (h : open1 d s = .exc c fs s') : False := by
  unfold open1 at h
  cases d <;> simp at h
  split at h <;> cases h
theorem frozen_noexc {d : D} {c : Nat} {fs : List (Nat × D)} (h : frozen d s = .exc c fs s') : False := by
  unfold frozen at h
  cases d <;> simp at h
  split at h <;> cases h
/-- the things of a list, tuple, text, dict -/
def iSeqA (f : ME) : MI := fun e s => (f e s).bind fun d s => match view s d with
  | some (.dic _) => (frozen d s).bind fun x s => match x with
    | .dic kvs => .ok (kvs.map (·.1), none) s
    | _ => .bad
  | some (.lst _) => (open1 d s).bind fun x s => match x with
    | .lst xs => .ok (xs, (lockOf d s).2) (lockOf d s).1
    | _ => .bad
  | some (.tup _) => (frozen d s).bind fun x s => match x with
    | .tup xs => .ok (xs, none) s
    | _ => .bad
  | some (.fl _) => match d with
    | .fl xs => .ok (xs, none) s
    | _ => .bad
  | some (.str _) => match d with
    | .str z => .ok (z.map fun c => .str [c], none) s
    | _ => .bad
  | _ => .bad
theorem src_lst {a : Addr} {vs : List V} {xs : List D} (st : Stb K T w s H fun H => SqL K H a vs) (r : Reps K T w.F vs xs) (k : SOk K T w s H) (inj : ∀ (w' : Wd) (s' : Store) (H' : Hp), SOk K T w' s' H' → Nxt w s H w' s' H' → ∀ ys, SqL K H' a ys → ys = vs) : Src K T (Itl K a) xs w s H := fun w' s' H' k' n => by
  have sq := st w' s' H' k' n
  refine ⟨fun i hi => ⟨vs, sq, by rw [r.length]; exact hi⟩, fun i d hd => ?_⟩
  obtain ⟨v, hv, rv⟩ := r.get hd
  refine ⟨⟨vs, v, sq, hv⟩, fun x H2 hy => ?_⟩
  obtain ⟨rfl, hx⟩ := hy
  have := hx vs sq
  rw [hv] at this
  cases this
  exact ⟨w', k', .refl, rv.sub n.F⟩
theorem src_lst' {a : Addr} {vs : List V} {xs : List D} (st : Stb K T w s H fun H => SqL K H a vs) (r : Reps K T w.F vs xs) : Src K T (Itl K a) xs w s H := fun w' s' H' k' n => by
  have sq := st w' s' H' k' n
  refine ⟨fun i hi => ⟨vs, sq, by rw [r.length]; exact hi⟩, fun i d hd => ?_⟩
  obtain ⟨v, hv, rv⟩ := r.get hd
  refine ⟨⟨vs, v, sq, hv⟩, fun x H2 hy => ?_⟩
  obtain ⟨rfl, hx⟩ := hy
  have e := hx vs sq
  rw [hv] at e
  cases e
  exact ⟨w', k', .refl, rv.sub n.F⟩
theorem src_tup {a : Addr} {vs : List V} {xs : List D} (h : SqT K w.F a vs) (r : Reps K T w.F vs xs) : Src K T (Itt K a) xs w s H := fun w' s' H' k' n => by
  have sq := sqt_fh K k'.fh (sqt_sub K n.F h)
  refine ⟨fun i hi => ⟨vs, sq, by rw [r.length]; exact hi⟩, fun i d hd => ?_⟩
  obtain ⟨v, hv, rv⟩ := r.get hd
  refine ⟨⟨vs, v, sq, hv⟩, fun x H2 hy => ?_⟩
  obtain ⟨rfl, hx⟩ := hy
  have e := hx vs sq
  rw [hv] at e
  cases e
  exact ⟨w', k', .refl, rv.sub n.F⟩
theorem src_str {z : List Nat} : Src K T (Its ⟨z.toArray⟩) (z.map fun c => .str [c]) w s H := fun w' s' H' k' n => by
  refine ⟨fun i hi => ?_, fun i d hd => ?_⟩
  · rw [List.length_map] at hi
    show (z.toArray).size ≤ i
    simpa using hi
  · rw [List.getElem?_map] at hd
    cases e : z[i]? with
    | none =>
      rw [e] at hd
      cases hd
    | some c =>
      rw [e] at hd
      cases hd
      have lt := (List.getElem?_eq_some_iff.mp e).1
      refine ⟨?_, fun x H2 hy => ?_⟩
      · show i < (z.toArray).size
        simpa using lt
      · obtain ⟨rfl, c2, e2, rfl⟩ := hy
        have e3 : z[i]? = some c2 := by simpa using e2
        rw [e] at e3
        cases e3
        exact ⟨w', k', .refl, .str [c] (show 1 ≤ sizeMax by decide)⟩
theorem keyR_rep {F : Hp} {k : Key} {d : D} (h : KeyR k d) : Rep K T F (kV k) d := by
  obtain ⟨rfl, h⟩ := h
  cases k with
  | inl i => exact .int i
  | inr x =>
    have r := Rep.str (K := K) (T := T) (F := F) x.cps.toList h
    exact r
theorem repK_at2 {G : Hp} : ∀ {kvs : List (Key × V)} {ds : List (D × D)}, RepK K T G kvs ds → ∀ {i : Nat} {p : D × D}, ds[i]? = some p → ∃ k v, kvs[i]? = some (k, v) ∧ KeyR k p.1 ∧ Rep K T G v p.2
  | _, _, .nil, i, p, e => by simp at e
  | _, _, .cons hk h r, 0, p, e => by
    cases e
    exact ⟨_, _, rfl, hk, h⟩
  | _, _, .cons hk h r, i + 1, p, e => by
    obtain ⟨k, v, h1, h2⟩ := repK_at2 r (i := i) (by simpa using e)
    exact ⟨k, v, by simpa using h1, h2⟩
theorem src_keys {d : Addr} {o : Obj} {kvs : List (Key × V)} {ds : List (D × D)} (hF : w.F d = some (.dK kvs)) (r : RepK K T w.F kvs ds) (k : SOk K T w s H) (hH : H d = some (.frz o (.dK kvs))) : Src K T (Itk d o kvs) (ds.map (·.1)) w s H := fun w' s' H' k' n => by
  have fz := frz_stb k hF hH w' s' H' k' n
  refine ⟨fun i hi => ⟨fz, by rw [r.length]; simpa using hi⟩, fun i x hd => ?_⟩
  rw [List.getElem?_map] at hd
  cases e : ds[i]? with
  | none =>
    rw [e] at hd
    cases hd
  | some p =>
    rw [e] at hd
    cases hd
    obtain ⟨kk, v, e1, e2, e3⟩ := repK_at2 r e
    refine ⟨⟨fz, (List.getElem?_eq_some_iff.mp e1).1⟩, fun x H2 hy => ?_⟩
    obtain ⟨rfl, k2, v2, e4, rfl⟩ := hy
    rw [e1] at e4
    cases e4
    exact ⟨w', k', .refl, keyR_rep e2⟩
theorem src_vals {d : Addr} {o : Obj} {kvs : List (Key × V)} {ds : List (D × D)} (hF : w.F d = some (.dK kvs)) (r : RepK K T w.F kvs ds) (k : SOk K T w s H) (hH : H d = some (.frz o (.dK kvs))) : Src K T (Itd d o kvs) (ds.map (·.2)) w s H := fun w' s' H' k' n => by
  have fz := frz_stb k hF hH w' s' H' k' n
  refine ⟨fun i hi => ⟨fz, by rw [r.length]; simpa using hi⟩, fun i x hd => ?_⟩
  rw [List.getElem?_map] at hd
  cases e : ds[i]? with
  | none =>
    rw [e] at hd
    cases hd
  | some p =>
    rw [e] at hd
    cases hd
    obtain ⟨kk, v, e1, e2, e3⟩ := repK_at2 r e
    refine ⟨⟨fz, (List.getElem?_eq_some_iff.mp e1).1⟩, fun x H2 hy => ?_⟩
    obtain ⟨rfl, k2, e4⟩ := hy
    rw [e1] at e4
    cases e4
    exact ⟨w', k', .refl, e3.sub n.F⟩
theorem new_pair (k : SOk K T w s H) {p : Addr} {x y : V} {a b : D} (hp : H p = none) (r1 : Rep K T w.F x a) (r2 : Rep K T w.F y b) : ∃ w', SOk K T w' s (upd H p (.tup [x, y])) ∧ Nxt w s H w' s (upd H p (.tup [x, y])) ∧ Rep K T w'.F (.ref p) (.tup [a, b]) := by
  obtain ⟨w2, h1, h2, h3, _⟩ := k.new (o := .tup [x, y]) hp
  exact ⟨w2, h1, h2, .tup (.of h3) (.cons (r1.sub h2.F) (.cons (r2.sub h2.F) .nil)) (show 2 ≤ sizeMax by decide)⟩
theorem src_items {d : Addr} {o : Obj} {kvs : List (Key × V)} {ds : List (D × D)} (hF : w.F d = some (.dK kvs)) (r : RepK K T w.F kvs ds) (k : SOk K T w s H) (hH : H d = some (.frz o (.dK kvs))) : Src K T (Iti d o kvs) (ds.map fun p => .tup [p.1, p.2]) w s H := fun w' s' H' k' n => by
  have fz := frz_stb k hF hH w' s' H' k' n
  refine ⟨fun i hi => ⟨fz, by rw [r.length]; simpa using hi⟩, fun i x hd => ?_⟩
  rw [List.getElem?_map] at hd
  cases e : ds[i]? with
  | none =>
    rw [e] at hd
    cases hd
  | some p =>
    rw [e] at hd
    cases hd
    obtain ⟨kk, v, e1, e2, e3⟩ := repK_at2 r e
    refine ⟨⟨fz, (List.getElem?_eq_some_iff.mp e1).1⟩, fun x H2 hy => ?_⟩
    obtain ⟨p2, k2, v2, e4, rfl, hn, rfl⟩ := hy
    rw [e1] at e4
    cases e4
    exact new_pair k' hn (keyR_rep e2) (e3.sub n.F)
theorem src_range {lo : Int} {n : Nat} : Src K T (Itr lo n) ((List.range n).map fun (i : Nat) => .int (lo + (i : Int))) w s H := fun w' s' H' k' _ => by
  refine ⟨fun i hi => (show n ≤ i by simpa using hi), fun i x hd => ?_⟩
  rw [List.getElem?_map] at hd
  by_cases lt : i < n
  · rw [List.getElem?_range lt] at hd
    cases hd
    refine ⟨lt, fun x H2 hy => ?_⟩
    obtain ⟨rfl, rfl⟩ := hy
    exact ⟨w', k', .refl, .int _⟩
  · rw [List.getElem?_eq_none_iff.mpr (by simpa using Nat.le_of_not_lt lt)] at hd
    cases hd
theorem enumL_at : ∀ (j : Nat) (xs : List D) (i : Nat), (enumL j xs)[i]? = xs[i]?.map fun x => .tup [.int ((j + i : Nat) : Int), x]
  | _, [], i => by simp [enumL]
  | j, x :: r, 0 => by simp [enumL]
  | j, x :: r, i + 1 => by
    have e := enumL_at (j + 1) r i
    simp only [enumL, List.getElem?_cons_succ]
    rw [e, show j + 1 + i = j + (i + 1) by omega]
theorem enumL_len : ∀ (j : Nat) (xs : List D), (enumL j xs).length = xs.length
  | _, [] => rfl
  | j, x :: r => by
    simp only [enumL, List.length_cons]
    rw [enumL_len (j + 1) r]
theorem src_enum {a : Addr} {vs : List V} {xs : List D} (st : Stb K T w s H fun H => SqL K H a vs) (r : Reps K T w.F vs xs) : Src K T (Ite K a) (enumL 0 xs) w s H := fun w' s' H' k' n => by
  have sq := st w' s' H' k' n
  refine ⟨fun i hi => ⟨vs, sq, by rw [r.length]; rw [enumL_len] at hi; exact hi⟩, fun i d hd => ?_⟩
  rw [enumL_at] at hd
  cases e : xs[i]? with
  | none =>
    rw [e] at hd
    cases hd
  | some y =>
    rw [e] at hd
    cases hd
    obtain ⟨v, hv, rv⟩ := r.get e
    refine ⟨⟨vs, v, sq, hv⟩, fun x H2 hy => ?_⟩
    obtain ⟨p, x', rfl, hn, rfl, hx⟩ := hy
    have e2 := hx vs sq
    rw [hv] at e2
    cases e2
    rw [Nat.zero_add]
    exact new_pair k' hn (.int _) (rv.sub n.F)
theorem PostI.give {σ : L2.St} {RR : It → Hp → Prop} {xo : List D × Option Nat} (p : PostI K T W w s σ H RR (.ok xo s')) {J : It} (a : SOk K T w' s' H') (b : Nxt w s H w' s' H') (c : Src K T J xo.1 w' s' H') (l : Lk s xo.2) : RR J H' := p J H' w' a b c l
theorem lk_none : Lk s none := fun h z => by cases z
theorem Lk.back {w0 : Wd} {s0 : Store} {H0 : Hp} (n : Nxt w0 s0 H0 w s H) {o : Option Nat} (l : Lk s o) : Lk s0 o := fun h ho e he => by
  cases hl : e.lk with
  | false => rfl
  | true =>
    obtain ⟨x, _⟩ := n.lock h e he hl
    rw [l h ho e x] at hl
    cases hl
theorem si_all {tg e : Expr} {f : ME} (h : SE K T .raw X W e f) (hK : X.K = K) : SI K T X W tg e (iSeqA f) := .mk fun w env s σ H k eo RR p => by
  subst hK
  refine wpi_of (pi_all pe_wp) (h w env s σ H k eo _ (PostI.bind p fun v d H1 w1 s1 a b c q => ?_))
  have c : RepS X.K T w1 v d := c
  cases hv : view s1 d with
  | none =>
    rw [hv] at q
    exact q.elim
  | some x0 =>
    rw [hv] at q
    cases x0 with
    | lst ys =>
      dsimp only [] at q
      cases ho : open1 d s1 with
      | bad =>
        rw [ho] at q
        exact q.elim
      | exc _ _ _ => exact (open1_noexc ho).elim
      | ok x s2 =>
        rw [ho] at q
        cases x with
        | lst xs =>
          obtain ⟨a1, vs, w2, rfl, k2, n2, r2, z2, st, lk⟩ := lock_lst a c ho
          exact .inl ⟨a1, vs, rfl, st w2 _ H1 k2 .refl, PostI.give q k2 (b.trans n2) (src_lst' st r2) (lk.back b)⟩
        | _ => exact q.elim
    | dic ys =>
      dsimp only [] at q
      cases ho : frozen d s1 with
      | bad =>
        rw [ho] at q
        exact q.elim
      | exc _ _ _ => exact (frozen_noexc ho).elim
      | ok x s2 =>
        rw [ho] at q
        cases x with
        | dic xs =>
          obtain ⟨w2, k2, n2, r2⟩ := frozen_ok a c ho
          cases r2 with
          | dic hF rr zz =>
            refine .inr (.inr (.inr ⟨_, _, rfl, dict_locked k2 hF fun o H' k' n' hd => ?_⟩))
            exact PostI.give q k' ((b.trans n2).trans n') (src_keys hF rr k' hd) lk_none
        | _ => exact q.elim
    | tup ys =>
      dsimp only [] at q
      cases ho : frozen d s1 with
      | bad =>
        rw [ho] at q
        exact q.elim
      | exc _ _ _ => exact (frozen_noexc ho).elim
      | ok x s2 =>
        rw [ho] at q
        cases x with
        | tup xs =>
          obtain ⟨w2, k2, n2, r2⟩ := frozen_ok a c ho
          obtain ⟨a1, vs, rfl, h1, r1, z1⟩ := rep_tup r2
          exact .inr (.inl ⟨a1, vs, rfl, sqt_fh X.K k2.fh h1, PostI.give q k2 (b.trans n2) (src_tup h1 r1) lk_none⟩)
        | _ => exact q.elim
    | fl ys =>
      dsimp only [] at q
      cases d with
      | fl xs =>
        cases c with
        | fl hF rr zz =>
          have st : Stb X.K T w1 s1 H1 fun H => SqL X.K H _ _ := fun w' s' H' k' n => sql_fh X.K k'.fh (sql_sub X.K n.F hF)
          exact .inl ⟨_, _, rfl, st _ _ _ a .refl, PostI.give q a b (src_lst' st rr) lk_none⟩
      | _ => exact q.elim
    | str ys =>
      dsimp only [] at q
      cases d with
      | str z =>
        obtain ⟨rfl, zz⟩ := rep_str c
        exact .inr (.inr (.inl ⟨_, rfl, PostI.give q a b src_str lk_none⟩))
      | _ => exact q.elim
    | _ => exact q.elim
/-- range(..) -/
def iRange1 (a : MA) : MI := fun e s => (a e s).bind fun ds s => match ds with
  | [.int b] => if small62 b then .ok (rangeL 0 b, none) s else .bad
  | _ => .bad
def iRange2 (a : MA) : MI := fun e s => (a e s).bind fun ds s => match ds with
  | [.int a, .int b] => if small62 a && small62 b then .ok (rangeL a b, none) s else .bad
  | _ => .bad
theorem small62_ok {i : Int} (h : small62 i = true) : -(2 ^ 62) ≤ i ∧ i < 2 ^ 62 := by
  unfold small62 at h
  rw [Bool.and_eq_true, decide_eq_true_eq, decide_eq_true_eq] at h
  omega
theorem si_range1 {tg a : Expr} {p pos : Pos} {f : MA} (hg : Gl X "range") (hm : X.mg "range" = none) (h : SA K T false X W [a] f) (hs : starEach [a] X.env = [(false, eval a X.env)]) : SI K T X W tg (.Call (.Name "range" p) [a] [] pos) (iRange1 f) := .mk fun w env s σ H k eo RR q =>
  wpi_of (pi_range1 hg hm pa_wp hs) (h w env s σ H k eo _ (PostI.bind q fun vs ds H1 w1 s1 a b c q => by
    have c : Reps K T w1.F vs ds := c
    split at q
    · rename_i j
      cases c with
      | cons c1 c2 =>
        cases c2
        cases rep_int c1
        split at q
        · rename_i hz
          obtain ⟨z1, z2⟩ := small62_ok hz
          refine ⟨_, rfl, z1, z2, PostI.give q a b ?_ lk_none⟩
          have e := fun n => src_range (K := K) (T := T) (w := w1) (s := s1) (H := H1) (lo := 0) (n := n)
          unfold rangeL
          rw [Int.sub_zero]
          exact e _
        · exact q.elim
    · exact q.elim))
theorem si_range2 {tg a1 a2 : Expr} {p pos : Pos} {f : MA} (hg : Gl X "range") (hm : X.mg "range" = none) (h : SA K T false X W [a1, a2] f) (hs : starEach [a1, a2] X.env = [(false, eval a1 X.env), (false, eval a2 X.env)]) (hs2 : starEach [a2] X.env = [(false, eval a2 X.env)]) :
    SI K T X W tg (.Call (.Name "range" p) [a1, a2] [] pos) (iRange2 f) := .mk fun w env s σ H k eo RR q =>
  wpi_of (pi_range2 hg hm pa_wp hs hs2) (h w env s σ H k eo _ (PostI.bind q fun vs ds H1 w1 s1 a b c q => by
    have c : Reps K T w1.F vs ds := c
    split at q
    · rename_i i j
      cases c with
      | cons c1 c2 =>
        cases c2 with
        | cons c2 c3 =>
          cases c3
          cases rep_int c1
          cases rep_int c2
          split at q
          · rename_i hz
            rw [Bool.and_eq_true] at hz
            obtain ⟨z1, z2⟩ := small62_ok hz.1
            obtain ⟨z3, z4⟩ := small62_ok hz.2
            exact ⟨_, _, rfl, ⟨z1, z2, z3, z4⟩, PostI.give q a b src_range lk_none⟩
          · exact q.elim
    · exact q.elim))
/-- enumerate(list) -/
def iEnumA (f : ME) : MI := fun e s => (f e s).bind fun d s => (open1 d s).bind fun x s => match x with
  | .lst xs => .ok (enumL 0 xs, (lockOf d s).2) (lockOf d s).1
  | _ => .bad
theorem si_enum {e : Expr} {p pos tpos : Pos} {elts : List Expr} {kk : Nat} {f : ME} (hg : Gl X "enumerate") (hm : X.mg "enumerate" = none) (h : SE K T .raw X W e f) (hs : starEach [e] X.env = [(false, eval e X.env)]) (hK : X.K = K) :
    SI K T X W (.Tuple elts kk tpos) (.Call (.Name "enumerate" p) [e] [] pos) (iEnumA f) := .mk fun w env s σ H k eo RR q => by
  subst hK
  refine wpi_of (pi_enum hg hm (pa_cons pe_wp pa_nil hs) hs) (h w env s σ H k eo _ (PostI.bind q fun v d H1 w1 s1 a b c q => ?_))
  cases ho : open1 d s1 with
  | bad =>
    rw [ho] at q
    exact q.elim
  | exc _ _ _ => exact (open1_noexc ho).elim
  | ok x s2 =>
    rw [ho] at q
    cases x with
    | lst xs =>
      obtain ⟨a1, vs, w2, rfl, k2, n2, r2, z2, st, lk⟩ := lock_lst a c ho
      exact ⟨a1, vs, rfl, st w2 _ H1 k2 .refl, PostI.give q k2 (b.trans n2) (src_enum st r2) (lk.back b)⟩
    | _ => exact q.elim
/-- d.items(), d.values() -/
def iItemsA (f : ME) : MI := fun e s => (f e s).bind fun d s => match d with
  | .dic kvs => .ok (kvs.map fun p => .tup [p.1, p.2], none) s
  | _ => .bad
def iValsA (f : ME) : MI := fun e s => (f e s).bind fun d s => match d with
  | .dic kvs => .ok (kvs.map (·.2), none) s
  | _ => .bad
theorem si_items {e : Expr} {apos cpos tpos : Pos} {elts : List Expr} {kk : Nat} {f : ME} (h : SE K T .tree X W e f) (hbase : attributeBase e "items" X.env (eval e X.env) = eval e X.env) (hline : (apos.endLine == cpos.line) = true) :
    SI K T X W (.Tuple elts kk tpos) (.Call (.Attribute e "items" apos) [] [] cpos) (iItemsA f) := .mk fun w env s σ H k eo RR q => by
  refine wpi_of (pi_items (pe_lk pe_wp) hbase hline) (h w env s σ H k eo _ (PostI.bind q fun v d H1 w1 s1 a b c q => ?_))
  cases d with
  | dic kvs =>
    have c : Rep K T w1.F v (.dic kvs) := c
    cases c with
    | dic hF rr zz =>
      refine ⟨_, _, rfl, dict_locked (φ := fun o H' => ∃ d o kvs, _ = V.ref d ∧ H' d = some (.frz o (.dK kvs)) ∧ RR (Iti d o kvs) H') a hF fun o H' k' n' hd => ⟨_, o, _, rfl, hd, ?_⟩⟩
      exact PostI.give q k' (b.trans n') (src_items hF rr k' hd) lk_none
  | _ => exact q.elim
theorem si_vals {tg e : Expr} {apos cpos : Pos} {f : ME} (h : SE K T .tree X W e f) (hbase : attributeBase e "values" X.env (eval e X.env) = eval e X.env) (hline : (apos.endLine == cpos.line) = true) :
    SI K T X W tg (.Call (.Attribute e "values" apos) [] [] cpos) (iValsA f) := .mk fun w env s σ H k eo RR q => by
  refine wpi_of (pi_values (pe_lk pe_wp) hbase hline) (h w env s σ H k eo _ (PostI.bind q fun v d H1 w1 s1 a b c q => ?_))
  cases d with
  | dic kvs =>
    have c : Rep K T w1.F v (.dic kvs) := c
    cases c with
    | dic hF rr zz =>
      refine ⟨_, _, rfl, dict_locked (φ := fun o H' => ∃ d o kvs, _ = V.ref d ∧ H' d = some (.frz o (.dK kvs)) ∧ RR (Itd d o kvs) H') a hF fun o H' k' n' hd => ⟨_, o, _, rfl, hd, ?_⟩⟩
      exact PostI.give q k' (b.trans n') (src_vals hF rr k' hd) lk_none
  | _ => exact q.elim

/-! ### for, while -/
theorem ss_for {rk : Nat} {tg iter : Expr} {body : List Stmt} {pos : Pos} {it : MI} {g : MG} {t : TG} {is : List Nat} {m : MS} (hp : PassesOwn (model X.prog X.w) X.A X.env X.xe) (hc : X.calm = true) (hi : SI K T X W tg iter it) (hg : PG X tg t) (hm : SG K T is g t) (hb : SSs K T rk X W body m)
    (hs : ∀ x, foldedSetIterable iter X.env x = pure x) : SS K T rk X W (.For tg iter body [] pos) (sFor it g m) := .mk fun w env s σ H k eo D p =>
  wps_of (ps_for hp hc pi_wp hg pss_wp hs) (hi w env s σ H k eo _ (by
    unfold sFor at p
    cases e : it env s with
    | bad =>
      rw [e] at p
      exact p
    | exc c fs s1 =>
      rw [e] at p
      exact fun C dd fv H' w' a b c1 c2 c3 => p C dd fv σ H' w' a b (eo.nxt b) c1 c2 c3
    | ok xo s1 =>
      obtain ⟨ds, o⟩ := xo
      rw [e] at p
      have p : PostS K T rk W w s H D (forGo g m o ds env s1) := p
      refine fun J H1 w1 k1 n1 src lk => ⟨fun i mm σ H2 => mm = ds.length - i ∧ i ≤ ds.length ∧ ∃ w2 s2 env2, SOk K T w2 s2 H2 ∧ Nxt w1 s1 H1 w2 s2 H2 ∧ EOk K T w2 env2 σ ∧ PostS K T rk W w s H D (forGo g m o (ds.drop i) env2 s2), ⟨_, rfl, Nat.zero_le _, w1, s1, env, k1, .refl, eo.nxt n1, p⟩, ?_⟩
      rintro i mm σ2 H2 ⟨rfl, hi, w2, s2, env2, k2, n2, eo2, p2⟩
      obtain ⟨st, go⟩ := src w2 s2 H2 k2 n2
      rcases Nat.lt_or_ge i ds.length with lt | ge
      · obtain ⟨go1, yl⟩ := go i ds[i] (List.getElem?_eq_getElem lt)
        refine .inr ⟨go1, fun σ' H' => i + 1 ≤ ds.length ∧ ∃ w2 s2 env2, SOk K T w2 s2 H' ∧ Nxt w1 s1 H1 w2 s2 H' ∧ EOk K T w2 env2 σ' ∧ PostS K T rk W w s H D (forGo g m o (ds.drop (i + 1)) env2 s2), fun σ' H' hN => ⟨_, by omega, rfl, hN⟩, fun x H3 hy => ?_⟩
        obtain ⟨w3, k3, n3, r3⟩ := yl x H3 hy
        rw [List.drop_eq_getElem_cons lt] at p2
        unfold forGo at p2
        cases eg : g env2 ds[i] with
        | none =>
          rw [eg] at p2
          exact p2.elim
        | some env3 =>
          rw [eg] at p2
          refine hm w3 s2 H3 k3 env2 σ2 x ds[i] env3 (eo2.nxt n3) r3 eg _ fun σ3 eo3 _ => ?_
          refine hb w3 env3 s2 σ3 H3 k3 eo3 _ ?_
          have n03 : Nxt w s H w3 s2 H3 := n1.trans (n2.trans n3)
          have p2 : PostS K T rk W w s H D (match m env3 s2 with
            | .nx e s => forGo g m o (ds.drop (i + 1)) e s
            | .cnt e s => forGo g m o (ds.drop (i + 1)) e s
            | .ret d s => .ret d (unlock o s)
            | .exc c fs e s => .exc c fs e (unlock o s)
            | .bad => .bad) := p2
          cases em : m env3 s2 with
          | nx e4 s4 =>
            rw [em] at p2
            exact fun σ' H' w' a b c => ⟨lt, w', s4, e4, a, (n2.trans n3).trans b, c, p2⟩
          | cnt e4 s4 =>
            rw [em] at p2
            exact fun σ' H' w' a b c => ⟨lt, w', s4, e4, a, (n2.trans n3).trans b, c, p2⟩
          | ret d s4 =>
            rw [em] at p2
            exact fun v H' w' a b c => p2 v H' w' (unlock_ok a o) (unlock_nxt (n03.trans b) lk) (c.nxt n03)
          | exc c fs e4 s4 =>
            rw [em] at p2
            exact fun C dd fv σ' H' w' a b c => p2 C dd fv σ' H' w' (unlock_ok a o) (unlock_nxt (n03.trans b) lk) c
          | bad =>
            rw [em] at p2
            exact p2
      · refine .inl ⟨st i ge, ?_⟩
        rw [List.drop_eq_nil_of_le ge] at p2
        exact p2 σ2 H2 w2 (unlock_ok k2 o) (unlock_nxt (n1.trans n2) lk) eo2))
theorem ss_while {rk : Nat} {c : Expr} {body : List Stmt} {pos : Pos} {n : Nat} {t : MT} {m : MS} (hp : PassesOwn (model X.prog X.w) X.A X.env X.xe) (hc : ST K T X W c t) (hb : SSs K T rk X W body m) : SS K T rk X W (.While c body [] pos) (sWhile n t m) := .mk fun w env s σ H k eo D p =>
  wps_of (ps_while hp pt_wp pss_wp) ⟨fun j σ2 H2 => ∃ w2 s2 env2, SOk K T w2 s2 H2 ∧ EOk K T w2 env2 σ2 ∧ PostS K T rk W w2 s2 H2 D (whileGo t m j env2 s2), ⟨n, w, s, env, k, eo, p⟩, by
    rintro j σ2 H2 ⟨w2, s2, env2, k2, eo2, p2⟩
    cases j with
    | zero => exact p2.elim
    | succ j =>
      unfold whileGo at p2
      refine hc w2 env2 s2 σ2 H2 k2 eo2 _ (PostS.bind eo2 p2 fun b1 b2 H3 w3 s3 a3 b3 c3 q => ?_)
      subst c3
      cases b1 with
      | false =>
        rw [if_neg (by intro z; cases z)] at q ⊢
        exact q.giveN a3 b3 (eo2.nxt b3)
      | true =>
        rw [if_pos rfl] at q ⊢
        refine ⟨fun σ' H' => ∃ w2 s2 env2, SOk K T w2 s2 H' ∧ EOk K T w2 env2 σ' ∧ PostS K T rk W w2 s2 H' D (whileGo t m j env2 s2), fun σ' H' hN => ⟨j, Nat.lt_succ_self j, hN⟩, ?_⟩
        refine hb w3 env2 s3 σ2 H3 a3 (eo2.nxt b3) _ ?_
        have q := q.nxt b3
        cases em : m env2 s3 with
        | nx e4 s4 =>
          rw [em] at q
          exact fun σ' H' w' a b c => ⟨w', s4, e4, a, c, q.nxt b⟩
        | cnt e4 s4 =>
          rw [em] at q
          exact fun σ' H' w' a b c => ⟨w', s4, e4, a, c, q.nxt b⟩
        | ret d s4 =>
          rw [em] at q
          exact q
        | exc c fs e4 s4 =>
          rw [em] at q
          exact q
        | bad =>
          rw [em] at q
          exact q⟩
end
end VM

set_option Elab.async false
set_option linter.all false
set_option maxRecDepth 100000
set_option maxHeartbeats 1000000
/-! VM12: calls of defs, methods, classes; what a def's body keeps. -/
namespace VM
open PySem PySem.Spec PyProof.Rows L2
section
variable {K : PySem.W.Frag} {T : Tab} {w w' : Wd} {s s' : Store} {H H' : Hp} {X : Cx} {W : WX}

/-- what a def promises -/
def spOf (K : PySem.W.Frag) (T : Tab) (fn : Fn) : Sp := fun vs H Q E => ∃ w s ds, SOk K T w s H ∧ RepSs K T w vs ds ∧ ds.length = fn.np ∧ Post K T (fun c d _ H => E c d H) w s [] H (fun w' H' => OwnV K T (.own fn.ret) w H w' H') Q (fn.sem ds s)
theorem post_at {α β : Type} {σ : L2.St} {rel : Wd → Hp → β → α → Prop} {Q : β → Hp → Prop} {r : VM.R α} (h : Post K T W w s σ H rel Q r) : Post K T (fun c d _ H => W c d σ H) w s [] H rel Q r := by
  cases r <;> exact h
/-- a def of the module, as it is called -/
structure Cal (P : Program) (wo : World) (K : PySem.W.Frag) (mg : Str → Option Value) (base : Heap) (T : Tab) (k : Nat) (x : Str) (fn : Fn) : Prop where
  ex : ∃ f fd ps, FnOk P wo K mg base (L2.CX P wo) k f fd ps (spOf K T fn) ∧ mg x = some (.ref f) ∧ PySem.W.keepIn K (.ref f) = true ∧ Binds K fd ps []
theorem Cal.mono {P : Program} {wo : World} {mg : Str → Option Value} {base : Heap} {j k : Nat} {x : Str} {fn : Fn} (c : Cal P wo K mg base T j x fn) (h : j ≤ k) : Cal P wo K mg base T k x fn := by
  obtain ⟨f, fd, ps, a, b⟩ := c.ex
  exact ⟨f, fd, ps, a.mono h, b⟩
theorem call_done {fn : Fn} {env : Env} {σ : L2.St} {es : List Expr} {a : MA} (ha : SA K T true X W es a) (k : SOk K T w s H) (eo : EOk K T w env σ) {Q : VK} (p : Post K T W w s σ H (fun w' H' => OwnV K T (.own fn.ret) w H w' H') Q (eCall fn a env s)) :
    WPA X es σ H fun vs H1 => spOf K T fn vs H1 Q (WE W σ) := ha w env s σ H k eo _ (Post.bind p fun vs ds H1 w1 s1 a1 b1 c q => by
    have c : RepSs K T w1 vs ds := c
    split at q
    · rename_i hl
      exact ⟨w1, s1, ds, a1, c, hl, post_at (Post.nxt (rel1 := fun w' H' => OwnV K T (.own fn.ret) w1 H1 w' H') b1 q fun _ _ _ _ _ _ z => z.nxt b1)⟩
    · exact q.elim)
theorem se_call {k : Nat} {x : Str} {fn : Fn} {e : Expr} {es : List Expr} {p pos : Pos} {a : MA} (c : Cal X.prog X.w X.K X.mg X.base T k x fn) (hr : Room k X.A) (tk : Takes X W) (hg : Gl X x) (ha : SA X.K T true X W (e :: es) a) (hdb : (x == ("__debug__" : Str)) = false)
    (he : starEach (e :: es) X.env = (false, eval e X.env) :: starEach es X.env) (hpl : (backTo pos (starEach es X.env)).any (·.1) = false) : SE X.K T (.own fn.ret) X W (.Call (.Name x p) (e :: es) [] pos) (eCall fn a) := .mk fun w env s σ H k1 eo Q q => by
  obtain ⟨f, fd, ps, F, hm, hk, hb⟩ := c.ex
  exact wpe_of (pe_callS F hr hg hm hk hb (passAt tk) pa_wp hdb he hpl) (call_done ha k1 eo q)
theorem se_call0 {k : Nat} {x : Str} {fn : Fn} {p pos : Pos} (c : Cal X.prog X.w X.K X.mg X.base T k x fn) (hr : Room k X.A) (tk : Takes X W) (hg : Gl X x) (hdb : (x == ("__debug__" : Str)) = false) : SE X.K T (.own fn.ret) X W (.Call (.Name x p) [] [] pos) (eCall fn aNil) := .mk fun w env s σ H k1 eo Q q => by
  obtain ⟨f, fd, ps, F, hm, hk, hb⟩ := c.ex
  intro pins sh I
  refine wpAny_Call_Name_kw (ld_glob I hg hm ?_ hdb)
  refine PySem.W.callWith_K0 I.kIn hk (run_fnS (us := []) (E := WE W) F hr hb (passAt tk σ) I .nil ?_)
  unfold eCall at q
  have q : Post X.K T W w s σ H (fun w' H' => OwnV X.K T (.own fn.ret) w H w' H') Q (if ([] : List D).length = fn.np then fn.sem [] s else .bad) := q
  split at q
  · rename_i hl
    exact ⟨w, s, [], k1, .nil, hl, post_at q⟩
  · exact q.elim
/-- a method of an own class -/
structure CalM (P : Program) (wo : World) (K : PySem.W.Frag) (mg : Str → Option Value) (base : Heap) (T : Tab) (k : Nat) (c : Nat) (m : Str) (fn : Fn) : Prop where
  ex : ∃ f fd ps C, FnOk P wo K mg base (L2.CX P wo) k f fd ps (spOf K T fn) ∧ T.cls c = some C ∧ Cls K C ∧ Meth K C m f ∧ Binds K fd ps []
  nf : ∀ n, T.fld n ≠ m
theorem CalM.mono {P : Program} {wo : World} {mg : Str → Option Value} {base : Heap} {j k c : Nat} {x : Str} {fn : Fn} (cm : CalM P wo K mg base T j c x fn) (h : j ≤ k) : CalM P wo K mg base T k c x fn := by
  obtain ⟨f, fd, ps, C, a, b⟩ := cm.ex
  exact ⟨⟨f, fd, ps, C, a.mono h, b⟩, cm.nf⟩
theorem lookup_no {F : Hp} {m : Str} (h : ∀ n, T.fld n ≠ m) : ∀ {fv : List (Str × V)} {fs : List (Nat × D)}, RepF K T F fv fs → fv.lookup m = none
  | _, _, .nil => rfl
  | _, _, .cons (n := n) _ r => by
    rw [List.lookup_cons]
    have e : (m == T.fld n) = false := by
      rw [beq_eq_false_iff_ne]
      exact fun z => h n z.symm
    rw [e]
    exact lookup_no h r
theorem ins_read (k : SOk K T w s H) {v : V} {d : D} {c : Nat} {fs : List (Nat × D)} (r : RepS K T w v d) (h : view s d = some (.ins c fs)) : ∃ a C dx fv G, v = .ref a ∧ T.cls c = some C ∧ H a = some (.ins C dx fv) ∧ RepF K T G fv fs ∧ FH G H ∧ Sub w.F G := by
  obtain ⟨G, fh, rr, sub⟩ := read_ok k r h
  cases rr with
  | ins hc h r =>
    rcases fh _ _ h with q | ⟨⟨_, q⟩, _⟩
    · exact ⟨_, _, _, _, G, rfl, hc, q, r, fh, sub⟩
    · cases q
theorem meth_arg {fn : Fn} {c : Nat} {C : Addr} {m : Str} {f : ME} {a : MA} {env : Env} {σ : L2.St} {o : Expr} (nf : ∀ n, T.fld n ≠ m) (hC : T.cls c = some C) (ho : SE K T .raw X W o f) (k : SOk K T w s H) (eo : EOk K T w env σ) {Q : VK} {RR : V → Addr → Wd → Store → Hp → D → Prop}
    (p : Post K T W w s σ H (fun w' H' => OwnV K T (.own fn.ret) w H w' H') Q (eMeth c fn f a env s)) {QQ : V → Hp → Prop}
    (h : ∀ x d H1 w1 s1 a1 dx fv, SOk K T w1 s1 H1 → Nxt w s H w1 s1 H1 → RepS K T w1 (.ref a1) d → x = .ref a1 → H1 a1 = some (.ins C dx fv) → fv.lookup m = none →
      Post K T W w s σ H (fun w' H' => OwnV K T (.own fn.ret) w H w' H') Q ((a env s1).bind fun ds s => if ds.length + 1 = fn.np then fn.sem (d :: ds) s else .bad) → QQ x H1) : WPE X o σ H QQ := ho w env s σ H k eo _ (Post.bind p fun x d H1 w1 s1 a1 b1 c1 q => by
    cases hv : view s1 d with
    | none =>
      rw [hv] at q
      exact q.elim
    | some y =>
      rw [hv] at q
      cases y with
      | ins kk fs =>
        dsimp only [] at q
        split at q
        · rename_i hk
          subst hk
          obtain ⟨ad, C2, dx, fv, G, rfl, hC2, hH, rf, _, _⟩ := ins_read a1 c1 hv
          rw [hC] at hC2
          cases hC2
          exact h _ d H1 w1 s1 ad dx fv a1 b1 c1 rfl hH (lookup_no nf rf) q
        · exact q.elim
      | _ => exact q.elim)
theorem se_meth {pl : Sem Bool} {k c : Nat} {m : Str} {fn : Fn} {o e : Expr} {es : List Expr} {apos pos : Pos} {f : ME} {a : MA} (cm : CalM X.prog X.w X.K X.mg X.base T k c m fn) (hr : Room k X.A) (tk : Takes X W) (ho : SE X.K T .raw X W o f) (ha : SA X.K T true X W (e :: es) a)
    (hst : starEach (e :: es) X.env = (false, eval e X.env) :: starEach es X.env) (hpl : (backTo pos (starEach es X.env)).any (·.1) = false)
    (ht : eval (.Call (.Attribute o m apos) (e :: es) [] pos) X.env = (do
      let ov ← eval o X.env
      standAt apos.atName
      let (f, first) ← holding [ov] (getMethod ov m pl)
      callWith pos f first (backTo pos (starEach (e :: es) X.env)) (backToKw pos (keywordEach [] X.env)))) :
    SE X.K T (.own fn.ret) X W (.Call (.Attribute o m apos) (e :: es) [] pos) (eMeth c fn f a) := .mk fun w env s σ H k1 eo Q q => by
  obtain ⟨fa, fd, ps, C, F, hC, cl, me, hb⟩ := cm.ex
  have key := meth_arg (RR := fun _ _ _ _ _ _ => True) (QQ := fun x H1 => ∃ a1 dx fv, x = .ref a1 ∧ H1 a1 = some (.ins C dx fv) ∧ fv.lookup m = none ∧ WPA X (e :: es) σ H1 fun vs H2 => spOf X.K T fn (.ref a1 :: vs) H2 Q (WE W σ)) cm.nf hC ho k1 eo q fun x d H1 w1 s1 a1 dx fv a2 b2 r2 ex hH hl q2 =>
    ⟨a1, dx, fv, ex, hH, hl, ha w1 env s1 σ H1 a2 (eo.nxt b2) _ (Post.bind (Post.nxt (rel1 := fun w' H' => OwnV X.K T (.own fn.ret) w1 H1 w' H') b2 q2 fun _ _ _ _ _ _ z => z.nxt b2) fun vs ds H3 w3 s3 a3 b3 c3 q3 => by
      have c3 : RepSs X.K T w3 vs ds := c3
      split at q3
      · rename_i hl3
        exact ⟨w3, s3, d :: ds, a3, .cons (r2.nxt b3) c3, hl3, post_at (Post.nxt (rel1 := fun w' H' => OwnV X.K T (.own fn.ret) w3 H3 w' H') b3 q3 fun _ _ _ _ _ _ z => z.nxt b3)⟩
      · exact q3.elim)⟩
  intro pins sh I
  refine PySem.W.methodCall_KW (pl := pl) (thn (key pins sh I) fun u sh1 ⟨x, H1, I1, rx, a1, dx, fv, ex, ea, l, q2⟩ => ?_) ht
  subst ex
  obtain rfl : u = Value.ref a1 := rx
  refine getmeth_ok I1 ea cl me l ?_
  refine PySem.W.callWith_K (first := [.ref a1]) (h₀ := X.base) I.ok.mod.kin me.kp (thn (q2 pos pins sh1 I1) fun us sh2 ⟨vs, H2, I2, rv, q3⟩ => ⟨I2.kIn, ?_⟩) hst hpl
  exact run_fnS (us := .ref a1 :: us) (vs := .ref a1 :: vs) (E := WE W) F hr hb (passAt tk σ) I2 (.cons rfl rv) q3
theorem se_meth0 {pl : Sem Bool} {k c : Nat} {m : Str} {fn : Fn} {o : Expr} {apos pos : Pos} {f : ME} (cm : CalM X.prog X.w X.K X.mg X.base T k c m fn) (hr : Room k X.A) (tk : Takes X W) (ho : SE X.K T .raw X W o f)
    (ht : eval (.Call (.Attribute o m apos) [] [] pos) X.env = (do
      let ov ← eval o X.env
      standAt apos.atName
      let (f, first) ← holding [ov] (getMethod ov m pl)
      callWith pos f first (backTo pos (starEach [] X.env)) (backToKw pos (keywordEach [] X.env)))) :
    SE X.K T (.own fn.ret) X W (.Call (.Attribute o m apos) [] [] pos) (eMeth c fn f aNil) := .mk fun w env s σ H k1 eo Q q => by
  obtain ⟨fa, fd, ps, C, F, hC, cl, me, hb⟩ := cm.ex
  have key := meth_arg (RR := fun _ _ _ _ _ _ => True) (QQ := fun x H1 => ∃ a1 dx fv, x = .ref a1 ∧ H1 a1 = some (.ins C dx fv) ∧ fv.lookup m = none ∧ spOf X.K T fn [.ref a1] H1 Q (WE W σ)) cm.nf hC ho k1 eo q fun x d H1 w1 s1 a1 dx fv a2 b2 r2 ex hH hl q2 => by
    have q2 : Post X.K T W w s σ H (fun w' H' => OwnV X.K T (.own fn.ret) w H w' H') Q (if ([] : List D).length + 1 = fn.np then fn.sem [d] s1 else .bad) := q2
    split at q2
    · rename_i hl3
      exact ⟨a1, dx, fv, ex, hH, hl, w1, s1, [d], a2, .cons r2 .nil, hl3, post_at (Post.nxt (rel1 := fun w' H' => OwnV X.K T (.own fn.ret) w1 H1 w' H') b2 q2 fun _ _ _ _ _ _ z => z.nxt b2)⟩
    · exact q2.elim
  intro pins sh I
  refine PySem.W.methodCall_KW (pl := pl) (thn (key pins sh I) fun u sh1 ⟨x, H1, I1, rx, a1, dx, fv, ex, ea, l, q2⟩ => ?_) ht
  subst ex
  obtain rfl : u = Value.ref a1 := rx
  refine getmeth_ok I1 ea cl me l ?_
  exact PySem.W.callWith_K0 (first := [.ref a1]) I1.kIn me.kp (run_fnS (us := [.ref a1]) (vs := [.ref a1]) (E := WE W) F hr hb (passAt tk σ) I1 (.cons rfl .nil) q2)

/-! ### the store is cut -/
theorem SOk.cut (k : SOk K T w s H) (n : Nat) : SOk K T ⟨w.F, w.io.take n, w.Ps.take n⟩ (s.take n) H := by
  have sub : ∀ p, p ∈ (w.Ps.take n).flatten → p ∈ w.Ps.flatten := fun p hp => by
    obtain ⟨P, hP, hp⟩ := List.mem_flatten.mp hp
    exact List.mem_flatten.mpr ⟨P, List.mem_of_mem_take hP, hp⟩
  refine ⟨k.fh, by simp [k.lenI], by simp [k.lenP], fun h e a P he ha hP => ?_, ?_, fun p hp => k.out p (sub p hp)⟩
  · have lt : h < n := by
      have := (List.getElem?_eq_some_iff.mp he).1
      rw [List.length_take] at this
      omega
    have ha : (w.io.take n)[h]? = some a := ha
    have hP : (w.Ps.take n)[h]? = some P := hP
    rw [List.getElem?_take_of_lt lt] at he ha hP
    exact k.ent h e a P he ha hP
  · have q := nodup_fl.mp k.dis
    exact nodup_fl.mpr ⟨fun P hP => q.1 P (List.mem_of_mem_take hP), q.2.sublist (List.take_sublist n w.Ps)⟩
theorem Nxt.cut {w0 : Wd} {s0 : Store} {H0 : Hp} (k0 : SOk K T w0 s0 H0) (k : SOk K T w s H) (n : Nxt w0 s0 H0 w s H) : Nxt w0 s0 H0 ⟨w.F, w.io.take s0.length, w.Ps.take s0.length⟩ (s.take s0.length) H where
  F := n.F
  io := fun h a e => by
    have lt : h < s0.length := by
      rw [← k0.lenI]
      exact (List.getElem?_eq_some_iff.mp e).1
    show (w.io.take s0.length)[h]? = some a
    rw [List.getElem?_take_of_lt lt]
    exact n.io h a e
  len := by
    rw [List.length_take]
    have := n.len
    omega
  keep := fun p hp hf hn => by
    obtain ⟨x, y, z⟩ := n.keep p hp hf hn
    refine ⟨x, y, fun q => z ?_⟩
    obtain ⟨P, hP, hp⟩ := List.mem_flatten.mp q
    exact List.mem_flatten.mpr ⟨P, List.mem_of_mem_take hP, hp⟩
  lock := fun h e he hl => by
    obtain ⟨x, y, z⟩ := n.lock h e he hl
    have lt := (List.getElem?_eq_some_iff.mp he).1
    refine ⟨by rw [List.getElem?_take_of_lt lt]; exact x, ?_, z⟩
    show (w.Ps.take s0.length)[h]? = w0.Ps[h]?
    rw [List.getElem?_take_of_lt lt]
    exact y
theorem New.cut {w0 : Wd} {H0 : Hp} {P : List Addr} (h : New w0 H0 w P) (n : Nat) : New w0 H0 ⟨w.F, w.io.take n, w.Ps.take n⟩ P :=
  ⟨h.nd, fun p hp => by
    obtain ⟨a, b, c⟩ := h.out p hp
    refine ⟨a, fun q => b ?_, c⟩
    obtain ⟨P, hP, hp⟩ := List.mem_flatten.mp q
    exact List.mem_flatten.mpr ⟨P, List.mem_of_mem_take hP, hp⟩⟩
theorem OwnV.cut {j : Nat} {w0 : Wd} {H0 : Hp} {v : V} {d : D} (h : OwnV K T (.own j) w0 H0 w H v d) (n : Nat) : OwnV K T (.own j) w0 H0 ⟨w.F, w.io.take n, w.Ps.take n⟩ H v d := by
  obtain ⟨P, o, nw⟩ := h
  exact ⟨P, o, nw.cut n⟩

/-! ### a def's body keeps its meaning -/
theorem eo_start {N : List Str} {vs : List V} {ds : List D} (r : RepSs K T w vs ds) (hl : ds.length ≤ N.length) : EOk K T w (ds.map some ++ List.replicate (N.length - ds.length) none) (L2.start N vs) := by
  have e := r.length
  have get : ∀ {vs : List V} {ds : List D}, RepSs K T w vs ds → ∀ {i : Nat} {d : D}, ds[i]? = some d → ∃ v, vs[i]? = some v ∧ RepS K T w v d := by
    intro vs ds r
    induction r with
    | nil =>
      intro i d h
      simp at h
    | cons h r ih =>
      intro i d e
      cases i with
      | zero =>
        cases e
        exact ⟨_, rfl, h⟩
      | succ i => exact ih (by simpa using e)
  refine ⟨?_, fun i d h => ?_⟩
  · unfold L2.start
    rw [List.length_append, List.length_append, List.length_map, List.length_map, List.length_replicate, List.length_replicate, e]
  · by_cases lt : i < ds.length
    · rw [List.getElem?_append_left (by simpa using lt), List.getElem?_map] at h
      cases hd : ds[i]? with
      | none =>
        rw [hd] at h
        cases h
      | some d2 =>
        rw [hd] at h
        cases h
        obtain ⟨v, h1, h2⟩ := get r hd
        refine ⟨v, ?_, h2⟩
        unfold L2.start
        rw [List.getElem?_append_left (by rw [List.length_map, e]; exact lt), List.getElem?_map, h1]
        rfl
    · rw [List.getElem?_append_right (by simpa using Nat.le_of_not_lt lt), List.getElem?_replicate] at h
      split at h <;> cases h
/-- .. with its meaning -/
def fnOf (np nl rk : Nat) (m : MS) : Fn := ⟨np, rk, runFn np nl m⟩
section
variable {P : Program} {wo : World} {mg : Str → Option Value} {base : Heap} {x qual : Str} {params : Arguments} {body : List Stmt} {scope : Scope} {dvs : List V} {kws : List (Str × V)} {f : Addr} {fd : FuncData}
theorem fn_snd {N ps : List Str} {k rk : Nat} {m : MS} (F : FunD K x qual params body scope dvs kws f fd) (S : FnScope N ps scope) (hl : ps.length ≤ N.length)
    (hb : ∀ (cdv : Value) (A : Around) (outer : List PySem.Env) (s : Shared) (H : Hp) (E : XK), Room k (A.deeper (envOfC qual scope s.heap.objs.size f cdv)) →
      SSs K T rk (cxOf (L2.CX P wo) P wo K mg base N qual scope f cdv A outer s H E) (fun c d _ H => E c d H) body m) : FnOk P wo K mg base (L2.CX P wo) (k + 1) f fd ps (spOf K T (fnOf ps.length (N.length - ps.length) rk m)) := by
  refine F.ok S (fun vs H Q E h => ?_) fun cdv A outer s H vs Q E hr h => ⟨_, pss_wp, ?_⟩
  · obtain ⟨w, st, ds, k0, r, hl, _⟩ := h
    rw [r.length]
    exact hl
  · obtain ⟨w, st, ds, k0, r, hd, p⟩ := h
    have hd : ds.length = ps.length := hd
    refine hb cdv A outer s H E hr w _ st (L2.start N vs) H k0 (eo_start r (by rw [hd]; exact hl)) _ ?_
    have p : Post K T (fun c d _ H => E c d H) w st [] H (fun w' H' => OwnV K T (.own rk) w H w' H') Q (runFn ps.length (N.length - ps.length) m ds st) := p
    unfold runFn at p
    rw [if_pos hd, hd.symm] at p
    cases e : m (ds.map some ++ List.replicate (N.length - ds.length) none) st with
    | nx e1 s1 =>
      rw [e] at p
      refine fun σ' H' w' a b c => ?_
      refine p .non H' _ (a.cut st.length) (Nxt.cut k0 a b) (OwnV.cut (n := st.length) ?_)
      cases rk with
      | zero => exact ⟨[], .frz .non, List.nodup_nil, fun _ h => by cases h⟩
      | succ n => exact own_flat (F := w.F) rfl a .non
    | ret d s1 =>
      rw [e] at p
      exact fun v H' w' a b c => p v H' _ (a.cut st.length) (Nxt.cut k0 a b) (c.cut _)
    | cnt e1 s1 =>
      rw [e] at p
      exact p.elim
    | exc c fs e1 s1 =>
      rw [e] at p
      exact fun C dd fv σ' H' w' a b _ c1 c2 c3 => p C dd fv H' _ (a.cut st.length) (Nxt.cut k0 a b) c1 c2 c3
    | bad =>
      rw [e] at p
      exact p.elim
end
theorem takes_def {P : Program} {wo : World} {mg : Str → Option Value} {base : Heap} {N : List Str} {qual : Str} {scope : Scope} {f : Addr} {cdv : Value} {A : Around} {outer : List PySem.Env} {s : Shared} {H : Hp} {E : XK} :
    Takes (cxOf (L2.CX P wo) P wo K mg base N qual scope f cdv A outer s H E) (fun c d _ H => E c d H) := takes_of rfl rfl rfl rfl
theorem passes_def {P : Program} {wo : World} {mg : Str → Option Value} {base : Heap} {N : List Str} {qual : Str} {scope : Scope} {f : Addr} {cdv : Value} {A : Around} {outer : List PySem.Env} {s : Shared} {H : Hp} {E : XK} :
    PassesOwn (model P wo) (A.deeper (envOfC qual scope s.heap.objs.size f cdv)) (envOfC qual scope s.heap.objs.size f cdv) (cxOf (L2.CX P wo) P wo K mg base N qual scope f cdv A outer s H E).xe :=
  passes_of (X := cxOf (L2.CX P wo) P wo K mg base N qual scope f cdv A outer s H E) rfl
end
end VM

set_option Elab.async false
set_option linter.all false
set_option maxRecDepth 100000
set_option maxHeartbeats 1000000
/-! VM13: what changes a thing; fields; new instances. -/
namespace VM
open PySem PySem.Spec PyProof.Rows L2
section
variable {K : PySem.W.Frag} {T : Tab} {w w' : Wd} {s s' : Store} {H H' : Hp} {X : Cx} {W : WX}

/-- a thing of one's own, its items shared, to be changed -/
def take1 (d : D) (s : Store) : VM.R (Nat × D) := match d with
  | .ref h => match s[h]? with
    | some ⟨false, _ + 1, some x⟩ => .ok (h, x) (s.set h ⟨false, 1, some x⟩)
    | _ => .bad
  | _ => .bad
def peek (d : D) (s : Store) : Option D := match d with
  | .ref h => match s[h]? with
    | some ⟨_, _ + 1, some x⟩ => some x
    | _ => none
  | _ => none
theorem take1_ok (k : SOk K T w s H) {v : V} {d x : D} {h : Nat} {s1 : Store} (r : RepS K T w v d) (e : take1 d s = .ok (h, x) s1) : ∃ w1 a, v = .ref a ∧ SOk K T w1 s1 H ∧ Nxt w s H w1 s1 H ∧ w1.io[h]? = some a ∧ w1.Ps[h]? = some [a] ∧ s1[h]? = some ⟨false, 1, some x⟩ ∧ RepT K T w1.F H (.ref a) x ∧ Own K T w1.F H 1 (.ref a) x [a] ∧ (∀ f, s[h]? = some f → f.lk = false) := by
  cases d with
  | ref j =>
    dsimp only [take1] at e
    cases he : s[j]? with
    | none =>
      rw [he] at e
      cases e
    | some en =>
      obtain ⟨lk, kk, x'⟩ := en
      rw [he] at e
      cases lk with
      | true => cases kk <;> cases x' <;> cases e
      | false =>
        cases kk with
        | zero => cases x' <;> cases e
        | succ kk =>
          cases x' with
          | none => cases e
          | some y =>
            cases e
            obtain ⟨a, ha, rfl⟩ := r
            have ho : ∃ s2, open1 (.ref h) s = .ok x s2 ∧ s2 = s.set h ⟨false, 1, some x⟩ := by
              cases kk with
              | zero =>
                refine ⟨s, by dsimp only [open1]; rw [he], ?_⟩
                refine List.ext_getElem? fun i => ?_
                rw [List.getElem?_set]
                by_cases q : h = i
                · subst q
                  rw [if_pos rfl, if_pos (List.getElem?_eq_some_iff.mp he).1]
                  exact he
                · rw [if_neg q]
              | succ n => exact ⟨_, by dsimp only [open1]; rw [he], rfl⟩
            obtain ⟨s2, ho, rfl⟩ := ho
            obtain ⟨w1, k1, n1, r1, i1⟩ := open1_ok k (show RepS K T w (.ref a) (.ref h) from ⟨a, ha, rfl⟩) ho
            have hs : (s.set h ⟨false, 1, some x⟩)[h]? = some ⟨false, 1, some x⟩ := by rw [List.getElem?_set, if_pos rfl, if_pos (List.getElem?_eq_some_iff.mp he).1]
            obtain ⟨a2, P, ha2, hP, ok⟩ := k1.entry hs
            have ha1 : w1.io[h]? = some a := by rw [i1]; exact ha
            rw [ha1] at ha2
            cases ha2
            obtain ⟨Q, rfl⟩ := ok.2 (by intro z; cases z)
            have q0 := own1_nil ok.1
            subst q0
            exact ⟨w1, a, rfl, k1, n1, ha1, hP, hs, r1, ok.1, fun f hf => by rw [he] at hf; cases hf; rfl⟩
  | _ => cases e
/-- it is changed -/
theorem write_ok (k : SOk K T w s H) {h : Nat} {a : Addr} {x x' : D} {o : HO} (hio : w.io[h]? = some a) (hP : w.Ps[h]? = some [a]) (he : s[h]? = some ⟨false, 1, some x⟩) (ow : Own K T w.F (upd H a o) 1 (.ref a) x' [a]) :
    SOk K T w (s.set h ⟨false, 1, some x'⟩) (upd H a o) ∧ Nxt w s H w (s.set h ⟨false, 1, some x'⟩) (upd H a o) := by
  have mem : a ∈ w.Ps.flatten := mem_flat hP List.mem_cons_self
  have hF : w.F a = none := k.out a mem
  have eqP : w.Ps.set h [a] = w.Ps := by
    refine List.ext_getElem? fun i => ?_
    rw [List.getElem?_set]
    by_cases q : h = i
    · subst q
      rw [if_pos rfl, if_pos (List.getElem?_eq_some_iff.mp hP).1, hP]
    · rw [if_neg q]
  have fh : FH w.F (upd H a o) := fun b u e => by
    rw [upd_ne fun z => by rw [z, hF] at e; cases e]
    exact k.fh b u e
  have kk := k.put (G := w.F) (H' := upd H a o) (P' := [a]) (e' := ⟨false, 1, some x'⟩) he hio hP (Sub.refl _) fh (fun p hp _ => upd_ne fun z => hp (by rw [z]; exact List.mem_cons_self)) ⟨ow, fun _ => ⟨[], rfl⟩⟩ (List.nodup_cons.mpr ⟨List.not_mem_nil, List.nodup_nil⟩) (fun p hp => .inl hp)
    (fun p hp => by cases List.mem_singleton.mp hp; exact hF) (fun p hp _ => k.out p hp)
  rw [eqP] at kk
  refine ⟨kk, ⟨Sub.refl _, fun _ _ z => z, Nat.le_of_eq List.length_set.symm, fun p hp hf hn => ⟨upd_ne fun z => hn (by rw [z]; exact mem), rfl, hn⟩, fun j f hj hl => ?_⟩⟩
  have ne : h ≠ j := fun z => by
    subst z
    rw [he] at hj
    cases hj
    cases hl
  exact ⟨by rw [List.getElem?_set, if_neg ne]; exact hj, rfl, fun P hPj p hp => upd_ne fun z => flatten_apart k.dis hP hPj ne List.mem_cons_self (by rw [← z]; exact hp)⟩
def PkOk (H : Hp) (a : Addr) (x : D) : Prop := match x with
  | .lst _ => ∃ vs, H a = some (.lst vs)
  | .dic _ => ∃ kvs, H a = some (.dK kvs)
  | _ => True
theorem peek_ok (k : SOk K T w s H) {v : V} {d x : D} (r : RepS K T w v d) (e : peek d s = some x) : ∃ a, v = .ref a ∧ PkOk H a x := by
  cases d with
  | ref j =>
    obtain ⟨a, ha, rfl⟩ := r
    refine ⟨a, rfl, ?_⟩
    dsimp only [peek] at e
    split at e
    · rename_i lk kk y he
      cases e
      obtain ⟨a2, P, ha2, hP, ok⟩ := k.entry he
      rw [ha] at ha2
      cases ha2
      cases x with
      | lst ds =>
        cases ok.1 with
        | flat hc _ => cases hc
        | lst h _ _ => exact ⟨_, h⟩
      | dic ds =>
        cases ok.1 with
        | flat hc _ => cases hc
        | dic h _ _ => exact ⟨_, h⟩
      | _ => trivial
    · cases e
  | _ => cases e

/-! ### methods that change -/
def eMut (ty : D → Bool) (g : D → List D → Option (D × D)) (f : ME) (a : MA) : ME := fun e s => (f e s).bind fun x s => match peek x s with
  | some z0 => if ty z0 then (a e s).bind fun ds s => (take1 x s).bind fun hz s => match g hz.2 ds with
      | some (res, z') => .ok res (s.set hz.1 ⟨false, 1, some z'⟩)
      | none => .bad
    else .bad
  | none => .bad
/-- a rule that changes what stands at a -/
def RlM (K : PySem.W.Frag) (T : Tab) (r : V → List V → Hp → VK → Prop) (g : D → List D → Option (D × D)) : Prop :=
  ∀ F H a z vs ds res z', FH F H → RepT K T F H (.ref a) z → H a ≠ none → Own K T F H 1 (.ref a) z [a] → Reps K T F vs ds → g z ds = some (res, z') → ∀ Q : VK, (∀ v o, Own K T F (upd H a o) 1 (.ref a) z' [a] → Rep K T F v res → Q v (upd H a o)) → r (.ref a) vs H Q
def isLst : D → Bool
  | .lst _ => true
  | _ => false
def isDic : D → Bool
  | .dic _ => true
  | _ => false
theorem se_mut {E o : Expr} {es : List Expr} {r : V → List V → Hp → VK → Prop} {g : D → List D → Option (D × D)} {f : ME} {a : MA} {tn : String} {ty : D → Bool} (hE : ∀ {to : TE} {t : TA}, PE X o to → PA X es t → PE X E (tBM X.K tn r to t)) (rl : RlM X.K T r g)
    (hty : ∀ z (a : Addr) (H : Hp), ty z = true → PkOk H a z → tyV X.K tn (.ref a) H) (ho : SE X.K T .raw X W o f) (ha : SA X.K T false X W es a) : SE X.K T .tree X W E (eMut ty g f a) := .mk fun w env s σ H k eo Q p =>
  wpe_of (hE pe_wp pa_wp) (ho w env s σ H k eo _ (Post.bind p fun v d H1 w1 s1 a1 b1 c1 q => by
    have c1 : RepS X.K T w1 v d := c1
    cases hp : peek d s1 with
    | none =>
      rw [hp] at q
      exact q.elim
    | some z0 =>
      rw [hp] at q
      dsimp only [] at q
      split at q
      · rename_i ht
        obtain ⟨ad, rfl, hz⟩ := peek_ok a1 c1 hp
        refine ⟨hty z0 ad H1 ht hz, ?_⟩
        refine ha w1 env s1 σ H1 a1 (eo.nxt b1) _ (Post.bind (Post.nxt (rel1 := fun w' _ => Rep X.K T w'.F) b1 q fun _ _ _ _ _ _ z => z) fun vs ds H2 w2 s2 a2 b2 c2 q2 => ?_)
        have c2 : Reps X.K T w2.F vs ds := c2
        cases ht1 : take1 d s2 with
        | bad =>
          rw [ht1] at q2
          exact q2.elim
        | exc c fs s3 =>
          unfold take1 at ht1
          split at ht1
          · split at ht1 <;> cases ht1
          · cases ht1
        | ok hz2 s3 =>
          obtain ⟨h, z⟩ := hz2
          rw [ht1] at q2
          obtain ⟨w3, a3, e3, k3, n3, i3, P3, s3e, rt, ow, _⟩ := take1_ok a2 (RepS.nxt b2 c1) ht1
          cases e3
          have q2 : Post X.K T W w1 s1 σ H1 (fun w' _ => Rep X.K T w'.F) Q (match g z ds with
            | some (res, z') => .ok res (s3.set h ⟨false, 1, some z'⟩)
            | none => .bad) := q2
          cases hg : g z ds with
          | none =>
            rw [hg] at q2
            exact q2.elim
          | some rz =>
            obtain ⟨res, z'⟩ := rz
            rw [hg] at q2
            refine rl w3.F H2 ad z vs ds res z' k3.fh rt (ow.mut ad List.mem_cons_self).some ow (c2.sub n3.F) hg _ fun v o ow' rv => ?_
            obtain ⟨k4, n4⟩ := write_ok k3 i3 P3 s3e ow'
            exact q2.give k4 ((b2.trans n3).trans n4) rv
      · exact q.elim))
def gAppend : D → List D → Option (D × D)
  | .lst xs, [y] => if xs.length < sizeMax then some (.non, .lst (xs ++ [y])) else none
  | _, _ => none
theorem rl_append : RlM K T rAppend gAppend := fun F H a z vs ds res z' fh rt hn ow rs hg Q q => by
  unfold gAppend at hg
  split at hg
  · rename_i xs y
    obtain ⟨a2, us, e, h, r, zz⟩ := rt
    cases e
    cases rs with
    | cons r1 r2 =>
      cases r2
      split at hg
      · rename_i lt
        cases hg
        exact ⟨a, us, _, rfl, rfl, h, by rw [r.length]; exact lt, q _ _ (.lst upd_same (owns0 (r.append (.cons r1 .nil))) (by rw [List.length_append]; exact lt)) .non⟩
      · cases hg
  · cases hg
def gPop : D → List D → Option (D × D)
  | .lst xs, [] => (xs[xs.length - 1]?).map fun y => (y, .lst xs.dropLast)
  | _, _ => none
theorem reps_dropLast {F : Hp} {vs : List V} {ds : List D} (r : Reps K T F vs ds) : Reps K T F vs.dropLast ds.dropLast := by
  rw [List.dropLast_eq_take, List.dropLast_eq_take, r.length]
  exact r.take _
theorem rl_pop : RlM K T rPop gPop := fun F H a z vs ds res z' fh rt hn ow rs hg Q q => by
  unfold gPop at hg
  split at hg
  · rename_i xs
    obtain ⟨a2, us, e, h, r, zz⟩ := rt
    cases e
    cases rs
    cases hx : xs[xs.length - 1]? with
    | none =>
      rw [hx] at hg
      cases hg
    | some y =>
      rw [hx] at hg
      cases hg
      obtain ⟨v, hv, rv⟩ := r.get hx
      exact ⟨a, us, v, rfl, rfl, h, by rw [r.length]; exact hv, q v _ (.lst upd_same (owns0 (reps_dropLast r)) (by rw [List.length_dropLast]; omega)) rv⟩
  · cases hg
def gPopAt : D → List D → Option (D × D)
  | .lst xs, [.int i] => if decide (-9223372036854775808 ≤ i) && decide (i < 9223372036854775808) then (seqIndex? i xs.length).bind fun j => (xs[j]?).map fun y => (y, .lst (xs.eraseIdx j)) else none
  | _, _ => none
theorem rl_popAt : RlM K T rPopAt gPopAt := fun F H a z vs ds res z' fh rt hn ow rs hg Q q => by
  unfold gPopAt at hg
  split at hg
  · rename_i xs i
    obtain ⟨a2, us, e, h, r, zz⟩ := rt
    cases e
    cases rs with
    | cons r1 r2 =>
      cases r2
      cases rep_int r1
      split at hg
      · rename_i hi
        rw [Bool.and_eq_true, decide_eq_true_eq, decide_eq_true_eq] at hi
        cases hj : seqIndex? i xs.length with
        | none =>
          rw [hj] at hg
          cases hg
        | some j =>
          rw [hj] at hg
          have hg : (xs[j]?).map (fun y => (y, D.lst (xs.eraseIdx j))) = some (res, z') := hg
          cases hx : xs[j]? with
          | none =>
            rw [hx] at hg
            cases hg
          | some y =>
            rw [hx] at hg
            cases hg
            obtain ⟨v, hv, rv⟩ := r.get hx
            exact ⟨a, us, i, j, v, rfl, rfl, h, by omega, by omega, by rw [r.length]; exact hj, hv, q v _ (.lst upd_same (owns0 (r.eraseIdx j)) (Nat.le_trans (len_erase _ _) zz)) rv⟩
      · cases hg
  · cases hg
def gClear : D → List D → Option (D × D)
  | .lst _, [] => some (.non, .lst [])
  | _, _ => none
theorem rl_clear : RlM K T rClear gClear := fun F H a z vs ds res z' fh rt hn ow rs hg Q q => by
  unfold gClear at hg
  split at hg
  · cases hg
    obtain ⟨a2, us, e, h, r, zz⟩ := rt
    cases e
    cases rs
    exact ⟨a, us, rfl, rfl, h, q _ _ (.lst upd_same .nil (Nat.zero_le _)) .non⟩
  · cases hg
def gExtend : D → List D → Option (D × D)
  | .lst xs, [.lst ys] => if xs.length + ys.length ≤ sizeMax then some (.non, .lst (xs ++ ys)) else none
  | _, _ => none
theorem rl_extend : RlM K T rExtend gExtend := fun F H a z vs ds res z' fh rt hn ow rs hg Q q => by
  unfold gExtend at hg
  split at hg
  · rename_i xs ys
    obtain ⟨a2, us, e, h, r, zz⟩ := rt
    cases e
    cases rs with
    | cons r1 r2 =>
      cases r2
      cases r1 with
      | lst hb rb zb =>
        split at hg
        · rename_i lt
          cases hg
          exact ⟨a, _, us, _, rfl, rfl, h, fh.lst hb, by rw [r.length, rb.length]; exact lt, q _ _ (.lst upd_same (owns0 (r.append rb)) (by rw [List.length_append]; exact lt)) .non⟩
        · cases hg
  · cases hg

/-! ### x[i] = v -/
def rSetA : TSet := fun o i v H Q => rSetL o i v H Q ∨ rSetD o i v H Q
theorem set_all (hu : X.A.units + 1 < cLine) : PSet X rSetA := by
  intro pins s σ H o i v ov iv u Q I ro ri rv h
  rcases h with h | h
  · exact set_list pins s σ H o i v ov iv u Q I ro ri rv h
  · exact set_dict hu pins s σ H o i v ov iv u Q I ro ri rv h
def setD (x i v : D) : Option D := match x with
  | .lst xs => match i with
    | .int i => (ixNat xs.length i).map fun j => .lst (xs.set j v)
    | _ => none
  | .dic kvs => (putO kvs i v).map .dic
  | _ => none
def sSet (f g v : ME) : MS := fun e s => RSb (v e s) e fun y s => RSb (f e s) e fun x s => RSb (g e s) e fun i s => RSb (take1 x s) e fun hz s => match setD hz.2 i y with
  | some z' => .nx e (s.set hz.1 ⟨false, 1, some z'⟩)
  | none => .bad
theorem ixNat_eq (n : Nat) (i : Int) : ixNat n i = ixN n i := rfl
theorem keyEq_of (k l : Key) : keyEq (keyOf k) (keyOf l) = decide (k = l) := by
  cases k with
  | inl i =>
    cases l with
    | inl j =>
      show (i == j) = _
      rw [show decide ((Sum.inl i : Key) = Sum.inl j) = (i == j) from key_ll i j]
    | inr y => rfl
  | inr x =>
    cases l with
    | inl j => rfl
    | inr y =>
      show (x.cps.toList == y.cps.toList) = _
      by_cases h : x = y
      · subst h
        simp
      · rw [decide_eq_false (fun z => h (Sum.inr.inj z)), beq_eq_false_iff_ne]
        intro z
        apply h
        cases x
        cases y
        simp only [Str.mk.injEq]
        exact Array.toList_inj.mp z
theorem repK_any {F : Hp} (k : Key) : ∀ {kvs : List (Key × V)} {ds : List (D × D)}, RepK K T F kvs ds → (ds.any fun p => keyEq p.1 (keyOf k)) = kvs.any fun kv => decide (kv.1 = k)
  | _, _, .nil => rfl
  | _, _, .cons hk h r => by
    rw [List.any_cons, List.any_cons, repK_any k r, ← hk.1, keyEq_of]
theorem repK_map {F : Hp} (k : Key) {v : V} {d : D} (hv : Rep K T F v d) : ∀ {kvs : List (Key × V)} {ds : List (D × D)}, RepK K T F kvs ds → RepK K T F (kvs.map fun kv => if kv.1 = k then (kv.1, v) else kv) (ds.map fun p => if keyEq p.1 (keyOf k) then (p.1, d) else p)
  | _, _, .nil => .nil
  | _, _, .cons (k := k') (v := v') (d := d') (e := e') hk h r => by
    rw [List.map_cons, List.map_cons]
    have e : keyEq d' (keyOf k) = decide (k' = k) := by rw [← hk.1, keyEq_of]
    by_cases q : k' = k
    · rw [if_pos q, if_pos (by rw [e]; exact decide_eq_true q)]
      exact .cons hk hv (repK_map k hv r)
    · rw [if_neg q, if_neg (by rw [e]; intro z; exact q (of_decide_eq_true z))]
      exact .cons hk h (repK_map k hv r)
theorem RepK.snoc {F : Hp} {k : Key} {v : V} {a d : D} (hk : KeyR k a) (hv : Rep K T F v d) : ∀ {kvs : List (Key × V)} {ds : List (D × D)}, RepK K T F kvs ds → RepK K T F (kvs ++ [(k, v)]) (ds ++ [(a, d)])
  | _, _, .nil => .cons hk hv .nil
  | _, _, .cons h1 h2 r => .cons h1 h2 (RepK.snoc hk hv r)
theorem repK_put {F : Hp} {k : Key} {v : V} {a d : D} (hk : KeyR k a) (hv : Rep K T F v d) {kvs : List (Key × V)} {ds : List (D × D)} (r : RepK K T F kvs ds) : RepK K T F (L2.putK kvs k v) (putD ds a d) := by
  unfold L2.putK putD
  rw [← hk.1, repK_any k r]
  split
  · exact repK_map k hv r
  · exact r.snoc ⟨rfl, hk.2⟩ hv
theorem putD_len (ds : List (D × D)) (a d : D) : (putD ds a d).length ≤ ds.length + 1 := by
  unfold putD
  split
  · rw [List.length_map]; omega
  · rw [List.length_append]; exact Nat.le_refl _
theorem keyR_of {F : Hp} {x : V} {a : D} (r1 : Rep K T F x a) (hk : keyD a = true) : ∃ k, x = kV k ∧ KeyR k a := by
  cases a <;> try (cases hk; done)
  · cases rep_int r1
    exact ⟨.inl _, rfl, rfl, trivial⟩
  · obtain ⟨rfl, z⟩ := rep_str r1
    refine ⟨.inr _, rfl, rfl, ?_⟩
    simpa using z
theorem ss_setIx {rk : Nat} {o i e : Expr} {pos pos' : Pos} {f g v : ME} (hu : X.A.units + 1 < cLine) (hv : SE K T .tree X W e v) (ho : SE K T .raw X W o f) (hi : SE K T .tree X W i g)
    (ha : ∀ v, assign (.Subscript o i pos') X.env v = (do
      let ov ← holding [v] (eval o X.env)
      let iv ← holding [v, ov] (eval i X.env)
      standAt pos'
      holding [v, ov, iv] (setItem ov iv v)
      release [v, ov, iv] [])) (hs : swapsWithSole [.Subscript o i pos'] e pos.line X.env = pure false) (hw : swappedStores [.Subscript o i pos'] e X.env = pure none)
    (h1 : (assignEach [.Subscript o i pos'] X.env).map (·.2) = [assign (.Subscript o i pos') X.env]) : SS K T rk X W (.Assign [.Subscript o i pos'] e pos) (sSet f g v) := .mk fun w env s σ H k eo DD p =>
  wps_of (ps_asg pe_wp (pg_sub pe_wp pe_wp (set_all hu) ha) hs hw h1) (hv w env s σ H k eo _ (PostS.bind eo p fun v1 y H1 w1 s1 a1 b1 c1 q1 => ho w1 env s1 σ H1 a1 (eo.nxt b1) _ (PostS.bind (eo.nxt b1) (q1.nxt b1) fun v2 x H2 w2 s2 a2 b2 c2 q2 =>
    hi w2 env s2 σ H2 a2 ((eo.nxt b1).nxt b2) _ (PostS.bind ((eo.nxt b1).nxt b2) (q2.nxt b2) fun v3 i3 H3 w3 s3 a3 b3 c3 q3 => by
      have c1 : Rep K T w3.F v1 y := (Rep.sub b2.F c1).sub b3.F
      have c3 : Rep K T w3.F v3 i3 := c3
      have q3 := q3.nxt b3
      cases ht1 : take1 x s3 with
      | bad =>
        rw [ht1] at q3
        exact q3.elim
      | exc c fs s4 =>
        unfold take1 at ht1
        split at ht1
        · split at ht1 <;> cases ht1
        · cases ht1
      | ok hz s4 =>
        obtain ⟨h, z⟩ := hz
        rw [ht1] at q3
        obtain ⟨w4, a4, rfl, k4, n4, i4, P4, s4e, rt, ow, _⟩ := take1_ok a3 (RepS.nxt b3 c2) ht1
        have q3 : PostS K T rk W w3 s3 H3 DD (match setD z i3 y with
          | some z' => .nx env (s4.set h ⟨false, 1, some z'⟩)
          | none => .bad) := q3
        have eo3 : EOk K T w3 env σ := ((eo.nxt b1).nxt b2).nxt b3
        have fin : ∀ z' o', setD z i3 y = some z' → Own K T w4.F (upd H3 a4 o') 1 (.ref a4) z' [a4] → DD.nx σ (upd H3 a4 o') := fun z' o' e1 ow' => by
          rw [e1] at q3
          obtain ⟨k5, n5⟩ := write_ok k4 i4 P4 s4e ow'
          exact q3.giveN k5 (n4.trans n5) (eo3.nxt (n4.trans n5))
        cases hst : setD z i3 y with
        | none =>
          rw [hst] at q3
          exact q3.elim
        | some z' =>
          cases z with
          | lst xs =>
            cases i3 with
            | int i =>
              obtain ⟨a5, us, e5, hH, rr, zz⟩ := rt
              cases e5
              cases rep_int c3
              have e6 : (ixNat xs.length i).map (fun j => D.lst (xs.set j y)) = some z' := hst
              cases hj : ixNat xs.length i with
              | none =>
                rw [hj] at e6
                cases e6
              | some j =>
                rw [hj] at e6
                cases e6
                exact .inl ⟨_, us, i, j, rfl, rfl, hH, by rw [rr.length]; exact hj, fin _ _ hst (.lst upd_same (owns0 (rr.set (c1.sub n4.F) j)) (by rw [List.length_set]; exact zz))⟩
            | _ => cases hst
          | dic kvs =>
            have hst2 : (putO kvs i3 y).map D.dic = some z' := hst
            unfold putO at hst2
            split at hst2
            · rename_i hk
              rw [Bool.and_eq_true, decide_eq_true_eq] at hk
              cases hst2
              obtain ⟨kk, rfl, hkr⟩ := keyR_of c3 hk.1
              cases ow with
              | dic hH ro zz =>
                have rr : RepK K T w4.F _ kvs := OwnK.rep (Sub.refl _) ro fun _ hp => by cases hp
                exact .inr ⟨a4, _, rfl, .inl ⟨_, kk, hH, rfl, by rw [rr.length]; exact hk.2, rfl⟩, fin _ _ hst (.dic upd_same (ownk0 (repK_put hkr (c1.sub n4.F) rr)) (Nat.le_trans (putD_len _ _ _) hk.2))⟩
            · cases hst2
          | _ => cases hst))))

/-! ### fields -/
def eFld (n : Nat) (f : ME) : ME := fun e s => (f e s).bind fun x s => (open1 x s).bind fun x s => match x with
  | .ins _ fs => ofO s (fs.lookup n)
  | _ => .bad
/-- what a class must have for its instances' fields -/
structure CFld (K : PySem.W.Frag) (T : Tab) (f : Str) (n : Nat) : Prop where
  name : T.fld n = f
  inj : ∀ m, T.fld m = f → m = n
  cls : ∀ c C, T.cls c = some C → Cls K C ∧ NoAttr K C f
theorem lookup_fld {F : Hp} {f : Str} {n : Nat} (cf : CFld K T f n) {d : D} : ∀ {fv : List (Str × V)} {fs : List (Nat × D)}, RepF K T F fv fs → fs.lookup n = some d → ∃ v, fv.lookup f = some v ∧ Rep K T F v d
  | _, _, .nil, h => by cases h
  | _, _, .cons (n := m) hv r, h => by
    rw [List.lookup_cons] at h ⊢
    by_cases q : m = n
    · subst q
      rw [show (m == m) = true from beq_self_eq_true m] at h
      cases h
      rw [show (f == T.fld m) = true by rw [cf.name]; exact beq_self_eq_true f]
      exact ⟨_, rfl, hv⟩
    · rw [show (n == m) = false from beq_eq_false_iff_ne.mpr fun z => q z.symm] at h
      rw [show (f == T.fld m) = false from beq_eq_false_iff_ne.mpr fun z => q (cf.inj m z.symm)]
      exact lookup_fld cf r h
theorem se_fld {e : Expr} {f : Str} {n : Nat} {pos : Pos} {g : ME} (cf : CFld X.K T f n) (he : SE X.K T .raw X W e g) (hb : attributeBase e f X.env (eval e X.env) = eval e X.env) : SE X.K T .tree X W (.Attribute e f pos) (eFld n g) := .mk fun w env s σ H k eo Q p =>
  wpe_of (pe_fld pe_wp hb) (he w env s σ H k eo _ (Post.bind p fun v d H1 w1 s1 a b c q => by
    cases ho : open1 d s1 with
    | bad =>
      rw [ho] at q
      exact q.elim
    | exc _ _ _ => exact (open1_noexc ho).elim
    | ok x s2 =>
      rw [ho] at q
      obtain ⟨w2, k2, n2, r2, _⟩ := open1_ok a c ho
      cases x with
      | ins cc fs =>
        obtain ⟨ad, C, dx, fv, rfl, hC, hH, rf⟩ := r2
        have q : Post X.K T W w s σ H (fun w' _ => Rep X.K T w'.F) Q (ofO s2 (fs.lookup n)) := q
        cases hl : fs.lookup n with
        | none =>
          rw [hl] at q
          exact q.elim
        | some y =>
          rw [hl] at q
          obtain ⟨u, h1, h2⟩ := lookup_fld cf rf hl
          exact ⟨ad, C, dx, fv, u, rfl, hH, (cf.cls _ _ hC).1, (cf.cls _ _ hC).2, h1, q.give k2 (b.trans n2) h2⟩
      | _ => exact q.elim))
/-- x.f = v -/
def sSetF (n : Nat) (f v : ME) : MS := fun e s => RSb (v e s) e fun y s => RSb (f e s) e fun x s => RSb (take1 x s) e fun hz s => match hz.2 with
  | .ins c fs => if fs.length < 1000 then .nx e (s.set hz.1 ⟨false, 1, some (.ins c (putFld n y fs))⟩) else .bad
  | _ => .bad
theorem repF_put {F : Hp} {f : Str} {n : Nat} (cf : CFld K T f n) {v : V} {d : D} (hv : Rep K T F v d) : ∀ {fv : List (Str × V)} {fs : List (Nat × D)}, RepF K T F fv fs → RepF K T F (putF f v fv) (putFld n d fs)
  | _, _, .nil => by
    show RepF K T F [(f, v)] [(n, d)]
    rw [← cf.name]
    exact .cons hv .nil
  | _, _, .cons (n := m) h r => by
    unfold putF putFld
    by_cases q : m = n
    · rw [if_pos (by rw [q]; exact cf.name), if_pos q]
      exact .cons hv r
    · rw [if_neg (fun z => q (cf.inj m z)), if_neg q]
      exact .cons h (repF_put cf hv r)
theorem repF_len {F : Hp} : ∀ {fv : List (Str × V)} {fs : List (Nat × D)}, RepF K T F fv fs → fv.length = fs.length
  | _, _, .nil => rfl
  | _, _, .cons _ r => by rw [List.length_cons, List.length_cons, repF_len r]
theorem ss_setFld {rk : Nat} {o e : Expr} {f : Str} {n : Nat} {pos pos' : Pos} {g v : ME} (cf : CFld X.K T f n) (hv : SE X.K T .tree X W e v) (ho : SE X.K T .raw X W o g) (hs : swapsWith e (some (.Attribute o f pos')) pos.line X.env = pure false) :
    SS X.K T rk X W (.Assign [.Attribute o f pos'] e pos) (sSetF n g v) := .mk fun w env s σ H k eo D p =>
  wps_of (ps_fld pe_wp pe_wp hs) (hv w env s σ H k eo _ (PostS.bind eo p fun v1 y H1 w1 s1 a1 b1 c1 q1 => ho w1 env s1 σ H1 a1 (eo.nxt b1) _ (PostS.bind (eo.nxt b1) (q1.nxt b1) fun v2 x H2 w2 s2 a2 b2 c2 q2 => by
    have c1 : Rep X.K T w2.F v1 y := Rep.sub b2.F c1
    have q2 := q2.nxt b2
    cases ht1 : take1 x s2 with
    | bad =>
      rw [ht1] at q2
      exact q2.elim
    | exc c fs s4 =>
      unfold take1 at ht1
      split at ht1
      · split at ht1 <;> cases ht1
      · cases ht1
    | ok hz s4 =>
      obtain ⟨h, z⟩ := hz
      rw [ht1] at q2
      obtain ⟨w4, a4, rfl, k4, n4, i4, P4, s4e, rt, ow, _⟩ := take1_ok a2 c2 ht1
      cases z with
      | ins cc fs =>
        obtain ⟨a5, C, dx, fv, e5, hC, hH, rf⟩ := rt
        cases e5
        have q2 : PostS X.K T rk W w2 s2 H2 D (if fs.length < 1000 then .nx env (s4.set h ⟨false, 1, some (.ins cc (putFld n y fs))⟩) else .bad) := q2
        split at q2
        · rename_i lt
          obtain ⟨k5, n5⟩ := write_ok k4 i4 P4 s4e (o := .ins C dx (putF f v1 fv)) (x' := .ins cc (putFld n y fs)) (.ins hC upd_same (ownf0 (repF_put cf (c1.sub n4.F) rf)))
          exact ⟨a4, C, dx, fv, rfl, hH, (cf.cls _ _ hC).1, (cf.cls _ _ hC).2, by rw [repF_len rf]; exact lt, q2.giveN k5 (n4.trans n5) (((eo.nxt b1).nxt b2).nxt (n4.trans n5))⟩
        · exact q2.elim
      | _ => exact q2.elim)))
end
end VM

set_option Elab.async false
set_option linter.all false
set_option maxRecDepth 100000
set_option maxHeartbeats 1000000
/-! VM14: comprehensions. -/
namespace VM
open PySem PySem.Spec PyProof.Rows L2
section
variable {K : PySem.W.Frag} {T : Tab} {w w' : Wd} {s s' : Store} {H H' : Hp} {X : Cx} {W : WX}

/-- within a comprehension's block nothing is raised -/
abbrev W0 : WX := fun _ _ _ _ => False
theorem takes0 {X : Cx} : Takes X W0 := fun u s' h => by
  obtain ⟨a, B, sI, pins, σ, H, cls, d, _, _, _, _, _, _, _, _, z⟩ := h
  exact z.elim
def WPTs (X : Cx) (ifs : List Expr) (σ : L2.St) (H : Hp) (Q : Bool → Hp → Prop) : Prop := ∀ (pins : List (Addr × Obj)) (s : Shared), Inv X pins σ H s →
  wpAny (model X.prog X.w) X.A (forIn ifs true fun c r => if r = true then do let ok ← isTrue c X.env (eval c X.env); pure (ForInStep.yield ok) else pure (ForInStep.yield r)) (TP X pins σ Q) X.xe s
theorem pts_wp {ifs : List Expr} : PTs X ifs (WPTs X ifs) := ⟨fun pins s σ H Q I h => h pins s I⟩
def STs0 (K : PySem.W.Frag) (T : Tab) (X : Cx) (W : WX) (ifs : List Expr) (f : MT) : Prop := ∀ w env s σ H, SOk K T w s H → EOk K T w env σ → ∀ Q : Bool → Hp → Prop, Post K T W w s σ H (fun _ _ b c => b = c) Q (f env s) → WPTs X ifs σ H Q
structure STs (K : PySem.W.Frag) (T : Tab) (X : Cx) (W : WX) (ifs : List Expr) (f : MT) : Prop where
  run : STs0 K T X W ifs f
instance {K : PySem.W.Frag} {T : Tab} {X : Cx} {W : WX} {ifs : List Expr} {f : MT} : CoeFun (STs K T X W ifs f) fun _ => STs0 K T X W ifs f := ⟨STs.run⟩
theorem sts_nil : STs K T X W [] VM.tYes := .mk fun w env s σ H k eo Q p pins sh I => pts_nil.run pins sh σ H Q I (p true H w k .refl rfl)
theorem sts_one {c : Expr} {f : MT} (h : ST K T X W c f) : STs K T X W [c] f := .mk fun w env s σ H k eo Q p pins sh I => (pts_one pt_wp).run pins sh σ H Q I (h w env s σ H k eo Q p)

theorem eo_wipe {env : VM.Env} {σ : L2.St} (eo : EOk K T w env σ) : ∀ vs : List Nat, EOk K T w (VM.wipe env vs) (L2.wipe σ vs)
  | [] => eo
  | v :: vs => by
    have ih := eo_wipe eo vs
    refine ⟨by unfold VM.wipe L2.wipe; rw [List.length_set, List.length_set]; exact ih.len, fun i d h => ?_⟩
    unfold VM.wipe at h
    unfold L2.wipe
    rw [List.getElem?_set] at h ⊢
    by_cases q : v = i
    · rw [if_pos q] at h
      split at h <;> cases h
    · rw [if_neg q] at h ⊢
      exact ih.get i d h
theorem wipe_in {σ : L2.St} {i : Nat} : ∀ {vs : List Nat}, i ∈ vs → i < σ.length → (L2.wipe σ vs)[i]? = some none
  | v :: vs, h, lt => by
    unfold L2.wipe
    rw [List.getElem?_set]
    by_cases q : v = i
    · rw [if_pos q, if_pos (by rw [wipe_length, q]; exact lt)]
    · rw [if_neg q]
      exact wipe_in ((List.mem_cons.mp h).resolve_left fun z => q z.symm) lt
theorem wipe_out2 {σ : L2.St} {i : Nat} : ∀ {vs : List Nat}, i ∉ vs → (L2.wipe σ vs)[i]? = σ[i]?
  | [], _ => rfl
  | v :: vs, h => by
    unfold L2.wipe
    rw [List.getElem?_set, if_neg fun q => h (by rw [q]; exact List.mem_cons_self)]
    exact wipe_out2 fun q => h (List.mem_cons_of_mem _ q)
theorem wipe_wipe (σ : L2.St) (vs : List Nat) : L2.wipe (L2.wipe σ vs) vs = L2.wipe σ vs := by
  refine List.ext_getElem? fun i => ?_
  by_cases h : i ∈ vs
  · by_cases lt : i < σ.length
    · rw [wipe_in h (by rw [wipe_length]; exact lt), wipe_in h lt]
    · rw [List.getElem?_eq_none_iff.mpr (by rw [wipe_length, wipe_length]; omega), List.getElem?_eq_none_iff.mpr (by rw [wipe_length]; omega)]
  · rw [wipe_out2 h]
/-- the reading of a block's parts, whatever the block's frame is -/
def BE (X : Cx) (scope : Scope) (e : Expr) : TE := fun σ H Q => ∀ (s : Shared) (H0 : Hp) (C : Addr) (cl : List (Str × Addr)) (fp : List Addr), WPE (X.blk s H0 scope (compEnvC scope cl C X.env) fp) e σ H Q
def BTs (X : Cx) (scope : Scope) (e : List Expr) : TT := fun σ H Q => ∀ (s : Shared) (H0 : Hp) (C : Addr) (cl : List (Str × Addr)) (fp : List Addr), WPTs (X.blk s H0 scope (compEnvC scope cl C X.env) fp) e σ H Q
theorem be_wp {scope : Scope} {e : Expr} (s : Shared) (H0 : Hp) (C : Addr) (cl : List (Str × Addr)) (fp : List Addr) : PE (X.blk s H0 scope (compEnvC scope cl C X.env) fp) e (BE X scope e) := ⟨fun pins sh σ H Q I h => h s H0 C cl fp pins sh I⟩
theorem bts_wp {scope : Scope} {e : List Expr} (s : Shared) (H0 : Hp) (C : Addr) (cl : List (Str × Addr)) (fp : List Addr) : PTs (X.blk s H0 scope (compEnvC scope cl C X.env) fp) e (BTs X scope e) := ⟨fun pins sh σ H Q I h => h s H0 C cl fp pins sh I⟩
/-- the block's parts keep their meanings -/
def BSE (K : PySem.W.Frag) (T : Tab) (X : Cx) (scope : Scope) (e : Expr) (f : ME) : Prop := ∀ (s : Shared) (H0 : Hp) (C : Addr) (cl : List (Str × Addr)) (fp : List Addr), SE K T .tree (X.blk s H0 scope (compEnvC scope cl C X.env) fp) W0 e f
def BSTs (K : PySem.W.Frag) (T : Tab) (X : Cx) (scope : Scope) (e : List Expr) (f : MT) : Prop := ∀ (s : Shared) (H0 : Hp) (C : Addr) (cl : List (Str × Addr)) (fp : List Addr), STs K T (X.blk s H0 scope (compEnvC scope cl C X.env) fp) W0 e f
theorem be_run {scope : Scope} {e : Expr} {f : ME} (h : BSE K T X scope e f) {env : VM.Env} {σ : L2.St} (k : SOk K T w s H) (eo : EOk K T w env σ) {d : D} (r : f env s = .ok d s') {Q : VK} (q : ∀ v H' w', SOk K T w' s' H' → Nxt w s H w' s' H' → Rep K T w'.F v d → Q v H') : BE X scope e σ H Q := fun sh H0 C cl fp =>
  h sh H0 C cl fp w env s σ H k eo Q (by rw [r]; exact q)
theorem bts_run {scope : Scope} {e : List Expr} {f : MT} (h : BSTs K T X scope e f) {env : VM.Env} {σ : L2.St} (k : SOk K T w s H) (eo : EOk K T w env σ) {b : Bool} (r : f env s = .ok b s') {Q : Bool → Hp → Prop} (q : ∀ H' w', SOk K T w' s' H' → Nxt w s H w' s' H' → Q b H') : BTs X scope e σ H Q := fun sh H0 C cl fp =>
  h sh H0 C cl fp w env s σ H k eo Q (by rw [r]; exact fun v H' w' a b c => by subst c; exact q H' w' a b)
theorem lc_run {tg iter elt : Expr} {ifs : List Expr} {scope : Scope} {own : List Nat} {it : MI} {g : MG} {t : TG} {is : List Nat} {tt : MT} {f : ME} (hi : SI K T X W tg iter it) (hm : SG K T is g t) (his : ∀ i ∈ is, i ∈ own) (ht : BSTs K T X scope ifs tt) (he : BSE K T X scope elt f)
    {env : VM.Env} {σ : L2.St} (k : SOk K T w s H) (eo : EOk K T w env σ) {Q : VK} (p : Post K T W w s σ H (fun w' H' => OwnV K T (.own 1) w H w' H') Q (eLc own it g tt f env s)) : tLc (WPI X tg iter) t (BTs X scope ifs) (BE X scope elt) own σ H Q := hi w env s σ H k eo _ (by
  unfold eLc at p
  cases e : it env s with
  | bad =>
    rw [e] at p
    exact p
  | exc c fs s1 =>
    rw [e] at p
    exact p
  | ok xo s1 =>
    obtain ⟨ds, o⟩ := xo
    rw [e] at p
    have p : Post K T W w s σ H (fun w' H' => OwnV K T (.own 1) w H w' H') Q (match lcGo g tt f (VM.wipe env own) ds [] s1 with
      | .ok ds s => .ok (.lst ds) (unlock o s)
      | _ => .bad) := p
    intro J H1 w1 k1 n1 src lk L hL
    have F1 : w1.F L = none := k1.noF hL
    have P1 : L ∉ w1.Ps.flatten := k1.noP hL
    refine ⟨fun i mm H2 => mm = ds.length - i ∧ i ≤ ds.length ∧ ∃ w2 s2 acc vs, SOk K T w2 s2 H2 ∧ Nxt w1 s1 H1 w2 s2 H2 ∧ H2 L = some (.lst vs) ∧ w2.F L = none ∧ L ∉ w2.Ps.flatten ∧ Reps K T w2.F vs acc ∧ acc.length ≤ sizeMax ∧
      Post K T W w s σ H (fun w' H' => OwnV K T (.own 1) w H w' H') Q (match lcGo g tt f (VM.wipe env own) (ds.drop i) acc s2 with
      | .ok ds s => .ok (.lst ds) (unlock o s)
      | _ => .bad), ⟨_, rfl, Nat.zero_le _, w1, s1, [], [], k1.other hL, .other k1 hL, upd_same, F1, P1, .nil, Nat.zero_le _, p⟩, ?_⟩
    rintro i mm H2 ⟨rfl, hi, w2, s2, acc, vs, k2, n2, hL2, F2, P2, rr, za, p2⟩
    obtain ⟨st, go⟩ := src w2 s2 H2 k2 n2
    rcases Nat.lt_or_ge i ds.length with lt | ge
    · obtain ⟨go1, yl⟩ := go i ds[i] (List.getElem?_eq_getElem lt)
      refine .inr ⟨go1, fun H' => i + 1 ≤ ds.length ∧ ∃ w2 s2 acc vs, SOk K T w2 s2 H' ∧ Nxt w1 s1 H1 w2 s2 H' ∧ H' L = some (.lst vs) ∧ w2.F L = none ∧ L ∉ w2.Ps.flatten ∧ Reps K T w2.F vs acc ∧ acc.length ≤ sizeMax ∧
        Post K T W w s σ H (fun w' H' => OwnV K T (.own 1) w H w' H') Q (match lcGo g tt f (VM.wipe env own) (ds.drop (i + 1)) acc s2 with
        | .ok ds s => .ok (.lst ds) (unlock o s)
        | _ => .bad), fun H' hN => ⟨_, by omega, rfl, hN⟩, fun x H3 hy => ?_⟩
      obtain ⟨w3, k3, n3, r3⟩ := yl x H3 hy
      rw [List.drop_eq_getElem_cons lt] at p2
      unfold lcGo at p2
      have keepL : ∀ {wa wb : Wd} {sa sb : Store} {Ha Hb : Hp} {us : List V}, Nxt wa sa Ha wb sb Hb → Ha L = some (.lst us) → wa.F L = none → L ∉ wa.Ps.flatten → Hb L = some (.lst us) ∧ wb.F L = none ∧ L ∉ wb.Ps.flatten := fun n a b c => by
        obtain ⟨x, y, z⟩ := n.keep L (by rw [a]; intro z; cases z) (.inl b) c
        exact ⟨x.trans a, y.trans b, z⟩
      have eo3 : EOk K T w3 (VM.wipe env own) (L2.wipe σ own) := eo_wipe ((((eo.nxt n1).nxt n2).nxt n3)) own
      cases eg : g (VM.wipe env own) ds[i] with
      | none =>
        rw [eg] at p2
        exact p2.elim
      | some env3 =>
        rw [eg] at p2
        refine hm w3 s2 H3 k3 _ _ x ds[i] env3 eo3 r3 eg _ fun σ3 eo4 hw => ⟨(hw own his).trans (wipe_wipe σ own), ?_⟩
        obtain ⟨hL3, F3, P3⟩ := keepL n3 hL2 F2 P2
        dsimp only [] at p2
        cases et : tt env3 s2 with
        | ok b s4 =>
          rw [et] at p2
          refine bts_run ht k3 eo4 et fun H4 w4 k4 n4 => ?_
          obtain ⟨hL4, F4, P4⟩ := keepL n4 hL3 F3 P3
          cases b with
          | false =>
            rw [if_neg (by intro z; cases z)]
            exact ⟨lt, w4, s4, acc, vs, k4, (n2.trans n3).trans n4, hL4, F4, P4, (rr.sub n3.F).sub n4.F, za, p2⟩
          | true =>
            rw [if_pos rfl]
            cases ef : f env3 s4 with
            | ok y s5 =>
              dsimp only [] at p2
              rw [ef] at p2
              refine be_run he k4 (eo4.nxt n4) ef fun v H5 w5 k5 n5 r5 => ?_
              obtain ⟨hL5, F5, P5⟩ := keepL n5 hL4 F4 P4
              dsimp only [] at p2
              by_cases lz : acc.length < sizeMax
              · rw [if_pos lz] at p2
                have rr5 : Reps K T w5.F vs acc := ((rr.sub n3.F).sub n4.F).sub n5.F
                have fh6 : FH w5.F (upd H5 L (.lst (vs ++ [v]))) := fun a u ea => by
                  rw [upd_ne fun z => by rw [z, F5] at ea; cases ea]
                  exact k5.fh a u ea
                have k6 : SOk K T w5 s5 (upd H5 L (.lst (vs ++ [v]))) := ⟨fh6, k5.lenI, k5.lenP, fun h e a P he ha hP => by
                  have old := k5.ent h e a P he ha hP
                  unfold EntOk at old ⊢
                  cases q : e.d with
                  | none =>
                    rw [q] at old
                    exact old
                  | some d =>
                    rw [q] at old
                    exact ⟨old.1.sub (Sub.refl _) fun x hx => upd_ne fun z => P5 (mem_flat hP (by rw [← z]; exact hx)), old.2⟩, k5.dis, k5.out⟩
                have n05 : Nxt w1 s1 H1 w5 s5 H5 := ((n2.trans n3).trans n4).trans n5
                have n6 : Nxt w1 s1 H1 w5 s5 (upd H5 L (.lst (vs ++ [v]))) := ⟨n05.F, n05.io, n05.len, fun p hp hf hn => by
                  obtain ⟨x, y, z⟩ := n05.keep p hp hf hn
                  exact ⟨by rw [upd_ne fun q => by rw [q] at hp; exact hp hL]; exact x, y, z⟩, fun h e he hl => by
                  obtain ⟨x, y, z⟩ := n05.lock h e he hl
                  exact ⟨x, y, fun P hP p hp => by rw [upd_ne fun q => P1 (mem_flat hP (by rw [← q]; exact hp))]; exact z P hP p hp⟩⟩
                exact ⟨vs, hL5, by rw [rr5.length]; exact lz, lt, w5, s5, acc ++ [y], vs ++ [v], k6, n6, upd_same, F5, P5, rr5.append (.cons r5 .nil), by rw [List.length_append]; exact lz, p2⟩
              · rw [if_neg lz] at p2
                exact p2.elim
            | exc c fs s5 =>
              dsimp only [] at p2
              rw [ef] at p2
              exact p2.elim
            | bad =>
              dsimp only [] at p2
              rw [ef] at p2
              exact p2.elim
        | exc c fs s4 =>
          rw [et] at p2
          exact p2.elim
        | bad =>
          rw [et] at p2
          exact p2.elim
    · refine .inl ⟨st i ge, ?_⟩
      rw [List.drop_eq_nil_of_le ge] at p2
      have p2 : Post K T W w s σ H (fun w' H' => OwnV K T (.own 1) w H w' H') Q (.ok (.lst acc) (unlock o s2)) := p2
      refine p2 (.ref L) H2 w2 (unlock_ok k2 o) (unlock_nxt (n1.trans n2) lk) (OwnV.nxt n1 ⟨[L], .lst hL2 (owns0 rr) za, List.nodup_cons.mpr ⟨List.not_mem_nil, List.nodup_nil⟩, fun q hq => ?_⟩)
      cases List.mem_singleton.mp hq
      exact ⟨F2, P2, F1, .inl hL⟩)
theorem se_lc {elt tg iter : Expr} {ifs : List Expr} {scope : Scope} {own : List (Str × Nat)} {pos : Pos} {it : MI} {g : MG} {t : TG} {is : List Nat} {tt : MT} {f : ME} (hc : X.calm = true) (hN : X.N.Nodup) (hi : SI K T X W tg iter it) (ok : BlkOk X.N X.env.scope scope own)
    (hg : ∀ (s : Shared) (H : Hp) (C : Addr) (cl : List (Str × Addr)) (fp : List Addr), PG (X.blk s H scope (compEnvC scope cl C X.env) fp) tg t) (hm : SG K T is g t) (his : ∀ i ∈ is, i ∈ own.map (·.2)) (ht : BSTs K T X scope ifs tt) (he : BSE K T X scope elt f)
    (hs : ∀ x, foldedSetIterable iter X.env x = pure x) : SE K T (.own 1) X W (.ListComp elt [⟨tg, iter, ifs, 0⟩] scope pos) (eLc (own.map (·.2)) it g tt f) := .mk fun w env s σ H k eo Q p =>
  wpe_of (pe_lc hc hN pi_wp ok hg bts_wp be_wp hs) (lc_run hi hm his ht he k eo p)
/-- name = [..] on one line -/
theorem ss_setLc {rk j i : Nat} {y : Str} {py : Pos} {elt tg iter : Expr} {ifs : List Expr} {scope : Scope} {own : List (Str × Nat)} {pos spos : Pos} {it : MI} {g : MG} {t : TG} {is : List Nat} {tt : MT} {f : ME} (hc : X.calm = true) (hN : X.N.Nodup) (hy : X.N[i]? = some y) (hyl : X.env.scope.names.lookup y = some .local)
    (hsw : swapsWith (.ListComp elt [⟨tg, iter, ifs, 0⟩] scope pos) (some (.Name y py)) spos.line X.env = pure true) (hi : SI K T X W tg iter it) (ok : BlkOk X.N X.env.scope scope own)
    (hg : ∀ (s : Shared) (H : Hp) (C : Addr) (cl : List (Str × Addr)) (fp : List Addr), PG (X.blk s H scope (compEnvC scope cl C X.env) fp) tg t) (hm : SG K T is g t) (his : ∀ i ∈ is, i ∈ own.map (·.2)) (ht : BSTs K T X scope ifs tt) (he : BSE K T X scope elt f)
    (hs : ∀ x, foldedSetIterable iter X.env x = pure x) : SS K T rk X W (.Assign [.Name y py] (.ListComp elt [⟨tg, iter, ifs, 0⟩] scope pos) spos) (sOwnV 1 i (eLc (own.map (·.2)) it g tt f)) := .mk fun w env s σ H k eo D p =>
  wps_of (ps_setLc hc hN hy hyl hsw pi_wp ok hg bts_wp be_wp hs) (lc_run (W := W) hi hm his ht he k eo (PostS.bind eo p fun v d H1 w1 s1 a b c q => own_named eo a b c q))
end
end VM

set_option Elab.async false
set_option linter.all false
set_option maxRecDepth 100000
set_option maxHeartbeats 1000000
/-! VM15: C(..); == and != of instances. -/
namespace VM
open PySem PySem.Spec PyProof.Rows L2
section
variable {K : PySem.W.Frag} {T : Tab} {w w' : Wd} {s s' : Store} {H H' : Hp} {X : Cx} {W : WX}

/-! ### C(..) -/
structure CalN (P : Program) (wo : World) (K : PySem.W.Frag) (mg : Str → Option Value) (base : Heap) (T : Tab) (k : Nat) (x : Str) (c : Nat) (fn : Fn) : Prop where
  ex : ∃ f fd ps C, FnOk P wo K mg base (L2.CX P wo) k f fd ps (spOf K T fn) ∧ mg x = some (.ref C) ∧ T.cls c = some C ∧ Mk K C f ∧ Binds K fd ps []
theorem CalN.mono {P : Program} {wo : World} {mg : Str → Option Value} {base : Heap} {j k c : Nat} {x : Str} {fn : Fn} (cm : CalN P wo K mg base T j x c fn) (h : j ≤ k) : CalN P wo K mg base T k x c fn := by
  obtain ⟨f, fd, ps, C, a, b⟩ := cm.ex
  exact ⟨f, fd, ps, C, a.mono h, b⟩
/-- a new instance, as a tree -/
def newOf (c : Nat) (init : Fn) (ds : List D) (s : Store) : VM.R D := match init.sem (.ref s.length :: ds) (s ++ [⟨false, 1, some (.ins c [])⟩]) with
  | .ok .non s' => (match s'[s.length]? with
    | some ⟨false, _, some x⟩ => .ok x (s'.take s.length)
    | _ => .bad)
  | .ok _ _ => .bad
  | .exc c fs s' => .exc c fs (s'.take s.length)
  | .bad => .bad
def eMake (c : Nat) (init : Fn) (a : MA) : ME := fun e s => (a e s).bind fun ds s => if ds.length + 1 = init.np then newOf c init ds s else .bad
theorem run_makeS {CX : CXT} {k : Nat} {f C : Addr} {fd : FuncData} {ps : List Str} {sp : Sp} {E : L2.St → XK} {pins : List (Addr × Obj)} {σ : L2.St} {sh : Shared} {Q : VK} {us : List Value} {vs : List V} (M : Mk X.K C f) (F : FnOk X.prog X.w X.K X.mg X.base CX k f fd ps sp) (hr : Room (k + 1) X.A) (hb : Binds X.K fd ps [])
    (hx : PassesAt CX X σ (E σ)) (I : Inv X pins σ H sh) (r : Vals vs us)
    (h : ∀ x dx, H x = none → H dx = none → dx ≠ x → sp (.ref x :: vs) (upd (upd H dx (.own x)) x (.ins C dx [])) (fun v H2 => v = .non ∧ Q (.ref x) H2) (E σ)) :
    wpAny (model X.prog X.w) X.A (call (.ref C) us) (EP X pins σ Q) X.xe sh := by
  have ask := h (sh.heap.objs.size + 1) sh.heap.objs.size (I.hok.fresh (Nat.le_succ _)) (I.hok.fresh (Nat.le_refl _)) (Nat.ne_of_lt (Nat.lt_succ_self _))
  have made := Inv.made (C := C) I
  have both : Vals (V.ref (sh.heap.objs.size + 1) :: vs) (Value.ref (sh.heap.objs.size + 1) :: us) := .cons rfl r
  have len : (Value.ref (sh.heap.objs.size + 1) :: us).length = ps.length := by
    rw [← both.length]
    exact F.len _ _ _ _ ask
  have bnd := hb _ (Value.ref (sh.heap.objs.size + 1) :: us) made.kIn (by rw [List.append_nil]; exact len)
  rw [List.append_nil] at bnd
  refine wpAny_call (make_map (f := f) I.kIn M.makes M.init (beq_iff_eq.mp M.fn) (codeAny_mono (F.run _ X.stack _ _ ⟨Value.ref (sh.heap.objs.size + 1) :: us, []⟩ (Value.ref (sh.heap.objs.size + 1) :: us) _ _ (E σ) (hr.make C us [])
    (made.env0.make C us []) bnd both ask) fun res sh' back => ?_))
  cases res with
  | error er => exact hx pins _ _ er sh' made back
  | ok fl =>
    cases fl with
    | ret u =>
      obtain ⟨v, H', I3, rv, ev, q3⟩ := made.after back
      subst ev
      exact ⟨rv, ⟨V.ref (sh.heap.objs.size + 1), H', I3, rfl, q3⟩⟩
    | next => exact False.elim back
    | brk => exact False.elim back
    | cont => exact False.elim back
theorem own_non {F : Hp} {k : Nat} {v : V} {P : List Addr} (o : Own K T F H k v .non P) : v = .non := by
  cases o with
  | frz h => cases h; rfl
  | flat _ h => cases h; rfl
theorem make_sp {c : Nat} {C : Addr} {fn : Fn} {σ : L2.St} {vs : List V} {ds : List D} (hC : T.cls c = some C) (k : SOk K T w s H) (r : RepSs K T w vs ds) (hl : ds.length + 1 = fn.np) {Q : VK} (p : Post K T W w s σ H (fun w' _ => Rep K T w'.F) Q (newOf c fn ds s)) {x dx : Addr} (hx : H x = none) (hdx : H dx = none) (hne : dx ≠ x) :
    spOf K T fn (.ref x :: vs) (upd (upd H dx (.own x)) x (.ins C dx [])) (fun v H2 => v = .non ∧ Q (.ref x) H2) (WE W σ) := by
  have hx2 : upd H dx (.own x) x = none := by rw [upd_ne (Ne.symm hne)]; exact hx
  have k1 := k.other (o := HO.own x) hdx
  have k2 := k1.other (o := .ins C dx []) hx2
  have n2 : Nxt w s H w s (upd (upd H dx (.own x)) x (.ins C dx [])) := (Nxt.other k hdx).trans (Nxt.other k1 hx2)
  have o2 : Own K T w.F (upd (upd H dx (.own x)) x (.ins C dx [])) 1 (.ref x) (.ins c []) [x] := .ins hC upd_same .nil
  obtain ⟨w3, k3, n3, r3, n4, e3⟩ := k2.own n2 o2 (New.one k hx)
  have rs : RepSs K T w3 vs ds := r.nxt n3
  refine ⟨w3, s ++ [⟨false, 1, some (.ins c [])⟩], .ref s.length :: ds, k3, .cons r3 rs, hl, ?_⟩
  unfold newOf at p
  have io3 : w3.io[s.length]? = some x := by
    obtain ⟨a, ha, e⟩ := r3
    cases e
    exact ha
  cases er : fn.sem (.ref s.length :: ds) (s ++ [⟨false, 1, some (.ins c [])⟩]) with
  | bad =>
    rw [er] at p
    exact p
  | exc cc fs s4 =>
    rw [er] at p
    exact fun C2 dd fv H4 w4 a b c1 c2 c3 => p C2 dd fv H4 _ (a.cut s.length) (Nxt.cut k a (n3.trans b)) c1 c2 c3
  | ok d s4 =>
    rw [er] at p
    intro v H4 w4 a b c4
    cases d with
    | non =>
      obtain ⟨P, ow, _⟩ := c4
      refine ⟨own_non ow, ?_⟩
      have p : Post K T W w s σ H (fun w' _ => Rep K T w'.F) Q (match s4[s.length]? with
        | some ⟨false, _, some x⟩ => .ok x (s4.take s.length)
        | _ => .bad) := p
      cases e4 : s4[s.length]? with
      | none =>
        rw [e4] at p
        exact p.elim
      | some en =>
        obtain ⟨lk, kk, y⟩ := en
        rw [e4] at p
        cases lk with
        | true => exact p.elim
        | false =>
          cases y with
          | none => exact p.elim
          | some y =>
            have io4 : w4.io[s.length]? = some x := b.io _ _ io3
            obtain ⟨a5, P5, ha5, hP5, _⟩ := a.entry e4
            rw [io4] at ha5
            cases ha5
            obtain ⟨w5, k5, n5, r5, _⟩ := a.freeze e4 rfl rfl io4 hP5
            have e6 : (s4.set s.length ⟨false, 0, some y⟩).take s.length = s4.take s.length := by
              rw [List.take_set, List.set_eq_of_length_le (by rw [List.length_take]; omega)]
            have k6 := k5.cut s.length
            have n6 := Nxt.cut k k5 ((n3.trans b).trans n5)
            rw [e6] at k6 n6
            exact p (.ref x) H4 _ k6 n6 r5
    | _ => exact p.elim
theorem se_make {k c : Nat} {x : Str} {fn : Fn} {e : Expr} {es : List Expr} {p pos : Pos} {a : MA} (cn : CalN X.prog X.w X.K X.mg X.base T k x c fn) (hr : Room (k + 1) X.A) (tk : Takes X W) (hg : Gl X x) (ha : SA X.K T true X W (e :: es) a) (hdb : (x == ("__debug__" : Str)) = false)
    (he : starEach (e :: es) X.env = (false, eval e X.env) :: starEach es X.env) (hpl : (backTo pos (starEach es X.env)).any (·.1) = false) : SE X.K T .tree X W (.Call (.Name x p) (e :: es) [] pos) (eMake c fn a) := .mk fun w env s σ H k1 eo Q q => by
  obtain ⟨f, fd, ps, C, F, hm, hC, mk, hb⟩ := cn.ex
  intro pins sh I
  refine wpAny_Call_Name_kw (ld_glob I hg hm ?_ hdb)
  have arg : WPA X (e :: es) σ H fun vs H1 => ∀ x dx, H1 x = none → H1 dx = none → dx ≠ x → spOf X.K T fn (.ref x :: vs) (upd (upd H1 dx (.own x)) x (.ins C dx [])) (fun v H2 => v = .non ∧ Q (.ref x) H2) (WE W σ) := ha w env s σ H k1 eo _ (Post.bind q fun vs ds H1 w1 s1 a1 b1 c1 q1 => by
    have c1 : RepSs X.K T w1 vs ds := c1
    split at q1
    · rename_i hl
      exact fun x dx hx hdx hne => make_sp hC a1 c1 hl (Post.nxt (rel1 := fun w' _ => Rep X.K T w'.F) b1 q1 fun _ _ _ _ _ _ z => z) hx hdx hne
    · exact q1.elim)
  refine PySem.W.callWith_K (h₀ := X.base) I.ok.mod.kin mk.kp (thn (arg pos pins sh I) fun us sh1 ⟨vs, H1, I1, rv, q1⟩ => ⟨I1.kIn, ?_⟩) he hpl
  exact run_makeS (E := WE W) mk F hr hb (passAt tk σ) I1 rv q1

/-! ### == and != of instances -/
structure EqC (P : Program) (wo : World) (K : PySem.W.Frag) (mg : Str → Option Value) (base : Heap) (T : Tab) (k : Nat) (c : Nat) (fn : Fn) : Prop where
  ex : ∃ f fd ps C, FnOk P wo K mg base (L2.CX P wo) k f fd ps (spOf K T fn) ∧ T.cls c = some C ∧ PySem.W.findIn K (.ref C) "__eq__" = some (some (.ref f)) ∧ PySem.W.isFn K (.ref f) = true ∧ PySem.W.findIn K (.ref C) "__ne__" = some (some (.builtin "object.__ne__")) ∧ PySem.W.mroIn K C (.type "object") = some true ∧ Binds K fd ps []
theorem EqC.mono {P : Program} {wo : World} {mg : Str → Option Value} {base : Heap} {j k c : Nat} {fn : Fn} (cm : EqC P wo K mg base T j c fn) (h : j ≤ k) : EqC P wo K mg base T k c fn := by
  obtain ⟨f, fd, ps, C, a, b⟩ := cm.ex
  exact ⟨f, fd, ps, C, a.mono h, b⟩
/-- the own == called from anywhere below the body -/
theorem run_eq {n : Nat} {f : Addr} {fd : FuncData} {ps : List Str} {sp : Sp} {A : Around} {pins : List (Addr × Obj)} {σ : L2.St} {sh : Shared} {a b : Addr} {QQ : Bool → Hp → Prop} (F : FnOk X.prog X.w X.K X.mg X.base (L2.CX X.prog X.w) n f fd ps sp) (hb : Binds X.K fd ps []) (sb : L2.Sub X n A) (I : Inv X pins σ H sh)
    (h : sp [.ref a, .ref b] H (fun v H' => ∃ k, v = .bl k ∧ QQ k H') fun _ _ _ => False) {Q : Value → Shared → Prop} (q : ∀ k H' sh', Inv X pins σ H' sh' → QQ k H' → Q (.bool k) sh') {E : Value → Shared → Prop} : wpAny (model X.prog X.w) A (call (.ref f) [.ref a, .ref b]) Q E sh := by
  have e0 : Env0 X.prog X.w X.K X.mg X.base A X.stack sh H := by
    have e := I.env0
    exact ⟨by rw [sb.fr]; exact e.frames, e.mod, e.bs, e.bsz, e.funs, e.frf, e.hok, e.bare⟩
  have hl := F.len _ _ _ _ h
  have bnd := hb sh [.ref a, .ref b] I.kIn (by rw [List.append_nil]; exact hl)
  rw [List.append_nil] at bnd
  refine wpAny_call (codeAny_mono (F.run A X.stack sh H ⟨[.ref a, .ref b], []⟩ [.ref a, .ref b] [.ref a, .ref b] _ _ sb.room e0 bnd (.cons rfl (.cons rfl .nil)) h) fun r s' hq => ?_)
  cases r with
  | error e =>
    obtain ⟨_, _, _, _, _, _, _, _, _, _, _, _, z⟩ := hq
    exact z.elim
  | ok fl =>
    cases fl with
    | ret u =>
      obtain ⟨z, H', I', rz, k, ez, qq⟩ := I.after hq
      subst ez
      cases rz
      exact q k H' s' I' qq
    | next => exact False.elim hq
    | brk => exact False.elim hq
    | cont => exact False.elim hq
theorem ne_K {A : Around} {sh : Shared} {a b C f : Addr} {ox : Obj} {odx : Option Obj} {Q : Value → Shared → Prop} {E : Value → Shared → Prop} (hu : A.units + 1 < cLine) (X0 : X.K.In sh.heap) (J : PySem.W.InstAt sh.heap a ox C odx) (hb : PySem.W.Looks (model X.prog X.w) sh.heap (typeOf (.ref b)) (.ref C))
    (hs : PySem.W.findIn X.K (.ref C) "__eq__" = some (some (.ref f))) (hf : PySem.W.isFn X.K (.ref f) = true) (hne : PySem.W.findIn X.K (.ref C) "__ne__" = some (some (.builtin "object.__ne__"))) (hm : PySem.W.mroIn X.K C (.type "object") = some true)
    (h : wpAny (model X.prog X.w) A.in1 (call (.ref f) [.ref a, .ref b]) (fun v s' => ∃ k, v = .bool k ∧ Q (.bool (!k)) s') E sh) : wpAny (model X.prog X.w) A (richCompare .NotEq (.ref a) (.ref b)) Q E sh := by
  have one : wpAny (model X.prog X.w) A (tryCompare (.ref a) "__ne__" (.ref b)) (fun r s' => ∃ v, r = some v ∧ Q v s') E sh := by
    unfold tryCompare
    have sp : PySem.W.Looks (model X.prog X.w) sh.heap (specialOf (.ref a) "__ne__") (some (.builtin "object.__ne__")) := J.type.andThen (PySem.W.looks_findIn X0 hne)
    refine wpAny_bind (NtL.csib sp (by rfl) ?_)
    refine wpAny_call (codeAny_call_builtin (by decide +kernel) F.cmpEntry_ne (PySem.W.check_slot (i := "object.__ne__") (owner := "object") (n := "__ne__") (by decide +kernel) (by decide +kernel) (J.type.andThen (PySem.W.looks_mroIn X0 hm)) (F.cmpArgs_ne _ _) ?_))
    unfold Builtin.«object.__ne__»
    refine wpAny_bind (m := slotArgs "__ne__" 1 _) (wpAny_pure ?_)
    refine wpAny_bind (m := cRoomFor _ _) (wpAny_cRoomFor hu ?_)
    refine wpAny_bind (m := callSpecialIfBound? (.ref a) (Str.ofString "__eq__") _) (PySem.W.ifBound_K X0 J hs hf (wpAny_mono h (fun r s' hq => ?_) fun _ _ y => y))
    obtain ⟨k, rfl, q⟩ := hq
    refine wpAny_bind (wpAny_truthy_bool ?_)
    exact wpAny_pure (wpAny_pure ⟨_, rfl, q⟩)
  unfold richCompare
  simp only [oneThing_ref]
  refine wpAny_holding (wpAny_bind (wpAny_cRoomFor (Nat.lt_of_succ_lt hu) ?_))
  refine wpAny_bind (J.type.here (wpAny_bind (hb.here ?_)))
  split
  · rename_i q
    simp at q
  · refine wpAny_bind (wpAny_pure ?_)
    simp only [Bool.false_eq_true, if_false]
    refine wpAny_bind (wpAny_mono one (fun r s' z => ?_) fun _ _ e => e)
    obtain ⟨v, rfl, hq⟩ := z
    exact wpAny_pure hq
end
end VM

set_option Elab.async false
set_option linter.all false
set_option maxRecDepth 100000
set_option maxHeartbeats 4000000
/-! VM16: a set of texts: made of a list, its size, sorted. -/
namespace VM
open PySem PySem.Spec PyProof.Rows L2

def txOf (e : Int × Value) : Str := match e.2 with
  | .str k _ => k
  | _ => Str.empty
def TxE (wo : World) (e : Int × Value) : Prop := ∃ k tk, e.2 = Value.str k tk ∧ e.1 = hashStr wo k
/-- the set of the texts l, each once, stands at a -/
def TxS (wo : World) (h : Heap) (a : Addr) (l : List Str) : Prop := ∃ ob es ep tb, h.get? a = some ob ∧ ob.ExactSet ∧ ob.data = .set es ep tb ∧ (∀ e ∈ es.toList, TxE wo e) ∧ (es.toList.map txOf).Perm l ∧ l.Nodup ∧ es.size < scanBound ∧ tb.fits es.size = true ∧
  Ris tb.place.toList ∧ (wo.params.followText "set-order" = true ∨ tb.led = true)
section
variable {P : Program} {wo : World} {A : Around} {E : Value → Shared → Prop} {s : Shared} {a : Addr} {l : List Str}
theorem TxS.at {h h' : Heap} (R : TxS wo h a l) (k : ∀ o, h.get? a = some o → h'.get? a = some o) : TxS wo h' a l := by
  obtain ⟨ob, es, ep, tb, q, r⟩ := R
  exact ⟨ob, es, ep, tb, k _ q, r⟩
theorem txE_elems {xs : List (Int × Value)} (g : ∀ e ∈ xs, TxE wo e) : ElemsOf (PySem.strKind P wo) xs := fun e he => by
  obtain ⟨k, tk, h1, h2⟩ := g e he
  exact ⟨⟨k, by rw [h1]; exact strKind_is P wo k tk, h2⟩, by rw [h1] <;> rfl⟩
theorem txE_is {e : Int × Value} (g : TxE wo e) (k : Str) : (PySem.strKind P wo).is k e.2 = true ↔ txOf e = k := by
  obtain ⟨k0, tk, h1, _⟩ := g
  unfold txOf
  rw [h1]
  constructor
  · intro z
    exact ((PySem.strKind P wo).inj _ _ _ (strKind_is P wo k0 tk) z)
  · intro z
    rw [← z]
    exact strKind_is P wo k0 tk
/-- one more text -/
def putTx (l : List Str) (k : Str) : List Str := if k ∈ l then l else l ++ [k]
theorem putTx_nodup {l : List Str} (h : l.Nodup) (k : Str) : (putTx l k).Nodup := by
  unfold putTx
  split
  · exact h
  · rename_i hk
    exact List.nodup_append.mpr ⟨h, List.nodup_cons.mpr ⟨List.not_mem_nil, List.nodup_nil⟩, fun x hx y hy e => hk (by cases List.mem_singleton.mp hy; exact e ▸ hx)⟩
theorem tx_tail {gw : Bool → Sem Unit} (hg : ∀ (b : Bool) (s1 : Shared) (QQ : Unit → Shared → Prop), QQ () s1 → wpAny (model P wo) A (gw b) QQ E s1)
    {ob : Obj} {es : Array (Int × Value)} {ep : Nat} {tb : SetTable} (ho : s.heap.get? a = some ob) (hex : ob.ExactSet) (hd : ob.data = .set es ep tb)
    {fs : Array (Int × Value)} {tc : SetTable} (g1 : ∀ e ∈ fs.toList, TxE wo e) (p1 : (fs.toList.map txOf).Perm l) (nd : l.Nodup)
    (hb1 : fs.size < scanBound) (hf2 : tc.fits fs.size = true) (hr : Ris tc.place.toList) (hl : wo.params.followText "set-order" = true ∨ tc.led = true) {wasDummy : Bool} {R : Option Bool → Shared → Prop}
    (hR : ∀ h', Heap.SameBut a s.heap h' → TxS wo h' a l → R (some true) { s with heap := h' }) :
    wpAny (model P wo) A (do
        storeSet a fs tc
        if (!wasDummy && tc.tooFull) = true then do
            gw (relayAll tc fs (SetTable.grown fs.size)).2.2
            storeSet a (relayAll tc fs (SetTable.grown fs.size)).1 (relayAll tc fs (SetTable.grown fs.size)).2.1
            pure (some true)
          else pure (some true)) R E s := by
  refine wpAny_bind (wpAny_storeSet_of ho hd ?_ (fits_of_scanBound hb1))
  have at1 := store_at (es' := fs) (t' := tc) ho hd
  have same1 := Heap.SameBut.update s.heap a (Obj.putSet fs tc)
  split
  · have pm := relayAll_perm tc fs (SetTable.grown fs.size)
    have f3 := relayAll_fits tc fs (SetTable.grown fs.size)
    have r3 := relayAll_ris tc fs (SetTable.grown fs.size)
    have l3 := relayAll_led tc fs (SetTable.grown fs.size)
    generalize relayAll tc fs (SetTable.grown fs.size) = Z at pm f3 r3 l3 ⊢
    obtain ⟨gs, td, gave⟩ := Z
    dsimp only at pm f3 r3 l3 ⊢
    have szg : gs.size = fs.size := by rw [← Array.length_toList, pm.length_eq, Array.length_toList]
    refine wpAny_bind (hg _ _ _ (wpAny_bind (wpAny_storeSet_of at1 rfl ?_ (fits_of_scanBound (by rw [szg]; exact hb1)))))
    have at2 := store_at (es' := gs) (t' := td) at1 rfl
    refine wpAny_pure (hR _ (same1.trans (Heap.SameBut.update _ a _)) ⟨_, gs, _, td, at2, hex, rfl, fun e he => g1 e (pm.mem_iff.mp he), (pm.map txOf).trans p1, nd, by rw [szg]; exact hb1, f3, r3, hl.imp id fun z => by rw [l3]; exact z⟩)
  · exact wpAny_pure (hR _ same1 ⟨_, fs, _, tc, at1, hex, rfl, g1, p1, nd, hb1, hf2, hr, hl⟩)
theorem tx_add {k : Str} {tk : Tok} {Q : Bool → Shared → Prop} (R : TxS wo s.heap a l) (room : l.length + 1 < scanBound)
    (hQ : ∀ b h', Heap.SameBut a s.heap h' → TxS wo h' a (putTx l k) → Q b { s with heap := h' }) : wpAny (model P wo) A (setAddHashed a (.str k tk) ((PySem.strKind P wo).hash k)) Q E s := by
  obtain ⟨ob, es, ep, tb, ho, hex, hd, g, pl, nd, hb, hf, hr, hl⟩ := R
  have isk : (PySem.strKind P wo).is k (.str k tk) = true := strKind_is P wo k tk
  have scn : (Value.str k tk).scannable = true := rfl
  have els : ElemsOf (PySem.strKind P wo) es.toList := txE_elems g
  unfold setAddHashed setAddHashedIn
  refine wpAny_holding (wpAny_bind (wpAny_setState_of ho hd hf ?_))
  dsimp only
  rw [byScan_of scn hb els]
  simp only [↓reduceIte]
  unfold setAddByScan
  refine wpAny_bind (wpAny_bind (wpAny_rule (wpAny_bind (wpAny_setScan_of isk ho hd hf els ?_))))
  cases hfi : List.findIdx? (fun e => (PySem.strKind P wo).is k e.2) es.toList with
  | some j =>
    dsimp only
    obtain ⟨hj, pj, _⟩ := List.findIdx?_eq_some_iff_getElem.mp hfi
    have there : k ∈ l := pl.mem_iff.mp (List.mem_map.mpr ⟨es.toList[j], List.getElem_mem hj, (txE_is (g _ (List.getElem_mem hj)) k).mp pj⟩)
    refine wpAny_pure (wpAny_pure (hQ _ s.heap (Heap.SameBut.refl a s.heap) ?_))
    unfold putTx
    rw [if_pos there]
    exact ⟨ob, es, ep, tb, ho, hex, hd, g, pl, nd, hb, hf, hr, hl⟩
  | none =>
    dsimp only
    have absent : k ∉ l := fun z => by
      obtain ⟨e, he, q⟩ := List.mem_map.mp (pl.mem_iff.mpr z)
      have c := List.findIdx?_eq_none_iff.mp hfi e he
      rw [(txE_is (P := P) (g e he) k).mpr q] at c
      cases c
    have gwp : ∀ (b : Bool) {s1 : Shared} {QQ : Unit → Shared → Prop}, QQ () s1 → wpAny (model P wo) A (match b with | true => rule "set.scan.the-table-gave-way" | false => pure ()) QQ E s1 :=
      fun b s1 QQ q => by cases b <;> first | exact wpAny_pure q | exact wpAny_rule q
    have pm := layNew_perm tb es ((PySem.strKind P wo).hash k) (.str k tk)
    have f1 := layNew_fits tb es ((PySem.strKind P wo).hash k) (.str k tk)
    have r1 := layNew_ris tb es ((PySem.strKind P wo).hash k) (.str k tk) hr
    have l1 := layNew_led tb es ((PySem.strKind P wo).hash k) (.str k tk)
    generalize layNew tb es ((PySem.strKind P wo).hash k) (.str k tk) = Z at pm f1 r1 l1 ⊢
    obtain ⟨fs, tc, wasDummy, gave⟩ := Z
    dsimp only at pm f1 r1 l1 ⊢
    rw [Array.toList_push] at pm
    have g1 : ∀ e ∈ fs.toList, TxE wo e := fun e he => by
      rcases List.mem_append.mp (pm.mem_iff.mp he) with z | z
      · exact g e z
      · cases List.mem_singleton.mp z
        exact ⟨k, tk, rfl, rfl⟩
    have pk : (fs.toList.map txOf).Perm (putTx l k) := by
      unfold putTx
      rw [if_neg absent]
      have q := pm.map txOf
      rw [List.map_append] at q
      exact q.trans (pl.append_right _)
    have szf : fs.size = l.length + 1 := by rw [← Array.length_toList, ← List.length_map (f := txOf), pk.length_eq]; unfold putTx; rw [if_neg absent, List.length_append]; rfl
    have bf : fs.size < scanBound := by rw [szf]; exact room
    have led1 : wo.params.followText "set-order" = true ∨ tc.led = true := hl.imp id fun z => by rw [l1]; exact z
    refine wpAny_bind (gwp _ ?_)
    split
    · refine wpAny_bind ?_
      rw [hashByValue_scannable 8 scn]
      refine wpAny_pure (tx_tail ?_ ho hex hd g1 pk (putTx_nodup nd k) bf ?_ ?_ ?_ ?_)
      · intro b s1 QQ q; cases b <;> first | exact wpAny_pure q | exact wpAny_rule q
      · first | (split <;> first | exact f1 | exact SetTable.fits_plain_off f1) | exact f1
      · first | (split <;> exact r1) | exact r1
      · first | (split <;> exact led1) | exact led1
      · intro h' sb r; dsimp only; exact wpAny_pure (hQ _ h' sb r)
    · refine wpAny_bind (wpAny_pure ?_)
      simp only [↓reduceIte]
      refine tx_tail ?_ ho hex hd g1 pk (putTx_nodup nd k) bf f1 r1 led1 ?_
      · intro b s1 QQ q; cases b <;> first | exact wpAny_pure q | exact wpAny_rule q
      · intro h' sb r; dsimp only; exact wpAny_pure (hQ _ h' sb r)
/-- all texts of a list, one behind another -/
def putsTx : List Str → List Str → List Str
  | l, [] => l
  | l, k :: r => putsTx (putTx l k) r
theorem putTx_len (l : List Str) (k : Str) : (putTx l k).length ≤ l.length + 1 := by
  unfold putTx
  split
  · omega
  · rw [List.length_append]
    exact Nat.le_refl _
theorem tx_loop {I : Addr} {fp wr : List Addr} {G : Array GenState → Array GenState → Prop} {n : Nat} {Pv : Nat → Value → Prop} {St : Nat → Shared → Prop} {R : Result → Shared → Prop}
    (W : WalksS P wo A.in1 I fp wr G n Pv St) (S : Addr) (hSf : S ∉ fp) (ys : List Str) (hn : n = ys.length) (hval : ∀ i v, Pv i v → ∃ k t, ys[i]? = some k ∧ v = .str k t) :
    ∀ (c i : Nat) (s : Shared) (l : List Str), n - i = c → i ≤ n → St i s → l.length + c + 1 < scanBound → TxS wo s.heap S l →
      (∀ s', Moved (S :: wr) G s s' → TxS wo s'.heap S (putsTx l (ys.drop i)) → R (.ok (.ret .none)) s') → codeAny (model P wo) A (.builtin "set.update.loop" ⟨[.ref S, .ref I], []⟩) R s := by
  have hSw : S ∉ wr := fun h => hSf (W.sub _ h)
  have more : ∀ b ∈ wr, b ∈ S :: wr := fun b hb => List.mem_cons_of_mem _ hb
  intro c
  induction c with
  | zero =>
    intro i s l hc hi hst _ hS hR
    obtain rfl : i = n := by omega
    refine codeAny_builtin F.entry_set_update_loop ?_
    rw [Around.under_plainId F.plain_set_update_loop _]
    show wpAny _ A.in1 (pyNext (.ref I) >>= _) _ _ s
    refine wpAny_bind (W.done s _ _ hst fun s' hm => ?_)
    show wpAny _ A.in1 (ret Value.none) _ _ s'
    rw [List.drop_eq_nil_of_le (by omega)] at hR
    exact wpAny_pure (hR s' (hm.mono more) (hS.at fun o e => hm.heap S o hSw e))
  | succ c ih =>
    intro i s l hc hi hst hb hS hR
    have lt : i < n := by omega
    refine codeAny_builtin F.entry_set_update_loop ?_
    rw [Around.under_plainId F.plain_set_update_loop _]
    show wpAny _ A.in1 (pyNext (.ref I) >>= _) _ _ s
    refine wpAny_bind (W.item i s _ _ lt hst fun v s' hP hst' hm => ?_)
    obtain ⟨z, t, hz, rfl⟩ := hval i v hP
    have hS' : TxS wo s'.heap S l := hS.at fun o e => hm.heap S o hSw e
    show wpAny _ A.in1 (holding [Value.str z t] (setAdd S (.str z t)) >>= _) _ _ s'
    refine wpAny_bind (wpAny_holding ?_)
    unfold setAdd
    refine wpAny_holding (wpAny_bind ((PySem.strKind P wo).pyHash (k := z) (strKind_is _ _ _ _) ?_))
    refine tx_add (s := { s' with toks := s'.toks + 1 }) hS' (by omega) fun b h' hsb hS2 => ?_
    have dr : ys.drop i = z :: ys.drop (i + 1) := by
      obtain ⟨h1, h2⟩ := List.getElem?_eq_some_iff.mp hz
      rw [List.drop_eq_getElem_cons h1, h2]
    have pl := putTx_len l z
    refine wpAny_pure ⟨plainId_quiet F.plain_set_update_loop _, ih (i + 1) _ (putTx l z) (by omega) lt (W.frame _ s' _ _ hst' (Nat.le_succ _) fun b hb o e => ?_) (by omega) hS2 fun s'' hm2 hS3 => ?_⟩
    · rw [hsb.2 b (fun h : b = S => hSf (by rw [← h]; exact hb))]; exact e
    · rw [dr] at hR
      refine hR s'' (Moved.trans W.gtrans ((hm.mono more).then_heap (Nat.le_succ _) fun b o hb e => ?_) hm2) hS3
      rw [hsb.2 b (fun h : b = S => hb (by rw [h]; exact List.mem_cons_self))]; exact e
end
theorem txS_new {wo : World} {h : Heap} {a : Addr} (ho : h.get? a = some { cls := .type "set", dict := none, data := .set #[] 0 (.fresh 0 0 (!wo.params.followText "set-order")) }) : TxS wo h a [] :=
  ⟨_, #[], 0, _, ho, ⟨rfl, rfl, rfl⟩, rfl, (fun e he => by simp at he), (by simp), List.nodup_nil, (by decide), (by rfl), List.Pairwise.nil, by
    show _ ∨ (!wo.params.followText "set-order") = true
    cases wo.params.followText "set-order"
    · exact .inr rfl
    · exact .inl rfl⟩
section
variable {P : Program} {wo : World} {A : Around} {E : Value → Shared → Prop} {s : Shared}
theorem strs_val : ∀ {vs : List Value} {ss : List Str}, StrsAre vs ss → ∀ (i : Nat) (v : Value), vs[i]? = some v → ∃ k t, ss[i]? = some k ∧ v = .str k t
  | _, _, .nil, i, v, h => by simp at h
  | _, _, .cons x t r, 0, v, h => by
    cases h
    exact ⟨x, t, rfl, rfl⟩
  | _, _, .cons x t r, i + 1, v, h => by
    obtain ⟨k, t', h1, h2⟩ := strs_val r i v (by simpa using h)
    exact ⟨k, t', by simpa using h1, h2⟩
abbrev noSet (wo : World) : Obj := { cls := .type "set", dict := none, data := .set #[] 0 (.fresh 0 0 (!wo.params.followText "set-order")) }
set_option maxRecDepth 100000 in
set_option maxHeartbeats 3200000 in
/-- set(a list of texts) -/
theorem call_set_txs {l : Addr} {items : Array Value} (ys : List Str) {Q : Value → Shared → Prop} (hh : A.handled = none) (hl : s.heap.IsList l items) (hit : StrsAre items.toList ys) (hb : ys.length + 1 < scanBound)
    (h : ∀ (h' : Heap) (tk : Nat), TxS wo h' s.heap.objs.size (putsTx [] ys) → (∀ b o, s.heap.get? b = some o → h'.get? b = some o) → Q (.ref s.heap.objs.size) { s with heap := h', toks := tk }) :
    wpAny (model P wo) A (call (.type "set") [.ref l]) Q E s := by
  have isz : items.size = ys.length := by
    rw [← Array.length_toList]
    clear h hb hl
    generalize items.toList = us at hit
    induction hit with
    | nil => rfl
    | cons x t r ih => rw [List.length_cons, List.length_cons, ih]
  obtain ⟨c, tl, hmro⟩ := F.called_set.mro
  have hmade := F.called_set.made
  have hsub := F.called_set.sub
  refine wpAny_call (codeAny_of_tree ?_)
  show wpAny _ _ (callAny (.type "set") _) _ _ _
  refine wpAny_pure ⟨Code.quiet_builtin _ (by decide +kernel), codeAny_builtin F.entry_type_call ?_⟩
  rw [Around.under_plain (weight_type_call_type "set" [.ref l] []) rfl]
  have h1 := F.called_set.notType
  have h2 := F.called_set.canCreate
  have hct := F.typeCall_set_1 (.ref l)
  repeat (any_goals (first | assumption | wp_step))
  refine codeAny_mono (code_set_led1 (.ref l) (E := E) (Q₁ := fun obj s1 => obj = .ref s.heap.objs.size ∧ s1 = { s with heap := s.heap.push (noSet wo) }) ⟨rfl, rfl⟩) fun r s1 hr => ?_
  cases r with
  | error e => exact hr
  | ok fl =>
    cases fl with
    | ret obj =>
      obtain ⟨rfl, rfl⟩ := hr
      have atS : (s.heap.push (noSet wo)).get? s.heap.objs.size = some (noSet wo) := Heap.get?_push_size _ rfl
      have hT : Shared.TypeIs { s with heap := s.heap.push (noSet wo) } (.ref s.heap.objs.size) "set" := ⟨_, atS, rfl⟩
      have hli := F.called_set.init.lookup
      have hbi := F.called_set.init.bind (.ref s.heap.objs.size)
      repeat (any_goals (first | assumption | wp_step))
      refine codeAny_mono (codeAny_call_builtin (R := wants (fun r s2 => r = .none ∧ ∃ h' tk, s2 = { s with heap := h', toks := tk } ∧ TxS wo h' s.heap.objs.size (putsTx [] ys) ∧
          (∀ b o, s.heap.get? b = some o → h'.get? b = some o)) E) F.called_set.init.plain F.entry_set_init (check_set_init_1 hT ?_)) fun r2 s2 hr2 => ?_
      · obtain ⟨⟨ocls, odict, odata, oslots⟩, hol, hcl, nl, hdl⟩ := hl
        simp only at hcl hdl
        subst hcl; subst hdl
        have hol2 : (s.heap.push (noSet wo)).get? l = some { cls := .type "list", dict := odict, data := .seq items nl, slots := oslots } := Heap.get?_push_of_some _ hol
        have hsls := F.sub_list_set
        have hslf := F.sub_list_frozenset
        have hne : (Value.type "list" == Value.type "dict") = false := by decide
        have hl1 : (s.heap.push (noSet wo)).IsList l items := ⟨_, hol2, rfl, nl, rfl⟩
        unfold Builtin.«set.__init__» noKeywords Builtin.Frozenset.updateFrom
        generalize hPI : pyIter = PI
        wp_walk
        subst hPI
        refine wpAny_pyIter_list hl1 (wpAny_bind (wpAny_runValue ?_))
        have llt : l < s.heap.objs.size := Heap.lt_size hol
        have h3 : A.in1.in1.in1.handled = none := by simp [hh]
        have hneI : l ≠ (s.heap.push (noSet wo)).objs.size := by
          rw [Heap.size_push]; exact Nat.ne_of_lt (Nat.lt_succ_of_lt llt)
        have hSf : s.heap.objs.size ∉ [(s.heap.push (noSet wo)).objs.size, l] := by
          rw [Heap.size_push]; simp only [List.mem_cons, List.mem_singleton, List.not_mem_nil, or_false, not_or]
          exact ⟨Nat.ne_of_lt (Nat.lt_succ_self _), Nat.ne_of_gt llt⟩
        have hval : ∀ (i : Nat) (v : Value), items[i]? = some v → ∃ k t, ys[i]? = some k ∧ v = .str k t := fun i v hv => strs_val hit i v (by rw [Array.getElem?_toList]; exact hv)
        refine tx_loop ((Walks.list h3 _ l hneI items).toS) s.heap.objs.size hSf ys isz hval (items.size - 0) 0 _ [] (by omega) (Nat.zero_le _) ⟨⟨_, Heap.get?_push_size _ rfl, rfl, rfl⟩, (hl1.push _)⟩ (by rw [isz]; simp; omega) ?hS0 ?hR
        case hS0 => exact txS_new (Heap.get?_push_of_some _ atS)
        case hR =>
          intro s' hm hS'
          obtain ⟨h', g2, d', tk', os'⟩ := s'
          obtain rfl : g2 = s.gens := hm.gens
          obtain rfl : d' = s.drawn := hm.drawn
          obtain rfl : os' = s.os := hm.os
          show wpAny _ _ _ _ _ _
          refine wpAny_pure ?_
          show wpAny _ _ (ret Value.none) _ _ _
          refine wpAny_pure ⟨rfl, h', tk', rfl, hS', fun b o e => ?_⟩
          have b0 : b < s.heap.objs.size := Heap.lt_size e
          have b2 : b ≠ (s.heap.push (noSet wo)).objs.size := by
            rw [Heap.size_push]; exact Nat.ne_of_lt (Nat.lt_succ_of_lt b0)
          exact hm.heap b o (by simp only [List.mem_cons, List.mem_singleton, List.not_mem_nil, or_false, not_or]; exact ⟨Nat.ne_of_lt b0, b2⟩) (Heap.get?_push_of_some _ (Heap.get?_push_of_some _ e))
      · cases r2 with
        | error e => exact hr2
        | ok fl2 =>
          cases fl2 with
          | ret r =>
            obtain ⟨rfl, h', tk, rfl, hS', hk'⟩ := hr2
            repeat (any_goals (first | assumption | wp_step))
            exact h _ _ hS' hk'
          | _ => exact hr2.elim
    | _ => exact hr.elim
theorem tx_size {h : Heap} {a : Addr} {l : List Str} (R : TxS wo h a l) : ∃ ob es ep tb, h.get? a = some ob ∧ ob.ExactSet ∧ ob.data = .set es ep tb ∧ tb.fits es.size = true ∧ es.size = l.length ∧ es.size < scanBound := by
  obtain ⟨ob, es, ep, tb, ho, hex, hd, g, pl, nd, hb, hf, _⟩ := R
  exact ⟨ob, es, ep, tb, ho, hex, hd, hf, by rw [← pl.length_eq, List.length_map, Array.length_toList], hb⟩
theorem strsAre_of_tx : ∀ (vs : List Value), (∀ v ∈ vs, ∃ k tk, v = Value.str k tk) → StrsAre vs (vs.map fun v => txOf (0, v))
  | [], _ => .nil
  | v :: vs, h => by
    obtain ⟨k, tk, rfl⟩ := h v List.mem_cons_self
    exact .cons k tk (strsAre_of_tx vs fun u hu => h u (List.mem_cons_of_mem _ hu))
/-- sorted(a set of texts) -/
theorem sorted_txs {a : Addr} {l : List Str} {Q : Value → Shared → Prop} (R : TxS wo s.heap a l) (hh : A.handled = none)
    (hQ : ∀ s' p (out : Array Value) (c : Nat) (ys : List Str), (∀ b o, s.heap.get? b = some o → s'.heap.get? b = some o) → s'.gens = s.gens → s'.os = s.os → s.heap.objs.size ≤ p →
      s'.heap.get? p = some (seqObj "list" out c) → StrsAre out.toList ys → ys.Perm l → sortedS ys = true → Q (.ref p) s') :
    wpAny (model P wo) A (call (.builtin "sorted") [.ref a]) Q E s := by
  obtain ⟨ob, es, ep, tb, ho, hex, hd, g, pl, nd, hb, hf, hr, hl⟩ := R
  refine Calls.call_function_entry kind_sorted plain_sorted entry_sorted (args_sorted1 _) ?_
  unfold Builtin.«sorted»
  refine wpAny_bind (m := checkCount "sorted" 1 1 _) (wpAny_pure ?_)
  refine wpAny_bind (collect_set (A := A.in1) hh ⟨ob, ho, hex.1, hd⟩ hf hb hr hl fun s1 vs k1 hz g1 o1 pm => ?_)
  have vsz : vs.length < scanBound := by rw [pm.length_eq, List.length_map, Array.length_toList]; exact hb
  have vlen : vs.length ≤ sizeLine := by
    have : scanBound ≤ sizeLine := by decide
    omega
  have hS : StrsAre vs (vs.map fun v => txOf (0, v)) := strsAre_of_tx vs fun v hv => by
    obtain ⟨e, he, q⟩ := List.mem_map.mp (pm.mem_iff.mp hv)
    obtain ⟨k, tk, e1, _⟩ := g e he
    exact ⟨k, tk, by rw [← q]; exact e1⟩
  have pk : (vs.map fun v => txOf (0, v)).Perm l := by
    have q := pm.map fun v => txOf (0, v)
    rw [List.map_map] at q
    exact q.trans pl
  refine wpAny_bind (wpAny_newList ?_ vlen)
  have hoL : (s1.heap.push (seqObj "list" vs.toArray 0)).get? s1.heap.objs.size = some (seqObj "list" vs.toArray 0) := Heap.get?_push_size _ rfl
  refine wpAny_bind (wpAny_holding (wpAny_call_entry slot_list_sort ⟨_, hoL, rfl⟩ entry_list_sort (list_sort_treeKAny strKind_oneLt hoL hS.keysOf (fun v1 v2 rest e => keyKind_strs (by rw [← e]; exact hS)) vlen fun st' a1 a2 => ⟨_, rfl, ?_⟩) (args_list_sort _)))
  obtain ⟨ys, b1, b2, b3⟩ := sorted_out_str hS a1 a2
  obtain ⟨c, hc⟩ := sortedHeap_at (vs := vs) (out := (arrOf st').map (·.2)) hoL
  refine wpAny_pure ⟨_, rfl, hQ _ s1.heap.objs.size _ c ys (fun b u e => ?_) g1 o1 hz hc b1 (b2.trans pk) b3⟩
  have q := k1 b u e
  have lt := Heap.lt_size q
  show (sortedHeap (s1.heap.push (seqObj "list" vs.toArray 0)) s1.heap.objs.size vs ((arrOf st').map (·.2))).get? b = some u
  rw [sortedHeap_old (Nat.ne_of_lt lt) (by rw [size_push']; exact Nat.lt_succ_of_lt lt)]
  exact Heap.get?_push_of_some _ q
end
end VM

set_option Elab.async false
set_option linter.all false
set_option maxRecDepth 100000
set_option maxHeartbeats 1000000
/-! VM17: built-in functions by value. -/
namespace VM
open PySem PySem.Spec PyProof.Rows L2
section
variable {K : PySem.W.Frag} {T : Tab} {w w' : Wd} {s s' : Store} {H H' : Hp} {X : Cx} {W : WX}

/-! ### one argument -/
theorem tail0 {pos : Pos} {env : PySem.Env} : (backTo pos (starEach [] env)).any (·.1) = false := rfl
theorem se_bi {x : Str} {id : String} {r : List V → Hp → VK → Prop} {g : D → Option D} {e : Expr} {p pos : Pos} {f : ME} (hc : CallR X (.builtin id) r) (rl : Rl1 K T (fun v H Q => r [v] H Q) g) (hp : plain e = true) (hg : Gl X x) (hm : X.mg x = none) (hv : bootBuiltins x = some (.builtin id)) (hn : x ≠ "__name__") (hdb : (x == ("__debug__" : Str)) = false)
    (h : SE K T .raw X W e f) : SE K T .tree X W (.Call (.Name x p) [e] [] pos) (op1 g f) :=
  se_op1 (r := fun v H Q => r [v] H Q) (fun ha => pe_callB hc hg hm hv (pa_cons ha pa_nil (star_plain hp _ _)) hn hdb (star_plain hp _ _) tail0) rl h
theorem se_biF {x : Str} {id : String} {r : List V → Hp → VK → Prop} {g : D → Option D} {e : Expr} {p pos : Pos} {f : ME} (hc : CallR X (.builtin id) r) (rl : Rl1F K T (fun v H Q => r [v] H Q) g) (hp : plain e = true) (hg : Gl X x) (hm : X.mg x = none) (hv : bootBuiltins x = some (.builtin id)) (hn : x ≠ "__name__") (hdb : (x == ("__debug__" : Str)) = false)
    (h : SE K T .raw X W e f) : SE K T (.own 1) X W (.Call (.Name x p) [e] [] pos) (op1F g f) :=
  se_op1F (r := fun v H Q => r [v] H Q) (fun ha => pe_callB hc hg hm hv (pa_cons ha pa_nil (star_plain hp _ _)) hn hdb (star_plain hp _ _) tail0) rl h
theorem se_tyF {x : Str} {ty : String} {r : List V → Hp → VK → Prop} {g : D → Option D} {e : Expr} {p pos : Pos} {f : ME} (hc : CallR X (.type ty) r) (rl : Rl1F K T (fun v H Q => r [v] H Q) g) (hp : plain e = true) (hg : Gl X x) (hm : X.mg x = none) (hv : bootBuiltins x = some (.type ty)) (hn : x ≠ "__name__") (hdb : (x == ("__debug__" : Str)) = false)
    (h : SE K T .raw X W e f) : SE K T (.own 1) X W (.Call (.Name x p) [e] [] pos) (op1F g f) :=
  se_op1F (r := fun v H Q => r [v] H Q) (fun ha => pe_callTy hc hg hm hv (pa_cons ha pa_nil (star_plain hp _ _)) hn hdb (star_plain hp _ _) tail0) rl h
theorem se_len {e : Expr} {p pos : Pos} {f : ME} (hK : X.K = K) (hp : plain e = true) (hg : Gl X "len") (hm : X.mg "len" = none) (h : SE K T .raw X W e f) : SE K T .tree X W (.Call (.Name "len" p) [e] [] pos) (op1 dLen f) := by
  subst hK
  exact se_bi call_lenA rl_len hp hg hm (by decide +kernel) (by decide) (by decide) h

/-! ### int, str -/
def strI (i : Int) : List Nat := (toString i : Str).cps.toList
theorem rl_intAny : Rl1F K T (fun x H Q => (∃ i, [x] = [V.int i] ∧ Q (.int i) H) ∨ ∃ k, [x] = [V.bl k] ∧ Q (.int (if k then 1 else 0)) H) (fun d => match d with
    | .int a => some (.int a)
    | .bl b => some (.int (b2i b))
    | _ => none) := rl_intOf
def dStr : D → Option D
  | .str z => some (.str z)
  | .int i => if decide (i.natAbs.log2 < 1920) && decide ((strI i).length ≤ sizeMax) then some (.str (strI i)) else none
  | _ => none
theorem call_strA : CallR X (.type "str") (fun xs H Q => (∃ a, xs = [.str a] ∧ Q (.str a) H) ∨ ∃ i, xs = [.int i] ∧ i.natAbs.log2 < 1920 ∧ Q (.str (toString i)) H) := fun pins s σ H xs us Q I r h => by
  rcases h with h | h
  · exact SkE.call_str_str pins s σ H xs us Q I r h
  · exact call_str_int pins s σ H xs us Q I r h
theorem rep_strI {F : Hp} {i : Int} (h : (strI i).length ≤ sizeMax) : Rep K T F (.str (toString i)) (.str (strI i)) := by
  have r := Rep.str (K := K) (T := T) (F := F) (strI i) h
  have e : (⟨(strI i).toArray⟩ : Str) = (toString i : Str) := by
    unfold strI
    cases (toString i : Str)
    rfl
  rw [e] at r
  exact r
theorem rl_str : Rl1F K T (fun x H Q => (∃ a, [x] = [V.str a] ∧ Q (.str a) H) ∨ ∃ i, [x] = [V.int i] ∧ i.natAbs.log2 < 1920 ∧ Q (.str (toString i)) H) dStr := fun w s H v x y k r1 hg Q q => by
  cases x with
  | str z =>
    cases hg
    obtain ⟨rfl, hz⟩ := rep_str r1
    exact .inl ⟨_, rfl, give_flat k q rfl (.str _ hz)⟩
  | int i =>
    unfold dStr at hg
    dsimp only [] at hg
    split at hg
    · rename_i hz
      rw [Bool.and_eq_true, decide_eq_true_eq, decide_eq_true_eq] at hz
      cases hg
      cases rep_int r1
      exact .inr ⟨i, rfl, hz.1, give_flat k q rfl (rep_strI hz.2)⟩
    · cases hg
  | _ => cases hg

/-! ### list, tuple, dict -/
def rListA (K : PySem.W.Frag) : List V → Hp → VK → Prop := fun xs H Q => (∃ p ys, xs = [.ref p] ∧ (SqL K H p ys ∨ SqT K H p ys) ∧ ∀ l, H l = none → Q (.ref l) (upd H l (.lst ys))) ∨
  ∃ z, xs = [.str z] ∧ z.length ≤ sizeLine ∧ ∀ l, H l = none → Q (.ref l) (upd H l (.lst (z.cps.toList.map fun c => V.str ⟨#[c]⟩)))
def dListA : D → Option D
  | .lst xs => some (.lst xs)
  | .tup xs => some (.lst xs)
  | .fl xs => some (.lst xs)
  | .str z => some (.lst (z.map fun c => .str [c]))
  | _ => none

theorem vals_ix : ∀ {vs : List V} {us : List Value}, vs.length = us.length → (∀ (i : Nat) (v : V) (u : Value), vs[i]? = some v → us[i]? = some u → RelV v u) → Vals vs us
  | [], [], _, _ => .nil
  | [], _ :: _, h, _ => by cases h
  | _ :: _, [], h, _ => by cases h
  | v :: vs, u :: us, h, r => .cons (r 0 v u rfl rfl) (vals_ix (Nat.succ.inj h) fun i v u h1 h2 => r (i + 1) v u (by simpa using h1) (by simpa using h2))
theorem call_listA (hc : X.calm = true) : CallR X (.type "list") (rListA X.K) := by
  intro pins s σ H xs us Q I r h
  rcases h with h | ⟨z, rfl, hz, q⟩
  · exact call_list_of pins s σ H xs us Q I r h
  · obtain ⟨u, rfl, ru⟩ := vals1 r
    obtain ⟨t, rfl⟩ := ru
    refine call_list_str (I.ok.hd hc) z t (fun h' tk acc ep hk hS hacc => ?_) hz
    have hn := I.hok.fresh (Nat.le_refl s.heap.objs.size)
    refine ⟨.ref s.heap.objs.size, _, I.laid (t' := tk) (a := s.heap.objs.size) (o := .lst (z.cps.toList.map fun c => V.str ⟨#[c]⟩)) (h' := h') hk (Nat.le_refl _) ⟨by rw [List.length_map, Array.length_toList]; exact hz, acc.toList, ep, vals_ix ?_ fun i v u h1 h2 => ?_, hS⟩, rfl, q _ hn⟩
    · rw [List.length_map, Array.length_toList, Array.length_toList, hacc.1]
    · obtain ⟨c, k, e1, e2⟩ := hacc.2 i u (by rw [← Array.getElem?_toList]; exact h2)
      rw [List.getElem?_map, Array.getElem?_toList, e1] at h1
      cases h1
      exact ⟨k, e2⟩
theorem reps_signs {F : Hp} : ∀ z : List Nat, Reps K T F (z.map fun c => V.str ⟨#[c]⟩) (z.map fun c => D.str [c])
  | [] => .nil
  | c :: z => .cons (.str [c] (show 1 ≤ sizeMax by decide)) (reps_signs z)
theorem rl_listA : Rl1F K T (fun x H Q => rListA K [x] H Q) dListA := fun w s H v x y k r1 hg Q q => by
  cases x with
  | lst xs =>
    cases hg
    obtain ⟨a, vs, rfl, h, r, z⟩ := r1
    exact .inl ⟨a, vs, rfl, .inl (.of h), give_lst k q r z⟩
  | tup xs =>
    cases hg
    obtain ⟨a, vs, rfl, h, r, z⟩ := rep_tup r1
    exact .inl ⟨a, vs, rfl, .inr (sqt_fh K k.fh h), give_lst k q r z⟩
  | fl xs =>
    cases hg
    cases r1 with
    | fl h r z => exact .inl ⟨_, _, rfl, .inl (sql_fh K k.fh h), give_lst k q r z⟩
  | str z =>
    cases hg
    obtain ⟨rfl, hz⟩ := rep_str r1
    refine .inr ⟨_, rfl, by rw [str_len]; exact hz, ?_⟩
    exact give_lst k q (reps_signs z) (by rw [List.length_map]; exact hz)
  | _ => cases hg
theorem call_tupleA : CallR X (.type "tuple") (fun xs H Q => ∃ p ys, xs = [.ref p] ∧ ((SqL X.K H p ys ∧ ∀ l, H l = none → Q (.ref l) (upd H l (.tup ys))) ∨ (SqT X.K H p ys ∧ Q (.ref p) H))) := call_tuple_of

/-! ### all, any -/
theorem reps_bls {F : Hp} : ∀ {vs : List V} {xs : List D} {b : Bool}, Reps K T F vs xs → allB xs = some b → ∃ bs : List Bool, vs = bs.map V.bl ∧ b = bs.all id
  | _, _, b, .nil, h => ⟨[], rfl, by cases h; rfl⟩
  | _, _, b, .cons (d := d) h1 r, h => by
    cases d with
    | bl x =>
      dsimp only [allB] at h
      cases e : allB _ with
      | none =>
        rw [e] at h
        cases h
      | some c =>
        rw [e] at h
        cases h
        obtain ⟨bs, e1, e2⟩ := reps_bls r e
        exact ⟨x :: bs, by rw [rep_bl h1, e1]; rfl, by rw [e2]; rfl⟩
    | _ => cases h
theorem reps_bls2 {F : Hp} : ∀ {vs : List V} {xs : List D} {b : Bool}, Reps K T F vs xs → anyB xs = some b → ∃ bs : List Bool, vs = bs.map V.bl ∧ b = bs.any id
  | _, _, b, .nil, h => ⟨[], rfl, by cases h; rfl⟩
  | _, _, b, .cons (d := d) h1 r, h => by
    cases d with
    | bl x =>
      dsimp only [anyB] at h
      cases e : anyB _ with
      | none =>
        rw [e] at h
        cases h
      | some c =>
        rw [e] at h
        cases h
        obtain ⟨bs, e1, e2⟩ := reps_bls2 r e
        exact ⟨x :: bs, by rw [rep_bl h1, e1]; rfl, by rw [e2]; rfl⟩
    | _ => cases h
theorem rl_all : Rl1F K T (fun x H Q => rAll K [x] H Q) dAll := fun w s H v x y k r1 hg Q q => by
  cases x with
  | lst xs =>
    have hg : (allB xs).map D.bl = some y := hg
    obtain ⟨a, vs, rfl, h, r, z⟩ := r1
    cases e : allB xs with
    | none =>
      rw [e] at hg
      cases hg
    | some b =>
      rw [e] at hg
      cases hg
      obtain ⟨bs, e1, e2⟩ := reps_bls r e
      subst e1 e2
      exact ⟨a, bs, rfl, .of h, give_flat k q rfl (.bl _)⟩
  | _ => cases hg
theorem rl_any : Rl1F K T (fun x H Q => rAny K [x] H Q) dAny := fun w s H v x y k r1 hg Q q => by
  cases x with
  | lst xs =>
    have hg : (anyB xs).map D.bl = some y := hg
    obtain ⟨a, vs, rfl, h, r, z⟩ := r1
    cases e : anyB xs with
    | none =>
      rw [e] at hg
      cases hg
    | some b =>
      rw [e] at hg
      cases hg
      obtain ⟨bs, e1, e2⟩ := reps_bls2 r e
      subst e1 e2
      exact ⟨a, bs, rfl, .of h, give_flat k q rfl (.bl _)⟩
  | _ => cases hg

/-! ### sorted -/
def intsO : List D → Option (List Int)
  | [] => some []
  | .int i :: r => (intsO r).map (i :: ·)
  | _ => none
def strsO : List D → Option (List (List Nat))
  | [] => some []
  | .str z :: r => (strsO r).map (z :: ·)
  | _ => none
def insZ (x : Int) : List Int → List Int
  | [] => [x]
  | y :: r => if x ≤ y then x :: y :: r else y :: insZ x r
def sortZ : List Int → List Int
  | [] => []
  | x :: r => insZ x (sortZ r)
def insN (x : List Nat) : List (List Nat) → List (List Nat)
  | [] => [x]
  | y :: r => if ltN y x then y :: insN x r else x :: y :: r
def sortN : List (List Nat) → List (List Nat)
  | [] => []
  | x :: r => insN x (sortN r)
theorem insZ_perm (x : Int) : ∀ l, (insZ x l).Perm (x :: l)
  | [] => .refl _
  | y :: r => by
    unfold insZ
    split
    · exact .refl _
    · exact ((insZ_perm x r).cons y).trans (.swap ..)
theorem sortZ_perm : ∀ l, (sortZ l).Perm l
  | [] => .nil
  | x :: r => (insZ_perm x _).trans ((sortZ_perm r).cons x)
theorem insZ_sorted (x : Int) : ∀ l : List Int, l.Pairwise (· ≤ ·) → (insZ x l).Pairwise (· ≤ ·)
  | [], _ => List.pairwise_singleton _ _
  | y :: r, h => by
    obtain ⟨h1, h2⟩ := List.pairwise_cons.mp h
    unfold insZ
    split
    · rename_i le
      refine List.pairwise_cons.mpr ⟨fun z hz => ?_, h⟩
      rcases List.mem_cons.mp hz with rfl | hz
      · exact le
      · exact Int.le_trans le (h1 z hz)
    · rename_i nle
      refine List.pairwise_cons.mpr ⟨fun z hz => ?_, insZ_sorted x r h2⟩
      rcases List.mem_cons.mp ((insZ_perm x r).mem_iff.mp hz) with rfl | hz
      · omega
      · exact h1 z hz
theorem sortZ_sorted : ∀ l : List Int, (sortZ l).Pairwise (· ≤ ·)
  | [] => .nil
  | x :: r => insZ_sorted x _ (sortZ_sorted r)
theorem ltN_eq : ∀ a b : List Nat, ltN a b = ltCps a b
  | [], [] => rfl
  | [], _ :: _ => rfl
  | _ :: _, [] => rfl
  | a :: as, b :: bs => by
    rw [ltCps_eq]
    unfold ltN
    rw [ltN_eq as bs, ltCps_eq]
    by_cases h : a = b
    · subst h
      rw [if_pos rfl]
      congr 1
      rw [List.cons_lt_cons_iff]
      simp
    · rw [if_neg h]
      congr 1
      rw [List.cons_lt_cons_iff]
      simp [h]
def leN (a b : List Nat) : Prop := ltN b a = false
theorem leN_iff {a b : List Nat} : leN a b ↔ a ≤ b := by
  unfold leN
  rw [ltN_eq, ltCps_eq, decide_eq_false_iff_not]
  exact List.not_lt
theorem insN_perm (x : List Nat) : ∀ l, (insN x l).Perm (x :: l)
  | [] => .refl _
  | y :: r => by
    unfold insN
    split
    · exact ((insN_perm x r).cons y).trans (.swap ..)
    · exact .refl _
theorem sortN_perm : ∀ l, (sortN l).Perm l
  | [] => .nil
  | x :: r => (insN_perm x _).trans ((sortN_perm r).cons x)
theorem insN_sorted (x : List Nat) : ∀ l : List (List Nat), l.Pairwise leN → (insN x l).Pairwise leN
  | [], _ => List.pairwise_singleton _ _
  | y :: r, h => by
    obtain ⟨h1, h2⟩ := List.pairwise_cons.mp h
    unfold insN
    split
    · rename_i lt
      refine List.pairwise_cons.mpr ⟨fun z hz => ?_, insN_sorted x r h2⟩
      rcases List.mem_cons.mp ((insN_perm x r).mem_iff.mp hz) with rfl | hz
      · rw [leN_iff]
        rw [ltN_eq, ltCps_eq, decide_eq_true_eq] at lt
        exact List.le_of_lt lt
      · exact h1 z hz
    · rename_i nlt
      have le : leN x y := by
        unfold leN
        cases e : ltN y x with
        | false => rfl
        | true => exact absurd e nlt
      refine List.pairwise_cons.mpr ⟨fun z hz => ?_, h⟩
      rcases List.mem_cons.mp hz with rfl | hz
      · exact le
      · rw [leN_iff] at *
        exact List.le_trans le (leN_iff.mp (h1 z hz))
theorem sortN_sorted : ∀ l : List (List Nat), (sortN l).Pairwise leN
  | [] => .nil
  | x :: r => insN_sorted x _ (sortN_sorted r)
theorem rising_pairwise : ∀ (r : List Str) (p : Str), risingS p r = true → (p :: r).Pairwise fun a b => leN a.cps.toList b.cps.toList
  | [], _, _ => List.pairwise_singleton _ _
  | x :: r, p, h => by
    unfold risingS at h
    rw [Bool.and_eq_true] at h
    have ih := rising_pairwise r x h.2
    have px : leN p.cps.toList x.cps.toList := by
      unfold leN
      rw [ltN_eq]
      have := h.1
      cases e : ltCps x.cps.toList p.cps.toList with
      | false => rfl
      | true => rw [e] at this; cases this
    refine List.pairwise_cons.mpr ⟨fun z hz => ?_, ih⟩
    rcases List.mem_cons.mp hz with rfl | hz
    · exact px
    · rw [leN_iff] at *
      exact List.le_trans px (leN_iff.mp ((List.pairwise_cons.mp ih).1 z hz))
theorem sortedS_pairwise : ∀ {l : List Str}, sortedS l = true → l.Pairwise fun a b => leN a.cps.toList b.cps.toList
  | [], _ => .nil
  | x :: r, h => rising_pairwise r x h
abbrev mkS (z : List Nat) : Str := ⟨z.toArray⟩
theorem sortN_is {ys : List Str} {zs : List (List Nat)} (p : ys.Perm (zs.map mkS)) (h : sortedS ys = true) : ys = (sortN zs).map mkS := by
  have e : ys.map (fun y => y.cps.toList) = sortN zs := by
    refine List.Perm.eq_of_pairwise (le := leN) (fun a b _ _ h1 h2 => List.le_antisymm (leN_iff.mp h1) (leN_iff.mp h2)) ?_ (sortN_sorted zs) ?_
    · rw [List.pairwise_map]
      exact sortedS_pairwise h
    · have q := p.map fun y : Str => y.cps.toList
      rw [List.map_map] at q
      have e2 : ((fun y : Str => y.cps.toList) ∘ mkS) = id := funext fun z => by simp
      rw [e2, List.map_id] at q
      exact q.trans (sortN_perm zs).symm
  rw [← e, List.map_map]
  have e3 : (mkS ∘ fun y : Str => y.cps.toList) = id := funext fun y => by
    cases y
    simp
  rw [e3, List.map_id]
theorem sortZ_is {ys zs : List Int} (p : ys.Perm zs) (h : ys.Pairwise (· ≤ ·)) : ys = sortZ zs :=
  List.Perm.eq_of_pairwise (le := (· ≤ ·)) (fun a b _ _ h1 h2 => Int.le_antisymm h1 h2) h (sortZ_sorted zs) (p.trans (sortZ_perm zs).symm)
theorem reps_ints {F : Hp} : ∀ {vs : List V} {xs : List D} {ns : List Int}, Reps K T F vs xs → intsO xs = some ns → vs = ns.map V.int
  | _, _, _, .nil, h => by cases h; rfl
  | _, _, _, .cons (d := d) h1 r, h => by
    cases d with
    | int i =>
      dsimp only [intsO] at h
      cases e : intsO _ with
      | none =>
        rw [e] at h
        cases h
      | some l =>
        rw [e] at h
        cases h
        rw [rep_int h1, reps_ints r e]
        rfl
    | _ => cases h
theorem reps_strs {F : Hp} : ∀ {vs : List V} {xs : List D} {zs : List (List Nat)}, Reps K T F vs xs → strsO xs = some zs → vs = (zs.map mkS).map V.str ∧ zs.length = xs.length ∧ ∀ z ∈ zs, z.length ≤ sizeMax
  | _, _, _, .nil, h => by
    cases h
    exact ⟨rfl, rfl, fun _ hz => by cases hz⟩
  | _, _, _, .cons (d := d) h1 r, h => by
    cases d with
    | str z =>
      dsimp only [strsO] at h
      cases e : strsO _ with
      | none =>
        rw [e] at h
        cases h
      | some l =>
        rw [e] at h
        cases h
        obtain ⟨rfl, hz⟩ := rep_str h1
        obtain ⟨e1, e2, e3⟩ := reps_strs r e
        refine ⟨by rw [e1]; rfl, by rw [List.length_cons, List.length_cons, e2], fun u hu => ?_⟩
        rcases List.mem_cons.mp hu with rfl | hu
        · exact hz
        · exact e3 u hu
    | _ => cases h
theorem ints_reps {F : Hp} : ∀ ns : List Int, Reps K T F (ns.map V.int) (ns.map D.int)
  | [] => .nil
  | n :: r => .cons (.int n) (ints_reps r)
theorem strs_reps {F : Hp} : ∀ {zs : List (List Nat)}, (∀ z ∈ zs, z.length ≤ sizeMax) → Reps K T F ((zs.map mkS).map V.str) (zs.map D.str)
  | [], _ => .nil
  | z :: r, h => .cons (.str z (h z List.mem_cons_self)) (strs_reps fun u hu => h u (List.mem_cons_of_mem _ hu))
theorem intsO_len : ∀ {xs : List D} {ns : List Int}, intsO xs = some ns → ns.length = xs.length
  | [], _, h => by cases h; rfl
  | d :: xs, ns, h => by
    cases d with
    | int i =>
      dsimp only [intsO] at h
      cases e : intsO xs with
      | none =>
        rw [e] at h
        cases h
      | some l =>
        rw [e] at h
        cases h
        rw [List.length_cons, List.length_cons, intsO_len e]
    | _ => cases h
theorem cr_sortedT : CallR X (.builtin "sorted") (fun vs H Q => ∃ (a : Addr) (xs : List Str), vs = [V.ref a] ∧ SqL X.K H a (xs.map V.str) ∧ ∀ (ys : List Str) (p : Addr), ys.Perm xs → sortedS ys = true → H p = none → Q (.ref p) (upd H p (.lst (ys.map V.str)))) := by
  intro pins s σ H vs us Q I r h
  obtain ⟨a, xs, rfl, hs, q⟩ := h
  obtain ⟨its, rv, hl, hz⟩ := I.list hs
  rw [Vals.ref1 r]
  have e0 := rv.length
  rw [List.length_map] at e0 hz
  refine PyProof.Rows.sorted_strsAny hl.isList rv.strs (by rw [← e0]; exact hz) fun out ys h1 h2 h3 => ?_
  obtain ⟨ep, at2⟩ := PyProof.Rows.sortedAll_at s.heap its out
  have len : (ys.map V.str).length ≤ sizeLine := by rw [List.length_map, h2.length_eq]; exact hz
  exact ⟨.ref _, upd H (s.heap.objs.size + 1) (.lst (ys.map V.str)), I.laid (t' := s.toks) (fun _ _ => PyProof.Rows.sortedAll_old) (Nat.le_succ _) ⟨len, out.toList, ep, vals_of_strs h1, at2⟩, rfl, q ys _ h2 h3 (I.hok.fresh (Nat.le_succ _))⟩
def rSortA (K : PySem.W.Frag) : List V → Hp → VK → Prop := fun vs H Q => rSortedI K vs H Q ∨ (∃ (a : Addr) (xs : List Str), vs = [V.ref a] ∧ SqL K H a (xs.map V.str) ∧ ∀ (ys : List Str) (p : Addr), ys.Perm xs → sortedS ys = true → H p = none → Q (.ref p) (upd H p (.lst (ys.map V.str)))) ∨
  (∃ (a : Addr) (kvs : List (Key × V)) (ks : List Int), vs = [.ref a] ∧ Rd H a (.dK kvs) ∧ kvs.map (·.1) = ks.map Sum.inl ∧ ks.length < 64 ∧ ∀ (ys : List Int) (p : Addr), ys.Perm ks → ys.Pairwise (· ≤ ·) → H p = none → Q (.ref p) (upd H p (.lst (ys.map V.int)))) ∨
  (∃ (a : Addr) (kvs : List (Key × V)) (ks : List Str), vs = [.ref a] ∧ Rd H a (.dK kvs) ∧ kvs.map (·.1) = ks.map Sum.inr ∧ ks.length < 64 ∧ ∀ ys p, ys.Perm ks → sortedS ys = true → H p = none → Q (.ref p) (upd H p (.lst (ys.map V.str))))
theorem call_sortA (hc : X.calm = true) : CallR X (.builtin "sorted") (rSortA X.K) := fun pins s σ H xs us Q I r h => by
  rcases h with h | h | h | h
  · exact cr_sortedI pins s σ H xs us Q I r h
  · exact cr_sortedT pins s σ H xs us Q I r h
  · exact call_sortedDI hc pins s σ H xs us Q I r h
  · exact call_sortedD hc pins s σ H xs us Q I r h
def sortO (xs : List D) : Option D := match intsO xs with
  | some ns => some (.lst ((sortZ ns).map .int))
  | none => match strsO xs with
    | some zs => some (.lst ((sortN zs).map .str))
    | none => none
def dSortA : D → Option D
  | .lst xs => sortO xs
  | .dic kvs => if kvs.length < 64 then sortO (kvs.map (·.1)) else none
  | _ => none
theorem keys_ints {F : Hp} : ∀ {ks : List (Key × V)} {kvs : List (D × D)} {ns : List Int}, RepK K T F ks kvs → intsO (kvs.map (·.1)) = some ns → ks.map (·.1) = ns.map Sum.inl
  | _, _, _, .nil, h => by cases h; rfl
  | _, _, _, .cons (k := k) (d := d) (ds := tl) hk h1 r, h => by
    cases d with
    | int i =>
      have h : (intsO (tl.map (·.1))).map (i :: ·) = some _ := h
      cases e : intsO (tl.map (·.1)) with
      | none =>
        rw [e] at h
        cases h
      | some l =>
        rw [e] at h
        cases h
        cases k with
        | inl j =>
          have : keyOf (.inl j) = D.int i := hk.1
          cases this
          rw [List.map_cons, List.map_cons, keys_ints r e]
        | inr y => cases hk.1
    | _ => cases h
theorem keys_strs {F : Hp} : ∀ {ks : List (Key × V)} {kvs : List (D × D)} {zs : List (List Nat)}, RepK K T F ks kvs → strsO (kvs.map (·.1)) = some zs → ks.map (·.1) = (zs.map mkS).map Sum.inr ∧ ∀ z ∈ zs, z.length ≤ sizeMax
  | _, _, _, .nil, h => by
    cases h
    exact ⟨rfl, fun _ hz => by cases hz⟩
  | _, _, _, .cons (k := k) (d := d) (ds := tl) hk h1 r, h => by
    cases d with
    | str i =>
      have h : (strsO (tl.map (·.1))).map (i :: ·) = some _ := h
      cases e : strsO (tl.map (·.1)) with
      | none =>
        rw [e] at h
        cases h
      | some l =>
        rw [e] at h
        cases h
        obtain ⟨e1, e2⟩ := keys_strs r e
        cases k with
        | inr y =>
          obtain ⟨hk1, hk2⟩ := hk
          have hk1 : D.str y.cps.toList = D.str i := hk1
          cases hk1
          refine ⟨by rw [List.map_cons, e1, List.map_cons, List.map_cons], fun z hz => ?_⟩
          rcases List.mem_cons.mp hz with rfl | hz
          · exact hk2
          · exact e2 z hz
        | inl y => cases hk.1
    | _ => cases h
theorem rl_sortA : Rl1F K T (fun x H Q => rSortA K [x] H Q) dSortA := fun w s H v x y k r1 hg Q q => by
  cases x with
  | lst xs =>
    obtain ⟨a, vs, rfl, h, r, z⟩ := r1
    have hg : sortO xs = some y := hg
    unfold sortO at hg
    cases e : intsO xs with
    | some ns =>
      rw [e] at hg
      cases hg
      have e1 := reps_ints r e
      subst e1
      refine .inl ⟨a, ns, rfl, .of h, fun ns' p hp hs hn => ?_⟩
      rw [sortZ_is hp hs]
      exact give_lst k q (ints_reps _) (by rw [List.length_map, (sortZ_perm ns).length_eq, intsO_len e]; exact z) p hn
    | none =>
      rw [e] at hg
      cases e2 : strsO xs with
      | none =>
        dsimp only [] at hg
        rw [e2] at hg
        cases hg
      | some zs =>
        dsimp only [] at hg
        rw [e2] at hg
        cases hg
        obtain ⟨e1, e3, e4⟩ := reps_strs r e2
        subst e1
        refine .inr (.inl ⟨a, zs.map mkS, rfl, .of h, fun ys p hp hs hn => ?_⟩)
        rw [sortN_is hp hs]
        exact give_lst k q (strs_reps fun u hu => e4 u ((sortN_perm zs).mem_iff.mp hu)) (by rw [List.length_map, (sortN_perm zs).length_eq, e3]; exact z) p hn
  | dic kvs =>
    obtain ⟨a, ks, rfl, h, r, z⟩ := r1
    have hg : (if kvs.length < 64 then sortO (kvs.map (·.1)) else none) = some y := hg
    split at hg
    · rename_i l64
      unfold sortO at hg
      cases e : intsO (kvs.map (·.1)) with
      | some ns =>
        rw [e] at hg
        cases hg
        have nl : ns.length = kvs.length := by rw [intsO_len e, List.length_map]
        refine .inr (.inr (.inl ⟨a, ks, ns, rfl, h, keys_ints r e, by rw [nl]; exact l64, fun ns' p hp hs hn => ?_⟩))
        rw [sortZ_is hp hs]
        exact give_lst k q (ints_reps _) (by rw [List.length_map, (sortZ_perm ns).length_eq, nl]; exact z) p hn
      | none =>
        rw [e] at hg
        cases e2 : strsO (kvs.map (·.1)) with
        | none =>
          dsimp only [] at hg
          rw [e2] at hg
          cases hg
        | some zs =>
          dsimp only [] at hg
          rw [e2] at hg
          cases hg
          obtain ⟨e1, e4⟩ := keys_strs r e2
          have nl : zs.length = kvs.length := by
            have := congrArg List.length e1
            rw [List.length_map, List.length_map, List.length_map, r.length] at this
            exact this.symm
          refine .inr (.inr (.inr ⟨a, ks, zs.map mkS, rfl, h, e1, by rw [List.length_map, nl]; exact l64, fun ys p hp hs hn => ?_⟩))
          rw [sortN_is hp hs]
          exact give_lst k q (strs_reps fun u hu => e4 u ((sortN_perm zs).mem_iff.mp hu)) (by rw [List.length_map, (sortN_perm zs).length_eq, nl]; exact z) p hn
    · cases hg
  | _ => cases hg
end
end VM

set_option Elab.async false
set_option linter.all false
set_option maxRecDepth 100000
set_option maxHeartbeats 1000000
/-! VM18: sets of texts, isinstance, dict comprehensions, texts, starred items, several targets. -/
namespace VM
open PySem PySem.Spec PyProof.Rows L2
section
variable {K : PySem.W.Frag} {T : Tab} {w w' : Wd} {s s' : Store} {H H' : Hp} {X : Cx} {W : WX}

/-! ### len(set(xs)), sorted(set(xs)) of texts -/
def SetTx (wo : World) (a : Addr) (l : List Str) : HO := .ext fun h => TxS wo h a l
theorem setTx_ok {P : Program} {wo : World} {H : Hp} {h : Heap} {a : Addr} {l : List Str} (R : TxS wo h a l) : ObjOk P wo H h a (SetTx wo a l) := by
  obtain ⟨ob, es, ep, tb, ho, rest⟩ := R
  exact ⟨⟨ob, es, ep, tb, ho, rest⟩, ⟨ob, ho⟩, fun h1 h2 r k => r.at k⟩
theorem setTx_at {pins : List (Addr × Obj)} {σ : L2.St} {sh : Shared} {a : Addr} {l : List Str} (I : Inv X pins σ H sh) (h : H a = some (SetTx X.w a l)) : TxS X.w sh.heap a l := (I.hok a _ h).1
theorem call_setT (hc : X.calm = true) : CallR X (.type "set") (fun xs H Q => ∃ l ys, xs = [.ref l] ∧ SqL X.K H l (ys.map V.str) ∧ ys.length + 1 < scanBound ∧ ∀ p, H p = none → Q (.ref p) (upd H p (SetTx X.w p (putsTx [] ys)))) := fun pins s σ H xs us Q I r h => by
  obtain ⟨l, ys, rfl, sq, hb, q⟩ := h
  obtain rfl := Vals.ref1 r
  obtain ⟨its, rv, pl, _⟩ := I.list sq
  refine call_set_txs ys (I.ok.hd hc) pl.isList rv.strs hb fun h' tk R k => ?_
  have hn := I.hok.fresh (Nat.le_refl s.heap.objs.size)
  exact ⟨.ref s.heap.objs.size, _, I.laid (t' := tk) (a := s.heap.objs.size) (o := SetTx X.w s.heap.objs.size (putsTx [] ys)) (h' := h') k (Nat.le_refl _) (setTx_ok R), rfl, q _ hn⟩
theorem call_lenT : CallR X (.builtin "len") (fun xs H Q => ∃ a l, xs = [.ref a] ∧ H a = some (SetTx X.w a l) ∧ Q (.int (l.length : Nat)) H) := fun pins s σ H xs us Q I r h => by
  obtain ⟨a, l, rfl, ha, q⟩ := h
  obtain rfl := Vals.ref1 r
  obtain ⟨ob, es, ep, tb, ho, hex, hd, hf, hn, hb⟩ := tx_size (setTx_at I ha)
  refine call_len_set ho hex hd hf (by unfold scanBound at hb; omega) ?_
  exact ⟨.int (l.length : Nat), H, I.tok _, ⟨_, by rw [hn]⟩, q⟩
theorem call_sortT (hc : X.calm = true) : CallR X (.builtin "sorted") (fun xs H Q => ∃ a l, xs = [.ref a] ∧ H a = some (SetTx X.w a l) ∧ l.length ≤ sizeLine ∧ ∀ (ys : List Str) (p : Addr), ys.Perm l → sortedS ys = true → H p = none → Q (.ref p) (upd H p (.lst (ys.map V.str)))) := fun pins s σ H xs us Q I r h => by
  obtain ⟨a, l, rfl, ha, hz, q⟩ := h
  obtain rfl := Vals.ref1 r
  refine sorted_txs (setTx_at I ha) (I.ok.hd hc) fun s' p out c ys k g o hp hg hi pm so => ?_
  have len : (ys.map V.str).length ≤ sizeLine := by rw [List.length_map, pm.length_eq]; exact hz
  have hn : H p = none := I.hok.fresh hp
  have J : Inv X pins σ (upd H p (.lst (ys.map V.str))) { s with heap := s'.heap, gens := s'.gens, drawn := s'.drawn, toks := s'.toks } :=
    I.call (ch := []) (Un.laid k hp hn) (I.hok.laid k hp ⟨len, out.toList, c, vals_of_strs hi, hg⟩) (by rw [g]; exact I.bare) (fun _ z => nomatch z)
  have e : s' = { s with heap := s'.heap, gens := s'.gens, drawn := s'.drawn, toks := s'.toks } := by
    cases s'
    cases s
    cases o
    rfl
  rw [e]
  exact ⟨.ref p, _, J, rfl, q ys p pm so hn⟩
def putN (l : List (List Nat)) (k : List Nat) : List (List Nat) := if k ∈ l then l else l ++ [k]
def putsN : List (List Nat) → List (List Nat) → List (List Nat)
  | l, [] => l
  | l, k :: r => putsN (putN l k) r
theorem mkS_inj {a b : List Nat} (h : mkS a = mkS b) : a = b := by
  have := congrArg (fun y : Str => y.cps.toList) h
  simpa using this
theorem mkS_mem {l : List (List Nat)} {k : List Nat} : mkS k ∈ l.map mkS ↔ k ∈ l := by
  constructor
  · intro h
    obtain ⟨x, hx, e⟩ := List.mem_map.mp h
    rw [← mkS_inj e]
    exact hx
  · exact fun h => List.mem_map.mpr ⟨k, h, rfl⟩
theorem puts_is : ∀ (r l : List (List Nat)), putsTx (l.map mkS) (r.map mkS) = (putsN l r).map mkS
  | [], _ => rfl
  | k :: r, l => by
    show putsTx (putTx (l.map mkS) (mkS k)) (r.map mkS) = (putsN (putN l k) r).map mkS
    have e : putTx (l.map mkS) (mkS k) = (putN l k).map mkS := by
      unfold putTx putN
      by_cases h : k ∈ l
      · rw [if_pos h, if_pos (mkS_mem.mpr h)]
      · rw [if_neg h, if_neg fun z => h (mkS_mem.mp z), List.map_append]
        rfl
    rw [e]
    exact puts_is r _
theorem putsN_sub : ∀ (r l : List (List Nat)), (putsN l r).length ≤ l.length + r.length ∧ ∀ z ∈ putsN l r, z ∈ l ∨ z ∈ r
  | [], l => ⟨Nat.le_refl _, fun z h => .inl h⟩
  | k :: r, l => by
    obtain ⟨h1, h2⟩ := putsN_sub r (putN l k)
    have h3 : (putN l k).length ≤ l.length + 1 := by
      unfold putN
      split
      · omega
      · rw [List.length_append]; exact Nat.le_refl _
    refine ⟨by show (putsN (putN l k) r).length ≤ _; rw [List.length_cons]; omega, fun z hz => ?_⟩
    rcases h2 z hz with q | q
    · unfold putN at q
      split at q
      · exact .inl q
      · rcases List.mem_append.mp q with q | q
        · exact .inl q
        · cases List.mem_singleton.mp q
          exact .inr List.mem_cons_self
    · exact .inr (List.mem_cons_of_mem _ q)
def dLenSet : D → Option D
  | .lst xs => match strsO xs with
    | some zs => if zs.length + 1 < 4000 then some (.int (putsN [] zs).length) else none
    | none => none
  | _ => none
def dSortSet : D → Option D
  | .lst xs => match strsO xs with
    | some zs => if zs.length + 1 < 4000 then some (.lst ((sortN (putsN [] zs)).map .str)) else none
    | none => none
  | _ => none
theorem bound4 : 4000 ≤ scanBound := by decide
/-- set(xs) within a call -/
def rSetIn (wo : World) (K : PySem.W.Frag) (r : List V → Hp → VK → Prop) : V → Hp → VK → Prop := fun x H Q => ∃ l ys, [x] = [.ref l] ∧ SqL K H l (ys.map V.str) ∧ ys.length + 1 < scanBound ∧ ∀ p, H p = none → r [.ref p] (upd H p (SetTx wo p (putsTx [] ys))) Q
theorem rl_lenSet {wo : World} : Rl1F K T (rSetIn wo K fun xs H Q => ∃ a l, xs = [.ref a] ∧ H a = some (SetTx wo a l) ∧ Q (.int (l.length : Nat)) H) dLenSet := fun w s H v x y k r1 hg Q q => by
  cases x with
  | lst xs =>
    obtain ⟨a, vs, rfl, h, r, z⟩ := r1
    have hg : (match strsO xs with
      | some zs => if zs.length + 1 < 4000 then some (D.int (putsN [] zs).length) else none
      | none => none) = some y := hg
    cases e : strsO xs with
    | none =>
      rw [e] at hg
      cases hg
    | some zs =>
      rw [e] at hg
      dsimp only [] at hg
      split at hg
      · rename_i lt
        cases hg
        obtain ⟨e1, e2, e3⟩ := reps_strs r e
        subst e1
        refine ⟨a, zs.map mkS, rfl, .of h, by rw [List.length_map]; exact Nat.lt_of_lt_of_le lt bound4, fun p hp => ⟨p, _, rfl, upd_same, ?_⟩⟩
        have e5 := puts_is zs []
        rw [List.map_nil] at e5
        rw [e5, List.length_map]
        exact q _ _ w (k.other hp) (.other k hp) (own_flat (F := w.F) rfl (k.other hp) (.int _))
      · cases hg
  | _ => cases hg
theorem rl_sortSet {wo : World} : Rl1F K T (rSetIn wo K fun xs H Q => ∃ a l, xs = [.ref a] ∧ H a = some (SetTx wo a l) ∧ l.length ≤ sizeLine ∧ ∀ (ys : List Str) (p : Addr), ys.Perm l → sortedS ys = true → H p = none → Q (.ref p) (upd H p (.lst (ys.map V.str)))) dSortSet := fun w s H v x y k r1 hg Q q => by
  cases x with
  | lst xs =>
    obtain ⟨a, vs, rfl, h, r, z⟩ := r1
    have hg : (match strsO xs with
      | some zs => if zs.length + 1 < 4000 then some (D.lst ((sortN (putsN [] zs)).map .str)) else none
      | none => none) = some y := hg
    cases e : strsO xs with
    | none =>
      rw [e] at hg
      cases hg
    | some zs =>
      rw [e] at hg
      dsimp only [] at hg
      split at hg
      · rename_i lt
        cases hg
        obtain ⟨e1, e2, e3⟩ := reps_strs r e
        subst e1
        obtain ⟨p1, p2⟩ := putsN_sub zs []
        have p1 : (putsN [] zs).length ≤ sizeMax := by
          have : (4000 : Nat) ≤ sizeMax := by decide
          simp at p1
          omega
        refine ⟨a, zs.map mkS, rfl, .of h, by rw [List.length_map]; exact Nat.lt_of_lt_of_le lt bound4, fun p hp => ⟨p, _, rfl, upd_same, ?_, fun ys p2' pm so hn => ?_⟩⟩
        · have e5 := puts_is zs []
          rw [List.map_nil] at e5
          rw [e5, List.length_map]
          exact p1
        · have e5 := puts_is zs []
          rw [List.map_nil] at e5
          rw [e5] at pm
          rw [sortN_is pm so]
          have k2 := k.other (o := SetTx wo p (putsTx [] (zs.map mkS))) hp
          have n2 : Nxt w s H w s (upd H p (SetTx wo p (putsTx [] (zs.map mkS)))) := .other k hp
          refine give_lst k2 (fun v' H' w' a b c => q v' H' w' a (n2.trans b) (c.nxt n2)) (strs_reps fun u hu => ?_) (by rw [List.length_map, (sortN_perm _).length_eq]; exact p1) p2' hn
          rcases p2 u ((sortN_perm _).mem_iff.mp hu) with hu | hu
          · cases hu
          · exact e3 u hu
      · cases hg
  | _ => cases hg
theorem se_setIn {x : Str} {id : String} {r : List V → Hp → VK → Prop} {g : D → Option D} {e : Expr} {p p2 pos pos2 : Pos} {f : ME} (hc : X.calm = true) (hr : CallR X (.builtin id) r) (rl : Rl1F X.K T (rSetIn X.w X.K r) g) (hp : plain e = true) (hg : Gl X x) (hm : X.mg x = none) (hv : bootBuiltins x = some (.builtin id)) (hn : x ≠ "__name__") (hdb : (x == ("__debug__" : Str)) = false)
    (hg2 : Gl X "set") (hm2 : X.mg "set" = none) (h : SE X.K T .raw X W e f) : SE X.K T (.own 1) X W (.Call (.Name x p) [.Call (.Name "set" p2) [e] [] pos2] [] pos) (op1F g f) :=
  se_op1F (r := rSetIn X.w X.K r) (fun ha => pe_callB hr hg hm hv (pa_cons (pe_callTy (call_setT hc) hg2 hm2 (by decide +kernel) (pa_cons ha pa_nil (star_plain hp _ _)) (by decide) (by decide) (star_plain hp _ _) tail0) pa_nil) hn hdb rfl tail0) rl h

/-! ### isinstance -/
/-- the type of a tree, by number -/
def tagD : D → Nat
  | .non => 0
  | .bl _ => 3
  | .int _ => 1
  | .str _ => 2
  | .tup _ => 5
  | .lst _ => 4
  | .fl _ => 4
  | .dic _ => 6
  | .set _ => 5
  | .ins c _ => 100 + c
  | .exn _ _ => 8
  | .ref _ => 9
def tagV (T : Tab) (n : Nat) : Option Value := match n with
  | 0 => some (.type "NoneType")
  | 1 => some (.type "int")
  | 2 => some (.type "str")
  | 3 => some (.type "bool")
  | 4 => some (.type "list")
  | 5 => some (.type "tuple")
  | 6 => some (.type "dict")
  | n => if 100 ≤ n then (T.cls (n - 100)).map .ref else none
/-- whether a thing of the type n is of the class c -/
def isTag (c n : Nat) : Bool := n == c || (c == 1 && n == 3)
def dIsi (cs : List Nat) (d : D) : Option D := some (.bl (cs.any fun c => isTag c (tagD d)))
/-- what isinstance asks of an own class -/
structure IsC (K : PySem.W.Frag) (T : Tab) : Prop where
  cls : ∀ c C, T.cls c = some C → Cls K C ∧ PySem.W.findIn K (.ref C) "__class__" = some (some (.builtin "object.__class__")) ∧ PySem.W.specialIn K (.builtin "object.__class__") "__get__" = some (some (.builtin "getset_descriptor.__get__")) ∧
    PySem.W.takesIn K (.builtin "object.__class__") = some true ∧ PySem.W.mroIn K C (.type "object") = some true
/-- isinstance(.., u) by the types' numbers -/
def KitF (K : PySem.W.Frag) (T : Tab) (c : Nat) (u : Value) : Prop := ∀ n t, tagV T n = some t → PySem.W.kitOne K t u = some (isTag c n)
def noFl : D → Bool
  | .fl _ => false
  | .exn _ _ => false
  | _ => true
theorem tyx_of (ic : IsC K T) {G : Hp} (fh : FH G H) {v : V} {d : D} (r : Rep K T G v d) (hf : noFl d = true) : ∃ t, tagV T (tagD d) = some t ∧ TyX K H v t := by
  cases r with
  | non => exact ⟨_, rfl, .base .non⟩
  | bl b => exact ⟨_, rfl, .base (.bl b)⟩
  | int i => exact ⟨_, rfl, .base (.int i)⟩
  | str z h => exact ⟨_, rfl, .base (.str _)⟩
  | tup h r z =>
    refine ⟨_, rfl, ?_⟩
    rcases sqt_fh K fh h with (h | ⟨o, h⟩) | ⟨o, its, n, h, hc, _⟩
    · exact .base (.tup h)
    · exact .fTuple h
    · exact .kTuple h hc
  | lst h r z => exact ⟨_, rfl, .base (.lst (fh.lst h))⟩
  | fl h r z => cases hf
  | szs h => cases hf
  | clsv h => cases hf
  | exi => cases hf
  | exb => cases hf
  | tpn h hd r z =>
    refine ⟨_, rfl, ?_⟩
    rcases fh _ _ h with h | ⟨⟨_, m⟩, _⟩
    · exact .fTuple h
    · cases m
  | dic h r z =>
    refine ⟨_, rfl, ?_⟩
    rcases fh.dicL h with h | ⟨o, h⟩
    · exact .base (.dK h)
    · exact .fDict h
  | @ins a C dx c fv fs hc h r =>
    obtain ⟨c1, c2, c3, c4, c5⟩ := ic.cls c C hc
    have h' : H a = some (.ins C dx fv) := by
      rcases fh _ _ h with h | ⟨⟨_, q⟩, _⟩
      · exact h
      · cases q
    refine ⟨.ref C, ?_, .base (.ins h' c1 c2 c3 c4 c5)⟩
    show (match 100 + c with
      | 0 => some (Value.type "NoneType")
      | 1 => some (.type "int")
      | 2 => some (.type "str")
      | 3 => some (.type "bool")
      | 4 => some (.type "list")
      | 5 => some (.type "tuple")
      | 6 => some (.type "dict")
      | n => if 100 ≤ n then (T.cls (n - 100)).map .ref else none) = some (.ref C)
    split
    · omega
    · omega
    · omega
    · omega
    · omega
    · omega
    · omega
    · rw [if_pos (by omega), show 100 + c - 100 = c by omega, hc]
      rfl
def dIsiA (cs : List Nat) (d : D) : Option D := if noFl d then dIsi cs d else none
theorem kit_any {u : Value} : ∀ {cs : List Nat} {us : List Value} {n : Nat} {t : Value}, tagV T n = some t → Paired (fun c u => KitF K T c u) cs us → PySem.W.kitAny K t us = some (cs.any fun c => isTag c n)
  | _, _, n, t, _, .nil => rfl
  | c :: cs, _, n, t, ht, .cons h r => by
    have h1 := h n t ht
    cases e : isTag c n with
    | true =>
      rw [e] at h1
      rw [List.any_cons, e]
      exact kitAny_cons h1 (fun z => by cases z) (fun _ => by simp)
    | false =>
      rw [e] at h1
      rw [List.any_cons, e, Bool.false_or]
      exact kitAny_cons h1 (fun _ => kit_any (u := u) ht r) (fun z => by cases z)
theorem rl_isi {c : Nat} {cv : V} {u : Value} (ic : IsC K T) (hk : KitF K T c u) (hcv : ClsV cv u) : Rl1 K T (fun x H Q => rIsi K [x, cv] H Q) (dIsiA [c]) := fun w s H G v x y k fh sub r1 hg Q q => by
  unfold dIsiA dIsi at hg
  split at hg
  · rename_i hf
    cases hg
    obtain ⟨t, ht, ty⟩ := tyx_of ic fh r1 hf
    refine ⟨v, cv, t, u, _, rfl, hcv, ty, hk _ _ ht, ?_⟩
    rw [show (isTag c (tagD x)) = ([c].any fun c => isTag c (tagD x)) by simp]
    exact q _ _ w k .refl (.bl _)
  · cases hg
theorem se_isi {c : Nat} {cv : V} {u : Value} {e ce : Expr} {p pos : Pos} {f : ME} (ic : IsC X.K T) (hk : KitF X.K T c u) (hcv : ClsV cv u) (hce : PE X ce (tC cv)) (hp : plain e = true) (hp2 : plain ce = true) (hg : Gl X "isinstance") (hm : X.mg "isinstance" = none) (h : SE X.K T .raw X W e f) :
    SE X.K T .tree X W (.Call (.Name "isinstance" p) [e, ce] [] pos) (op1 (dIsiA [c]) f) :=
  se_op1 (r := fun x H Q => rIsi X.K [x, cv] H Q) (fun ha => by
    refine pe_callB call_isi hg hm (by decide +kernel) (pa_cons ha (pa_cons hce pa_nil (star_plain hp2 _ _)) (star_plain hp _ _)) (by decide) (by decide) (star_plain hp _ _) ?_
    rw [star_plain hp2]
    rfl) (rl_isi ic hk hcv) h
theorem clsv_pairs : ∀ {cvs : List V} {us : List Value}, Paired ClsV cvs us → Vals cvs us
  | _, _, .nil => .nil
  | _, _, .cons h r => .cons (by cases h <;> rfl) (clsv_pairs r)
/-- isinstance(x, (c1, c2)) -/
theorem se_isi2 {c1 c2 : Nat} {v1 v2 : V} {u1 u2 : Value} {e e1 e2 : Expr} {p pos tp : Pos} {j : Nat} {f : ME} (ic : IsC X.K T) (hk1 : KitF X.K T c1 u1) (hk2 : KitF X.K T c2 u2) (hv1 : ClsV v1 u1) (hv2 : ClsV v2 u2) (he1 : PE X e1 (tC v1)) (he2 : PE X e2 (tC v2)) (hp : plain e = true) (p1 : plain e1 = true) (p2 : plain e2 = true)
    (hg : Gl X "isinstance") (hm : X.mg "isinstance" = none) (h : SE X.K T .raw X W e f) : SE X.K T .tree X W (.Call (.Name "isinstance" p) [e, .Tuple [e1, e2] j tp] [] pos) (op1 (dIsiA [c1, c2]) f) := .mk fun w env s σ H k eo Q q => by
  refine wpe_of (pe_callB call_isiT hg hm (by decide +kernel) (pa_cons pe_wp (pa_cons (pe_tup (pa_cons he1 (pa_cons he2 pa_nil (star_plain p2 _ _)) (star_plain p1 _ _))) pa_nil) (star_plain hp _ _)) (by decide) (by decide) (star_plain hp _ _) rfl) ?_
  refine h w env s σ H k eo _ (Post.bind q fun v d H1 w1 s1 a b c q => ?_)
  refine ⟨show 2 ≤ sizeLine by decide, fun t ht => ?_⟩
  cases hx : view s1 d with
  | none =>
    rw [hx] at q
    exact q.elim
  | some x =>
    rw [hx] at q
    have q : Post X.K T W w s σ H (fun w' _ => Rep X.K T w'.F) Q (ofO s1 (dIsiA [c1, c2] x)) := q
    cases hg2 : dIsiA [c1, c2] x with
    | none =>
      rw [hg2] at q
      exact q.elim
    | some z =>
      rw [hg2] at q
      have k2 := a.other (o := HO.tup [v1, v2]) ht
      have n2 : Nxt w1 s1 H1 w1 s1 (upd H1 t (.tup [v1, v2])) := .other a ht
      obtain ⟨G, fh, rx, sub⟩ := read_ok k2 c hx
      unfold dIsiA dIsi at hg2
      split at hg2
      · rename_i hf
        cases hg2
        obtain ⟨tv, htv, ty⟩ := tyx_of ic fh rx hf
        exact ⟨v, t, [v1, v2], tv, [u1, u2], _, rfl, upd_same, .cons hv1 (.cons hv2 .nil), ty, kit_any (u := u1) htv (.cons hk1 (.cons hk2 .nil)), q.give k2 (b.trans n2) (.bl _)⟩
      · cases hg2
end
end VM

set_option Elab.async false
set_option linter.all false
set_option maxRecDepth 100000
set_option maxHeartbeats 1000000
/-! VM19: dict displays and comprehensions, texts, starred items, several targets, augmented names. -/
namespace VM
open PySem PySem.Spec PyProof.Rows L2
section
variable {K : PySem.W.Frag} {T : Tab} {w w' : Wd} {s s' : Store} {H H' : Hp} {X : Cx} {W : WX}

/-! ### a new object of one's own is written, no entry of the store -/
theorem SOk.side (k : SOk K T w s H) {p : Addr} {o : HO} (hF : w.F p = none) (hP : p ∉ w.Ps.flatten) : SOk K T w s (upd H p o) :=
  ⟨fun a u ea => by
    rw [upd_ne fun z => by rw [z, hF] at ea; cases ea]
    exact k.fh a u ea, k.lenI, k.lenP, fun h e a P he ha hP' => by
    have old := k.ent h e a P he ha hP'
    unfold EntOk at old ⊢
    cases q : e.d with
    | none =>
      rw [q] at old
      exact old
    | some d =>
      rw [q] at old
      exact ⟨old.1.sub (Sub.refl _) fun x hx => upd_ne fun z => hP (mem_flat hP' (by rw [← z]; exact hx)), old.2⟩, k.dis, k.out⟩
theorem Nxt.side {w0 : Wd} {s0 : Store} {H0 : Hp} (n : Nxt w0 s0 H0 w s H) {p : Addr} {o : HO} (h0 : H0 p = none) (hP : p ∉ w0.Ps.flatten) : Nxt w0 s0 H0 w s (upd H p o) :=
  ⟨n.F, n.io, n.len, fun q hq hf hn => by
    obtain ⟨x, y, z⟩ := n.keep q hq hf hn
    exact ⟨by rw [upd_ne fun e => by rw [e] at hq; exact hq h0]; exact x, y, z⟩, fun h e he hl => by
    obtain ⟨x, y, z⟩ := n.lock h e he hl
    exact ⟨x, y, fun P hP' q hq => by rw [upd_ne fun e => hP (mem_flat hP' (by rw [← e]; exact hq))]; exact z P hP' q hq⟩⟩
theorem keep_at {o : HO} {w1 : Wd} {s1 : Store} {H1 : Hp} (n : Nxt w s H w1 s1 H1) {p : Addr} (a : H p = some o) (b : w.F p = none) (c : p ∉ w.Ps.flatten) : H1 p = some o ∧ w1.F p = none ∧ p ∉ w1.Ps.flatten := by
  obtain ⟨x, y, z⟩ := n.keep p (by rw [a]; intro z; cases z) (.inl b) c
  exact ⟨x.trans a, y.trans b, z⟩

theorem Post.step {α β γ δ : Type} {σ : L2.St} {rel : Wd → Hp → β → α → Prop} {rel2 : Wd → Hp → δ → γ → Prop} {Q : β → Hp → Prop} {Q2 : δ → Hp → Prop} {r : VM.R α} {g : α → Store → VM.R γ} {w1 : Wd} {s1 : Store} {H1 : Hp} (n : Nxt w s H w1 s1 H1)
    (h : Post K T W w s σ H rel2 Q2 (r.bind g)) (k : ∀ v d H' w' s', SOk K T w' s' H' → Nxt w1 s1 H1 w' s' H' → rel w' H' v d → Post K T W w s σ H rel2 Q2 (g d s') → Q v H') : Post K T W w1 s1 σ H1 rel Q r := by
  cases r with
  | ok d s' => exact fun v H' w' a b c => k v d H' w' s' a b c h
  | exc c fs s' => exact fun C dd fv H' w' a b => h C dd fv H' w' a (n.trans b)
  | bad => exact h

/-! ### {}, {k: v} -/
theorem se_dict0 {j : Nat} {pos : Pos} : SE K T (.own (j + 1)) X W (.Dict [] [] pos) (eC (.dic [])) := .mk fun w env s σ H k eo Q p =>
  wpe_of pe_dnewK fun x hx => p (.ref x) _ w (k.other hx) (.other k hx) ⟨[x], .dic upd_same .nil (Nat.zero_le _), New.one k hx⟩
def eDict1 (f g : ME) : ME := fun e s => (f e s).bind fun a s => (g e s).bind fun b s => if keyD a then .ok (.dic [(a, b)]) s else .bad
theorem se_dict1 {a b : Expr} {pos : Pos} {f g : ME} (ha : SE K T .tree X W a f) (hb : SE K T .tree X W b g) : SE K T (.own 1) X W (.Dict [some a] [b] pos) (eDict1 f g) := .mk fun w env s σ H k eo Q p =>
  wpe_of (pe_disp (pps_cons pe_wp pe_wp pps_nil) rfl rfl (by simp) (show 1 ≤ 15 by decide)) fun x hx => by
    have k0 := k.other (o := HO.dK []) hx
    have n0 : Nxt w s H w s (upd H x (.dK [])) := .other k hx
    have F0 := k.noF hx
    have P0 := k.noP hx
    refine ha w env s σ _ k0 eo _ (Post.step n0 p fun v1 d1 H1 w1 s1 a1 b1 c1 q1 => ?_)
    obtain ⟨e1, F1, P1⟩ := keep_at b1 upd_same F0 P0
    have n1 := n0.trans b1
    refine hb w1 env s1 σ H1 a1 (eo.nxt n1) _ (Post.step n1 q1 fun v2 d2 H2 w2 s2 a2 b2 c2 q2 => ?_)
    obtain ⟨e2, F2, P2⟩ := keep_at b2 e1 F1 P1
    have c1 : Rep K T w2.F v1 d1 := Rep.sub b2.F c1
    split at q2
    · rename_i hk
      obtain ⟨kk, rfl, hkr⟩ := keyR_of c1 hk
      have c2 : Rep K T w2.F v2 d2 := c2
      refine ⟨e2, [(kk, v2)], rfl, show 1 ≤ 15 by decide, ?_⟩
      have e3 : mergeK [] [(kk, v2)] = [(kk, v2)] := rfl
      rw [e3]
      refine q2 (.ref x) _ w2 (a2.side F2 P2) ((n1.trans b2).side hx P0) ?_
      exact ⟨[x], .dic upd_same (ownk0 (.cons hkr c2 .nil)) (show 1 ≤ sizeMax by decide), List.nodup_cons.mpr ⟨List.not_mem_nil, List.nodup_nil⟩, fun q hq => by
        cases List.mem_singleton.mp hq
        exact ⟨F2, P2, F0, .inl hx⟩⟩
    · exact q2.elim

/-! ### {k: v for ..} -/
theorem dc_run {tg iter kx vx : Expr} {ifs : List Expr} {scope : Scope} {own : List Nat} {it : MI} {g : MG} {t : TG} {is : List Nat} {f h : ME} (hi : SI K T X W tg iter it) (hm : SG K T is g t) (his : ∀ i ∈ is, i ∈ own) (ht : BSTs K T X scope ifs VM.tYes) (hk : BSE K T X scope kx f) (hv : BSE K T X scope vx h)
    {env : VM.Env} {σ : L2.St} (k : SOk K T w s H) (eo : EOk K T w env σ) {Q : VK} (p : Post K T W w s σ H (fun w' H' => OwnV K T (.own 1) w H w' H') Q (eDc own it g f h env s)) : tDc (WPI X tg iter) t (BTs X scope ifs) (BE X scope kx) (BE X scope vx) own σ H Q := hi w env s σ H k eo _ (by
  unfold eDc at p
  cases e : it env s with
  | bad =>
    rw [e] at p
    exact p
  | exc c fs s1 =>
    rw [e] at p
    exact p
  | ok xo s1 =>
    obtain ⟨ds, o⟩ := xo
    rw [e] at p
    have p : Post K T W w s σ H (fun w' H' => OwnV K T (.own 1) w H w' H') Q (match dcGo g f h (VM.wipe env own) ds [] s1 with
      | .ok ds s => .ok (.dic ds) (unlock o s)
      | _ => .bad) := p
    intro J H1 w1 k1 n1 src lk L hL
    have F1 : w1.F L = none := k1.noF hL
    have P1 : L ∉ w1.Ps.flatten := k1.noP hL
    refine ⟨fun i mm H2 => mm = ds.length - i ∧ i ≤ ds.length ∧ ∃ w2 s2 acc vs, SOk K T w2 s2 H2 ∧ Nxt w1 s1 H1 w2 s2 H2 ∧ H2 L = some (.dK vs) ∧ w2.F L = none ∧ L ∉ w2.Ps.flatten ∧ RepK K T w2.F vs acc ∧ acc.length ≤ sizeMax ∧
      Post K T W w s σ H (fun w' H' => OwnV K T (.own 1) w H w' H') Q (match dcGo g f h (VM.wipe env own) (ds.drop i) acc s2 with
      | .ok ds s => .ok (.dic ds) (unlock o s)
      | _ => .bad), ⟨_, rfl, Nat.zero_le _, w1, s1, [], [], k1.other hL, .other k1 hL, upd_same, F1, P1, .nil, Nat.zero_le _, p⟩, ?_⟩
    rintro i mm H2 ⟨rfl, hi, w2, s2, acc, vs, k2, n2, hL2, F2, P2, rr, za, p2⟩
    obtain ⟨st, go⟩ := src w2 s2 H2 k2 n2
    rcases Nat.lt_or_ge i ds.length with lt | ge
    · obtain ⟨go1, yl⟩ := go i ds[i] (List.getElem?_eq_getElem lt)
      refine .inr ⟨go1, fun H' => i + 1 ≤ ds.length ∧ ∃ w2 s2 acc vs, SOk K T w2 s2 H' ∧ Nxt w1 s1 H1 w2 s2 H' ∧ H' L = some (.dK vs) ∧ w2.F L = none ∧ L ∉ w2.Ps.flatten ∧ RepK K T w2.F vs acc ∧ acc.length ≤ sizeMax ∧
        Post K T W w s σ H (fun w' H' => OwnV K T (.own 1) w H w' H') Q (match dcGo g f h (VM.wipe env own) (ds.drop (i + 1)) acc s2 with
        | .ok ds s => .ok (.dic ds) (unlock o s)
        | _ => .bad), fun H' hN => ⟨_, by omega, rfl, hN⟩, fun x H3 hy => ?_⟩
      obtain ⟨w3, k3, n3, r3⟩ := yl x H3 hy
      rw [List.drop_eq_getElem_cons lt] at p2
      unfold dcGo at p2
      have eo3 : EOk K T w3 (VM.wipe env own) (L2.wipe σ own) := eo_wipe ((((eo.nxt n1).nxt n2).nxt n3)) own
      cases eg : g (VM.wipe env own) ds[i] with
      | none =>
        rw [eg] at p2
        exact p2.elim
      | some env3 =>
        rw [eg] at p2
        refine hm w3 s2 H3 k3 _ _ x ds[i] env3 eo3 r3 eg _ fun σ3 eo4 hw => ⟨(hw own his).trans (wipe_wipe σ own), ?_⟩
        obtain ⟨hL3, F3, P3⟩ := keep_at n3 hL2 F2 P2
        refine bts_run ht k3 eo4 (b := true) (s' := s2) rfl fun H4 w4 k4 n4 => ?_
        obtain ⟨hL4, F4, P4⟩ := keep_at n4 hL3 F3 P3
        rw [if_pos rfl]
        dsimp only [] at p2
        cases ef : f env3 s2 with
        | ok a s5 =>
          rw [ef] at p2
          refine be_run hk k4 (eo4.nxt n4) ef fun v5 H5 w5 k5 n5 r5 => ?_
          obtain ⟨hL5, F5, P5⟩ := keep_at n5 hL4 F4 P4
          dsimp only [] at p2
          cases eh : h env3 s5 with
          | ok b s6 =>
            rw [eh] at p2
            refine be_run hv k5 ((eo4.nxt n4).nxt n5) eh fun v6 H6 w6 k6 n6 r6 => ?_
            obtain ⟨hL6, F6, P6⟩ := keep_at n6 hL5 F5 P5
            dsimp only [] at p2
            cases ep : putO acc a b with
            | none =>
              rw [ep] at p2
              exact p2.elim
            | some acc2 =>
              rw [ep] at p2
              unfold putO at ep
              split at ep
              · rename_i hkz
                cases ep
                rw [Bool.and_eq_true, decide_eq_true_eq] at hkz
                obtain ⟨kk, rfl, hkr⟩ := keyR_of (r5.sub n6.F) hkz.1
                have rr6 : RepK K T w6.F vs acc := (((rr.sub n3.F).sub n4.F).sub n5.F).sub n6.F
                have n06 : Nxt w1 s1 H1 w6 s6 H6 := (((n2.trans n3).trans n4).trans n5).trans n6
                exact ⟨vs, kk, rfl, hL6, by rw [rr6.length]; exact hkz.2, lt, w6, s6, _, _, k6.side F6 P6, n06.side hL P1, upd_same, F6, P6, repK_put hkr r6 rr6, Nat.le_trans (putD_len _ _ _) hkz.2, p2⟩
              · cases ep
          | exc c fs s6 =>
            rw [eh] at p2
            exact p2.elim
          | bad =>
            rw [eh] at p2
            exact p2.elim
        | exc c fs s5 =>
          rw [ef] at p2
          exact p2.elim
        | bad =>
          rw [ef] at p2
          exact p2.elim
    · refine .inl ⟨st i ge, ?_⟩
      rw [List.drop_eq_nil_of_le ge] at p2
      have p2 : Post K T W w s σ H (fun w' H' => OwnV K T (.own 1) w H w' H') Q (.ok (.dic acc) (unlock o s2)) := p2
      refine p2 (.ref L) H2 w2 (unlock_ok k2 o) (unlock_nxt (n1.trans n2) lk) (OwnV.nxt n1 ⟨[L], .dic hL2 (ownk0 rr) za, List.nodup_cons.mpr ⟨List.not_mem_nil, List.nodup_nil⟩, fun q hq => ?_⟩)
      cases List.mem_singleton.mp hq
      exact ⟨F2, P2, F1, .inl hL⟩)
theorem se_dc {kx vx tg iter : Expr} {scope : Scope} {own : List (Str × Nat)} {pos : Pos} {it : MI} {g : MG} {t : TG} {is : List Nat} {f h : ME} (hc : X.calm = true) (hN : X.N.Nodup) (hi : SI K T X W tg iter it) (ok : BlkOk X.N X.env.scope scope own)
    (hg : ∀ (s : Shared) (H : Hp) (C : Addr) (cl : List (Str × Addr)) (fp : List Addr), PG (X.blk s H scope (compEnvC scope cl C X.env) fp) tg t) (hm : SG K T is g t) (his : ∀ i ∈ is, i ∈ own.map (·.2)) (hk : BSE K T X scope kx f) (hv : BSE K T X scope vx h)
    (hs : ∀ x, foldedSetIterable iter X.env x = pure x) : SE K T (.own 1) X W (.DictComp kx vx [⟨tg, iter, [], 0⟩] scope pos) (eDc (own.map (·.2)) it g f h) := .mk fun w env s σ H k eo Q p =>
  wpe_of (pe_dc hc hN pi_wp ok hg bts_wp be_wp be_wp hs) (dc_run hi hm his (fun _ _ _ _ _ => sts_nil) hk hv k eo p)
end
end VM

set_option Elab.async false
set_option linter.all false
set_option maxRecDepth 100000
set_option maxHeartbeats 1000000
/-! VM20: texts, starred items, several targets, augmented names, instances compared. -/
namespace VM
open PySem PySem.Spec PyProof.Rows L2
section
variable {K : PySem.W.Frag} {T : Tab} {w w' : Wd} {s s' : Store} {H H' : Hp} {X : Cx} {W : WX}

/-! ### sep.join(xs) -/
def joinN (S : List Nat) : List (List Nat) → List Nat
  | [] => []
  | [p] => p
  | p :: q :: r => p ++ (S ++ joinN S (q :: r))
theorem joinL_is (S : List Nat) : ∀ zs : List (List Nat), TL.joinL S zs = joinN S zs
  | [] => rfl
  | [_] => rfl
  | p :: q :: r => by
    show p ++ (S ++ TL.joinL S (q :: r)) = p ++ (S ++ joinN S (q :: r))
    rw [joinL_is S (q :: r)]
theorem joinN_is (S : List Nat) (zs : List (List Nat)) : Txt.join (mkS S) (zs.map mkS) = mkS (joinN S zs) := by
  rw [TL.join_eq]
  refine TL.ext_tl ?_
  rw [TL.tl_join]
  have e : (zs.map mkS).map TL.tl = zs := by
    rw [List.map_map]
    have : (TL.tl ∘ mkS) = id := funext fun z => by simp [TL.tl]
    rw [this, List.map_id]
  rw [e, TL.tl_mk, TL.tl_mk, joinL_is]
def dJoin (x y : D) : Option D := match x, y with
  | .str S, .lst xs => match strsO xs with
    | some zs => if (zs.map List.length).sum + zs.length * S.length ≤ sizeMax then some (.str (joinN S zs)) else none
    | none => none
  | .str S, .tup xs => match strsO xs with
    | some zs => if (zs.map List.length).sum + zs.length * S.length ≤ sizeMax then some (.str (joinN S zs)) else none
    | none => none
  | _, _ => none
theorem joinN_len (S : List Nat) : ∀ zs : List (List Nat), (joinN S zs).length ≤ (zs.map List.length).sum + zs.length * S.length
  | [] => by simp [joinN]
  | [p] => by simp [joinN]
  | p :: q :: r => by
    have ih := joinN_len S (q :: r)
    simp only [joinN, List.length_append, List.map_cons, List.sum_cons, List.length_cons] at *
    rw [Nat.add_mul]
    omega
def rJoin (K : PySem.W.Frag) : R2 := fun x y H Q => (∃ a, x = .str a) ∧ ∃ a p, ∃ ys : List Str, x = .str a ∧ [y] = [.ref p] ∧ (SqL K H p (ys.map V.str) ∨ SqT K H p (ys.map V.str)) ∧ (ys.map (·.length)).sum + ys.length * a.length ≤ 16777216 ∧ Q (.str (Txt.join a ys)) H
/-- the separator is written -/
theorem se_join {z : Str} {j : Nat} {e : Expr} {p1 apos pos : Pos} {f : ME} (hz : z.cps.toList.length ≤ sizeMax) (hp : plain e = true) (h : SE X.K T .raw X W e f) (hbase : attributeBase (.Constant (.str z) j p1) "join" X.env (eval (.Constant (.str z) j p1) X.env) = eval (.Constant (.str z) j p1) X.env)
    (hline : (apos.endLine == pos.line) = true) (hs : starEach [e] X.env = [(false, eval e X.env)]) : SE X.K T .tree X W (.Call (.Attribute (.Constant (.str z) j p1) "join" apos) [e] [] pos) (op1F (dJoin (.str z.cps.toList)) f) := .mk fun w env s σ H k eo Q p =>
  wpe_of (pe_join pe_str pe_wp hs hbase hline) ⟨⟨z, rfl⟩, h w env s σ H k eo _ (Post.bind p fun v d H1 w1 s1 a b c q => by
    have ez : z = mkS z.cps.toList := by cases z; simp
    cases ho : open1 d s1 with
    | bad =>
      rw [ho] at q
      exact q.elim
    | exc _ _ _ => exact (open1_noexc ho).elim
    | ok x s2 =>
      rw [ho] at q
      obtain ⟨w2, k2, n2, r2, _⟩ := open1_ok a c ho
      have q : Post X.K T W w s σ H (fun w' _ => Rep X.K T w'.F) Q (ofO s2 (dJoin (.str z.cps.toList) x)) := q
      have fin : ∀ (zs : List (List Nat)), (zs.map List.length).sum + zs.length * z.cps.toList.length ≤ sizeMax → dJoin (.str z.cps.toList) x = some (.str (joinN z.cps.toList zs)) → ((zs.map mkS).map (·.length)).sum + (zs.map mkS).length * z.length ≤ 16777216 ∧ Q (.str (Txt.join z (zs.map mkS))) H1 := fun zs hb e => by
        rw [e] at q
        constructor
        · have e1 : (zs.map mkS).map (·.length) = zs.map List.length := by
            rw [List.map_map]
            refine List.map_congr_left fun u _ => ?_
            show (mkS u).length = u.length
            exact str_len u
          rw [e1, List.length_map]
          exact hb
        · have e2 : Txt.join z (zs.map mkS) = mkS (joinN z.cps.toList zs) := by
            have := joinN_is z.cps.toList zs
            rw [← ez] at this
            exact this
          rw [e2]
          exact q.give k2 (b.trans n2) (.str _ (Nat.le_trans (joinN_len _ _) hb))
      have got : ∃ zs, ((∃ xs, x = .lst xs ∧ strsO xs = some zs) ∨ (∃ xs, x = .tup xs ∧ strsO xs = some zs)) ∧ (zs.map List.length).sum + zs.length * z.cps.toList.length ≤ sizeMax ∧ dJoin (.str z.cps.toList) x = some (.str (joinN z.cps.toList zs)) := by
        cases hg : dJoin (.str z.cps.toList) x with
        | none =>
          rw [hg] at q
          exact q.elim
        | some y =>
          cases x with
          | lst xs =>
            cases es : strsO xs with
            | none =>
              simp only [dJoin, es] at hg
              cases hg
            | some zs =>
              simp only [dJoin, es] at hg
              split at hg
              · rename_i hb
                cases hg
                exact ⟨zs, .inl ⟨xs, rfl, es⟩, hb, rfl⟩
              · cases hg
          | tup xs =>
            cases es : strsO xs with
            | none =>
              simp only [dJoin, es] at hg
              cases hg
            | some zs =>
              simp only [dJoin, es] at hg
              split at hg
              · rename_i hb
                cases hg
                exact ⟨zs, .inr ⟨xs, rfl, es⟩, hb, rfl⟩
              · cases hg
          | _ => cases hg
      obtain ⟨zs, hx, hb, hg⟩ := got
      obtain ⟨f1, f2⟩ := fin zs hb hg
      rcases hx with ⟨xs, rfl, es⟩ | ⟨xs, rfl, es⟩
      · obtain ⟨ad, vs, rfl, hH, rr, zz⟩ := r2
        obtain ⟨e1, _, _⟩ := reps_strs rr es
        subst e1
        exact ⟨z, ad, zs.map mkS, rfl, rfl, .inl (.of hH), f1, f2⟩
      · obtain ⟨ad, vs, rfl, hH, rr, zz⟩ := rep_tup r2
        obtain ⟨e1, _, _⟩ := reps_strs rr es
        subst e1
        exact ⟨z, ad, zs.map mkS, rfl, rfl, .inr (sqt_fh X.K k2.fh hH), f1, f2⟩)⟩

/-! ### f'..' -/
def eFmt (f : ME) : ME := op1F dStr f
theorem se_fmt {e : Expr} {pos : Pos} {f : ME} (h : SE K T .raw X W e f) : SE K T (.own 1) X W (.FormattedValue e (-1) none pos) (op1F dStr f) :=
  se_op1F (r := fun x H Q => (∃ y : Str, x = .str y ∧ y.length ≤ sizeLine ∧ Q (.str y) H) ∨ ∃ i : Int, x = .int i ∧ i.natAbs.log2 < 1920 ∧ Q (.str (toString i)) H) (fun ha => pe_fmt ha) (fun w s H v x y k r1 hg Q q => by
    cases x with
    | str z =>
      cases hg
      obtain ⟨rfl, hz⟩ := rep_str r1
      exact .inl ⟨_, rfl, by rw [str_len]; exact hz, give_flat k q rfl (.str _ hz)⟩
    | int i =>
      unfold dStr at hg
      dsimp only [] at hg
      split at hg
      · rename_i hz
        rw [Bool.and_eq_true, decide_eq_true_eq, decide_eq_true_eq] at hz
        cases hg
        cases rep_int r1
        exact .inr ⟨i, rfl, hz.1, give_flat k q rfl (rep_strI hz.2)⟩
      · cases hg
    | _ => cases hg) h
/-- the parts one behind another -/
def eJoined : List ME → List Nat → ME
  | [], acc => fun _ s => .ok (.str acc) s
  | f :: fs, acc => fun e s => (f e s).bind fun d s => match d with
    | .str z => if (acc ++ z).length ≤ sizeMax then eJoined fs (acc ++ z) e s else .bad
    | _ => .bad
inductive SJ (K : PySem.W.Frag) (T : Tab) (X : Cx) (W : WX) : List Expr → List ME → Prop where
  | nil : SJ K T X W [] []
  | cons {e : Expr} {f : ME} {es : List Expr} {fs : List ME} (h : SE K T .tree X W e f) (r : SJ K T X W es fs) : SJ K T X W (e :: es) (f :: fs)
theorem pj_wp : ∀ es : List Expr, PJ X es (es.map (WPE X))
  | [] => .nil
  | _ :: es => .cons pe_wp (pj_wp es)
theorem sj_run {env : VM.Env} {σ : L2.St} {Q : VK} {w0 : Wd} {s0 : Store} {H0 : Hp} : ∀ {es : List Expr} {fs : List ME}, SJ K T X W es fs → ∀ (acc : List Nat) {w : Wd} {s : Store} {H : Hp}, SOk K T w s H → EOk K T w env σ → Nxt w0 s0 H0 w s H → acc.length ≤ sizeMax → Post K T W w0 s0 σ H0 (fun w' _ => Rep K T w'.F) Q (eJoined fs acc env s) →
    tJs (es.map (WPE X)) (mkS acc) σ H fun out H1 => Q (.str out) H1
  | _, _, .nil, acc, w, s, H, k, eo, n, hz, p => p.give k n (.str acc hz)
  | e :: es, f :: fs, .cons h r, acc, w, s, H, k, eo, n, hz, p => by
    refine h w env s σ H k eo _ (Post.step n p fun v d H1 w1 s1 a b c q => ?_)
    cases d with
    | str z =>
      have c : Rep K T w1.F v (.str z) := c
      obtain ⟨rfl, zz⟩ := rep_str c
      have q : Post K T W w0 s0 σ H0 (fun w' _ => Rep K T w'.F) Q (if (acc ++ z).length ≤ sizeMax then eJoined fs (acc ++ z) env s1 else .bad) := q
      split at q
      · rename_i hb
        refine ⟨_, rfl, ?_, ?_⟩
        · rw [str_app, str_len]
          exact hb
        · rw [str_app]
          exact sj_run r (acc ++ z) a (eo.nxt b) (n.trans b) hb q
      · exact q.elim
    | _ => exact q.elim
theorem se_joined {v1 v2 : Expr} {rest : List Expr} {pos : Pos} {fs : List ME} (h : SJ K T X W (v1 :: v2 :: rest) fs) : SE K T .tree X W (.JoinedStr (v1 :: v2 :: rest) pos) (eJoined fs []) := .mk fun w env s σ H k eo Q p =>
  wpe_of (pe_joined (pj_wp _)) (sj_run h [] k eo .refl (Nat.zero_le _) p)

/-! ### *x in a list, a tuple -/
def aStarF (f : ME) (r : MA) : MA := fun e s => (f e s).bind fun d s => (frozen d s).bind fun d s => match d with
  | .lst xs => (r e s).bind fun ds s => .ok (xs ++ ds) s
  | .tup xs => (r e s).bind fun ds s => .ok (xs ++ ds) s
  | _ => .bad
theorem sa_star {e : Expr} {es : List Expr} {p : Pos} {f : ME} {g : MA} (he : SE X.K T .tree X W e f) (hr : SA X.K T false X W es g) : SA X.K T false X W (.Starred e p :: es) (aStarF f g) := .mk fun w env s σ H k eo Q q =>
  wpa_of (StX.pa_star pe_wp pa_wp rfl) (he w env s σ H k eo _ (Post.bind q fun v d H1 w1 s1 a b c q1 => by
    have c : Rep X.K T w1.F v d := c
    have fr : frozen d s1 = .ok d s1 := by
      cases d <;> first | rfl | cases c
    rw [fr] at q1
    have key : ∀ {ad : Addr} {vs : List V} {xs : List D}, Reps X.K T w1.F vs xs → Post X.K T W w s σ H (relA X.K T false) Q ((g env s1).bind fun ds s => .ok (xs ++ ds) s) → WPA X es σ H1 fun ys H2 => Q (vs ++ ys) H2 := fun {ad vs xs} rr q2 =>
      hr w1 env s1 σ H1 a (eo.nxt b) _ (Post.step b q2 fun ys ds H2 w2 s2 a2 b2 c2 q3 => by
        have c2 : Reps X.K T w2.F ys ds := c2
        exact q3 (vs ++ ys) H2 w2 a2 (b.trans b2) (show Reps X.K T w2.F (vs ++ ys) (xs ++ ds) from (rr.sub b2.F).append c2))
    cases d with
    | lst xs =>
      cases c with
      | lst h r z => exact ⟨_, _, rfl, .inr (.of (a.fh.lst h)), key (ad := 0) r q1⟩
    | tup xs =>
      obtain ⟨ad, vs, rfl, h, r, z⟩ := rep_tup c
      exact ⟨ad, vs, rfl, .inl (sqt_fh X.K a.fh h), key (ad := 0) r q1⟩
    | _ => exact q1.elim))
/-- *d.values() -/
def aStarV (f : ME) (r : MA) : MA := fun e s => (f e s).bind fun d s => match d with
  | .dic kvs => (r e s).bind fun ds s => .ok (kvs.map (·.2) ++ ds) s
  | _ => .bad
def tStarV (td : TE) (t : TA) : TA := fun σ H Q => td σ H fun x H1 => ∃ a kvs, x = .ref a ∧ Rd H1 a (.dK kvs) ∧ t σ H1 fun ys H2 => Q (kvs.map (·.2) ++ ys) H2
theorem pa_starV {e : Expr} {es : List Expr} {p apos cpos : Pos} {td : TE} {t : TA} (hcalm : X.calm = true) (he : PE X e td) (hr : PA X es t) (hbase : attributeBase e "values" X.env (eval e X.env) = eval e X.env) (hline : (apos.endLine == cpos.line) = true) :
    PA X (.Starred (.Call (.Attribute e "values" apos) [] [] cpos) p :: es) (tStarV td t) := by
  refine ⟨fun pos pins sh σ H Q I h => ?_⟩
  refine PySem.W.items_star ?_ rfl
  refine wpAny_Call_method (T := "dict") (id := "dict.values") hbase rfl hline F.plainAttrs_dict F.slot_dict_values F.type_dict_values (thn (he.run pins sh σ H _ I h) fun u s1 ⟨x, H1, I1, rx, d, kvs, ex, hd, q⟩ => ?_)
  subst ex
  obtain rfl : u = Value.ref d := rx
  obtain ⟨z, lo, vs, rel, dd⟩ := dk_rd I1.hok hd
  obtain ⟨ep, hm⟩ := dd.dictAt
  refine ⟨hm.dictOf.typeIs, hm.dictOf.mapOf.noDict, ?_⟩
  have hl : kvs.length = vs.length := rel.length
  have I2 : Inv X pins σ H1 { s1 with heap := s1.heap.push { cls := .type "dict_values", data := .fields #[.ref d] } } := I1.kept (t' := s1.toks) fun b ob q => Heap.get?_push_of_some _ q
  have view : (s1.heap.push { cls := .type "dict_values", data := .fields #[.ref d] }).IsValuesView s1.heap.objs.size d := ⟨_, Heap.get?_push_size _ rfl, rfl, rfl⟩
  have fin : wpAny (model X.prog X.w) X.A (collect (.ref s1.heap.objs.size)) (fun here s2 => wpAny (model X.prog X.w) X.A (spliced (backTo pos (starEach es X.env))) (fun us s3 => AP X pins σ Q (here ++ us) s3) X.xe s2) X.xe { s1 with heap := s1.heap.push { cls := .type "dict_values", data := .fields #[.ref d] } } := by
    refine PySem.W.kdu_collect (PySem.W.kdl_values (knd := mixKind X.prog X.w) (kvs := vs) (ep := ep)) (I1.ok.hd hcalm) ⟨view, hm.push _⟩ (by rw [← hl]; exact z) fun h' tk acc hk hacc => ?_
    have I3 : Inv X pins σ H1 { s1 with heap := h', toks := tk } := I2.kept (t' := tk) hk
    refine thn (hr.run pos pins _ σ H1 _ I3 q) fun us s3 ⟨ys, H3, I4, rv, q3⟩ => ⟨kvs.map (·.2) ++ ys, H3, I4, Vals.append (vals_ix ?_ fun i v u h1 h2 => ?_) rv, q3⟩
    · exact (List.length_map _).trans (hl.trans (hacc.1.symm.trans Array.length_toList.symm))
    · obtain ⟨k, e1⟩ := hacc.2 i u (by rw [← Array.getElem?_toList]; exact h2)
      obtain ⟨x, e2, e3⟩ := KV.at' rel e1
      rw [List.getElem?_map, e2] at h1
      cases h1
      exact e3
  show wpAny _ _ (callWith cpos (.builtin "dict.values") [.ref d] [] []) _ X.xe s1
  refine method_meetsIn F.slot_dict_values F.entry_dict_values rfl (PySem.evalArgs_none ⟨rfl, hm.dictOf.typeIs, F.args_dict_values_1 _, _, meets_dict_values (mixKind X.prog X.w) d lo, ⟨vs, hm.dictOf⟩, ?_⟩)
  unfold PySem.W.StarOf notIterableAtAll
  exact wpAny_bind (wpAny_specialOf view.typeIs PySem.F.slot_dict_values_iter.lookup (wpAny_pure ⟨rfl, fin⟩))
theorem repK_vals {F : Hp} : ∀ {ks : List (Key × V)} {kvs : List (D × D)}, RepK K T F ks kvs → Reps K T F (ks.map (·.2)) (kvs.map (·.2))
  | _, _, .nil => .nil
  | _, _, .cons _ h r => .cons h (repK_vals r)
theorem sa_starV {e : Expr} {es : List Expr} {p apos cpos : Pos} {f : ME} {g : MA} (hcalm : X.calm = true) (he : SE K T .tree X W e f) (hr : SA K T false X W es g) (hbase : attributeBase e "values" X.env (eval e X.env) = eval e X.env) (hline : (apos.endLine == cpos.line) = true) :
    SA K T false X W (.Starred (.Call (.Attribute e "values" apos) [] [] cpos) p :: es) (aStarV f g) := .mk fun w env s σ H k eo Q q =>
  wpa_of (pa_starV hcalm pe_wp pa_wp hbase hline) (he w env s σ H k eo _ (Post.bind q fun v d H1 w1 s1 a b c q1 => by
    cases d with
    | dic kvs =>
      have c : Rep K T w1.F v (.dic kvs) := c
      cases c with
      | dic h r z =>
        refine ⟨_, _, rfl, a.fh.rd h, hr w1 env s1 σ H1 a (eo.nxt b) _ (Post.step b q1 fun ys ds H2 w2 s2 a2 b2 c2 q3 => ?_)⟩
        have c2 : Reps K T w2.F ys ds := c2
        exact q3 _ H2 w2 a2 (b.trans b2) (show Reps K T w2.F _ _ from ((repK_vals r).sub b2.F).append c2)
    | _ => exact q1.elim))
end
end VM

set_option Elab.async false
set_option linter.all false
set_option maxRecDepth 100000
set_option maxHeartbeats 1000000
/-! VM21: several targets, augmented names, what is given away, instances compared, is. -/
namespace VM
open PySem PySem.Spec PyProof.Rows L2
section
variable {K : PySem.W.Frag} {T : Tab} {w w' : Wd} {s s' : Store} {H H' : Hp} {X : Cx} {W : WX}

/-! ### names -/
/-- a name's value, as a tree -/
def eGet (i : Nat) : ME := eFrozen (eRaw i)
theorem se_get {i : Nat} {e : Expr} (h : PE X e (tVar i)) : SE K T .tree X W e (eGet i) := se_frozen (se_rawVar h)
/-- a name's own list, given away -/
def eMove1 (i : Nat) : ME := fun e s => match e[i]? with
  | some (some d) => (take1 d s).bind fun hz s => .ok hz.2 (s.set hz.1 ⟨false, 0, none⟩)
  | _ => .bad
theorem take1_noexc {d : D} {c : Nat} {fs : List (Nat × D)} {s2 : Store} (h : take1 d s = .exc c fs s2) : False := by
  unfold take1 at h
  split at h
  · split at h <;> cases h
  · cases h
theorem SOk.drop (k : SOk K T w s H) {h : Nat} {a : Addr} {e : Ent} {P : List Addr} (he : s[h]? = some e) (hl : e.lk = false) (hio : w.io[h]? = some a) (hP : w.Ps[h]? = some P) : SOk K T ⟨w.F, w.io, w.Ps.set h []⟩ (s.set h ⟨false, 0, none⟩) H ∧ Nxt w s H ⟨w.F, w.io, w.Ps.set h []⟩ (s.set h ⟨false, 0, none⟩) H := by
  refine ⟨k.put (P' := []) (e' := ⟨false, 0, none⟩) he hio hP (Sub.refl _) k.fh (fun _ _ _ => rfl) rfl List.nodup_nil (fun p hp => by cases hp) (fun p hp => by cases hp) (fun p hp _ => k.out p hp), ⟨Sub.refl _, fun _ _ z => z, Nat.le_of_eq List.length_set.symm, fun p hp hf hn => ⟨rfl, rfl, fun z => ?_⟩, fun j f hj lk => ?_⟩⟩
  · rcases (set_flatten_mem hP).mp z with z | ⟨j, R, _, hR, hp⟩
    · cases z
    · exact hn (mem_flat hR hp)
  · have ne : h ≠ j := fun q => by
      subst q
      rw [he] at hj
      cases hj
      rw [hl] at lk
      cases lk
    refine ⟨by rw [List.getElem?_set, if_neg ne]; exact hj, ?_, fun _ _ _ _ => rfl⟩
    show (w.Ps.set h [])[j]? = w.Ps[j]?
    rw [List.getElem?_set, if_neg ne]
theorem se_move1 {i : Nat} {e : Expr} (h : PE X e (tVar i)) : SE K T (.own 1) X W e (eMove1 i) := .mk fun w env s σ H k eo Q p => by
  unfold eMove1 at p
  cases q : env[i]? with
  | none =>
    rw [q] at p
    exact p.elim
  | some o =>
    cases o with
    | none =>
      rw [q] at p
      exact p.elim
    | some d =>
      rw [q] at p
      obtain ⟨v, h1, h2⟩ := eo.get i d q
      refine wpe_of h ⟨v, h1, ?_⟩
      cases ht : take1 d s with
      | bad =>
        dsimp only [] at p
        rw [ht] at p
        exact p.elim
      | exc _ _ _ => exact (take1_noexc ht).elim
      | ok hz s1 =>
        obtain ⟨hh, x⟩ := hz
        dsimp only [] at p
        rw [ht] at p
        obtain ⟨w1, a, rfl, k1, n1, io1, P1, e1, rt, ow, _⟩ := take1_ok k h2 ht
        obtain ⟨k2, n2⟩ := k1.drop e1 rfl io1 P1
        have mem : a ∈ w1.Ps.flatten := mem_flat P1 List.mem_cons_self
        refine p (.ref a) H _ k2 (n1.trans n2) (OwnV.nxt n1 ⟨[a], ow.sub (Sub.refl _) fun _ _ => rfl, List.nodup_cons.mpr ⟨List.not_mem_nil, List.nodup_nil⟩, fun r hr => ?_⟩)
        cases List.mem_singleton.mp hr
        refine ⟨k1.out a mem, fun z => ?_, k1.out a mem, .inr mem⟩
        rcases (set_flatten_mem P1).mp z with z | ⟨j, R, ne, hR, hp⟩
        · cases z
        · exact flatten_apart k1.dis P1 hR (fun q => ne q.symm) List.mem_cons_self hp

/-! ### several values, each of its own levels -/
inductive OwnL (K : PySem.W.Frag) (T : Tab) (F H : Hp) : List Nat → List V → List D → List Addr → Prop
  | nil : OwnL K T F H [] [] [] []
  | cons {k : Nat} {v : V} {d : D} {P Q : List Addr} {ks : List Nat} {vs : List V} {ds : List D} (h : Own K T F H k v d P) (r : OwnL K T F H ks vs ds Q) : OwnL K T F H (k :: ks) (v :: vs) (d :: ds) (P ++ Q)
def SAm0 (K : PySem.W.Frag) (T : Tab) (ks : List Nat) (X : Cx) (W : WX) (es : List Expr) (f : MA) : Prop := ∀ w env s σ H, SOk K T w s H → EOk K T w env σ → ∀ Q : List V → Hp → Prop, Post K T W w s σ H (fun w' H' vs ds => ∃ P, OwnL K T w'.F H' ks vs ds P ∧ New w H w' P) Q (f env s) → WPA X es σ H Q
structure SAm (K : PySem.W.Frag) (T : Tab) (ks : List Nat) (X : Cx) (W : WX) (es : List Expr) (f : MA) : Prop where
  run : SAm0 K T ks X W es f
instance {K : PySem.W.Frag} {T : Tab} {ks : List Nat} {X : Cx} {W : WX} {es : List Expr} {f : MA} : CoeFun (SAm K T ks X W es f) fun _ => SAm0 K T ks X W es f := ⟨SAm.run⟩
theorem sam_nil : SAm K T [] X W [] aNil := .mk fun w env s σ H k eo Q p => wpa_of pa_nil (p [] H w k .refl ⟨[], .nil, List.nodup_nil, fun _ h => by cases h⟩)
theorem New.keep {w0 : Wd} {H0 : Hp} {w1 : Wd} {s1 : Store} {H1 : Hp} {P : List Addr} (nw : New w0 H0 w P) (hm : ∀ p ∈ P, MutO (H p)) (n : Nxt w s H w1 s1 H1) : (∀ p ∈ P, H1 p = H p) ∧ New w0 H0 w1 P := by
  refine ⟨fun p hp => ?_, nw.nd, fun p hp => ?_⟩
  · obtain ⟨a, b, _⟩ := nw.out p hp
    exact (n.keep p (hm p hp).some (.inl a) b).1
  · obtain ⟨a, b, c⟩ := nw.out p hp
    obtain ⟨x, y, z⟩ := n.keep p (hm p hp).some (.inl a) b
    exact ⟨y.trans a, z, c⟩
theorem sam_cons {k : Nat} {ks : List Nat} {e : Expr} {es : List Expr} {f : ME} {g : MA} (hp : plain e = true) (he : SE K T (.own k) X W e f) (hr : SAm K T ks X W es g) : SAm K T (k :: ks) X W (e :: es) (aCons f g) := .mk fun w env s σ H k0 eo Q p =>
  wpa_of (pa_cons pe_wp pa_wp (star_plain hp es X.env)) (he w env s σ H k0 eo _ (Post.bind p fun v d H1 w1 s1 a b c q => hr w1 env s1 σ H1 a (eo.nxt b) _ (Post.step b q fun vs ds H2 w2 s2 a2 b2 c2 q2 => by
    obtain ⟨P, o1, nw1⟩ := c
    obtain ⟨P2, o2, nw2⟩ := c2
    obtain ⟨hk, nw1'⟩ := nw1.keep o1.mut b2
    refine q2 (v :: vs) H2 w2 a2 (b.trans b2) ⟨P ++ P2, .cons (o1.sub b2.F hk) o2, List.nodup_append.mpr ⟨nw1.nd, nw2.nd, fun x hx y hy e => ?_⟩, fun p hp => ?_⟩
    · subst e
      obtain ⟨_, h2, _⟩ := nw1.out x hx
      rcases (nw2.out x hy).2.2.2 with q | q
      · exact (o1.mut x hx).some q
      · exact h2 q
    · rcases List.mem_append.mp hp with hp | hp
      · exact nw1'.out p hp
      · exact (nw2.nxt b).out p hp)))
def isInsD (d : D) : Bool := match d with
  | .ins _ _ => true
  | _ => false
/-- named one behind another -/
def nameGo : List Nat → List Nat → List D → VM.Env → Store → Option (VM.Env × Store)
  | k :: ks, i :: is, d :: ds, e, s => if i < e.length then (if contD d && decide (0 < k) then nameGo ks is ds (e.set i (some (.ref s.length))) (s ++ [⟨false, k, some d⟩]) else if isInsD d && decide (0 < k) then none else nameGo ks is ds (e.set i (some d)) s) else none
  | [], [], [], e, s => some (e, s)
  | _, _, _, _, _ => none
def setAll : L2.St → List Nat → List V → L2.St
  | σ, i :: is, v :: vs => setAll (σ.set i (some v)) is vs
  | σ, _, _ => σ
theorem own_tree {F : Hp} {k : Nat} {v : V} {d : D} {P : List Addr} (o : Own K T F H k v d P) (h : (contD d && decide (0 < k)) ≠ true) (h2 : (isInsD d && decide (0 < k)) ≠ true) : P = [] ∧ Rep K T F v d := by
  cases o with
  | frz h => exact ⟨rfl, h⟩
  | flat _ h => exact ⟨rfl, h⟩
  | lst => simp [contD] at h
  | dic => simp [contD] at h
  | ins => simp [isInsD] at h2
theorem name_all {w0 : Wd} {s0 : Store} {H0 : Hp} : ∀ {ks is : List Nat} {vs : List V} {ds : List D} {P : List Addr} {w : Wd} {s : Store} {e : VM.Env} {σ : L2.St} {e' : VM.Env} {s' : Store}, SOk K T w s H → Nxt w0 s0 H0 w s H → OwnL K T w.F H ks vs ds P → New w0 H0 w P → EOk K T w e σ → nameGo ks is ds e s = some (e', s') →
    ∃ w', SOk K T w' s' H ∧ Nxt w0 s0 H0 w' s' H ∧ EOk K T w' e' (setAll σ is vs)
  | _, is, _, _, _, w, s, e, σ, e', s', k, n, .nil, nw, eo, h => by
    cases is with
    | nil =>
      cases h
      exact ⟨w, k, n, eo⟩
    | cons i is => cases h
  | _, [], _, _, _, _, _, _, _, _, _, _, _, .cons _ _, _, _, h => by cases h
  | _, i :: is, _, _, _, w, s, e, σ, e', s', k, n, .cons (k := j) (v := v) (d := d) (P := P) (Q := Q) o r, nw, eo, h => by
    unfold nameGo at h
    split at h
    · have nd := List.nodup_append.mp nw.nd
      split at h
      · rename_i hc
        rw [Bool.and_eq_true, decide_eq_true_eq] at hc
        obtain ⟨j, rfl⟩ : ∃ m, j = m + 1 := ⟨j - 1, by omega⟩
        obtain ⟨a, P2, rfl, rfl⟩ := own_cont o hc.1
        obtain ⟨w2, k2, n2, r2, n3, e3⟩ := k.own n o ⟨nd.1, fun p hp => nw.out p (List.mem_append_left _ hp)⟩
        subst e3
        refine name_all (is := is) k2 n2 r ⟨nd.2.1, fun p hp => ?_⟩ ((eo.nxt n3 |> fun z => (⟨z.len, fun x y q => z.get x y q⟩ : EOk K T _ e σ)).set i r2) h
        obtain ⟨x, y, z⟩ := nw.out p (List.mem_append_right _ hp)
        refine ⟨x, fun q => ?_, z⟩
        have q : p ∈ (w.Ps ++ [a :: P2]).flatten := q
        rw [show (w.Ps ++ [a :: P2]).flatten = w.Ps.flatten ++ (a :: P2) by simp] at q
        rcases List.mem_append.mp q with q | q
        · exact y q
        · exact nd.2.2 p q p hp rfl
      · split at h
        · cases h
        · rename_i h1 h2
          obtain ⟨rfl, rt⟩ := own_tree o h1 h2
          exact name_all (is := is) k n r ⟨nd.2.1, fun p hp => nw.out p (List.mem_append_right _ hp)⟩ (eo.set i (.of rt)) h
    · cases h
def sPar (ks is : List Nat) (f : MA) : MS := fun e s => RSb (f e s) e fun ds s => match nameGo ks is ds e s with
  | some (e, s) => .nx e s
  | none => .bad
theorem ownL_len {F : Hp} : ∀ {ks : List Nat} {vs : List V} {ds : List D} {P : List Addr}, OwnL K T F H ks vs ds P → vs.length = ks.length
  | _, _, _, _, .nil => rfl
  | _, _, _, _, .cons _ r => by rw [List.length_cons, List.length_cons, ownL_len r]
theorem ss_par2 {rk i j k1 k2 : Nat} {x y : Str} {a b : Expr} {f : MA} {px py pt pos : Pos} {kt k3 pt2} (hc : X.calm = true) (hN : X.N.Nodup) (hi : X.N[i]? = some x) (hj : X.N[j]? = some y) (hij : i ≠ j) (hx : X.env.scope.names.lookup x = some .local) (hy : X.env.scope.names.lookup y = some .local) (ha : SAm K T [k1, k2] X W [a, b] f)
    (hw : swappedStores [.Tuple [.Name x px, .Name y py] kt pt] (.Tuple [a, b] k3 pt2) X.env = pure (some [x, y])) (hs : swapsWithSole [.Tuple [.Name x px, .Name y py] kt pt] (.Tuple [a, b] k3 pt2) pos.line X.env = pure false) :
    SS K T rk X W (.Assign [.Tuple [.Name x px, .Name y py] kt pt] (.Tuple [a, b] k3 pt2) pos) (sPar [k1, k2] [i, j] f) := .mk fun w env s σ H k eo D p =>
  wps_of (ps_par hc hN hi hj hij hx hy pa_wp hw hs) (ha w env s σ H k eo _ (PostS.bind eo p fun vs ds H1 w1 s1 a1 b1 c q => by
    obtain ⟨P, o, nw⟩ := c
    have len := ownL_len o
    match vs, len with
    | [v1, v2], _ =>
      refine ⟨v1, v2, rfl, ?_⟩
      cases hn : nameGo [k1, k2] [i, j] ds env s1 with
      | none =>
        rw [hn] at q
        exact q.elim
      | some r =>
        obtain ⟨e2, s2⟩ := r
        rw [hn] at q
        obtain ⟨w2, h1, h2, h3⟩ := name_all a1 b1 o nw (eo.nxt b1) hn
        exact q.giveN h1 h2 h3))
theorem ss_par3 {rk i j l k1 k2 k3 : Nat} {x y z : Str} {a b c : Expr} {f : MA} {px py pz pt pos : Pos} {kt k4 pt2} (hc : X.calm = true) (hN : X.N.Nodup) (hi : X.N[i]? = some x) (hj : X.N[j]? = some y) (hl : X.N[l]? = some z) (hij : i ≠ j) (hil : i ≠ l) (hjl : j ≠ l)
    (hx : X.env.scope.names.lookup x = some .local) (hy : X.env.scope.names.lookup y = some .local) (hz : X.env.scope.names.lookup z = some .local) (ha : SAm K T [k1, k2, k3] X W [a, b, c] f)
    (hw : swappedStores [.Tuple [.Name x px, .Name y py, .Name z pz] kt pt] (.Tuple [a, b, c] k4 pt2) X.env = pure (some [x, y, z])) (hs : swapsWithSole [.Tuple [.Name x px, .Name y py, .Name z pz] kt pt] (.Tuple [a, b, c] k4 pt2) pos.line X.env = pure false) :
    SS K T rk X W (.Assign [.Tuple [.Name x px, .Name y py, .Name z pz] kt pt] (.Tuple [a, b, c] k4 pt2) pos) (sPar [k1, k2, k3] [i, j, l] f) := .mk fun w env s σ H k eo D p =>
  wps_of (ps_par3 hc hN hi hj hl hij hil hjl hx hy hz pa_wp hw hs) (ha w env s σ H k eo _ (PostS.bind eo p fun vs ds H1 w1 s1 a1 b1 c q => by
    obtain ⟨P, o, nw⟩ := c
    have len := ownL_len o
    match vs, len with
    | [v1, v2, v3], _ =>
      refine ⟨v1, v2, v3, rfl, ?_⟩
      cases hn : nameGo [k1, k2, k3] [i, j, l] ds env s1 with
      | none =>
        rw [hn] at q
        exact q.elim
      | some r =>
        obtain ⟨e2, s2⟩ := r
        rw [hn] at q
        obtain ⟨w2, h1, h2, h3⟩ := name_all a1 b1 o nw (eo.nxt b1) hn
        exact q.giveN h1 h2 h3))

/-! ### name op= e, of ints -/
def sAugI (i : Nat) (g : Int → Int → Int) (f : ME) : MS := fun e s => match e[i]? with
  | some (some (.int x)) => RSb (f e s) e fun y s => match y with
    | .int y => .nx (e.set i (some (.int (g x y)))) s
    | _ => .bad
  | _ => .bad
theorem ss_augI {rk i : Nat} {x : Str} {e : Expr} {op : Operator} {g : Int → Int → Int} {f : ME} {pos pos' : Pos} (hN : X.N.Nodup) (hi : X.N[i]? = some x) (hx : Loc X.env.scope x) (he : SE K T .tree X W e f) (ho : PIp X op (ipI g)) (hf : X.fn x = true ∨ X.env.scope.names.lookup x = some .local) :
    SS K T rk X W (.AugAssign (.Name x pos') op e pos) (sAugI i g f) := .mk fun w env s σ H k eo D p => by
  unfold sAugI at p
  cases q : env[i]? with
  | none =>
    rw [q] at p
    exact p.elim
  | some o =>
    cases o with
    | none =>
      rw [q] at p
      exact p.elim
    | some d =>
      rw [q] at p
      cases d with
      | int a =>
        obtain ⟨v, h1, h2⟩ := eo.get i _ q
        have h2 : Rep K T w.F v (.int a) := h2
        cases rep_int h2
        refine wps_of (ps_aug hN hi hx pe_wp ho hf) ⟨.int a, h1, he w env s σ H k eo _ (PostS.bind eo p fun v2 d2 H1 w1 s1 a1 b1 c1 q1 => ?_)⟩
        cases d2 with
        | int b =>
          have c1 : Rep K T w1.F v2 (.int b) := c1
          cases rep_int c1
          exact ⟨a, b, rfl, rfl, q1.giveN a1 b1 ((eo.nxt b1).set i (.of (.int _)))⟩
        | _ => exact q1.elim
      | _ => exact p.elim

/-! ### is None, is True -/
def isNonD : D → Bool
  | .non => true
  | _ => false
def eIsN (neg : Bool) (f : ME) : ME := fun e s => (f e s).bind fun d s => .ok (.bl (isNonD d != neg)) s
theorem non_iff {v : V} {d : D} (r : RepS K T w v d) : decide (v = .non) = isNonD d := by
  cases d with
  | non =>
    have r : Rep K T w.F v .non := r
    cases r
    rfl
  | ref h =>
    obtain ⟨a, _, rfl⟩ := r
    rfl
  | _ =>
    cases r <;> rfl
theorem se_isN {a : Expr} {j : Nat} {pos pos' : Pos} {f : ME} (h : SE K T .raw X W a f) : SE K T .tree X W (.Compare a [.Is] [.Constant .none j pos'] pos) (eIsN false f) := .mk fun w env s σ H k eo Q p =>
  wpe_of (pe_cmp (pc_isN pe_wp)) (h w env s σ H k eo _ (Post.bind p fun v d H1 w1 s1 a1 b1 c1 q => by
    rw [non_iff c1]
    have e : ∀ b : Bool, (b != false) = b := by decide
    rw [e] at q
    exact q.give a1 b1 (.bl _)))
theorem se_notN {a : Expr} {j : Nat} {pos pos' : Pos} {f : ME} (h : SE K T .raw X W a f) : SE K T .tree X W (.Compare a [.IsNot] [.Constant .none j pos'] pos) (eIsN true f) := .mk fun w env s σ H k eo Q p =>
  wpe_of (pe_cmp (pc_notN pe_wp)) (h w env s σ H k eo _ (Post.bind p fun v d H1 w1 s1 a1 b1 c1 q => by
    rw [non_iff c1]
    have e : ∀ b : Bool, (b != true) = !b := by decide
    rw [e] at q
    exact q.give a1 b1 (.bl _)))
def dIsB : D → D → Option D
  | .bl a, .bl b => some (.bl (decide (a = b)))
  | _, _ => none
theorem rl_isB : Rl2 K T rIsB dIsB := fun w s H G v x v2 x2 y k fh sub r1 r2 hg Q q => by
  cases x <;> try (cases hg; done)
  cases x2 <;> try (cases hg; done)
  cases hg
  cases rep_bl r1
  cases rep_bl r2
  exact ⟨_, _, rfl, rfl, q _ _ w k .refl (.bl _)⟩
end
end VM

set_option Elab.async false
set_option linter.all false
set_option maxRecDepth 100000
set_option maxHeartbeats 1000000
/-! VM22: instances compared; tuples of instances. -/
namespace VM
open PySem PySem.Spec PyProof.Rows L2
section
variable {K : PySem.W.Frag} {T : Tab} {w w' : Wd} {s s' : Store} {H H' : Hp} {X : Cx} {W : WX}

abbrev XF : XK := fun _ _ _ => False
def rInsEq (sp : Sp) (C : Addr) (neg : Bool) : R2 := fun x y H Q => ∃ a b dx dy fs gs, x = .ref a ∧ y = .ref b ∧ H a = some (.ins C dx fs) ∧ H b = some (.ins C dy gs) ∧ sp [x, y] H (fun v H' => ∃ k, v = .bl k ∧ Q (.bl (k != neg)) H') XF
theorem inst_two {pins : List (Addr × Obj)} {σ : L2.St} {sh : Shared} {a C dx : Addr} {fs : List (Str × V)} (I : Inv X pins σ H sh) (ha : H a = some (.ins C dx fs)) : ∃ od, PySem.W.InstAt sh.heap a (PySem.W.instObj C dx) C (some od) := by
  obtain ⟨mA, J, _⟩ := ins_get I.hok ha
  obtain ⟨od, J, _⟩ := J.look
  exact ⟨od, J⟩
theorem op_insEq {n : Nat} {f C : Addr} {fd : FuncData} {ps : List Str} {sp : Sp} (F : FnOk X.prog X.w X.K X.mg X.base (L2.CX X.prog X.w) n f fd ps sp) (hr : Room n X.A) (hs : PySem.W.findIn X.K (.ref C) "__eq__" = some (some (.ref f))) (hf : PySem.W.isFn X.K (.ref f) = true) (hb : Binds X.K fd ps []) :
    OpR X (compareOp .Eq) (rInsEq sp C false) := by
  intro pins sh σ H x y v u Q I rx ry h
  obtain ⟨a, b, dx, dy, fs, gs, rfl, rfl, ha, hb', q⟩ := h
  cases rx
  cases ry
  obtain ⟨od, J⟩ := inst_two I ha
  obtain ⟨od', J'⟩ := inst_two I hb'
  obtain ⟨m, hF⟩ := I.fr
  show wpAny (model X.prog X.w) X.A (richCompare .Eq (.ref a) (.ref b)) (EP X pins σ Q) X.xe sh
  refine PySem.W.cmp_K (op := .Eq) (tb := .ref C) hr.units0 hF I.ok.mod.kin J J'.type (by simp [PySem.W.notFirst]) hs hf ?_
  refine run_eq F hb ⟨hr, rfl⟩ I q fun k H' sh' I' q' => ?_
  have e : ∀ k : Bool, (k != false) = k := by decide
  rw [e] at q'
  exact ⟨.bl k, H', I', rfl, q'⟩
theorem op_insNe {n : Nat} {f C : Addr} {fd : FuncData} {ps : List Str} {sp : Sp} (F : FnOk X.prog X.w X.K X.mg X.base (L2.CX X.prog X.w) n f fd ps sp) (hr : Room (n + 1) X.A) (hs : PySem.W.findIn X.K (.ref C) "__eq__" = some (some (.ref f))) (hf : PySem.W.isFn X.K (.ref f) = true)
    (hne : PySem.W.findIn X.K (.ref C) "__ne__" = some (some (.builtin "object.__ne__"))) (hm : PySem.W.mroIn X.K C (.type "object") = some true) (hb : Binds X.K fd ps []) : OpR X (compareOp .NotEq) (rInsEq sp C true) := by
  intro pins sh σ H x y v u Q I rx ry h
  obtain ⟨a, b, dx, dy, fs, gs, rfl, rfl, ha, hb', q⟩ := h
  cases rx
  cases ry
  obtain ⟨od, J⟩ := inst_two I ha
  obtain ⟨od', J'⟩ := inst_two I hb'
  show wpAny (model X.prog X.w) X.A (richCompare .NotEq (.ref a) (.ref b)) (EP X pins σ Q) X.xe sh
  have hu := hr.un
  refine ne_K (by omega) I.kIn J J'.type hs hf hne hm ?_
  have sb : L2.Sub X (n + 1) X.A := ⟨hr, rfl⟩
  refine run_eq F hb sb.in1 I q fun k H' sh' I' q' => ?_
  have e : ∀ k : Bool, (k != true) = !k := by decide
  rw [e] at q'
  exact ⟨k, rfl, ⟨.bl (!k), H', I', rfl, q'⟩⟩
def eEqI (neg : Bool) (c : Nat) (fn : Fn) (f1 f2 : ME) : ME := fun e s => (f1 e s).bind fun x s => (f2 e s).bind fun y s => match view s x, view s y with
  | some (.ins k _), some (.ins l _) => if k = c ∧ l = c ∧ fn.np = 2 then (match fn.sem [x, y] s with
    | .ok (.bl b) s => .ok (.bl (b != neg)) s
    | _ => .bad) else .bad
  | _, _ => .bad
theorem own_bl {F : Hp} {k : Nat} {v : V} {b : Bool} {P : List Addr} (o : Own K T F H k v (.bl b) P) : v = .bl b := by
  cases o with
  | frz h => exact rep_bl h
  | flat _ h => exact rep_bl h
theorem ins_at (k : SOk K T w s H) {v : V} {d : D} {c : Nat} {fs : List (Nat × D)} {C : Addr} (r : RepS K T w v d) (h : view s d = some (.ins c fs)) (hC : T.cls c = some C) : ∃ a dx fv, v = .ref a ∧ H a = some (.ins C dx fv) := by
  obtain ⟨a, C2, dx, fv, G, rfl, hC2, hH, _⟩ := ins_read k r h
  rw [hC] at hC2
  cases hC2
  exact ⟨a, dx, fv, rfl, hH⟩
theorem se_eqI0 {E a b : Expr} {neg : Bool} {c : Nat} {fn : Fn} {C : Addr} {f1 f2 : ME} (hC : T.cls c = some C) (hE : ∀ {ta tb : TE}, PE X a ta → PE X b tb → PE X E (tOp (rInsEq (spOf K T fn) C neg) ta tb)) (h1 : SE K T .raw X W a f1) (h2 : SE K T .raw X W b f2) : SE K T .tree X W E (eEqI neg c fn f1 f2) := .mk fun w env s σ H k eo Q p =>
  wpe_of (hE pe_wp pe_wp) (h1 w env s σ H k eo _ (Post.bind p fun v d H1 w1 s1 a1 b1 c1 q => h2 w1 env s1 σ H1 a1 (eo.nxt b1) _ (Post.step b1 q fun v2 d2 H2 w2 s2 a2 b2 c2 q2 => by
    have c1 : RepS K T w2 v d := RepS.nxt b2 c1
    cases hx : view s2 d with
    | none =>
      rw [hx] at q2
      exact q2.elim
    | some x =>
      cases hy : view s2 d2 with
      | none =>
        rw [hx, hy] at q2
        cases x <;> exact q2.elim
      | some y =>
        rw [hx, hy] at q2
        cases x with
        | ins k1 fs1 =>
          cases y with
          | ins k2 fs2 =>
            dsimp only [] at q2
            split at q2
            · rename_i hk
              obtain ⟨rfl, rfl, hnp⟩ := hk
              obtain ⟨ad, dx, fv, rfl, hH⟩ := ins_at a2 c1 hx hC
              obtain ⟨bd, dy, gv, rfl, hH2⟩ := ins_at a2 c2 hy hC
              refine ⟨ad, bd, dx, dy, fv, gv, rfl, rfl, hH, hH2, w2, s2, [d, d2], a2, .cons c1 (.cons c2 .nil), hnp.symm, ?_⟩
              cases er : fn.sem [d, d2] s2 with
              | ok r s3 =>
                rw [er] at q2
                cases r with
                | bl z =>
                  intro v3 H3 w3 a3 b3 c3
                  obtain ⟨P, ow, _⟩ := c3
                  exact ⟨z, own_bl ow, q2.give a3 ((b1.trans b2).trans b3) (.bl _)⟩
                | _ => exact q2.elim
              | exc _ _ _ =>
                rw [er] at q2
                exact q2.elim
              | bad =>
                rw [er] at q2
                exact q2.elim
            · exact q2.elim
          | _ => exact q2.elim
        | _ => exact q2.elim)))
theorem se_eqI {k c : Nat} {fn : Fn} {a b : Expr} {pos : Pos} {f1 f2 : ME} (ec : EqC X.prog X.w X.K X.mg X.base T k c fn) (hr : Room k X.A) (h1 : SE X.K T .raw X W a f1) (h2 : SE X.K T .raw X W b f2) : SE X.K T .tree X W (.Compare a [.Eq] [b] pos) (eEqI false c fn f1 f2) := by
  obtain ⟨f, fd, ps, C, F, hC, hs, hf, hne, hm, hb⟩ := ec.ex
  exact se_eqI0 hC (fun ha hb' => pe_cmpR (op_insEq F hr hs hf hb) ha hb' (nomark _)) h1 h2
theorem se_neI {k c : Nat} {fn : Fn} {a b : Expr} {pos : Pos} {f1 f2 : ME} (ec : EqC X.prog X.w X.K X.mg X.base T k c fn) (hr : Room (k + 1) X.A) (h1 : SE X.K T .raw X W a f1) (h2 : SE X.K T .raw X W b f2) : SE X.K T .tree X W (.Compare a [.NotEq] [b] pos) (eEqI true c fn f1 f2) := by
  obtain ⟨f, fd, ps, C, F, hC, hs, hf, hne, hm, hb⟩ := ec.ex
  exact se_eqI0 hC (fun ha hb' => pe_cmpR (op_insNe F hr hs hf hne hm hb) ha hb' (nomark _)) h1 h2

/-! ### tuples of instances -/
theorem SOk.frame (k : SOk K T w s H) {w2 : Wd} {s2 : Store} {H2 : Hp} (n : Nxt ⟨w.F, [], []⟩ [] H w2 s2 H2) (k2 : SOk K T w2 s2 H2) : SOk K T ⟨w2.F, w.io, w.Ps⟩ s H2 ∧ Nxt w s H ⟨w2.F, w.io, w.Ps⟩ s H2 := by
  have own : ∀ p ∈ w.Ps.flatten, MutO (H p) → H2 p = H p := fun p hp hm => (n.keep p hm.some (.inl (k.out p hp)) (by simp)).1
  have mutP : ∀ {h : Nat} {P : List Addr}, w.Ps[h]? = some P → ∀ p ∈ P, H2 p = H p := fun {h P} hP p hp => by
    have hl : h < s.length := by rw [← k.lenP]; exact (List.getElem?_eq_some_iff.mp hP).1
    obtain ⟨a, P', ha, hP', ok⟩ := k.entry (List.getElem?_eq_getElem hl)
    rw [hP] at hP'
    cases hP'
    unfold EntOk at ok
    split at ok
    · rw [ok] at hp
      cases hp
    · exact own p (mem_flat hP hp) (ok.1.mut p hp)
  refine ⟨⟨k2.fh, k.lenI, k.lenP, fun h e a P he ha hP => ?_, k.dis, fun p hp => ?_⟩, ⟨n.F, fun _ _ z => z, Nat.le_refl _, fun p hp hf hn => ?_, fun h e he hl => ⟨he, rfl, fun P hP p hp => mutP hP p hp⟩⟩⟩
  · have old := k.ent h e a P he ha hP
    unfold EntOk at old ⊢
    cases q : e.d with
    | none =>
      rw [q] at old
      exact old
    | some d =>
      rw [q] at old
      exact ⟨old.1.sub n.F fun p hp => mutP hP p hp, old.2⟩
  · obtain ⟨P, hP, hp2⟩ := List.mem_flatten.mp hp
    obtain ⟨h, hh⟩ := List.getElem?_of_mem hP
    have hl : h < s.length := by rw [← k.lenP]; exact (List.getElem?_eq_some_iff.mp hh).1
    obtain ⟨a, P', ha, hP', ok⟩ := k.entry (List.getElem?_eq_getElem hl)
    rw [hh] at hP'
    cases hP'
    unfold EntOk at ok
    split at ok
    · rw [ok] at hp2
      cases hp2
    · obtain ⟨x, y, z⟩ := n.keep p (ok.1.mut p hp2).some (.inl (k.out p hp)) (by simp)
      exact y.trans (k.out p hp)
  · obtain ⟨x, y, z⟩ := n.keep p hp hf (by simp)
    exact ⟨x, y, hn⟩
theorem SOk.bare (k : SOk K T w s H) : SOk K T ⟨w.F, [], []⟩ [] H := ⟨k.fh, rfl, rfl, fun h e a P he => by simp at he, List.nodup_nil, fun p hp => by simp at hp⟩
def insOf (c : Nat) : D → Bool
  | .ins k _ => k == c
  | _ => false
def eqAll (fn : Fn) : List D → List D → Bool
  | x :: xs, y :: ys => (match fn.sem [x, y] [] with
    | .ok (.bl true) _ => true
    | _ => false) && eqAll fn xs ys
  | _, _ => true
/-- two tuples of instances that are all equal -/
def eEqT (c : Nat) (fn : Fn) (f1 f2 : ME) : ME := fun e s => (f1 e s).bind fun x s => (f2 e s).bind fun y s => match x, y with
  | .tup xs, .tup ys => if decide (xs.length = ys.length) && (xs.all (insOf c) && ys.all (insOf c)) && decide (fn.np = 2) && eqAll fn xs ys then .ok (.bl true) s else .bad
  | _, _ => .bad
theorem eqAll_at {fn : Fn} : ∀ {xs ys : List D} {i : Nat} {x y : D}, eqAll fn xs ys = true → xs[i]? = some x → ys[i]? = some y → ∃ s2, fn.sem [x, y] [] = .ok (.bl true) s2
  | a :: xs, b :: ys, 0, x, y, h, h1, h2 => by
    cases h1
    cases h2
    unfold eqAll at h
    rw [Bool.and_eq_true] at h
    have h := h.1
    split at h
    · exact ⟨_, by assumption⟩
    · cases h
  | a :: xs, b :: ys, i + 1, x, y, h, h1, h2 => by
    unfold eqAll at h
    rw [Bool.and_eq_true] at h
    exact eqAll_at h.2 (by simpa using h1) (by simpa using h2)
def rEqTup (K : PySem.W.Frag) (sp : Sp) (C : Addr) : R2 := fun x y H Q => ∃ a b xs ys, x = .ref a ∧ y = .ref b ∧ SqT K H a xs ∧ SqT K H b ys ∧ xs.length = ys.length ∧ ∃ Good : Hp → Prop, Good H ∧
  (∀ (i : Nat) u v H', xs[i]? = some u → ys[i]? = some v → Good H' → ∃ a b dx dy fs gs, u = .ref a ∧ v = .ref b ∧ H' a = some (.ins C dx fs) ∧ H' b = some (.ins C dy gs) ∧ sp [u, v] H' (fun z H'' => ∃ k, z = .bl k ∧ (k = true ∧ Good H'')) XF) ∧ ∀ H', Good H' → Q (.bl true) H'
theorem op_eqTup {n : Nat} {f C : Addr} {fd : FuncData} {ps : List Str} {sp : Sp} (F : FnOk X.prog X.w X.K X.mg X.base (L2.CX X.prog X.w) n f fd ps sp) (hr : Room (n + 1) X.A) (hs : PySem.W.findIn X.K (.ref C) "__eq__" = some (some (.ref f))) (hf : PySem.W.isFn X.K (.ref f) = true) (hb : Binds X.K fd ps []) :
    OpR X (compareOp .Eq) (rEqTup X.K sp C) := by
  intro pins sh σ H x y v u Q I rx ry h
  obtain ⟨a, b, xs, ys, rfl, rfl, h1, h2, hlen, Good, g0, step, fin⟩ := h
  cases rx
  cases ry
  obtain ⟨its, r1, p1, _⟩ := I.tuple h1
  obtain ⟨its2, r2, p2, _⟩ := I.tuple h2
  have l1 := r1.length
  have l2 := r2.length
  show wpAny (model X.prog X.w) X.A (richCompare .Eq (.ref a) (.ref b)) (EP X pins σ Q) X.xe sh
  have hu := hr.un
  refine GQ.rc_tupG (items := its.toArray) (items2 := its2.toArray) (by simp; omega) (by omega) (fun _ sh' => ∃ H', Inv X pins σ H' sh' ∧ Good H') p1 p2 (fun i h1 h2 sh' ⟨H', I', g⟩ => ?_) (fun sh' ⟨H', I', g⟩ => ⟨.bl true, H', I', rfl, fin H' g⟩) ⟨H, I, g0⟩
  have hi1 : i < xs.length := by simpa [l1] using h1
  have hi2 : i < ys.length := by simpa [l2] using h2
  obtain ⟨u1, e1, ru1⟩ := r1.get (List.getElem?_eq_getElem hi1)
  obtain ⟨u2, e2, ru2⟩ := r2.get (List.getElem?_eq_getElem hi2)
  have eu1 : its.toArray[i] = u1 := by
    obtain ⟨_, q⟩ := List.getElem?_eq_some_iff.mp e1
    simpa using q
  have eu2 : its2.toArray[i] = u2 := by
    obtain ⟨_, q⟩ := List.getElem?_eq_some_iff.mp e2
    simpa using q
  rw [eu1, eu2]
  obtain ⟨ad, bd, dx, dy, fs, gs, ex, ey, ha, hb', q⟩ := step i _ _ H' (List.getElem?_eq_getElem hi1) (List.getElem?_eq_getElem hi2) g
  rw [ex] at ru1 q
  rw [ey] at ru2 q
  cases ru1
  cases ru2
  by_cases hab : ad = bd
  · subst hab
    exact SeqAt.EqAt.same (A := X.A.in1) (s := sh') (.ref ad) X.prog X.w X.xe _ ⟨rfl, H', I', g⟩
  · obtain ⟨od, J⟩ := inst_two I' ha
    obtain ⟨od', J'⟩ := inst_two I' hb'
    obtain ⟨m, hF⟩ := I'.fr
    have sb : L2.Sub X (n + 1) X.A := ⟨hr, rfl⟩
    refine GQ.eqBool_refG hab (PySem.W.cmp_K (op := .Eq) (tb := .ref C) sb.in1.room.units0 hF I'.ok.mod.kin J J'.type (by simp [PySem.W.notFirst]) hs hf ?_)
    exact run_eq F hb sb.in1 I' q fun k H'' sh'' I'' qq => by
      obtain ⟨rfl, g'⟩ := qq
      exact ⟨true, rfl, rfl, H'', I'', g'⟩

theorem insOf_at {c : Nat} : ∀ {ds : List D} {i : Nat} {d : D}, ds.all (insOf c) = true → ds[i]? = some d → ∃ fs, d = .ins c fs := fun {ds i d} h e => by
  have q := List.all_eq_true.mp h d (List.mem_of_getElem? e)
  cases d with
  | ins k fs =>
    have : k = c := by simpa [insOf] using q
    subst this
    exact ⟨fs, rfl⟩
  | _ => cases q
theorem se_eqT {k c : Nat} {fn : Fn} {a b : Expr} {pos : Pos} {f1 f2 : ME} (ec : EqC X.prog X.w X.K X.mg X.base T k c fn) (hr : Room (k + 1) X.A) (h1 : SE X.K T .raw X W a f1) (h2 : SE X.K T .raw X W b f2) : SE X.K T .tree X W (.Compare a [.Eq] [b] pos) (eEqT c fn f1 f2) := .mk fun w env s σ H k0 eo Q p => by
  obtain ⟨f, fd, ps, C, F, hC, hs, hf, hne, hm, hb⟩ := ec.ex
  refine wpe_of (pe_cmpR (op_eqTup F hr hs hf hb) pe_wp pe_wp (nomark _)) (h1 w env s σ H k0 eo _ (Post.bind p fun v d H1 w1 s1 a1 b1 c1 q => h2 w1 env s1 σ H1 a1 (eo.nxt b1) _ (Post.step b1 q fun v2 d2 H2 w2 s2 a2 b2 c2 q2 => ?_)))
  have c1 : RepS X.K T w2 v d := RepS.nxt b2 c1
  have c2 : RepS X.K T w2 v2 d2 := c2
  cases d with
  | tup xs =>
    cases d2 with
    | tup ys =>
      dsimp only [] at q2
      split at q2
      · rename_i hk
        simp only [Bool.and_eq_true, decide_eq_true_eq] at hk
        obtain ⟨⟨⟨hl, ix, iy⟩, hnp⟩, hall⟩ := hk
        have c1 : Rep X.K T w2.F v (.tup xs) := c1
        have c2 : Rep X.K T w2.F v2 (.tup ys) := c2
        cases c1 with
        | tup hx rx _ =>
        cases c2 with
        | tup hy ry _ =>

        have lx := rx.length
        have ly := ry.length
        refine ⟨_, _, _, _, rfl, rfl, sqt_fh X.K a2.fh hx, sqt_fh X.K a2.fh hy, by omega, fun H' => ∃ w3, SOk X.K T w3 s2 H' ∧ Nxt w2 s2 H2 w3 s2 H', ⟨w2, a2, .refl⟩, fun i u z H' hu hz g => ?_, fun H' g => ?_⟩
        · obtain ⟨w3, a3, b3⟩ := g
          obtain ⟨dx, ex, qx⟩ := Reps.get' rx hu
          obtain ⟨dy, ey, qy⟩ := Reps.get' ry hz
          obtain ⟨fs, rfl⟩ := insOf_at ix ex
          obtain ⟨gs, rfl⟩ := insOf_at iy ey
          have qx := qx.sub b3.F
          have qy := qy.sub b3.F
          have rsx : RepS X.K T (⟨w3.F, [], []⟩ : Wd) u (.ins c fs) := .of qx
          have rsy : RepS X.K T (⟨w3.F, [], []⟩ : Wd) z (.ins c gs) := .of qy
          obtain ⟨ad, dx, fv, rfl, hH⟩ := ins_at a3.bare rsx rfl hC
          obtain ⟨bd, dy, gv, rfl, hH2⟩ := ins_at a3.bare rsy rfl hC
          obtain ⟨s4, es⟩ := eqAll_at hall ex ey
          refine ⟨ad, bd, dx, dy, fv, gv, rfl, rfl, hH, hH2, ⟨w3.F, [], []⟩, [], [.ins c fs, .ins c gs], a3.bare, .cons rsx (.cons rsy .nil), hnp.symm, ?_⟩
          rw [es]
          intro v3 H4 w4 a4 b4 c4
          obtain ⟨P, ow, _⟩ := c4
          obtain ⟨a5, b5⟩ := a3.frame b4 a4
          exact ⟨true, own_bl ow, rfl, _, a5, b3.trans b5⟩
        · obtain ⟨w3, a3, b3⟩ := g
          exact q2.give a3 ((b1.trans b2).trans b3) (.bl _)
      · exact q2.elim
    | _ => exact q2.elim
  | _ => exact q2.elim
end
end VM

set_option Elab.async false
set_option linter.all false
set_option maxRecDepth 100000
set_option maxHeartbeats 1000000
/-! VM23: what is never reached; a < b < c; facts of the heap by names; the end. -/
namespace VM
open PySem PySem.Spec PyProof.Rows L2
section
variable {K : PySem.W.Frag} {T : Tab} {w w' : Wd} {s s' : Store} {H H' : Hp} {X : Cx} {W : WX}
/-- never reached -/
def sBad : MS := fun _ _ => .bad
def eBad : ME := fun _ _ => .bad
theorem ss_bad {rk : Nat} {st : Stmt} : SS K T rk X W st sBad := .mk fun _ _ _ _ _ _ _ _ p => p.elim
theorem sss_bad {rk : Nat} {st : List Stmt} : SSs K T rk X W st sBad := .mk fun _ _ _ _ _ _ _ _ p => p.elim
theorem se_bad {md : Md} {e : Expr} : SE K T md X W e eBad := .mk fun _ _ _ _ _ _ _ _ p => p.elim
/-- i op j op' k of integers -/
def eChainI (g h : Int → Int → Bool) (f1 f2 f3 : ME) : ME := fun e s => (f1 e s).bind fun x s => (f2 e s).bind fun y s => match x, y with
  | .int i, .int j => if g i j then (f3 e s).bind fun z s => match z with
      | .int k => .ok (.bl (h j k)) s
      | _ => .bad
    else .ok (.bl false) s
  | _, _ => .bad
theorem se_chainI {op op' : CmpOp} {g h : Int → Int → Bool} {a b c : Expr} {pos : Pos} {f1 f2 f3 : ME} (ho : OpR X (compareOp op) (rI0 fun i j => .bl (g i j))) (ho' : OpR X (compareOp op') (rI0 fun i j => .bl (h i j)))
    (h1 : SE K T .tree X W a f1) (h2 : SE K T .tree X W b f2) (h3 : SE K T .tree X W c f3) (hm : lastMarks [op, op'] [b, c] = false := by with_unfolding_all rfl) : SE K T .tree X W (.Compare a [op, op'] [b, c] pos) (eChainI g h f1 f2 f3) := .mk fun w env s σ H k eo Q p =>
  wpe_of (pe_chain ho ho' pe_wp pe_wp pe_wp hm) (h1 w env s σ H k eo _ (Post.bind p fun v d H1 w1 s1 a1 b1 c1 q => h2 w1 env s1 σ H1 a1 (eo.nxt b1) _ (Post.step b1 q fun v2 d2 H2 w2 s2 a2 b2 c2 q2 => by
    have c1 : Rep K T w1.F v d := c1
    have c2 : Rep K T w2.F v2 d2 := c2
    cases d with
    | int i =>
      cases d2 with
      | int j =>
        cases c1
        cases c2
        refine ⟨i, j, rfl, rfl, g i j, rfl, ?_⟩
        dsimp only [] at q2
        cases e : g i j with
        | true =>
          rw [e] at q2
          refine h3 w2 env s2 σ H2 a2 ((eo.nxt b1).nxt b2) _ (Post.step (b1.trans b2) q2 fun v3 d3 H3 w3 s3 a3 b3 c3 q3 => ?_)
          have c3 : Rep K T w3.F v3 d3 := c3
          cases d3 with
          | int l =>
            cases c3
            exact ⟨j, l, rfl, rfl, q3.give a3 ((b1.trans b2).trans b3) (.bl _)⟩
          | _ => exact q3.elim
        | false =>
          rw [e] at q2
          exact q2.give a2 (b1.trans b2) (.bl _)
      | _ => exact q2.elim
    | _ => exact q2.elim)))
end

/-! ### facts by names -/
theorem memL {c : Nat} {x : Str} : ∀ {l : List (Nat × Str)}, l.lookup c = some x → (c, x) ∈ l
  | (d, y) :: l, h => by
    unfold List.lookup at h
    split at h
    · rename_i q
      cases h
      rw [beq_iff_eq.mp q]
      exact List.mem_cons_self
    · exact List.mem_cons_of_mem _ (memL h)
def tabOf (K : PySem.W.Frag) (cs : List (Nat × Str)) (fs : List Str) (es : List (Nat × Str)) : Tab := ⟨fun c => (cs.lookup c).map (He.ga K), fun n => fs.getD n "?", fun c => (es.lookup c).map (He.ga K)⟩
def eqOV (a b : Option (Option Value)) : Bool := decide (a = b)
def clsB (K : PySem.W.Frag) (fs : List Str) (x : Str) : Bool := (He.Fa.cls x).ok K && (eqOV (PySem.W.findIn K (.ref (He.ga K x)) "__class__") (some (some (.builtin "object.__class__"))) && (decide (PySem.W.mroIn K (He.ga K x) (.type "object") = some true) && fs.all fun f => eqOV (PySem.W.findIn K (.ref (He.ga K x)) f) (some none)))
def tyN : List (Nat × Value) := [(0, .type "NoneType"), (1, .type "int"), (2, .type "str"), (3, .type "bool"), (4, .type "list"), (5, .type "tuple"), (6, .type "dict")]
def tysOf (K : PySem.W.Frag) (cs : List (Nat × Str)) : List (Nat × Value) := tyN ++ cs.map fun p => (100 + p.1, .ref (He.ga K p.2))
/-- isinstance by the types' numbers -/
def kitB (K : PySem.W.Frag) (cs : List (Nat × Str)) (c : Nat) (u : Value) : Bool := (tysOf K cs).all fun p => decide (PySem.W.kitOne K p.2 u = some (isTag c p.1))
theorem kitB_ok {K : PySem.W.Frag} {cs : List (Nat × Str)} {fs : List Str} {es : List (Nat × Str)} {c : Nat} {u : Value} (h : kitB K cs c u = true) : KitF K (tabOf K cs fs es) c u := fun n t e => by
  have key : (n, t) ∈ tysOf K cs := by
    unfold tysOf
    unfold tagV at e
    split at e
    · cases e; exact List.mem_append_left _ (by simp [tyN])
    · cases e; exact List.mem_append_left _ (by simp [tyN])
    · cases e; exact List.mem_append_left _ (by simp [tyN])
    · cases e; exact List.mem_append_left _ (by simp [tyN])
    · cases e; exact List.mem_append_left _ (by simp [tyN])
    · cases e; exact List.mem_append_left _ (by simp [tyN])
    · cases e; exact List.mem_append_left _ (by simp [tyN])
    · split at e
      · rename_i hn
        refine List.mem_append_right _ (List.mem_map.mpr ?_)
        have e : ((cs.lookup (n - 100)).map (He.ga K)).map Value.ref = some t := e
        cases q : cs.lookup (n - 100) with
        | none =>
          rw [q] at e
          cases e
        | some x =>
          rw [q] at e
          cases e
          refine ⟨(n - 100, x), ?_, ?_⟩
          · exact memL q
          · have : 100 + (n - 100) = n := by omega
            simp [this]
      · cases e
  exact of_decide_eq_true (List.all_eq_true.mp h _ key)
theorem cls_facts {K : PySem.W.Frag} {fs : List Str} {x : Str} (h : clsB K fs x = true) : Cls K (He.ga K x) ∧ PySem.W.findIn K (.ref (He.ga K x)) "__class__" = some (some (.builtin "object.__class__")) ∧ PySem.W.mroIn K (He.ga K x) (.type "object") = some true ∧ ∀ f ∈ fs, NoAttr K (He.ga K x) f := by
  obtain ⟨c1, h⟩ := He.ba h
  obtain ⟨c2, h⟩ := He.ba h
  obtain ⟨c3, c4⟩ := He.ba h
  exact ⟨He.cls_ok c1, of_decide_eq_true c2, of_decide_eq_true c3, fun f hf => by
    have q := List.all_eq_true.mp c4 f hf
    exact of_decide_eq_true (p := PySem.W.findIn K (.ref (He.ga K x)) f = some none) q⟩
def getB (K : PySem.W.Frag) : Bool := eqOV (PySem.W.specialIn K (.builtin "object.__class__") "__get__") (some (some (.builtin "getset_descriptor.__get__"))) && decide (PySem.W.takesIn K (.builtin "object.__class__") = some true)
def tabB (K : PySem.W.Frag) (cs : List (Nat × Str)) (fs : List Str) : Bool := getB K && (cs.all fun x => clsB K fs x.2)
theorem isC_of {K : PySem.W.Frag} {cs : List (Nat × Str)} {fs : List Str} {es : List (Nat × Str)} (h : tabB K cs fs = true) : IsC K (tabOf K cs fs es) := ⟨fun c C e => by
  obtain ⟨h1, h2⟩ := He.ba h
  obtain ⟨g1, g2⟩ := He.ba h1
  have e : (cs.lookup c).map (He.ga K) = some C := e
  cases q : cs.lookup c with
  | none =>
    rw [q] at e
    cases e
  | some x =>
    rw [q] at e
    cases e
    obtain ⟨a, b, d, _⟩ := cls_facts (List.all_eq_true.mp h2 (c, x) (memL q))
    exact ⟨a, b, of_decide_eq_true g1, of_decide_eq_true g2, d⟩⟩
theorem cfld_of {K : PySem.W.Frag} {cs : List (Nat × Str)} {fs : List Str} {es : List (Nat × Str)} (h : tabB K cs fs = true) (n : Nat) (f : Str) (hf : fs[n]? = some f) (inj : ∀ m, m < fs.length → fs.getD m "?" = f → m = n) (hq : f ≠ "?") : CFld K (tabOf K cs fs es) f n where
  name := by
    show fs.getD n "?" = f
    rw [List.getD_eq_getElem?_getD, hf]
    rfl
  inj := fun m hm => by
    have hm : fs.getD m "?" = f := hm
    by_cases q : m < fs.length
    · exact inj m q hm
    · rw [List.getD_eq_getElem?_getD, List.getElem?_eq_none (by omega)] at hm
      exact absurd hm.symm hq
  cls := fun c C e => by
    obtain ⟨h1, h2⟩ := He.ba h
    have e : (cs.lookup c).map (He.ga K) = some C := e
    cases q : cs.lookup c with
    | none =>
      rw [q] at e
      cases e
    | some x =>
      rw [q] at e
      cases e
      obtain ⟨a, b, d, z⟩ := cls_facts (List.all_eq_true.mp h2 (c, x) (memL q))
      exact ⟨a, z f (List.mem_of_getElem? hf)⟩
def eqB (K : PySem.W.Frag) (x : Str) : Bool := eqOV (PySem.W.findIn K (.ref (He.ga K x)) "__eq__") (some (some (.ref (He.ma K (He.ga K x) "__eq__")))) && (PySem.W.isFn K (.ref (He.ma K (He.ga K x) "__eq__")) && (eqOV (PySem.W.findIn K (.ref (He.ga K x)) "__ne__") (some (some (.builtin "object.__ne__"))) && decide (PySem.W.mroIn K (He.ga K x) (.type "object") = some true)))

/-! ### the Hook: facts of one's own too -/
abbrev AlM : Type := Bool × He.AlD
def obM (more : PySem.W.Frag → Bool) (fa : List He.Fa) (dn : List He.DefD) (K : PySem.W.Frag) : AlM := (more K, He.obsD fa dn K)
def vaM (dn : List He.DefD) : AlM := (true, He.valD dn)
structure SaysM (more : PySem.W.Frag → Bool) (fa : List He.Fa) (dn : List He.DefD) (K : PySem.W.Frag) : Prop where
  more : more K = true
  says : He.SaysD fa dn K
def obMG (n : Nat) (more : PySem.W.Frag → Bool) (fa : List He.Fa) (dn : List He.DefD) (g : Addr → Option Obj) : AlM := obM more fa dn (He.frG g (He.asD g n))
theorem says_of {more : PySem.W.Frag → Bool} {fa : List He.Fa} {dn : List He.DefD} {K : PySem.W.Frag} (e : obM more fa dn K = vaM dn) : SaysM more fa dn K := ⟨congrArg Prod.fst e, congrArg Prod.snd e⟩
def hookM (n : Nat) (more : PySem.W.Frag → Bool) (fa : List He.Fa) (dn : List He.DefD) : PySem.W.Hook where
  α := AlM
  obs := fun sh => obMG n more fa dn sh.heap.get?
  val := fun _ => vaM dn
  says := fun _ h => ∃ K : PySem.W.Frag, K.In h ∧ SaysM more fa dn K
  of := fun _ _ e => ⟨_, He.frG_in, says_of e⟩
  keeps := fun _ _ _ ⟨K, hK, c⟩ k => ⟨K, PySem.W.Frag.In.keeps hK k, c⟩
theorem obMG_eq {n : Nat} {more : PySem.W.Frag → Bool} {fa : List He.Fa} {dn : List He.DefD} {g : Addr → Option Obj} {sh : Shared} (h : ∀ a, g a = sh.heap.get? a) : obMG n more fa dn g = (hookM n more fa dn).obs sh := by
  have e : g = sh.heap.get? := funext h
  rw [e] <;> rfl
/-! ### the end -/
theorem walk_ofW {l : PySem.W.OpenLaw} {m j : Nat} {pq : Program} {ll : List Str} {XQ : (Str → Option Value) → Heap → Prop} {YQ : World → Heap → Prop} {dr : DefRec} {C0 : World → CXT} {y : Str}
    (h1 : l.most = some m) (h2 : m ≤ sizeLine) (h3 : dr.params.defaults = []) (h4 : Room j callerA)
    (G : ∀ (wo : World) (mg : Str → Option Value) (fa : Addr) (h : Heap), YQ wo h → h.Ns mainGlobals mg → mg dr.name = some (.ref fa) →
      ∃ (K : PySem.W.Frag) (fd : FuncData) (sp : Sp), K.In h ∧ (∀ (sh : Shared) (u : Value), BindsTo sh fd ⟨[u], []⟩ [(y, u)]) ∧
        (∀ (H : Hp) (a : Addr) (zs : List Int), zs.length ≤ m → Only H → SqL K H a (zs.map V.int) → sp [.ref a] H (fun v _ => v = .bl true) fun _ _ _ => False) ∧
        ∀ base : Heap, K.In base → base.Ns mainGlobals mg → FnOk l.prog wo K mg base (C0 wo) j fa fd [y] sp)
    (h5 : ∀ (wo : World) (H : Hp) (sh : Shared) (e : Value) (sh' : Shared), C0 wo [] H sh (fun _ _ _ => False) e sh' → False) :
    PySem.W.WalkO pq ll XQ YQ l.row.toRowW dr [] (fun f us => PySem.call f us) := by
  refine Att.attach_call h1 h3 fun wo sa sb mg mb fa o pm cd doc a us zs N Y ho hd hcd hmg hobj hints hlen hg => ?_
  obtain ⟨K, fd, sp, KX, hb, hsp, hF⟩ := G wo mg fa _ Y N.T.g hmg
  exact law_call KX N.T.g N.T.b N.T.builtins N.T.nolimit hg hobj hints (Nat.le_trans hlen h2) h4 hF hb (fun H hO hS => hsp H a zs hlen hO hS) fun H e s' => h5 wo H sb e s'
theorem cx_never (P : Program) (wo : World) (H : Hp) (sh : Shared) (e : Value) (sh' : Shared) (h : L2.CX P wo [] H sh (fun _ _ _ => False) e sh') : False := by
  obtain ⟨_, _, _, _, _, _, _, _, _, _, _, _, z⟩ := h
  exact z
theorem reps_ofInts {K : PySem.W.Frag} {T : Tab} {F : Hp} : ∀ zs : List Int, Reps K T F (zs.map V.int) (zs.map D.int)
  | [] => .nil
  | _ :: zs => .cons (.int _) (reps_ofInts zs)
/-- the law's own promise, from what its meaning is -/
theorem law_end {K : PySem.W.Frag} {T : Tab} {fn : Fn} {m : Nat} (hm : m ≤ sizeMax) (hn : fn.np = 1) (h : ∀ zs : List Int, zs.length ≤ m → ∃ s', fn.sem [.fl (zs.map .int)] [] = .ok (.bl true) s') (H : Hp) (a : Addr) (zs : List Int) (hl : zs.length ≤ m) (hS : SqL K H a (zs.map V.int)) :
    spOf K T fn [.ref a] H (fun v _ => v = .bl true) fun _ _ _ => False := by
  obtain ⟨s', e⟩ := h zs hl
  have k : SOk K T ⟨H, [], []⟩ [] H := ⟨fun _ _ z => .inl z, rfl, rfl, fun h e a P he => by simp at he, List.nodup_nil, fun p hp => by simp at hp⟩
  refine ⟨⟨H, [], []⟩, [], [.fl (zs.map .int)], k, .cons (.of (.fl hS (reps_ofInts zs) (by rw [List.length_map]; omega))) .nil, hn.symm, ?_⟩
  rw [e]
  intro v H' w' a' b' c'
  obtain ⟨P, ow, _⟩ := c'
  exact own_bl ow
end VM

set_option Elab.async false
set_option linter.all false
set_option maxRecDepth 100000
set_option maxHeartbeats 1000000
/-! VM24: short words for the printed proofs. -/
namespace VM
open PySem PySem.Spec PyProof.Rows L2
section
variable {K : PySem.W.Frag} {T : Tab} {w w' : Wd} {s s' : Store} {H H' : Hp} {X : Cx} {W : WX}
theorem se_mut0 {E o : Expr} {r : V → List V → Hp → VK → Prop} {g : D → List D → Option (D × D)} {f : ME} {tn : String} {ty : D → Bool} (hE : ∀ {to : TE}, PE X o to → PE X E (tBM0 X.K tn r to)) (rl : RlM X.K T r g)
    (hty : ∀ z (a : Addr) (H : Hp), ty z = true → PkOk H a z → tyV X.K tn (.ref a) H) (ho : SE X.K T .raw X W o f) : SE X.K T .tree X W E (eMut ty g f aNil) := .mk fun w env s σ H k eo Q p =>
  wpe_of (hE pe_wp) (ho w env s σ H k eo _ (Post.bind p fun v d H1 w1 s1 a1 b1 c1 q => by
    have c1 : RepS X.K T w1 v d := c1
    cases hp : peek d s1 with
    | none =>
      rw [hp] at q
      exact q.elim
    | some z0 =>
      rw [hp] at q
      dsimp only [] at q
      split at q
      · rename_i ht
        obtain ⟨ad, rfl, hz⟩ := peek_ok a1 c1 hp
        refine ⟨hty z0 ad H1 ht hz, ?_⟩
        have q : Post X.K T W w s σ H (fun w' _ => Rep X.K T w'.F) Q ((take1 d s1).bind fun hz s => match g hz.2 [] with
          | some (res, z') => .ok res (s.set hz.1 ⟨false, 1, some z'⟩)
          | none => .bad) := q
        cases ht1 : take1 d s1 with
        | bad =>
          rw [ht1] at q
          exact q.elim
        | exc c fs s3 =>
          unfold take1 at ht1
          split at ht1
          · split at ht1 <;> cases ht1
          · cases ht1
        | ok hz2 s3 =>
          obtain ⟨h, z⟩ := hz2
          rw [ht1] at q
          obtain ⟨w3, a3, e3, k3, n3, i3, P3, s3e, rt, ow, _⟩ := take1_ok a1 c1 ht1
          cases e3
          have q2 : Post X.K T W w s σ H (fun w' _ => Rep X.K T w'.F) Q (match g z [] with
            | some (res, z') => .ok res (s3.set h ⟨false, 1, some z'⟩)
            | none => .bad) := q
          cases hg : g z [] with
          | none =>
            rw [hg] at q2
            exact q2.elim
          | some rz =>
            obtain ⟨res, z'⟩ := rz
            rw [hg] at q2
            refine rl w3.F H1 ad z [] [] res z' k3.fh rt (ow.mut ad List.mem_cons_self).some ow .nil hg _ fun v o ow' rv => ?_
            obtain ⟨k4, n4⟩ := write_ok k3 i3 P3 s3e ow'
            exact q2.give k4 ((b1.trans n3).trans n4) rv
      · exact q.elim))

/-! ### leaves -/
theorem w_int {i : Int} {j : Nat} {pos : Pos} : SE K T .tree X W (.Constant (.int i) j pos) (eC (.int i)) := se_c (t := fun _ _ _ => True) pe_int fun _ _ => .int _
theorem w_bl {b : Bool} {j : Nat} {pos : Pos} : SE K T .tree X W (.Constant (.bool b) j pos) (eC (.bl b)) := se_c (t := fun _ _ _ => True) pe_bl fun _ _ => .bl _
theorem w_non {j : Nat} {pos : Pos} : SE K T .tree X W (.Constant .none j pos) (eC .non) := se_c (t := fun _ _ _ => True) pe_non fun _ _ => .non
theorem rep_strz {F : Hp} {x : Str} (z : List Nat) (h : x = ⟨z.toArray⟩) (hz : z.length ≤ sizeMax) : Rep K T F (.str x) (.str z) := by
  subst h
  exact .str z hz
theorem w_str {x : Str} {j : Nat} {pos : Pos} (z : List Nat) (h : x = ⟨z.toArray⟩) (hz : z.length ≤ sizeMax) : SE K T .tree X W (.Constant (.str x) j pos) (eC (.str z)) := se_c (t := fun _ _ _ => True) pe_str fun _ _ => rep_strz z h hz
theorem w_gint {x : Str} {i : Int} {pos : Pos} (h : ∃ t, X.mg x = some (.int i t)) (hg : Gl X x) (hd : (x == ("__debug__" : Str)) = false) : SE K T .tree X W (.Name x pos) (eC (.int i)) := by
  obtain ⟨t, h⟩ := h
  exact se_c (t := fun _ _ _ => True) (v := .int i) (pe_glob hg h ⟨t, rfl⟩ hd) fun _ _ => .int _
theorem w_gstr {x y : Str} {pos : Pos} (z : List Nat) (h : ∃ t, X.mg x = some (.str y t)) (hz : y = ⟨z.toArray⟩) (hl : z.length ≤ sizeMax) (hg : Gl X x) (hd : (x == ("__debug__" : Str)) = false) : SE K T .tree X W (.Name x pos) (eC (.str z)) := by
  obtain ⟨t, h⟩ := h
  exact se_c (t := fun _ _ _ => True) (v := .str y) (pe_glob hg h ⟨t, rfl⟩ hd) fun _ _ => rep_strz z hz hl
/-! ### operators -/
theorem room41 {k : Nat} {A : Around} (hr : Room k A) : A.units + 64 < cLine := by
  have := hr.un
  omega
theorem w_add {a b : Expr} {pos : Pos} {f1 f2 : ME} (hK : X.K = K) (h1 : SE K T .raw X W a f1) (h2 : SE K T .raw X W b f2) : SE K T (.own 1) X W (.BinOp a .Add b pos) (op2F dAdd f1 f2) := by
  subst hK
  exact se_op2F (fun h1 h2 => pe_op op_addA h1 h2) rl_add h1 h2
theorem w_sub {a b : Expr} {pos : Pos} {f1 f2 : ME} (h1 : SE K T .raw X W a f1) (h2 : SE K T .raw X W b f2) : SE K T (.own 1) X W (.BinOp a .Sub b pos) (op2F dSub f1 f2) := se_op2F (fun h1 h2 => pe_op op_sub h1 h2) rl_sub h1 h2
theorem w_mul {a b : Expr} {pos : Pos} {f1 f2 : ME} (h1 : SE K T .raw X W a f1) (h2 : SE K T .raw X W b f2) : SE K T (.own 1) X W (.BinOp a .Mult b pos) (op2F dMul f1 f2) := se_op2F (fun h1 h2 => pe_op op_mulA h1 h2) rl_mul h1 h2
theorem w_div {a b : Expr} {pos : Pos} {f1 f2 : ME} (h1 : SE K T .raw X W a f1) (h2 : SE K T .raw X W b f2) : SE K T (.own 1) X W (.BinOp a .FloorDiv b pos) (op2F dDiv f1 f2) := se_op2F (fun h1 h2 => pe_op op_fdivN h1 h2) rl_div h1 h2
theorem w_mod {a b : Expr} {pos : Pos} {f1 f2 : ME} (h1 : SE K T .raw X W a f1) (h2 : SE K T .raw X W b f2) : SE K T (.own 1) X W (.BinOp a .Mod b pos) (op2F dMod f1 f2) := se_op2F (fun h1 h2 => pe_op op_modN h1 h2) rl_mod h1 h2
theorem w_pow {a b : Expr} {pos : Pos} {f1 f2 : ME} (h1 : SE K T .raw X W a f1) (h2 : SE K T .raw X W b f2) : SE K T (.own 1) X W (.BinOp a .Pow b pos) (op2F dPow f1 f2) := se_op2F (fun h1 h2 => pe_op op_pow h1 h2) rl_pow h1 h2
theorem w_neg {a : Expr} {pos : Pos} {f1 : ME} (h1 : SE K T .raw X W a f1) : SE K T (.own 1) X W (.UnaryOp .USub a pos) (op1F dNeg f1) := se_op1F (fun h => pe_un un_neg h) rl_neg h1
theorem w_eq {k : Nat} {a b : Expr} {pos : Pos} {f1 f2 : ME} (hK : X.K = K) (hr : Room k X.A) (h1 : SE K T .raw X W a f1) (h2 : SE K T .raw X W b f2) : SE K T .tree X W (.Compare a [.Eq] [b] pos) (op2 dEq f1 f2) := by
  subst hK
  exact se_op2 (fun h1 h2 => pe_cmpR (op_eqT (by have := room41 hr; omega)) h1 h2 (nomark _)) rl_eq h1 h2
theorem w_ne {k : Nat} {a b : Expr} {pos : Pos} {f1 f2 : ME} (hK : X.K = K) (hr : Room k X.A) (h1 : SE K T .raw X W a f1) (h2 : SE K T .raw X W b f2) : SE K T .tree X W (.Compare a [.NotEq] [b] pos) (op2 dNe f1 f2) := by
  subst hK
  exact se_op2 (fun h1 h2 => pe_cmpR (op_neT (by have := room41 hr; omega)) h1 h2 (nomark _)) rl_ne h1 h2
theorem w_lt {a b : Expr} {pos : Pos} {f1 f2 : ME} (h1 : SE K T .raw X W a f1) (h2 : SE K T .raw X W b f2) : SE K T .tree X W (.Compare a [.Lt] [b] pos) (op2 dLt f1 f2) := se_op2 (fun h1 h2 => pe_cmpR op_ltT h1 h2 (nomark _)) rl_lt h1 h2
theorem w_le {a b : Expr} {pos : Pos} {f1 f2 : ME} (h1 : SE K T .raw X W a f1) (h2 : SE K T .raw X W b f2) : SE K T .tree X W (.Compare a [.LtE] [b] pos) (op2 dLe f1 f2) := se_op2 (fun h1 h2 => pe_cmpR op_le h1 h2 (nomark _)) rl_le h1 h2
theorem w_gt {a b : Expr} {pos : Pos} {f1 f2 : ME} (h1 : SE K T .raw X W a f1) (h2 : SE K T .raw X W b f2) : SE K T .tree X W (.Compare a [.Gt] [b] pos) (op2 dGt f1 f2) := se_op2 (fun h1 h2 => pe_cmpR op_gt h1 h2 (nomark _)) rl_gt h1 h2
theorem w_ge {a b : Expr} {pos : Pos} {f1 f2 : ME} (h1 : SE K T .raw X W a f1) (h2 : SE K T .raw X W b f2) : SE K T .tree X W (.Compare a [.GtE] [b] pos) (op2 dGe f1 f2) := se_op2 (fun h1 h2 => pe_cmpR op_ge h1 h2 (nomark _)) rl_ge h1 h2
theorem w_is {a b : Expr} {pos : Pos} {f1 f2 : ME} (h1 : SE K T .raw X W a f1) (h2 : SE K T .raw X W b f2) : SE K T .tree X W (.Compare a [.Is] [b] pos) (op2 dIsB f1 f2) := se_op2 (fun h1 h2 => pe_cmpR op_isBl h1 h2 (nomark _)) rl_isB h1 h2
theorem w_in {k : Nat} {a b : Expr} {pos : Pos} {f1 f2 : ME} (hK : X.K = K) (hr : Room k X.A) (h1 : SE K T .raw X W a f1) (h2 : SE K T .raw X W b f2) (hm : behindInMarks .In b = false) : SE K T .tree X W (.Compare a [.In] [b] pos) (op2 dIn f1 f2) := by
  subst hK
  exact se_op2 (fun h1 h2 => pe_cmpR (op_inT (room41 hr) false) h1 h2 hm) rl_in h1 h2
theorem w_notIn {k : Nat} {a b : Expr} {pos : Pos} {f1 f2 : ME} (hK : X.K = K) (hr : Room k X.A) (h1 : SE K T .raw X W a f1) (h2 : SE K T .raw X W b f2) (hm : behindInMarks .NotIn b = false) : SE K T .tree X W (.Compare a [.NotIn] [b] pos) (op2 dNotIn f1 f2) := by
  subst hK
  exact se_op2 (fun h1 h2 => pe_cmpR (op_inT (room41 hr) true) h1 h2 hm) rl_notIn h1 h2
theorem w_leLe {a b c : Expr} {pos : Pos} {f1 f2 f3 : ME} (h1 : SE K T .tree X W a f1) (h2 : SE K T .tree X W b f2) (h3 : SE K T .tree X W c f3) : SE K T .tree X W (.Compare a [.LtE, .LtE] [b, c] pos) (eChainI (fun i j => decide (i ≤ j)) (fun i j => decide (i ≤ j)) f1 f2 f3) := se_chainI op_le op_le h1 h2 h3 (nomark _)
theorem w_leLt {a b c : Expr} {pos : Pos} {f1 f2 f3 : ME} (h1 : SE K T .tree X W a f1) (h2 : SE K T .tree X W b f2) (h3 : SE K T .tree X W c f3) : SE K T .tree X W (.Compare a [.LtE, .Lt] [b, c] pos) (eChainI (fun i j => decide (i ≤ j)) (fun i j => decide (i < j)) f1 f2 f3) := se_chainI op_le op_lt h1 h2 h3 (nomark _)
theorem w_ix {k : Nat} {a b : Expr} {pos : Pos} {f1 f2 : ME} (hK : X.K = K) (hr : Room k X.A) (h1 : SE K T .raw X W a f1) (h2 : SE K T .raw X W b f2) (hp : PlainIx b) : SE K T .tree X W (.Subscript a b pos) (op2F dIx f1 f2) := by
  subst hK
  exact se_op2T (fun h1 h2 => pe_ix (ix_all (by have := room41 hr; omega)) h1 h2 hp) rl_ix h1 h2
theorem w_slice {a : Expr} {lo hi : Option Expr} {p2 pos : Pos} {f : ME} {g h : Option ME} (hK : X.K = K) (h1 : SE K T .raw X W a f) (h2 : SO K T X W lo g) (h3 : SO K T X W hi h) : SE K T (.own 1) X W (.Subscript a (.Slice lo hi none p2) pos) (eSlice f g h) := by
  subst hK
  exact se_slice h1 h2 h3 rfl
/-! ### methods of lists -/
theorem ty_lst : ∀ z (a : Addr) (H : Hp), isLst z = true → PkOk H a z → tyV X.K "list" (.ref a) H := fun z a H h p => by
  cases z with
  | lst xs =>
    obtain ⟨vs, e⟩ := p
    exact .inl ⟨rfl, vs, .inl (.inl e)⟩
  | _ => cases h
theorem w_append {o e : Expr} {apos cpos : Pos} {f : ME} {a : MA} (hK : X.K = K) (ho : SE K T .raw X W o f) (ha : SA K T false X W [e] a) (hp : plain e = true) (hb : attributeBase o "append" X.env (eval o X.env) = eval o X.env) (hl : (apos.endLine == cpos.line) = true) : SE K T .tree X W (.Call (.Attribute o "append" apos) [e] [] cpos) (eMut isLst gAppend f a) := by
  subst hK
  exact se_mut (fun h1 h2 => pe_bm PySem.F.plainAttrs_list PySem.F.slot_list_append PySem.F.type_list_append mt_append h1 h2 hb (by rw [star_plain hp]; rfl) hl (star_plain hp _ _) tail0) rl_append ty_lst ho ha
theorem w_extend {o e : Expr} {apos cpos : Pos} {f : ME} {a : MA} (hK : X.K = K) (ho : SE K T .raw X W o f) (ha : SA K T false X W [e] a) (hp : plain e = true) (hb : attributeBase o "extend" X.env (eval o X.env) = eval o X.env) (hl : (apos.endLine == cpos.line) = true) : SE K T .tree X W (.Call (.Attribute o "extend" apos) [e] [] cpos) (eMut isLst gExtend f a) := by
  subst hK
  exact se_mut (fun h1 h2 => pe_bm PySem.F.plainAttrs_list PySem.F.slot_list_extend PySem.F.type_list_extend mt_extend h1 h2 hb (by rw [star_plain hp]; rfl) hl (star_plain hp _ _) tail0) rl_extend ty_lst ho ha
theorem w_popAt {o e : Expr} {apos cpos : Pos} {f : ME} {a : MA} (hK : X.K = K) (ho : SE K T .raw X W o f) (ha : SA K T false X W [e] a) (hp : plain e = true) (hb : attributeBase o "pop" X.env (eval o X.env) = eval o X.env) (hl : (apos.endLine == cpos.line) = true) : SE K T .tree X W (.Call (.Attribute o "pop" apos) [e] [] cpos) (eMut isLst gPopAt f a) := by
  subst hK
  exact se_mut (fun h1 h2 => pe_bm PySem.F.plainAttrs_list PySem.F.slot_list_pop PySem.F.type_list_pop mt_popAt h1 h2 hb (by rw [star_plain hp]; rfl) hl (star_plain hp _ _) tail0) rl_popAt ty_lst ho ha
theorem w_pop {o : Expr} {apos cpos : Pos} {f : ME} (hK : X.K = K) (ho : SE K T .raw X W o f) (hb : attributeBase o "pop" X.env (eval o X.env) = eval o X.env) (hl : (apos.endLine == cpos.line) = true) : SE K T .tree X W (.Call (.Attribute o "pop" apos) [] [] cpos) (eMut isLst gPop f aNil) := by
  subst hK
  exact se_mut0 (fun h1 => pe_bm0 PySem.F.plainAttrs_list PySem.F.slot_list_pop PySem.F.type_list_pop mt_pop h1 hb hl) rl_pop ty_lst ho
/-! ### builtins -/
def dIntA : D → Option D
  | .int a => some (.int a)
  | .bl b => some (.int (b2i b))
  | _ => none
theorem rl_intD : Rl1F K T (fun x H Q => (∃ i, [x] = [V.int i] ∧ Q (.int i) H) ∨ ∃ k, [x] = [V.bl k] ∧ Q (.int (if k then 1 else 0)) H) dIntA := by
  have e : dIntA = (fun d => match d with
    | .int a => some (.int a)
    | .bl b => some (.int (b2i b))
    | _ => none) := by
    funext d
    cases d <;> rfl
  rw [e]
  exact rl_intAny
theorem w_len {e : Expr} {p pos : Pos} {f : ME} (hK : X.K = K) (hm : X.mg "len" = none) (hg : Gl X "len") (hp : plain e = true) (h : SE K T .raw X W e f) : SE K T .tree X W (.Call (.Name "len" p) [e] [] pos) (op1 dLen f) := by
  subst hK
  exact se_len rfl hp hg hm h
theorem w_bstr {e : Expr} {p pos : Pos} {f : ME} (hK : X.K = K) (hm : X.mg "str" = none) (hg : Gl X "str") (hp : plain e = true) (h : SE K T .raw X W e f) : SE K T (.own 1) X W (.Call (.Name "str" p) [e] [] pos) (op1F dStr f) := by
  subst hK
  exact se_tyF call_strA rl_str hp hg hm (by decide +kernel) (by decide) (by decide) h
theorem w_blist {e : Expr} {p pos : Pos} {f : ME} (hK : X.K = K) (hc : X.calm = true) (hm : X.mg "list" = none) (hg : Gl X "list") (hp : plain e = true) (h : SE K T .raw X W e f) : SE K T (.own 1) X W (.Call (.Name "list" p) [e] [] pos) (op1F dListA f) := by
  subst hK
  exact se_tyF (call_listA hc) rl_listA hp hg hm (by decide +kernel) (by decide) (by decide) h
theorem w_btuple {e : Expr} {p pos : Pos} {f : ME} (hK : X.K = K) (hm : X.mg "tuple" = none) (hg : Gl X "tuple") (hp : plain e = true) (h : SE K T .raw X W e f) : SE K T (.own 1) X W (.Call (.Name "tuple" p) [e] [] pos) (op1F dTuple f) := by
  subst hK
  exact se_tyF call_tupleA rl_tupleOf hp hg hm (by decide +kernel) (by decide) (by decide) h
theorem w_bint {e : Expr} {p pos : Pos} {f : ME} (hK : X.K = K) (hm : X.mg "int" = none) (hg : Gl X "int") (hp : plain e = true) (h : SE K T .raw X W e f) : SE K T (.own 1) X W (.Call (.Name "int" p) [e] [] pos) (op1F dIntA f) := by
  subst hK
  exact se_tyF call_int1 rl_intD hp hg hm (by decide +kernel) (by decide) (by decide) h
theorem w_ball {e : Expr} {p pos : Pos} {f : ME} (hK : X.K = K) (hc : X.calm = true) (hm : X.mg "all" = none) (hg : Gl X "all") (hp : plain e = true) (h : SE K T .raw X W e f) : SE K T (.own 1) X W (.Call (.Name "all" p) [e] [] pos) (op1F dAll f) := by
  subst hK
  exact se_biF (cr_all hc) rl_all hp hg hm (by decide +kernel) (by decide) (by decide) h
theorem w_bany {e : Expr} {p pos : Pos} {f : ME} (hK : X.K = K) (hc : X.calm = true) (hm : X.mg "any" = none) (hg : Gl X "any") (hp : plain e = true) (h : SE K T .raw X W e f) : SE K T (.own 1) X W (.Call (.Name "any" p) [e] [] pos) (op1F dAny f) := by
  subst hK
  exact se_biF (cr_any hc) rl_any hp hg hm (by decide +kernel) (by decide) (by decide) h
theorem w_bsorted {e : Expr} {p pos : Pos} {f : ME} (hK : X.K = K) (hc : X.calm = true) (hm : X.mg "sorted" = none) (hg : Gl X "sorted") (hp : plain e = true) (h : SE K T .raw X W e f) : SE K T (.own 1) X W (.Call (.Name "sorted" p) [e] [] pos) (op1F dSortA f) := by
  subst hK
  exact se_biF (call_sortA hc) rl_sortA hp hg hm (by decide +kernel) (by decide) (by decide) h
theorem w_lenSet {e : Expr} {p p2 pos pos2 : Pos} {f : ME} (hK : X.K = K) (hc : X.calm = true) (hm : X.mg "len" = none) (hm2 : X.mg "set" = none) (hg : Gl X "len") (hg2 : Gl X "set") (hp : plain e = true) (h : SE K T .raw X W e f) : SE K T (.own 1) X W (.Call (.Name "len" p) [.Call (.Name "set" p2) [e] [] pos2] [] pos) (op1F dLenSet f) := by
  subst hK
  exact se_setIn hc call_lenT rl_lenSet hp hg hm (by decide +kernel) (by decide) (by decide) hg2 hm2 h
theorem w_sortSet {e : Expr} {p p2 pos pos2 : Pos} {f : ME} (hK : X.K = K) (hc : X.calm = true) (hm : X.mg "sorted" = none) (hm2 : X.mg "set" = none) (hg : Gl X "sorted") (hg2 : Gl X "set") (hp : plain e = true) (h : SE K T .raw X W e f) : SE K T (.own 1) X W (.Call (.Name "sorted" p) [.Call (.Name "set" p2) [e] [] pos2] [] pos) (op1F dSortSet f) := by
  subst hK
  exact se_setIn hc (call_sortT hc) rl_sortSet hp hg hm (by decide +kernel) (by decide) (by decide) hg2 hm2 h
theorem w_isT {c : Nat} {n : Str} {ty : String} {e : Expr} {p q pos : Pos} {f : ME} (hK : X.K = K) (ic : IsC K T) (hk : KitF K T c (.type ty)) (hm : X.mg "isinstance" = none) (hmn : X.mg n = none) (hv : bootBuiltins n = some (.type ty)) (hg : Gl X "isinstance") (hgn : Gl X n) (hn : n ≠ "__name__") (hd : (n == ("__debug__" : Str)) = false) (hp : plain e = true) (h : SE K T .raw X W e f) : SE K T .tree X W (.Call (.Name "isinstance" p) [e, .Name n q] [] pos) (op1 (dIsiA [c]) f) := by
  subst hK
  exact se_isi ic hk (.ty _) (pe_bltn (v := .ty ty) hgn hmn hv rfl hn hd) hp rfl hg hm h
theorem w_isC {c : Nat} {n : Str} {C : Addr} {e : Expr} {p q pos : Pos} {f : ME} (hK : X.K = K) (ic : IsC K T) (hk : KitF K T c (.ref C)) (hm : X.mg "isinstance" = none) (hmn : X.mg n = some (.ref C)) (hg : Gl X "isinstance") (hgn : Gl X n) (hd : (n == ("__debug__" : Str)) = false) (hp : plain e = true) (h : SE K T .raw X W e f) : SE K T .tree X W (.Call (.Name "isinstance" p) [e, .Name n q] [] pos) (op1 (dIsiA [c]) f) := by
  subst hK
  exact se_isi ic hk (.own _) (pe_glob (v := .ref C) hgn hmn rfl hd) hp rfl hg hm h
theorem w_isT2 {c1 c2 : Nat} {n1 n2 : Str} {t1 t2 : String} {e : Expr} {p q1 q2 pos tp : Pos} {j : Nat} {f : ME} (hK : X.K = K) (ic : IsC K T) (hk1 : KitF K T c1 (.type t1)) (hk2 : KitF K T c2 (.type t2)) (hm : X.mg "isinstance" = none) (hm1 : X.mg n1 = none) (hm2 : X.mg n2 = none) (hv1 : bootBuiltins n1 = some (.type t1)) (hv2 : bootBuiltins n2 = some (.type t2)) (hg : Gl X "isinstance") (hg1 : Gl X n1) (hg2 : Gl X n2)
    (a1 : n1 ≠ "__name__") (a2 : n2 ≠ "__name__") (d1 : (n1 == ("__debug__" : Str)) = false) (d2 : (n2 == ("__debug__" : Str)) = false) (hp : plain e = true) (h : SE K T .raw X W e f) : SE K T .tree X W (.Call (.Name "isinstance" p) [e, .Tuple [.Name n1 q1, .Name n2 q2] j tp] [] pos) (op1 (dIsiA [c1, c2]) f) := by
  subst hK
  exact se_isi2 ic hk1 hk2 (.ty _) (.ty _) (pe_bltn (v := .ty t1) hg1 hm1 hv1 rfl a1 d1) (pe_bltn (v := .ty t2) hg2 hm2 hv2 rfl a2 d2) hp rfl rfl hg hm h
theorem w_join {z : Str} {zs : List Nat} {j : Nat} {e : Expr} {p1 apos pos : Pos} {f : ME} (hK : X.K = K) (hz : z.cps.toList = zs) (hl : zs.length ≤ sizeMax) (hp : plain e = true) (h : SE K T .raw X W e f) (hbase : attributeBase (.Constant (.str z) j p1) "join" X.env (eval (.Constant (.str z) j p1) X.env) = eval (.Constant (.str z) j p1) X.env)
    (hline : (apos.endLine == pos.line) = true) : SE K T .tree X W (.Call (.Attribute (.Constant (.str z) j p1) "join" apos) [e] [] pos) (op1F (dJoin (.str zs)) f) := by
  subst hK
  subst hz
  exact se_join hl hp h hbase hline (star_plain hp _ _)
/-! ### tests, statements -/
theorem w_t {e : Expr} {f : ME} (h : SE K T .tree X W e f) (he : ∀ whole, isTrue e X.env whole = (do let v ← whole; standAt e.pos; holding [v] (truthy v))) : ST K T X W e (tE f) := st_val he h
/-! ### calls -/
theorem w_call {k : Nat} {x : Str} {fn : Fn} {e : Expr} {es : List Expr} {p pos : Pos} {a : MA} (hK : X.K = K) (c : Cal X.prog X.w K X.mg X.base T k x fn) (hr : Room k X.A) (tk : Takes X W) (hg : Gl X x) (ha : SA K T true X W (e :: es) a) (hdb : (x == ("__debug__" : Str)) = false)
    (he : starEach (e :: es) X.env = (false, eval e X.env) :: starEach es X.env) (hpl : (backTo pos (starEach es X.env)).any (·.1) = false) : SE K T (.own fn.ret) X W (.Call (.Name x p) (e :: es) [] pos) (eCall fn a) := by
  subst hK
  exact se_call c hr tk hg ha hdb he hpl
theorem w_call0 {k : Nat} {x : Str} {fn : Fn} {p pos : Pos} (hK : X.K = K) (c : Cal X.prog X.w K X.mg X.base T k x fn) (hr : Room k X.A) (tk : Takes X W) (hg : Gl X x) (hdb : (x == ("__debug__" : Str)) = false) : SE K T (.own fn.ret) X W (.Call (.Name x p) [] [] pos) (eCall fn aNil) := by
  subst hK
  exact se_call0 c hr tk hg hdb
theorem w_meth {pl : Sem Bool} {k c : Nat} {m : Str} {fn : Fn} {o e : Expr} {es : List Expr} {apos pos : Pos} {f : ME} {a : MA} (hK : X.K = K) (cm : CalM X.prog X.w K X.mg X.base T k c m fn) (hr : Room k X.A) (tk : Takes X W) (ho : SE K T .raw X W o f) (ha : SA K T true X W (e :: es) a)
    (hst : starEach (e :: es) X.env = (false, eval e X.env) :: starEach es X.env) (hpl : (backTo pos (starEach es X.env)).any (·.1) = false)
    (ht : eval (.Call (.Attribute o m apos) (e :: es) [] pos) X.env = (do
      let ov ← eval o X.env
      standAt apos.atName
      let (f, first) ← holding [ov] (getMethod ov m pl)
      callWith pos f first (backTo pos (starEach (e :: es) X.env)) (backToKw pos (keywordEach [] X.env)))) :
    SE K T (.own fn.ret) X W (.Call (.Attribute o m apos) (e :: es) [] pos) (eMeth c fn f a) := by
  subst hK
  exact se_meth cm hr tk ho ha hst hpl ht
theorem w_meth0 {pl : Sem Bool} {k c : Nat} {m : Str} {fn : Fn} {o : Expr} {apos pos : Pos} {f : ME} (hK : X.K = K) (cm : CalM X.prog X.w K X.mg X.base T k c m fn) (hr : Room k X.A) (tk : Takes X W) (ho : SE K T .raw X W o f)
    (ht : eval (.Call (.Attribute o m apos) [] [] pos) X.env = (do
      let ov ← eval o X.env
      standAt apos.atName
      let (f, first) ← holding [ov] (getMethod ov m pl)
      callWith pos f first (backTo pos (starEach [] X.env)) (backToKw pos (keywordEach [] X.env)))) :
    SE K T (.own fn.ret) X W (.Call (.Attribute o m apos) [] [] pos) (eMeth c fn f aNil) := by
  subst hK
  exact se_meth0 cm hr tk ho ht
theorem w_make {k c : Nat} {x : Str} {fn : Fn} {e : Expr} {es : List Expr} {p pos : Pos} {a : MA} (hK : X.K = K) (cn : CalN X.prog X.w K X.mg X.base T k x c fn) (hr : Room (k + 1) X.A) (tk : Takes X W) (hg : Gl X x) (ha : SA K T true X W (e :: es) a) (hdb : (x == ("__debug__" : Str)) = false)
    (he : starEach (e :: es) X.env = (false, eval e X.env) :: starEach es X.env) (hpl : (backTo pos (starEach es X.env)).any (·.1) = false) : SE K T .tree X W (.Call (.Name x p) (e :: es) [] pos) (eMake c fn a) := by
  subst hK
  exact se_make cn hr tk hg ha hdb he hpl
theorem w_fld {e : Expr} {f : Str} {n : Nat} {pos : Pos} {g : ME} (hK : X.K = K) (cf : CFld K T f n) (he : SE K T .raw X W e g) (hb : attributeBase e f X.env (eval e X.env) = eval e X.env) : SE K T .tree X W (.Attribute e f pos) (eFld n g) := by
  subst hK
  exact se_fld cf he hb
theorem ws_setFld {rk : Nat} {o e : Expr} {f : Str} {n : Nat} {pos pos' : Pos} {g v : ME} (hK : X.K = K) (cf : CFld K T f n) (hv : SE K T .tree X W e v) (ho : SE K T .raw X W o g) (hs : swapsWith e (some (.Attribute o f pos')) pos.line X.env = pure false) :
    SS K T rk X W (.Assign [.Attribute o f pos'] e pos) (sSetF n g v) := by
  subst hK
  exact ss_setFld cf hv ho hs
theorem w_eqI {k c : Nat} {fn : Fn} {a b : Expr} {pos : Pos} {f1 f2 : ME} (hK : X.K = K) (ec : EqC X.prog X.w K X.mg X.base T k c fn) (hr : Room k X.A) (h1 : SE K T .raw X W a f1) (h2 : SE K T .raw X W b f2) : SE K T .tree X W (.Compare a [.Eq] [b] pos) (eEqI false c fn f1 f2) := by
  subst hK
  exact se_eqI ec hr h1 h2
theorem w_neI {k c : Nat} {fn : Fn} {a b : Expr} {pos : Pos} {f1 f2 : ME} (hK : X.K = K) (ec : EqC X.prog X.w K X.mg X.base T k c fn) (hr : Room (k + 1) X.A) (h1 : SE K T .raw X W a f1) (h2 : SE K T .raw X W b f2) : SE K T .tree X W (.Compare a [.NotEq] [b] pos) (eEqI true c fn f1 f2) := by
  subst hK
  exact se_neI ec hr h1 h2
theorem w_eqT {k c : Nat} {fn : Fn} {a b : Expr} {pos : Pos} {f1 f2 : ME} (hK : X.K = K) (ec : EqC X.prog X.w K X.mg X.base T k c fn) (hr : Room (k + 1) X.A) (h1 : SE K T .raw X W a f1) (h2 : SE K T .raw X W b f2) : SE K T .tree X W (.Compare a [.Eq] [b] pos) (eEqT c fn f1 f2) := by
  subst hK
  exact se_eqT ec hr h1 h2
theorem wa_star {e : Expr} {es : List Expr} {p : Pos} {f : ME} {g : MA} (hK : X.K = K) (he : SE K T .tree X W e f) (hr : SA K T false X W es g) : SA K T false X W (.Starred e p :: es) (aStarF f g) := by
  subst hK
  exact sa_star he hr
end
end VM

set_option Elab.async false
set_option linter.all false
set_option maxRecDepth 100000
set_option maxHeartbeats 1000000
/-! VM25: what the printed proofs ask of blocks and classes. -/
namespace VM
open PySem PySem.Spec PyProof.Rows L2
def blkB (N : List Str) (sc scope : Scope) (own : List (Str × Nat)) : Bool := decide (scope.kind = .function) && ((scope.names.all fun y => decide (scope.names.lookup y.1 = some y.2)) && ((own.all fun p => decide (N[p.2]? = some p.1)) && ((scope.names.all fun y => !decide (y.2 = .free) || (decide (sc.names.lookup y.1 = some .cell) || decide (sc.names.lookup y.1 = some .free))) &&
  (scope.names.all fun y => !(decide (y.2 = .local) || decide (y.2 = .cell)) || ((own.map (·.1)).contains y.1 || !N.contains y.1)))))
theorem blkB_ok {N : List Str} {sc scope : Scope} {own : List (Str × Nat)} (h : blkB N sc scope own = true) : BlkOk N sc scope own := by
  obtain ⟨h1, h⟩ := He.ba h
  obtain ⟨h2, h⟩ := He.ba h
  obtain ⟨h3, h⟩ := He.ba h
  obtain ⟨h4, h5⟩ := He.ba h
  refine ⟨of_decide_eq_true h1, fun y hy => of_decide_eq_true (List.all_eq_true.mp h2 y hy), fun p hp => of_decide_eq_true (List.all_eq_true.mp h3 p hp), fun y hy hf => ?_, fun y hy hf => ?_⟩
  · have q := List.all_eq_true.mp h4 y hy
    simpa [hf] using q
  · have q := List.all_eq_true.mp h5 y hy
    rcases hf with hf | hf <;> simpa [hf] using q
theorem nf_of {fs : List Str} {m : Str} (h : ∀ f ∈ fs, f ≠ m) (hq : ("?" : Str) ≠ m) (K : PySem.W.Frag) (cs : List (Nat × Str)) (es : List (Nat × Str)) (n : Nat) : (tabOf K cs fs es).fld n ≠ m := by
  show fs.getD n "?" ≠ m
  rw [List.getD_eq_getElem?_getD]
  cases e : fs[n]? with
  | none => exact hq
  | some x => exact h x (List.mem_of_getElem? e)
theorem eqB_ok {K : PySem.W.Frag} {x : Str} (h : eqB K x = true) : PySem.W.findIn K (.ref (He.ga K x)) "__eq__" = some (some (.ref (He.ma K (He.ga K x) "__eq__"))) ∧ PySem.W.isFn K (.ref (He.ma K (He.ga K x) "__eq__")) = true ∧ PySem.W.findIn K (.ref (He.ga K x)) "__ne__" = some (some (.builtin "object.__ne__")) ∧ PySem.W.mroIn K (He.ga K x) (.type "object") = some true := by
  obtain ⟨h1, h⟩ := He.ba h
  obtain ⟨h2, h⟩ := He.ba h
  obtain ⟨h3, h4⟩ := He.ba h
  exact ⟨of_decide_eq_true h1, h2, of_decide_eq_true h3, of_decide_eq_true h4⟩
end VM

set_option Elab.async false
set_option linter.all false
set_option maxRecDepth 100000
set_option maxHeartbeats 1000000
/-! VM26: comparisons as tests. -/
namespace VM
open PySem PySem.Spec PyProof PyProof.Rows L2
theorem isTrue_of_cmp {M : Model} {A : Around} {env : PySem.Env} {l r : Expr} {op : CmpOp} {pos : Pos} {whole : Sem Value} {Q : Bool → Shared → Prop} {E : Value → Shared → Prop} {s : Shared}
    (h : wpAny M A (eval (.Compare l [op] [r] pos) env) (fun c s1 => wpAny M A (truthy c) Q E s1) E s) : wpAny M A (isTrue (.Compare l [op] [r] pos) env whole) Q E s := fun Γ p hΓ => by
  have q := h Γ p hΓ
  have e : isTrue (.Compare l [op] [r] pos) env whole = (do let c ← eval (.Compare l [op] [r] pos) env; holding [c] (truthy c)) := by
    rw [isTrue_Compare1, eval_Compare1]
    simp only [bind_assoc]
  rw [e]
  simp only [Sem.wp_bind', Sem.wp_holding]
  exact Sem.wp_mono M Γ _ (fun c p3 s3 h3 => h3 Γ p3 hΓ) (fun _ _ _ h' => h') _ _ q
section
variable {K : PySem.W.Frag} {T : Tab} {w w' : Wd} {s s' : Store} {H H' : Hp} {X : Cx} {W : WX}
theorem pt_cmpV {a b : Expr} {op : CmpOp} {pos : Pos} {t : TE} (h : PE X (.Compare a [op] [b] pos) t) : PT X (.Compare a [op] [b] pos) (tTest t) := by
  refine ⟨fun pins s σ H Q I q => isTrue_of_cmp (thn (h.run pins s σ H _ I q) fun v s1 ⟨x, H1, I1, r1, k, e, q1⟩ => ?_)⟩
  subst e
  cases r1
  exact wpAny_truthy_bool ⟨H1, I1, q1⟩
theorem st_cmp {a b : Expr} {op : CmpOp} {pos : Pos} {f : ME} (h : SE K T .tree X W (.Compare a [op] [b] pos) f) : ST K T X W (.Compare a [op] [b] pos) (tE f) := .mk fun w env s σ H k eo Q p =>
  wpt_of (pt_cmpV pe_wp) (h w env s σ H k eo _ (Post.bind p fun v d H1 w1 s1 a b c q => by
    cases d with
    | bl x =>
      refine ⟨x, ?_, q x H1 w1 a b rfl⟩
      have c : Rep K T w1.F v (.bl x) := c
      cases c
      rfl
    | _ => exact q.elim))
theorem chain_run {g h : Int → Int → Bool} {a b c : Expr} {f1 f2 f3 : ME} (h1 : SE K T .tree X W a f1) (h2 : SE K T .tree X W b f2) (h3 : SE K T .tree X W c f3) {env : VM.Env} {σ : L2.St} (k : SOk K T w s H) (eo : EOk K T w env σ) {Q : VK} (p : Post K T W w s σ H (fun w' _ => Rep K T w'.F) Q (eChainI g h f1 f2 f3 env s)) :
    L2.tChain (rI0 fun i j => .bl (g i j)) (rI0 fun i j => .bl (h i j)) (WPE X a) (WPE X b) (WPE X c) σ H Q := h1 w env s σ H k eo _ (Post.bind p fun v d H1 w1 s1 a1 b1 c1 q => h2 w1 env s1 σ H1 a1 (eo.nxt b1) _ (Post.step b1 q fun v2 d2 H2 w2 s2 a2 b2 c2 q2 => by
    have c1 : Rep K T w1.F v d := c1
    have c2 : Rep K T w2.F v2 d2 := c2
    cases d with
    | int i =>
      cases d2 with
      | int j =>
        cases c1
        cases c2
        refine ⟨i, j, rfl, rfl, g i j, rfl, ?_⟩
        dsimp only [] at q2
        cases e : g i j with
        | true =>
          rw [e] at q2
          refine h3 w2 env s2 σ H2 a2 ((eo.nxt b1).nxt b2) _ (Post.step (b1.trans b2) q2 fun v3 d3 H3 w3 s3 a3 b3 c3 q3 => ?_)
          have c3 : Rep K T w3.F v3 d3 := c3
          cases d3 with
          | int l =>
            cases c3
            exact ⟨j, l, rfl, rfl, q3.give a3 ((b1.trans b2).trans b3) (.bl _)⟩
          | _ => exact q3.elim
        | false =>
          rw [e] at q2
          exact q2.give a2 (b1.trans b2) (.bl _)
      | _ => exact q2.elim
    | _ => exact q2.elim))
theorem st_chainI {op op' : CmpOp} {g h : Int → Int → Bool} {a b c : Expr} {pos : Pos} {f1 f2 f3 : ME} (ho : OpR X (compareOp op) (rI0 fun i j => .bl (g i j))) (ho' : OpR X (compareOp op') (rI0 fun i j => .bl (h i j)))
    (h1 : SE K T .tree X W a f1) (h2 : SE K T .tree X W b f2) (h3 : SE K T .tree X W c f3) (hm : lastMarks [op, op'] [b, c] = false) : ST K T X W (.Compare a [op, op'] [b, c] pos) (tE (eChainI g h f1 f2 f3)) := .mk fun w env s σ H k eo Q p =>
  wpt_of (pt_chain ho ho' pe_wp pe_wp pe_wp hm) (chain_run h1 h2 h3 k eo (Post.bind p fun v d H1 w1 s1 a b c q => by
    cases d with
    | bl x =>
      refine ⟨x, ?_, q x H1 w1 a b rfl⟩
      have c : Rep K T w1.F v (.bl x) := c
      cases c
      rfl
    | _ => exact q.elim))
theorem st_leLe {a b c : Expr} {pos : Pos} {f1 f2 f3 : ME} (h1 : SE K T .tree X W a f1) (h2 : SE K T .tree X W b f2) (h3 : SE K T .tree X W c f3) : ST K T X W (.Compare a [.LtE, .LtE] [b, c] pos) (tE (eChainI (fun i j => decide (i ≤ j)) (fun i j => decide (i ≤ j)) f1 f2 f3)) := st_chainI op_le op_le h1 h2 h3 (nomark _)
theorem st_leLt {a b c : Expr} {pos : Pos} {f1 f2 f3 : ME} (h1 : SE K T .tree X W a f1) (h2 : SE K T .tree X W b f2) (h3 : SE K T .tree X W c f3) : ST K T X W (.Compare a [.LtE, .Lt] [b, c] pos) (tE (eChainI (fun i j => decide (i ≤ j)) (fun i j => decide (i < j)) f1 f2 f3)) := st_chainI op_le op_lt h1 h2 h3 (nomark _)
end
end VM

set_option Elab.async false
set_option linter.all false
set_option maxRecDepth 100000
set_option maxHeartbeats 1000000
/-! VM27: the laws' own source of numbers. -/
namespace VM
def mSrc : MS := (sCons (sAsg (gTupT [(gName 1), (gName 2)]) (eTup (aCons (eC (.int 0)) (aCons (eC (.int 17)) aNil))))
  (sCons (sFor (iSeqA (eRaw 0)) (gName 3) (sCons (sIf (tAnd (tE (op2 dEq (eRaw 1) (eC (.int 0)))) (tE (op2 dGe (eRaw 3) (op2F dPow (eC (.int 10)) (eC (.int 18)))))) (sAsg (gName 1) (eGet 3)) sNil)
  (sOwnV 1 2 (op2F dMod (op1F dIntA (op2F dAdd (op2F dAdd (op2F dMul (eRaw 2) (eC (.int 31))) (eRaw 3)) (eC (.int 7)))) (eC (.int 2147483647))))))
  (sRet (eLst (aCons (eGet 1) (aCons (eGet 2) (aCons (eC (.int 0)) aNil)))))))
def fnSrc : Fn := fnOf 1 3 1 mSrc
def mDraw : MS := (sCons (sSet (eRaw 0) (eC (.int 2)) (op2F dAdd (op2F dIx (eRaw 0) (eC (.int 2))) (eC (.int 1))))
  (sCons (sIf (tE (op2 dGt (op2F dIx (eRaw 0) (eC (.int 0))) (eC (.int 1)))) (sCons (sOwnV 1 2 (op2F dMod (op1F dIntA (op2F dIx (eRaw 0) (eC (.int 0)))) (eRaw 1)))
  (sCons (sSet (eRaw 0) (eC (.int 0)) (op2F dDiv (op2F dIx (eRaw 0) (eC (.int 0))) (eRaw 1)))
  (sRet (eGet 2)))) sNil)
  (sCons (sOwnV 1 3 (op2F dMod (op2F dPow (op2F dAdd (op2F dIx (eRaw 0) (eC (.int 1))) (op2F dMul (eC (.int 7919)) (op2F dIx (eRaw 0) (eC (.int 2))))) (eC (.int 5))) (eC (.int 2147483629))))
  (sRet (op2F dMod (op2F dMod (op2F dPow (op2F dAdd (op2F dAdd (op2F dMul (eRaw 3) (eC (.int 48271))) (op2F dMul (op2F dMul (eC (.int 16807)) (op2F dIx (eRaw 0) (eC (.int 2)))) (op2F dIx (eRaw 0) (eC (.int 2))))) (eC (.int 11))) (eC (.int 3))) (eC (.int 1000000007))) (eRaw 1))))))
def fnDraw : Fn := fnOf 2 2 0 mDraw
def srcD (g sd n : Int) : D := .lst [.int g, .int sd, .int n]
def srcE (g sd n : Int) : Ent := ⟨false, 1, some (srcD g sd n)⟩
theorem fmod_in {a b : Int} (h : 0 < b) : 0 ≤ a.fmod b ∧ a.fmod b < b := ⟨Int.fmod_nonneg_of_pos a h, Int.fmod_lt_of_pos a h⟩
theorem draw_ok {s : Store} {h : Nat} {g sd n many : Int} (hs : s[h]? = some (srcE g sd n)) (h1 : 0 ≤ sd) (h2 : sd < 2147483647) (h3 : 0 ≤ n) (h4 : n < 16000000) (h5 : 0 < many) (h6 : many < 1073741824) :
    ∃ g' d, 0 ≤ d ∧ d < many ∧ fnDraw.sem [.ref h, .int many] s = .ok (.int d) (s.set h (srcE g' sd (n + 1))) := by
  have lt : h < s.length := (List.getElem?_eq_some_iff.mp hs).1
  have tk : ∀ e : Ent, List.take s.length (s.set h e) = s.set h e := fun e => List.take_of_length_le (by rw [List.length_set]; omega)
  have gs : ∀ e : Ent, (s.set h e)[h]? = some e := fun e => by rw [List.getElem?_set, if_pos rfl, if_pos lt]
  have hs2 : s[h]? = some ⟨false, 1, some (.lst [.int g, .int sd, .int n])⟩ := hs
  have ns : many ≠ 0 := by omega
  have m64 : many.natAbs < 1073741824 := by omega
  by_cases hg : 1 < g
  · refine ⟨g.fdiv many, g.fmod many, (fmod_in h5).1, (fmod_in h5).2, ?_⟩
    simp [fnDraw, fnOf, runFn, mDraw, sCons, sSet, sIf, sRet, sOwnV, RSb, eRaw, eGet, eFrozen, eC, op2F, op1F, tE, op2, R.bind, open1, view, frozen, ofO, dIx, ixO, dAdd, dMul, dMod, dDiv, dPow, dGt, take1, setD, ixNat, hs2, gs, srcE, srcD, hg, dIntA, ns, m64, tk, contD]
  · have e1 := fmod_in (a := (sd + 7919 * (n + 1)) ^ 5) (b := 2147483629) (by decide)
    generalize em : ((sd + 7919 * (n + 1)) ^ 5).fmod 2147483629 = mx at e1
    have nn : 0 ≤ (n + 1) * (n + 1) := Int.mul_nonneg (by omega) (by omega)
    have nn2 : (n + 1) * (n + 1) ≤ 16000000 * 16000000 := Int.mul_le_mul (by omega) (by omega) (by omega) (by omega)
    have as : 16807 * (n + 1) * (n + 1) = 16807 * ((n + 1) * (n + 1)) := Int.mul_assoc _ _ _
    refine ⟨g, (((mx * 48271 + 16807 * (n + 1) * (n + 1) + 11) ^ 3).fmod 1000000007).fmod many, (fmod_in h5).1, (fmod_in h5).2, ?_⟩
    have b1 : (sd + 7919 * (n + 1)).natAbs < 18446744073709551616 := by omega
    have b2 : (mx * 48271 + 16807 * (n + 1) * (n + 1) + 11).natAbs < 18446744073709551616 := by rw [as]; omega
    have b3 : small64 (n + 1) = true := by unfold small64; simp; omega
    have b4 : small64 mx = true := by unfold small64; simp; omega
    have b5 : small64 7919 = true := by decide
    have b6 : small64 16807 = true := by decide
    simp [fnDraw, fnOf, runFn, mDraw, sCons, sSet, sIf, sRet, sOwnV, RSb, eRaw, eGet, eFrozen, eC, op2F, op1F, tE, op2, R.bind, open1, view, frozen, ofO, dIx, ixO, dAdd, dMul, dMod, dDiv, dPow, dGt, take1, setD, ixNat, hs2, gs, srcE, srcD, hg, dIntA, ns, m64, tk, contD, b1, b3, b5, b6, em, b4, b2, sNil]
def mSrcB : MS := (sCons (sIf (tAnd (tE (op2 dEq (eRaw 1) (eC (.int 0)))) (tE (op2 dGe (eRaw 3) (op2F dPow (eC (.int 10)) (eC (.int 18)))))) (sAsg (gName 1) (eGet 3)) sNil)
  (sOwnV 1 2 (op2F dMod (op1F dIntA (op2F dAdd (op2F dAdd (op2F dMul (eRaw 2) (eC (.int 31))) (eRaw 3)) (eC (.int 7)))) (eC (.int 2147483647)))))
theorem src_turn (a : D) (g sd x : Int) (s : Store) : ∃ g', mSrcB [some a, some (.int g), some (.int sd), some (.int x)] s = .nx [some a, some (.int g'), some (.int ((sd * 31 + x + 7).fmod 2147483647)), some (.int x)] s := by
  have b : small64 31 = true := by decide
  have q : ∀ c : Int, eqN (.int c) (.int 0) = some (c == 0) := fun _ => rfl
  by_cases hg : g = 0
  · by_cases hx : 1000000000000000000 ≤ x
    · refine ⟨x, ?_⟩
      simp [mSrcB, sCons, sIf, sAsg, gName, sOwnV, RSb, eRaw, eGet, eFrozen, eC, op2F, op1F, tE, tAnd, op2, R.bind, open1, view, frozen, ofO, dAdd, dMul, dMod, dPow, dGe, dEq, q, hg, hx, dIntA, b, contD]
    · refine ⟨0, ?_⟩
      simp [mSrcB, sCons, sIf, sAsg, gName, sOwnV, RSb, eRaw, eGet, eFrozen, eC, op2F, op1F, tE, tAnd, op2, R.bind, open1, view, frozen, ofO, dAdd, dMul, dMod, dPow, dGe, dEq, q, hg, hx, dIntA, b, contD, sNil]
  · refine ⟨g, ?_⟩
    simp [mSrcB, sCons, sIf, sAsg, gName, sOwnV, RSb, eRaw, eGet, eFrozen, eC, op2F, op1F, tE, tAnd, op2, R.bind, open1, view, frozen, ofO, dAdd, dMul, dMod, dPow, dGe, dEq, q, hg, dIntA, b, contD, sNil]
theorem src_loop (a : D) (s : Store) : ∀ (zs : List Int) (g sd : Int) (o : Option D), 0 ≤ sd → sd < 2147483647 → ∃ g' sd' o', 0 ≤ sd' ∧ sd' < 2147483647 ∧
    forGo (gName 3) mSrcB none (zs.map .int) [some a, some (.int g), some (.int sd), o] s = .nx [some a, some (.int g'), some (.int sd'), o'] s
  | [], g, sd, o, h1, h2 => ⟨g, sd, o, h1, h2, rfl⟩
  | z :: zs, g, sd, o, h1, h2 => by
    obtain ⟨g1, e1⟩ := src_turn a g sd z s
    have b := fmod_in (a := sd * 31 + z + 7) (b := 2147483647) (by decide)
    obtain ⟨g2, sd2, o2, a1, a2, e2⟩ := src_loop a s zs g1 _ (some (.int z)) b.1 b.2
    refine ⟨g2, sd2, o2, a1, a2, ?_⟩
    show (match mSrcB [some a, some (.int g), some (.int sd), some (.int z)] s with
      | .nx e s => forGo (gName 3) mSrcB none (zs.map .int) e s
      | .cnt e s => forGo (gName 3) mSrcB none (zs.map .int) e s
      | .ret d s => .ret d (unlock none s)
      | .exc c fs e s => .exc c fs e (unlock none s)
      | .bad => .bad) = _
    rw [e1]
    exact e2
theorem src_ok (zs : List Int) (s : Store) : ∃ g sd, 0 ≤ sd ∧ sd < 2147483647 ∧ fnSrc.sem [.fl (zs.map .int)] s = .ok (srcD g sd 0) s := by
  obtain ⟨g, sd, o, h1, h2, e⟩ := src_loop (.fl (zs.map .int)) s zs 0 17 none (by decide) (by decide)
  refine ⟨g, sd, h1, h2, ?_⟩
  have tk : List.take s.length s = s := List.take_of_length_le (Nat.le_refl _)
  show (match (match forGo (gName 3) mSrcB none (zs.map .int) [some (.fl (zs.map .int)), some (.int 0), some (.int 17), none] s with
    | .nx e s => sRet (eLst (aCons (eGet 1) (aCons (eGet 2) (aCons (eC (.int 0)) aNil)))) e s
    | x => x) with
    | .ret d s' => .ok d (s'.take s.length)
    | .nx _ s' => .ok .non (s'.take s.length)
    | .exc c fs _ s' => .exc c fs (s'.take s.length)
    | _ => .bad) = VM.R.ok (srcD g sd 0) s
  rw [e]
  simp [sRet, RSb, eLst, aCons, aNil, eGet, eFrozen, eRaw, eC, R.bind, frozen, srcD, tk, show 3 ≤ sizeMax from by decide]
end VM
namespace VM
def seqL : List MS → MS → MS
  | [], r => r
  | a :: l, r => sCons a (seqL l r)
theorem seqL_nx {r : MS} : ∀ {l : List MS} {e e' : Env} {s s' : Store}, seqL l sNil e s = .nx e' s' → seqL l r e s = r e' s'
  | [], e, e', s, s', h => by
    cases h
    rfl
  | a :: l, e, e', s, s', h => by
    have h : (match a e s with
      | .nx e s => seqL l sNil e s
      | x => x) = .nx e' s' := h
    show (match a e s with
      | .nx e s => seqL l r e s
      | x => x) = r e' s'
    cases q : a e s with
    | nx e1 s1 =>
      rw [q] at h
      exact seqL_nx h
    | ret d s1 => rw [q] at h; cases h
    | cnt e1 s1 => rw [q] at h; cases h
    | exc c fs e1 s1 => rw [q] at h; cases h
    | bad => rw [q] at h; cases h
end VM
namespace VM
/-! what is left of a run: the names' number, the source's place, the store's size -/
def proj (r : RS) : Option (Nat × Option (Option D) × Option Ent × Nat) := match r with
  | .nx e s => some (e.length, e[1]?, s[0]?, s.length)
  | _ => none
theorem proj_some {r : RS} {a : Nat} {b : Option (Option D)} {c : Option Ent} {d : Nat} (h : proj r = some (a, b, c, d)) : ∃ e s, r = .nx e s ∧ e.length = a ∧ e[1]? = b ∧ s[0]? = c ∧ s.length = d := by
  cases r with
  | nx e s =>
    cases h
    exact ⟨e, s, rfl, rfl, rfl, rfl, rfl⟩
  | _ => cases h
theorem forGo_nx {g : MG} {m : MS} {o : Option Nat} {x : D} {r : List D} {e e1 e2 : Env} {s s2 : Store} (hg : g e x = some e1) (h : m e1 s = .nx e2 s2) : forGo g m o (x :: r) e s = forGo g m o r e2 s2 := by
  show (match g e x with
    | none => RS.bad
    | some e => match m e s with
      | .nx e s => forGo g m o r e s
      | .cnt e s => forGo g m o r e s
      | .ret d s => .ret d (unlock o s)
      | .exc c fs e s => .exc c fs e (unlock o s)
      | .bad => .bad) = _
  rw [hg]
  dsimp only []
  rw [h]
/-- a list of so many things, written out -/
def Ex {α : Type} : Nat → (List α → Prop) → Prop
  | 0, p => p []
  | n + 1, p => ∃ x, Ex n fun l => p (x :: l)
theorem ex_of {α : Type} : ∀ {l : List α} {p : List α → Prop}, p l → Ex l.length p
  | [], _, h => h
  | x :: l, p, h => ⟨x, ex_of (l := l) (p := fun l => p (x :: l)) h⟩
theorem ex_len {α : Type} {l : List α} {n : Nat} (h : l.length = n) : Ex n fun l' => l = l' := by
  subst h
  exact ex_of rfl
end VM
namespace VM
open PySem PySem.Spec PyProof.Rows L2
theorem roomU {k : Nat} {A : Around} (hr : Room k A) : A.units + 1 < cLine := by
  have := room41 hr
  omega
end VM
namespace VM
theorem for_is {it : MI} {g : MG} {m : MS} {e : Env} {s s' : Store} {xs : List D} {o : Option Nat} (h : it e s = .ok (xs, o) s') : sFor it g m e s = forGo g m o xs e s' := by
  unfold sFor RSb
  rw [h]
theorem forGo_nil {g : MG} {m : MS} {e : Env} {s : Store} : forGo g m none [] e s = .nx e s := rfl
end VM
namespace VM
theorem runFn_ret {np nl : Nat} {m : MS} {ds : List D} {s s' : Store} {d : D} {e : Env} (h : ds.length = np) (he : ds.map some ++ List.replicate nl none = e) (q : m e s = .ret d s') : runFn np nl m ds s = .ok d (s'.take s.length) := by
  unfold runFn
  rw [if_pos h, he, q]
end VM
namespace VM
theorem sCons_nx {a b : MS} {e e1 : Env} {s s1 : Store} (h : a e s = .nx e1 s1) : sCons a b e s = b e1 s1 := by
  unfold sCons
  rw [h]
theorem at_eq {a b : MS} {e : Env} {s : Store} {r : RS} (h : a = b) (q : b e s = r) : a e s = r := by
  rw [h]
  exact q
end VM

set_option Elab.async false
set_option linter.all false
set_option maxRecDepth 100000
set_option maxHeartbeats 2000000
/-! VM28: an exception class over ValueError whose __init__ says super().__init__("..") and stores one field. -/
namespace VM
open PySem PySem.Spec PyProof PyProof.Rows L2 NdefX
/-- what the written part of the heap says of the class at C and of its __init__ -/
structure ExF (P : Program) (K : PySem.W.Frag) (C cc cda : Addr) : Prop where
  oex : OexC K C
  cell : ∃ oc od sl, K.lookup cc = some ⟨oc, od, .cell (some (.ref C)), sl⟩
  code : ∃ oc od vs sl file tf, K.lookup cda = some ⟨oc, od, .fields vs, sl⟩ ∧ vs[2]? = some (.str file tf) ∧ ((P.main.file : Str) == file) = true
  sup : PySem.W.ks_superIn K C C "__init__" = some (some (.builtin "ValueError.__init__"))
  sub : PySem.W.subIn K (.ref C) (.type "ValueError") = some true
  own : PySem.W.mroIn K C (.ref C) = some true
  thp : PySem.W.nsIn K cStatics "thirdparty.any" = some none
  top : (P.main.scope.names.lookup ("super" : Str)).isSome = false
section
variable {P : Program} {wo : World} {K : PySem.W.Frag} {mg : Str → Option Value} {base : Heap} {CX : CXT} {N : List Str} {F : NF} {f : Addr} {A : Around} {outer : List PySem.Env} {s0 : Shared} {H0 : Hp} {E0 : XK}
theorem one_look {x y : Str} {c d : Addr} (h : [(x, c)].lookup y = some d) : y = x ∧ d = c := by
  unfold List.lookup at h
  cases e : (y == x) with
  | true =>
    rw [e] at h
    cases h
    exact ⟨beq_iff_eq.mp e, rfl⟩
  | false =>
    rw [e] at h
    cases h
theorem super_ini {pins : List (Addr × Obj)} {σ : L2.St} {H : Hp} {sh : Shared} {a C cc : Addr} {fd : FuncData} {ar : Arg} {oc : Value} {od : Option Addr} {osl : Array (Option Value)} {body : List Stmt} {p0 p1 p2 p3 p4 p5 : Pos} {msg : Str} {j : Nat} {Q : Flow → Shared → Prop} {E : Value → Shared → Prop}
    (I : Inv (ncx CX P wo K mg base N F f A outer s0 H0 E0) pins σ H sh) (T : ExF P K C cc F.c) (hcl : F.cl = [(("__class__" : Str), cc)]) (lk : K.lookup f = some ⟨oc, od, .func fd, osl⟩) (hp : (fd.params.posonlyargs ++ fd.params.args).head? = some ar)
    (ea : H a = some (exo a C none)) (h0 : N[0]? = some ar.arg) (hs : σ[0]? = some (some (.ref a))) (hk : F.scope.kind = .function) (hka : F.scope.names.lookup ar.arg = some .local) (hks : F.scope.names.lookup ("super" : Str) = some .globalImplicit) (hkc : F.scope.names.lookup ("__class__" : Str) = some .free)
    (hm : mg "super" = none) (hsw : swapsWith (.Call (.Attribute (.Call (.Name "super" p0) [] [] p1) "__init__" p2) [.Constant (.str msg) j p3] [] p4) none p5.line (envF F f s0.heap.objs.size) = pure false) (pl : Sem Bool)
    (hev : eval (.Call (.Attribute (.Call (.Name "super" p0) [] [] p1) "__init__" p2) [.Constant (.str msg) j p3] [] p4) (envF F f s0.heap.objs.size) = (do
      let ov ← attributeBase (.Call (.Name "super" p0) [] [] p1) "__init__" (envF F f s0.heap.objs.size) (eval (.Call (.Name "super" p0) [] [] p1) (envF F f s0.heap.objs.size))
      standAt p2.atName
      let (g, first) ← holding [ov] (getMethod ov "__init__" pl)
      callWith p4 g first (backTo p4 (starEach [.Constant (.str msg) j p3] (envF F f s0.heap.objs.size))) [])) (h : ∀ sh', Inv (ncx CX P wo K mg base N F f A outer s0 H0 E0) pins σ H sh' → Q .next sh') :
    PySem.wpAt (model P wo) (A.deeper (envF F f s0.heap.objs.size)) (.func body (envF F f s0.heap.objs.size)) (exec (.Expr (.Call (.Attribute (.Call (.Name "super" p0) [] [] p1) "__init__" p2) [.Constant (.str msg) j p3] [] p4) p5) (envF F f s0.heap.objs.size)) Q E sh := by
  obtain ⟨nm, q, NN, bs, bm, sn, sub, ab, col, dd, k0, k1, k2, k3, k5, hC, hbm⟩ := T.oex.cls
  have hcd : PySem.W.clsIn K C = some { name := nm, bases := bs, mro := .ref C :: bm, ns := NN, qualname := q, hasDict := true, slotNames := sn, subclasses := sub, abstract := ab, collection := col, hasDel := false } := by unfold PySem.W.clsIn; rw [hC] <;> rfl
  have X : K.In sh.heap := I.kIn
  obtain ⟨oc1, od1, sl1, hcell⟩ := T.cell
  obtain ⟨oc2, od2, vs, sl2, file, tf, hcode, hvs, hfile⟩ := T.code
  obtain ⟨mb, hb, hbb⟩ := I.ok.mod.blt
  have hT : ∃ t1 : Addr, sh.heap.get? a = some ({ cls := .ref C, dict := none, data := .fields #[.ref t1, .none, .none, .none, .bool false, .none] } : Obj) := exo_at I.hok ea
  obtain ⟨t1, ho⟩ := hT
  have IA : PySem.W.InstAt sh.heap a ({ cls := .ref C, dict := none, data := .fields #[.ref t1, .none, .none, .none, .bool false, .none] } : Obj) C none := ⟨ho, rfl, rfl, trivial⟩
  have hne : a ≠ C := PySem.W.ks_ne X IA hcd
  obtain ⟨oD, hD1, hD2⟩ : ∃ oD, sh.heap.get? C = some oD ∧ oD.data = .cls { name := nm, bases := bs, mro := .ref C :: bm, ns := NN, qualname := q, hasDict := true, slotNames := sn, subclasses := sub, abstract := ab, collection := col, hasDel := false } := ⟨_, X _ _ hC, rfl⟩
  refine ks_wpAt_Expr_any (ks_wpAt_MethodCall (pl := pl) ?_ hev) I.quiet hsw
  refine ks_wpAt_super_base (f := f) (cc := F.c) hks hkc (by decide) rfl (X _ _ lk) rfl hp rfl (X _ _ hcode) rfl hvs hfile T.top ?_
  refine PySem.W.ks_loadName_global hk hks ?_
  refine Calls.loadGlobal_builtin (env := envF F f s0.heap.objs.size) (mg := mg) (mb := mb) ((I.ok.mod.glob).keeps I.bk) hm (hb.keeps I.bk) ((hbb _ (by decide +kernel)).trans Boot.super) ⟨rfl, ?_⟩
  refine wpAny_loadName_free (c := cc) hk hkc (by rw [show (envF F f s0.heap.objs.size).cells = F.cl from rfl, hcl]; rfl) (v := .ref C) ⟨_, X _ _ hcell, rfl⟩ ?_
  obtain ⟨m, hn, hl⟩ := I.loc
  obtain ⟨u, ru, lo⟩ := hl 0 ar.arg (.ref a) h0 hs (.inl hka)
  cases ru
  have hmv : m ar.arg = some (.ref a) := by
    rcases lo with ⟨_, e⟩ | ⟨e, _⟩
    · exact e
    · have e : F.scope.names.lookup ar.arg = some .cell ∨ F.scope.names.lookup ar.arg = some .free := e
      rw [hka] at e
      rcases e with e | e <;> cases e
  refine wpAny_loadName_local hk hka hn hmv ?_
  obtain ⟨hh, g, d, t, os⟩ := sh
  refine ks_wpAny_isType_cls hD1 hD2 ⟨rfl, ?_⟩
  refine ks_wpAny_call_super hD1 hD2 IA.at_ IA.cls (fun c e => nomatch e) (PySem.W.looks_mroIn X T.own) (fun h1 e1 k1 => ?_)
  have I1 := I.kept (t' := t) k1
  have X1 : K.In h1 := I1.kIn
  have hI : PySem.W.Looks (model P wo) h1 (isInstance (.ref a) (.type "ValueError")) true := (PySem.W.InstAt.type (⟨k1 _ _ ho, rfl, rfl, trivial⟩ : PySem.W.InstAt h1 a _ C none)).andThen (PySem.W.looks_subIn X1 T.sub)
  have hf2 : PySem.W.alongIn K "__init__" (((Value.ref C :: bm).dropWhile (· != .ref C)).drop 1) = some (some (.builtin "ValueError.__init__")) := by
    have z := T.sup
    unfold PySem.W.ks_superIn at z
    rw [hcd] at z
    exact z
  refine PySem.W.kxs_getMethod (l₀ := .ref C :: bm) PySem.W.kxs_ValueError e1 (PySem.W.looks_opaque X1 T.thp) ((PySem.W.looks_clsIn X1 hcd).andThen .now) rfl X1 hf2 hI hne (by decide) ?_
  have up : ∀ b o, h1.get? b = some o → (h1.push (PySem.W.kxs_mw "ValueError.__init__" a)).get? b = some o := fun b o e => Heap.get?_push_of_some _ e
  have I2 := I1.kept (t' := t + 1) up
  refine PySem.W.kxs_callWith (i := "ValueError.__init__") (x := a) rfl ?_
  show wpAny _ _ (evalArgs (.ref h1.objs.size) true ((false, eval (.Constant (.str msg) j p3) (envF F f s0.heap.objs.size)) :: []) []) _ _ _
  refine Calls.evalArgs_plain (Calls.spliced_cons (Calls.Constant_str (Calls.spliced_nil ⟨Heap.get?_push_at rfl rfl, ?_⟩)))
  show wpAny _ _ (call (.ref h1.objs.size) [.str msg (t + 1)]) _ _ _
  refine wpAny_call (codeAny_of_tree ?_)
  show wpAny _ (A.deeper (envF F f s0.heap.objs.size)).in1 (callAny (.ref h1.objs.size) ⟨[.str msg (t + 1)], []⟩) _ _ _
  simp only [callAny]
  refine wpAny_bind (wpAny_load (Heap.get?_push_at rfl rfl) ?_)
  simp only [PySem.W.kxs_mw, show (Value.type "method-wrapper" == Value.type "method" || Value.type "method-wrapper" == Value.type "builtin_function_or_method" || Value.type "method-wrapper" == Value.type "method-wrapper") = true by decide, if_true]
  refine PySem.W.KFB.if_so (by decide) ?_
  have ha2 : (h1.push (PySem.W.kxs_mw "ValueError.__init__" a)).get? a = some ({ cls := .ref C, dict := none, data := .fields #[.ref t1, .none, .none, .none, .bool false, .none] } : Obj) := up _ _ (k1 _ _ ho)
  refine wpAny_bind (PySem.W.check_bound_init PySem.F.excBase_ValueError.toExcCallFacts (up _ _ (X1 _ _ hC)) ha2 rfl ?_)
  refine wpAny_bind (wpAny_pure (wpAny_pure ?_))
  refine ⟨plainId_quiet PySem.F.excBase_ValueError.init.plain _, codeAny_builtin PySem.F.excBase_ValueError.initEntry ?_⟩
  refine PySem.W.exc_init_tree (cls := .ref C) (t0 := t1) (dv := none) (c2 := .none) (c3 := .none) (b4 := .bool false) ha2 (show 1 ≤ sizeLine by decide) fun h2 k2 e2 _ => ?_
  have J := I2.write (t' := t + 2) (x := a) (e := a) (o := exo a C none) (by rw [ea]; exact True.intro) (.inl rfl) k2 ⟨_, e2⟩ (exo_ok e2)
  have eu : upd H a (exo a C none) = H := by
    funext b
    by_cases hb2 : b = a
    · rw [hb2, upd_same, ea]
    · rw [upd_ne hb2]
  rw [eu] at J
  exact h _ J
/-- the promise of such an __init__ -/
def spIni (C : Addr) (fld : Str) : Sp := fun vs H Q _ => ∃ a v, vs = [.ref a, v] ∧ H a = some (exo a C none) ∧ ∀ dx, H dx = none → dx ≠ a → Q .non (upd (upd H dx (exd dx [(fld, v)])) a (exo a C (some dx)))
theorem ini_ok {C cc : Addr} {doc pm ctv oc : Value} {od : Option Addr} {osl : Array (Option Value)} {self prm fld msg : Str} {ar : Arg} {p0 p1 p2 p3 p4 p5 q1 q2 q3 q4 : Pos} {j : Nat} {pl : Sem Bool} (T : ExF P K C cc F.c) (hcl : F.cl = [(("__class__" : Str), cc)]) (lk : K.lookup f = some ⟨oc, od, .func (F.fd doc pm ctv), osl⟩)
    (hcd : PySem.W.codeIn K (.ref F.c) F.qual = true) (S : NScope [self, prm, "__class__"] [self, prm] [(("__class__" : Str))] F.scope) (hp : (F.params.posonlyargs ++ F.params.args).head? = some ar) (har : ar.arg = self)
    (hb : F.body = [.Expr (.Call (.Attribute (.Call (.Name "super" p0) [] [] p1) "__init__" p2) [.Constant (.str msg) j p3] [] p4) p5, .Assign [.Attribute (.Name self q1) fld q2] (.Name prm q3) q4])
    (hks : F.scope.names.lookup ("super" : Str) = some .globalImplicit) (hm : mg "super" = none) (hno : PySem.W.findIn K (.ref C) fld = some none)
    (hsw : ∀ L, swapsWith (.Call (.Attribute (.Call (.Name "super" p0) [] [] p1) "__init__" p2) [.Constant (.str msg) j p3] [] p4) none p5.line (envF F f L) = pure false) (hs2 : ∀ L, swapsWith (.Name prm q3) (some (.Attribute (.Name self q1) fld q2)) q4.line (envF F f L) = pure false)
    (hev : ∀ L, eval (.Call (.Attribute (.Call (.Name "super" p0) [] [] p1) "__init__" p2) [.Constant (.str msg) j p3] [] p4) (envF F f L) = (do
      let ov ← attributeBase (.Call (.Name "super" p0) [] [] p1) "__init__" (envF F f L) (eval (.Call (.Name "super" p0) [] [] p1) (envF F f L))
      standAt p2.atName
      let (g, first) ← holding [ov] (getMethod ov "__init__" pl)
      callWith p4 g first (backTo p4 (starEach [.Constant (.str msg) j p3] (envF F f L))) []))
    (d1 : (self == ("__debug__" : Str)) = false) (d2 : (prm == ("__debug__" : Str)) = false) (d3 : (self == ("__classdict__" : Str)) = false) (d4 : (prm == ("__classdict__" : Str)) = false) :
    FnOk P wo K mg base CX 1 f (F.fd doc pm ctv) [self, prm] (spIni C fld) := by
  refine ⟨fun vs H Q E h => ?_, fun A outer s H args us vs Q E hr e0 hbind r hsp => ?_⟩
  · obtain ⟨a, v, rfl, _⟩ := h
    rfl
  obtain ⟨a, v, rfl, ea, hq⟩ := hsp
  have KX : K.In s.heap := e0.mod.kin.keeps fun b o e => (e0.bs b o e).1
  have lim : s.heap.NoLimit := e0.mod.nolimit.keeps fun b o e => (e0.bs b o e).1
  obtain ⟨oc1, od1, sl1, hcell⟩ := T.cell
  have hkc : F.scope.names.lookup ("__class__" : Str) = some .free := S.frk _ (by simp)
  have hka : F.scope.names.lookup self = some .local := S.par _ (by simp)
  have CA : CellsAt F.cl [(("__class__" : Str))] [none] s.heap H := by
    rw [hcl]
    refine ⟨rfl, fun y c e => ?_, fun x y c e1 e2 => ?_, fun i y e => ?_⟩
    · obtain ⟨_, rfl⟩ := one_look e
      exact ⟨(e0.bs _ _ (e0.mod.kin _ _ hcell)).2, _, _, KX _ _ hcell, rfl⟩
    · exact (one_look e1).1.trans (one_look e2).1.symm
    · cases i with
      | zero =>
        cases e
        exact ⟨cc, by simp [List.lookup], fun v hv => by cases hv⟩
      | succ i => simp at e
  have hus : us.length = 2 := by
    rw [← r.length]
    rfl
  refine ks_codeAny_call_defAt (fd := F.fd doc pm ctv) (body := F.body) hr.depth (KX _ _ lk) rfl lim (PySem.W.codeRec_of KX hcd) rfl hbind S.nocell (fun ⟨n, _⟩ hy => S.par n (List.of_mem_zip hy).1) (fun h₁ hns kp => ?_) S.co S.gen S.kind
  have I : Inv (ncx CX P wo K mg base [self, prm, "__class__"] F f A outer s H E) [] (startF [self, prm, "__class__"] [.ref a, v] [none]) H { s with heap := h₁, toks := s.toks + ([self, prm].zip us).length } := inv_startN S hr.hd e0 rfl r CA hns kp
  show PySem.wpAt _ (A.deeper (envF F f s.heap.objs.size)) (.func F.body (envF F f s.heap.objs.size)) (execs F.body (envF F f s.heap.objs.size)) _ _ _
  have st2 : PS (ncx CX P wo K mg base [self, prm, "__class__"] F f A outer s H E) (.Assign [.Attribute (.Name self q1) fld q2] (.Name prm q3) q4) (tOst K fld (tVar 0) (tVar 1)) :=
    ps_ost (pe_var (i := 0) rfl (.inl hka) d1 d3) (pe_var (i := 1) rfl (.inl (S.par _ (by simp))) d2 d4) (hs2 _)
  rw [hb]
  refine ks_wpAt_execs_cons (super_ini I T hcl lk hp ea (by rw [har]; rfl) rfl S.kind (by rw [har]; exact hka) hks hkc hm (hsw _) pl (hev _) fun sh' I' => ?_)
  refine wpAt_of_wpAny (wpAny_mono ((pss_one st2).run [] sh' _ H { nx := fun _ H' => Q .non H', rt := Q } I' ⟨v, rfl, .ref a, rfl, a, C, rfl, T.oex, hno, .inl ⟨ea, fun dx n ne => hq dx n ne⟩⟩) (fun fl s' hs => ?_) fun e s' hs => hs)
  have fin : ∀ {σ' : L2.St} {H' : Hp} {v : V} {u : Value}, Inv (ncx CX P wo K mg base [self, prm, "__class__"] F f A outer s H E) [] σ' H' s' → L2.RelV v u → Q v H' → CE outer P wo H s Q u s' :=
    fun {σ' H' v u} J rv q => ⟨v, H', J.os, J.bare, J.base, J.hok, rv, q⟩
  cases fl with
  | ret u =>
    obtain ⟨v, σ', H', J, rv, q⟩ := hs
    exact fin J rv q
  | next =>
    obtain ⟨σ', H', J, q⟩ := hs
    exact fin (v := V.non) (u := Value.none) J rfl q
  | brk =>
    obtain ⟨_, _, _, q⟩ := hs
    exact False.elim q
  | cont =>
    obtain ⟨_, _, _, q⟩ := hs
    exact False.elim q
end
end VM

set_option Elab.async false
set_option linter.all false
set_option maxRecDepth 100000
set_option maxHeartbeats 2000000
/-! VM29: facts of own exceptions; raise. -/
namespace VM
open PySem PySem.Spec PyProof PyProof.Rows L2 NdefX
/-! ### facts by names -/
abbrev FnV : Type := Option (Str × Str × Arguments × FuncBody × Scope × Addr × Addr)
def fnV (K : PySem.W.Frag) (p : Str × Option Str) : FnV := match K.lookup (He.fAd K p) with
  | some ⟨_, _, .func fd, _⟩ => some (fd.name, fd.qualname, fd.params, fd.body, fd.scope, fd.globals, fd.builtins)
  | _ => none
/-- an exception class's __init__: the class, its text, the field that it stores -/
structure DefE where
  x : Str
  qual : Str
  params : Arguments
  body : List Stmt
  scope : Scope
  fld : Str
def DefE.at_ (d : DefE) : Str × Option Str := (d.x, some "__init__")
def DefE.val (d : DefE) : FnV := some ("__init__", d.qual, d.params, .stmts d.body, d.scope, mainGlobals, builtinsNs)
def ccOf (K : PySem.W.Frag) (p : Str × Option Str) : Addr := match K.lookup (He.fAd K p) with
  | some ⟨_, _, .func fd, _⟩ => (match fd.closure with
    | [(_, c)] => c
    | _ => 0)
  | _ => 0
def cdOf (K : PySem.W.Frag) (p : Str × Option Str) : Addr := match K.lookup (He.fAd K p) with
  | some ⟨_, _, .func fd, _⟩ => (match fd.code with
    | .ref c => c
    | _ => 0)
  | _ => 0
def cutFile : String := "/claim/cut.py"
def oexB (K : PySem.W.Frag) (C : Addr) : Bool := (match K.lookup C with
  | some ⟨.type ty, _, .cls cd, sl⟩ => decide (ty = "type") && (match cd.mro, sl.toList with
    | .ref C' :: bm, [_, _, _, _, some (.builtin n), _] => decide (C' = C) && (decide (n = "ValueError.__new__") && (!cd.hasDel && (cd.hasDict && PySem.HandSPX.refsVE bm)))
    | _, _ => false)
  | _ => false) && (eqOV (PySem.W.findIn K (.ref C) "__setattr__") (some (some (.builtin "object.__setattr__"))) && (decide (PySem.W.subIn K (.ref C) (.type "BaseException") = some true) && (decide (PySem.W.typeIn K (.ref C) = some (.type "type")) && PySem.W.keepIn K (.ref C))))
theorem oexB_ok {K : PySem.W.Frag} {C : Addr} (h : oexB K C = true) : OexC K C := by
  obtain ⟨h0, h⟩ := He.ba h
  obtain ⟨h2, h⟩ := He.ba h
  obtain ⟨h3, h⟩ := He.ba h
  obtain ⟨h4, h5⟩ := He.ba h
  refine ⟨?_, of_decide_eq_true h2, of_decide_eq_true h3, of_decide_eq_true h4, h5⟩
  split at h0
  · rename_i ty dd cd sl ho
    obtain ⟨t1, h0⟩ := He.ba h0
    split at h0
    · rename_i C' bm k0 k1 k2 k3 n k5 hm hs
      obtain ⟨e1, h0⟩ := He.ba h0
      obtain ⟨e2, h0⟩ := He.ba h0
      obtain ⟨e3, h0⟩ := He.ba h0
      obtain ⟨e4, e5⟩ := He.ba h0
      have t1 := of_decide_eq_true t1
      have e1 := of_decide_eq_true e1
      have e2 := of_decide_eq_true e2
      have f3 : cd.hasDel = false := by simpa using e3
      have f4 : cd.hasDict = true := e4
      clear e3 e4 h0
      subst t1 e1 e2
      obtain ⟨nm, bs, mro, ns, qn, hd, sn, sub, ab, col, del⟩ := cd
      dsimp only at hm f3 f4
      subst hm f3 f4
      have hsl : sl = #[k0, k1, k2, k3, some (.builtin "ValueError.__new__"), k5] := Array.toList_inj.mp hs
      subst hsl
      exact ⟨_, _, _, _, _, _, _, _, _, _, _, _, _, _, _, ho, e5⟩
    · cases h0
  · cases h0
def exnB (K : PySem.W.Frag) (d : DefE) : Bool := oexB K (He.ga K d.x) && (eqOV (PySem.W.findIn K (.ref (He.ga K d.x)) "__init__") (some (some (.ref (He.fAd K d.at_)))) && (decide (PySem.W.typeIn K (.ref (He.fAd K d.at_)) = some (.type "function")) &&
  ((match K.lookup (He.fAd K d.at_) with
    | some ⟨_, _, .func fd, _⟩ => decide (fd.closure = [(("__class__" : Str), ccOf K d.at_)]) && (decide (fd.defaults = .none) && (decide (fd.kwdefaults = .none) && (decide (fd.annotations = none) && decide (fd.code = .ref (cdOf K d.at_)))))
    | _ => false) &&
  ((match K.lookup (ccOf K d.at_) with
    | some ⟨_, _, .cell (some (.ref C)), _⟩ => decide (C = He.ga K d.x)
    | _ => false) &&
  ((match K.lookup (cdOf K d.at_) with
    | some ⟨_, _, .fields vs, _⟩ => (match (vs[2]? : Option Value) with
      | some (.str file _) => decide ((cutFile : Str) = file)
      | _ => false)
    | _ => false) &&
  (PySem.W.codeIn K (.ref (cdOf K d.at_)) d.qual && (eqOV (PySem.W.ks_superIn K (He.ga K d.x) (He.ga K d.x) "__init__") (some (some (.builtin "ValueError.__init__"))) && (decide (PySem.W.subIn K (.ref (He.ga K d.x)) (.type "ValueError") = some true) &&
  (decide (PySem.W.mroIn K (He.ga K d.x) (.ref (He.ga K d.x)) = some true) && (eqOV (PySem.W.nsIn K cStatics "thirdparty.any") (some none) && eqOV (PySem.W.findIn K (.ref (He.ga K d.x)) d.fld) (some none)))))))))))
def progB (P : Program) : Bool := decide (P.main.file = cutFile) && !(P.main.scope.names.lookup ("super" : Str)).isSome
/-- what is known of such a class -/
structure ExnK (P : Program) (K : PySem.W.Frag) (d : DefE) : Prop where
  ex : ∃ (cc cda : Addr) (oc : Value) (od : Option Addr) (osl : Array (Option Value)) (doc pm ctv : Value), K.lookup (He.fAd K d.at_) = some ⟨oc, od, .func ((⟨"__init__", d.qual, d.params, d.body, d.scope, [(("__class__" : Str), cc)], cda⟩ : NF).fd doc pm ctv), osl⟩ ∧
    ExF P K (He.ga K d.x) cc cda ∧ PySem.W.codeIn K (.ref cda) d.qual = true
  ini : PySem.W.findIn K (.ref (He.ga K d.x)) "__init__" = some (some (.ref (He.fAd K d.at_)))
  typ : PySem.W.typeIn K (.ref (He.fAd K d.at_)) = some (.type "function")
  no : PySem.W.findIn K (.ref (He.ga K d.x)) d.fld = some none
theorem exnB_ok {P : Program} {K : PySem.W.Frag} {d : DefE} (hP : progB P = true) (e : fnV K d.at_ = d.val) (h : exnB K d = true) : ExnK P K d := by
  obtain ⟨p1, p2⟩ := He.ba hP
  obtain ⟨h1, h⟩ := He.ba h
  obtain ⟨h2, h⟩ := He.ba h
  obtain ⟨h3, h⟩ := He.ba h
  obtain ⟨h4, h⟩ := He.ba h
  obtain ⟨h5, h⟩ := He.ba h
  obtain ⟨h6, h⟩ := He.ba h
  obtain ⟨h7, h⟩ := He.ba h
  obtain ⟨h8, h⟩ := He.ba h
  obtain ⟨h9, h⟩ := He.ba h
  obtain ⟨h10, h⟩ := He.ba h
  obtain ⟨h11, h12⟩ := He.ba h
  refine ⟨⟨ccOf K d.at_, cdOf K d.at_, ?_⟩, of_decide_eq_true h2, of_decide_eq_true h3, of_decide_eq_true h12⟩
  have X : ExF P K (He.ga K d.x) (ccOf K d.at_) (cdOf K d.at_) := by
    refine ⟨oexB_ok h1, ?_, ?_, of_decide_eq_true h8, of_decide_eq_true h9, of_decide_eq_true h10, of_decide_eq_true h11, by simpa using p2⟩
    · split at h5
      · rename_i q
        rw [of_decide_eq_true h5] at q
        exact ⟨_, _, _, q⟩
      · cases h5
    · split at h6
      · rename_i q
        split at h6
        · rename_i q2
          refine ⟨_, _, _, _, _, _, q, q2, ?_⟩
          rw [of_decide_eq_true p1, of_decide_eq_true h6]
          exact beq_self_eq_true _
        · cases h6
      · cases h6
  cases q : K.lookup (He.fAd K d.at_) with
  | none =>
    rw [q] at h4
    cases h4
  | some o =>
    obtain ⟨oc, od, dt, osl⟩ := o
    unfold fnV at e
    rw [q] at h4 e
    cases dt with
    | func fd =>
      obtain ⟨n1, n2, n3, n4, n5, n6, n7, n8, n9, n10, n11, n12, n13, n14, n15⟩ := fd
      have e2 : (some (n1, n2, n3, n4, n5, n6, n15) : FnV) = some (("__init__" : Str), d.qual, d.params, FuncBody.stmts d.body, d.scope, mainGlobals, builtinsNs) := e
      simp only [Option.some.injEq, Prod.mk.injEq] at e2
      obtain ⟨a1, a2, a3, a4, a5, a6, a7⟩ := e2
      obtain ⟨b1, h4⟩ := He.ba h4
      obtain ⟨b2, h4⟩ := He.ba h4
      obtain ⟨b3, h4⟩ := He.ba h4
      obtain ⟨b4, b5⟩ := He.ba h4
      have c1 := of_decide_eq_true b1
      have c2 := of_decide_eq_true b2
      have c3 := of_decide_eq_true b3
      have c4 := of_decide_eq_true b4
      have c5 := of_decide_eq_true b5
      clear b1 b2 b3 b4 b5 h4 h
      dsimp only at c1 c2 c3 c4 c5
      subst a1 a2 a3 a4 a5 a6 a7 c1 c2 c3 c4 c5
      exact ⟨_, _, _, _, _, _, rfl, X, h7⟩
    | _ => cases h4
end VM

set_option Elab.async false
set_option linter.all false
set_option maxRecDepth 100000
set_option maxHeartbeats 2000000
/-! VM30: raise; try .. except C as e. -/
namespace VM
open PySem PySem.Spec PyProof PyProof.Rows L2 NdefX
/-- the exception class named x: its number c, the number n of the field that it stores -/
structure CalX (P : Program) (wo : World) (K : PySem.W.Frag) (mg : Str → Option Value) (base : Heap) (T : Tab) (x : Str) (c n : Nat) : Prop where
  ex : ∃ C fI fd self prm, FnOk P wo K mg base (L2.CX P wo) 1 fI fd [self, prm] (spIni C (T.fld n)) ∧ OexC K C ∧ PySem.W.findIn K (.ref C) "__init__" = some (some (.ref fI)) ∧ PySem.W.typeIn K (.ref fI) = some (.type "function") ∧ Binds K fd [self, prm] [] ∧ mg x = some (.ref C) ∧ T.exc c = some C
section
variable {K : PySem.W.Frag} {T : Tab} {w w' : Wd} {s s' : Store} {H H' : Hp} {X : Cx} {W : WX}
theorem exc_heap {H : Hp} {a dx C : Addr} {fs : List (Str × V)} (ha : H a = none) (hne : dx ≠ a) : upd (del (upd (upd (upd H a (exo a C none)) dx (exd dx fs)) a (exo a C (some dx))) a) dx (.xd fs) = upd H dx (.xd fs) := by
  funext b
  by_cases hb : b = dx
  · subst hb
    rw [upd_same, upd_same]
  · rw [upd_ne hb, upd_ne hb]
    by_cases hc : b = a
    · subst hc
      rw [del_same, ha]
    · rw [del_ne hc, upd_ne hc, upd_ne hb, upd_ne hc]
theorem ss_raise {rk c n : Nat} {x : Str} {e : Expr} {p pos pos' : Pos} {f : ME} (hK : X.K = K) (cx : CalX X.prog X.w K X.mg X.base T x c n) (hr : Room 2 X.A) (hc : X.calm = true) (tk : Takes X W) (hg : Gl X x) (hdb : (x == ("__debug__" : Str)) = false) (hp : plain e = true) (ha : SE K T .tree X W e f) :
    SS K T rk X W (.Raise (some (.Call (.Name x p) [e] [] pos)) none pos') (sRaise c [n] (aCons f aNil)) := .mk fun w env s σ H k eo D q => by
  subst hK
  obtain ⟨C, fI, fd, self, prm, F, O, h1, h2, hb, hm, hC⟩ := cx.ex
  have hsa : SA X.K T false X W [e] (aCons f aNil) := sa_cons hp ha sa_nil
  refine wps_of (ps_raise hc tk (pmk_oex O h1 h2 F hr hb .nil (fun _ _ _ _ _ _ _ z => (by obtain ⟨_, _, _, _, _, _, _, _, _, _, _, _, z⟩ := z; exact z.elim)) hg hm pa_wp hdb (star_plain hp _ _) rfl)) ?_
  refine hsa w env s σ H k eo _ (PostS.bind eo q fun vs ds H1 w1 s1 a1 b1 c1 q1 => ?_)
  have c1 : Reps X.K T w1.F vs ds := c1
  split at q1
  · rename_i hl
    have hl : ds.length = 1 := hl
    cases c1 with
    | nil => cases hl
    | @cons v d vs ds r rs =>
      cases rs with
      | cons _ _ => simp at hl
      | nil =>
        refine ⟨show 1 ≤ 1000 by decide, fun a hna => ⟨a, v, rfl, upd_same, fun dx hdx hne => ⟨rfl, dx, [(T.fld n, v)], upd_same, ?_, ?_, ?_⟩⟩⟩
        · rw [upd_ne hne, upd_same]
        · rw [upd_ne hne] at hdx
          exact hdx
        · rw [upd_ne hne] at hdx
          rw [exc_heap hna hne]
          obtain ⟨w2, k2, n2, f2, _⟩ := a1.new (o := .xd [(T.fld n, v)]) hdx
          exact q1 C dx [(T.fld n, v)] σ _ w2 k2 (b1.trans n2) ((eo.nxt b1).nxt n2) hC f2 (.cons (r.sub n2.F) .nil)
  · exact q1.elim
/-! ### try -/
/-- the clause: the class c, the name's place i, its suite from the exception's fields -/
def sTry1 (m : MS) (c i : Nat) (h : List (Nat × D) → MS) : MS := fun e s => match m e s with
  | .exc c' fs e' s' => if c' = c then (if i < e'.length then (match h fs e' s' with
      | .nx e s => .nx (e.set i none) s
      | _ => .bad) else .bad) else .exc c' fs e' s'
  | r => r
/-- y = ("tag", e.f) -/
def hTup (j : Nat) (tag : List Nat) (n : Nat) : List (Nat × D) → MS := fun fs e s => match fs.lookup n with
  | some x => if j < e.length then .nx (e.set j (some (.tup [.str tag, x]))) s else .bad
  | none => .bad
def WTry (X : Cx) (body : List Stmt) (V : WX) : L2.TS := fun D σ H => ∀ (pn : List (Addr × Obj)) (xe : Value → Shared → Prop), Takes (X.tr pn xe) V → PassesOwn (model X.prog X.w) X.A X.env xe → WPSs (X.tr pn xe) body D σ H
theorem wtry_wp {body : List Stmt} {V : WX} {pn : List (Addr × Obj)} {xe : Value → Shared → Prop} (tk : Takes (X.tr pn xe) V) (po : PassesOwn (model X.prog X.w) X.A X.env xe) : PSs (X.tr pn xe) body (WTry X body V) := ⟨fun pins s σ H D I h => h pn xe tk po pins s I⟩
/-- the class c is caught by the clause of the class at C -/
def CatchB (K : PySem.W.Frag) (T : Tab) (c : Nat) (C : Addr) : Prop := T.exc c = some C ∧ XfC K C ∧ ∀ c' C', T.exc c' = some C' → PySem.W.exmOne K (.ref C') (.ref C) = some (decide (c' = c))
theorem lookup_rep {F : Hp} {f : Str} {n : Nat} (hf : T.fld n = f) (inj : ∀ m, T.fld m = f → m = n) : ∀ {vs : List (Str × V)} {ds : List (Nat × D)} {x : D}, RepF K T F vs ds → ds.lookup n = some x → ∃ v, vs.lookup f = some v ∧ Rep K T F v x
  | _, _, _, .nil, h => by cases h
  | _, _, x, .cons (n := m) (v := v) (d := d) (vs := vs) (ds := ds) h r, e => by
    unfold List.lookup at e
    unfold List.lookup
    cases q : (n == m) with
    | true =>
      rw [q] at e
      cases e
      have z := beq_iff_eq.mp q
      subst z
      rw [hf, beq_self_eq_true]
      exact ⟨v, rfl, h⟩
    | false =>
      rw [q] at e
      have ne : (f == T.fld m) = false := by
        cases z : (f == T.fld m) with
        | false => rfl
        | true =>
          have y := inj m (beq_iff_eq.mp z).symm
          rw [y, beq_self_eq_true] at q
          cases q
      rw [ne]
      exact lookup_rep hf inj r e
theorem FH.xd {F H : Hp} (f : FH F H) {a : Addr} {fs : List (Str × V)} (h : F a = some (.xd fs)) : H a = some (.xd fs) := (f a _ h).elim id fun ⟨⟨_, q⟩, _⟩ => by cases q
theorem EOk.unset {env : VM.Env} {σ : L2.St} (eo : EOk K T w env σ) (i : Nat) : EOk K T w (env.set i none) (σ.set i none) :=
  ⟨by rw [List.length_set, List.length_set]; exact eo.len, fun j d e => by
    by_cases ij : i = j
    · subst ij
      rw [List.getElem?_set] at e
      simp only [if_true] at e
      split at e <;> cases e
    · rw [List.getElem?_set_ne ij] at e ⊢
      exact eo.get j d e⟩
theorem ss_try1 {rk c i j n : Nat} {x y nm fn : Str} {tag : Str} {body : List Stmt} {m : MS} {np py pc pe pf pt pa pos' pos : Pos} {kc kt : Nat} {C : Addr} (hK : X.K = K) (hs : X.stack = X.env :: X.outer) (hf : X.env.frame = some X.env.locals) (hN : X.N.Nodup) (hi : X.N[i]? = some nm) (hj : X.N[j]? = some y) (hln : X.env.scope.names.lookup nm = some .local) (hly : X.env.scope.names.lookup y = some .local)
    (hc : Names X x (.ref C)) (ct : CatchB K T c C) (hfn : T.fld n = fn) (inj : ∀ m, T.fld m = fn → m = n) (hno : PySem.W.findIn K (.ref C) fn = some none) (htag : tag.cps.toList.length ≤ sizeMax) (tk : Takes X W)
    (d1 : (nm == ("__debug__" : Str)) = false) (d2 : (nm == ("__classdict__" : Str)) = false) (hij : i ≠ j) (hsw : swapsWith (.Tuple [.Constant (.str tag) kc pc, .Attribute (.Name nm pe) fn pf] kt pt) (some (.Name y py)) pa.line X.env = pure false) (hab : attributeBase (.Name nm pe) fn X.env (eval (.Name nm pe) X.env) = eval (.Name nm pe) X.env)
    (hb : ∀ (V : WX) (pn : List (Addr × Obj)) (xe : Value → Shared → Prop), Takes (X.tr pn xe) V → PassesOwn (model X.prog X.w) X.A X.env xe → SSs K T rk (X.tr pn xe) V body m) :
    SS K T rk X W (.Try body [.ExceptHandler (some (.Name x np)) (some nm) [.Assign [.Name y py] (.Tuple [.Constant (.str tag) kc pc, .Attribute (.Name nm pe) fn pf] kt pt) pa] pos'] [] [] pos) (sTry1 m c i (hTup j tag.cps.toList n)) := .mk fun w env s σ H k eo D p => by
  subst hK
  obtain ⟨hC, XC, hm⟩ := ct
  refine wps_of (ps_try_as (i := i) (tb := WTry X body) (ts := fun a cls d => tAsg (tTup (tCons (tC (.str tag)) (tCons (tXf a cls d C fn (tVar i)) tNil))) (L2.gName j)) (Wout := W) hs hf hN hi hln hc tk (fun V pn xe h1 h2 => wtry_wp h1 h2)
    (fun a oe cls d pn hz hfs => pss_one (ps_set (i := j) hN hj (.inl hly) (pe_tup (pa_cons pe_str (pa_cons (pe_xf XC hno hz hfs (pe_var (i := i) hi (.inl hln) d1 d2) hab) pa_nil rfl) rfl)) hsw (.inr hly)))) ?_
  intro pn xe h1 h2
  refine (hb _ pn xe h1 h2) w env s σ H k eo D ?_
  unfold sTry1 at p
  cases e : m env s with
  | nx e1 s1 =>
    rw [e] at p
    exact p
  | ret d s1 =>
    rw [e] at p
    exact p
  | cnt e1 s1 =>
    rw [e] at p
    exact p
  | bad =>
    rw [e] at p
    exact p
  | exc c' fs e1 s1 =>
    rw [e] at p
    dsimp only [] at p
    intro C' dd fv σ' H' w' a b eo' hC' hF hR
    refine ⟨decide (c' = c), hm c' C' hC', fun hy a0 hna => ?_, fun hn => ?_⟩
    · have hy := of_decide_eq_true hy
      subst hy
      have hCC : C' = C := by
        rw [hC] at hC'
        exact (Option.some.inj hC').symm
      subst hCC
      rw [if_pos rfl] at p
      split at p
      rotate_left
      · exact p.elim
      rename_i lti
      unfold hTup at p
      cases hl : fs.lookup n with
      | none =>
        rw [hl] at p
        exact p.elim
      | some xv =>
        rw [hl] at p
        obtain ⟨v, hv, rv⟩ := lookup_rep hfn inj hR hl
        dsimp only [] at p
        split at p
        · rename_i e2 s2 hq
          split at hq
          · rename_i lt
            cases hq
            have li : i < σ'.length := by
              rw [← eo'.len]
              exact lti
            refine ⟨.ref a0, by rw [List.getElem?_set_self li], rfl, rfl, dd, fv, v, rfl, a.fh.xd hF, hv, show 2 ≤ sizeLine by decide, fun q hq => ?_⟩
            obtain ⟨w2, k2, n2, f2, _⟩ := a.new (o := .tup [.str tag, v]) hq
            have e0 : tag = ⟨tag.cps.toList.toArray⟩ := by cases tag; simp
            have r2 : Rep X.K T w2.F (.ref q) (.tup [.str tag.cps.toList, xv]) := .tup (.of f2) (.cons (by
              have z := Rep.str (K := X.K) (T := T) (F := w2.F) tag.cps.toList htag
              rw [← e0] at z
              exact z) (.cons (rv.sub n2.F) .nil)) (show 2 ≤ sizeMax by decide)
            have eo2 := ((eo'.nxt n2).set j (.of r2)).unset i
            have es : ((σ'.set i (some (.ref a0))).set j (some (.ref q))).set i none = (σ'.set j (some (.ref q))).set i none := by
              rw [List.set_comm _ _ hij, List.set_set]
            show D.nx (((σ'.set i (some (.ref a0))).set j (some (.ref q))).set i none) _
            rw [es]
            exact p _ _ w2 k2 (b.trans n2) eo2
          · cases hq
        · exact p.elim
    · have hn := of_decide_eq_false hn
      rw [if_neg hn] at p
      exact p C' dd fv σ' H' w' a b eo' hC' hF hR
end
end VM

set_option Elab.async false
set_option linter.all false
set_option maxRecDepth 100000
set_option maxHeartbeats 2000000
/-! VM31: len of an instance; the Hook with exceptions. -/
namespace VM
open PySem PySem.Spec PyProof PyProof.Rows L2 NdefX
section
variable {K : PySem.W.Frag} {T : Tab} {w w' : Wd} {s s' : Store} {H H' : Hp} {X : Cx} {W : WX}
def rLenI (sp : Sp) (C : Addr) : List V → Hp → VK → Prop := fun xs H Q => ∃ a dx fs, xs = [.ref a] ∧ H a = some (.ins C dx fs) ∧ sp [.ref a] H (fun v H' => ∃ n : Int, v = .int n ∧ (0 ≤ n ∧ n < 9223372036854775808) ∧ Q (.int n) H') XF
theorem call_lenI {n : Nat} {f C : Addr} {fd : FuncData} {ps : List Str} {sp : Sp} (F : FnOk X.prog X.w X.K X.mg X.base (L2.CX X.prog X.w) n f fd ps sp) (hr : Room (n + 1) X.A) (hs : PySem.W.findIn X.K (.ref C) "__len__" = some (some (.ref f))) (hf : PySem.W.isFn X.K (.ref f) = true) (hb : Binds X.K fd ps []) :
    CallR X (.builtin "len") (rLenI sp C) := by
  intro pins sh σ H xs us Q I r h
  obtain ⟨a, dx, fs, rfl, ha, q⟩ := h
  cases Vals.ref1 r
  obtain ⟨od, J⟩ := inst_two I ha
  obtain ⟨m, hF⟩ := I.fr
  refine PySem.W.len_K hF I.ok.mod.kin J hs hf ?_
  have sb : L2.Sub X (n + 1) X.A := ⟨hr, rfl⟩
  have e0 : Env0 X.prog X.w X.K X.mg X.base X.A.in1 X.stack sh H := by
    have e := I.env0
    exact ⟨by rw [sb.in1.fr]; exact e.frames, e.mod, e.bs, e.bsz, e.funs, e.frf, e.hok, e.bare⟩
  have hl := F.len _ _ _ _ q
  have bnd := hb sh [.ref a] I.kIn (by rw [List.append_nil]; exact hl)
  rw [List.append_nil] at bnd
  refine wpAny_call (codeAny_mono (F.run X.A.in1 X.stack sh H ⟨[.ref a], []⟩ [.ref a] [.ref a] _ _ sb.in1.room e0 bnd (.cons rfl .nil) q) fun r s' hq => ?_)
  cases r with
  | error e =>
    obtain ⟨_, _, _, _, _, _, _, _, _, _, _, _, z⟩ := hq
    exact z.elim
  | ok fl =>
    cases fl with
    | ret u =>
      obtain ⟨z, H', I', rz, k, ez, hk, qq⟩ := I.after hq
      subst ez
      obtain ⟨t, rfl⟩ := rz
      exact ⟨⟨hk.1, hk.2⟩, ⟨.int k, H', I'.tok _, ⟨_, rfl⟩, qq⟩⟩
    | next => exact False.elim hq
    | brk => exact False.elim hq
    | cont => exact False.elim hq
/-- len(x), x an instance of the class c -/
def eLenI (c : Nat) (fn : Fn) (f : ME) : ME := fun e s => (f e s).bind fun x s => match view s x with
  | some (.ins k _) => if k = c ∧ fn.np = 1 then (match fn.sem [x] s with
    | .ok (.int n) s => if 0 ≤ n ∧ n < 9223372036854775808 then .ok (.int n) s else .bad
    | _ => .bad) else .bad
  | _ => .bad
theorem own_int {F : Hp} {k : Nat} {v : V} {b : Int} {P : List Addr} (o : Own K T F H k v (.int b) P) : v = .int b := by
  cases o with
  | frz h => exact rep_int h
  | flat _ h => exact rep_int h
theorem w_lenI {k c : Nat} {fn : Fn} {e : Expr} {p pos : Pos} {f : ME} (hK : X.K = K) (cm : CalM X.prog X.w K X.mg X.base T k c "__len__" fn) (hr : Room (k + 1) X.A) (hm : X.mg "len" = none) (hg : Gl X "len") (hp : plain e = true) (h : SE K T .raw X W e f) : SE K T .tree X W (.Call (.Name "len" p) [e] [] pos) (eLenI c fn f) := .mk fun w env s σ H k1 eo Q q => by
  subst hK
  obtain ⟨f0, fd, ps, C, F, hC, _, M, hb⟩ := cm.ex
  refine wpe_of (pe_callB (call_lenI F hr M.at_ M.fn hb) hg hm boot_len pa_wp (by decide +kernel) (by decide) (star_plain hp _ _) rfl) (wpa_of (pa_cons pe_wp pa_nil (star_plain hp _ _)) (h w env s σ H k1 eo _ (Post.bind q fun v d H1 w1 s1 a1 b1 c1 q2 => ?_)))
  cases hx : view s1 d with
  | none =>
    rw [hx] at q2
    exact q2.elim
  | some x =>
    rw [hx] at q2
    cases x with
    | ins k1 fs1 =>
      dsimp only [] at q2
      split at q2
      · rename_i hk
        obtain ⟨rfl, hnp⟩ := hk
        obtain ⟨ad, dx, fv, rfl, hH⟩ := ins_at a1 c1 hx hC
        refine ⟨ad, dx, fv, rfl, hH, w1, s1, [d], a1, .cons c1 .nil, hnp.symm, ?_⟩
        cases er : fn.sem [d] s1 with
        | ok r s3 =>
          rw [er] at q2
          cases r with
          | int z =>
            dsimp only [] at q2
            split at q2
            · rename_i hz
              intro v3 H3 w3 a3 b3 c3
              obtain ⟨P, ow, _⟩ := c3
              exact ⟨z, own_int ow, hz, q2.give a3 (b1.trans b3) (.int _)⟩
            · exact q2.elim
          | _ => exact q2.elim
        | exc _ _ _ =>
          rw [er] at q2
          exact q2.elim
        | bad =>
          rw [er] at q2
          exact q2.elim
      · exact q2.elim
    | _ => exact q2.elim
end
/-! ### the Hook: facts of exceptions too -/
abbrev AlX : Type := List FnV × AlM
def obX (more : PySem.W.Frag → Bool) (fa : List He.Fa) (dn : List He.DefD) (en : List DefE) (K : PySem.W.Frag) : AlX := (en.map fun d => fnV K d.at_, obM more fa dn K)
def vaX (dn : List He.DefD) (en : List DefE) : AlX := (en.map DefE.val, vaM dn)
structure SaysX (more : PySem.W.Frag → Bool) (fa : List He.Fa) (dn : List He.DefD) (en : List DefE) (K : PySem.W.Frag) : Prop where
  exs : en.map (fun d => fnV K d.at_) = en.map DefE.val
  m : SaysM more fa dn K
def obXG (n : Nat) (more : PySem.W.Frag → Bool) (fa : List He.Fa) (dn : List He.DefD) (en : List DefE) (g : Addr → Option Obj) : AlX := obX more fa dn en (He.frG g (cStatics :: He.asD g n))
theorem saysX_of {more : PySem.W.Frag → Bool} {fa : List He.Fa} {dn : List He.DefD} {en : List DefE} {K : PySem.W.Frag} (e : obX more fa dn en K = vaX dn en) : SaysX more fa dn en K := ⟨congrArg Prod.fst e, says_of (congrArg Prod.snd e)⟩
def hookX (n : Nat) (more : PySem.W.Frag → Bool) (fa : List He.Fa) (dn : List He.DefD) (en : List DefE) : PySem.W.Hook where
  α := AlX
  obs := fun sh => obXG n more fa dn en sh.heap.get?
  val := fun _ => vaX dn en
  says := fun _ h => ∃ K : PySem.W.Frag, K.In h ∧ SaysX more fa dn en K
  of := fun _ _ e => ⟨_, He.frG_in, saysX_of e⟩
  keeps := fun _ _ _ ⟨K, hK, c⟩ k => ⟨K, PySem.W.Frag.In.keeps hK k, c⟩
theorem obXG_eq {n : Nat} {more : PySem.W.Frag → Bool} {fa : List He.Fa} {dn : List He.DefD} {en : List DefE} {g : Addr → Option Obj} {sh : Shared} (h : ∀ a, g a = sh.heap.get? a) : obXG n more fa dn en g = (hookX n more fa dn en).obs sh := by
  have e : g = sh.heap.get? := funext h
  rw [e] <;> rfl
theorem SaysX.at {more : PySem.W.Frag → Bool} {fa : List He.Fa} {dn : List He.DefD} {en : List DefE} {K : PySem.W.Frag} (c : SaysX more fa dn en K) (i : Nat) {d : DefE} (h : en[i]? = some d) : fnV K d.at_ = d.val := by
  have e := congrArg (fun l => l[i]?) c.exs
  simp only [List.getElem?_map, h, Option.map_some] at e
  exact Option.some.inj e
/-- by name: the class is caught by its clause -/
def catchB (K : PySem.W.Frag) (es : List (Nat × Str)) (c : Nat) (x : Str) : Bool := xfB K (He.ga K x) && (es.all fun p => decide (PySem.W.exmOne K (.ref (He.ga K p.2)) (.ref (He.ga K x)) = some (decide (p.1 = c))))
theorem catchB_ok {K : PySem.W.Frag} {cs : List (Nat × Str)} {fs : List Str} {es : List (Nat × Str)} {c : Nat} {x : Str} (hx : es.lookup c = some x) (h : catchB K es c x = true) : CatchB K (tabOf K cs fs es) c (He.ga K x) := by
  obtain ⟨h1, h2⟩ := He.ba h
  refine ⟨by show (es.lookup c).map (He.ga K) = _; rw [hx]; rfl, xfB_ok h1, fun c' C' e => ?_⟩
  have e : (es.lookup c').map (He.ga K) = some C' := e
  cases q : es.lookup c' with
  | none =>
    rw [q] at e
    cases e
  | some y =>
    rw [q] at e
    cases e
    have key : (c', y) ∈ es := memL q
    exact of_decide_eq_true (List.all_eq_true.mp h2 _ key)
end VM

set_option Elab.async false
set_option linter.all false
set_option maxRecDepth 100000
set_option maxHeartbeats 2000000
/-! VM32: dict(pairs), list(d.values()). -/
namespace VM
open PySem PySem.Spec PyProof PyProof.Rows L2
section
variable {K : PySem.W.Frag} {T : Tab} {w w' : Wd} {s s' : Store} {H H' : Hp} {X : Cx} {W : WX}
def dDictP : D → Option D
  | .lst xs => match pairsO xs with
    | some kvs => (mkDic [] kvs).map .dic
    | none => none
  | _ => none
theorem give_dic (k : SOk K T w s H) {Q : VK} {ys : List (D × D)} {vs : List (Key × V)} (q : ∀ v' H' w', SOk K T w' s H' → Nxt w s H w' s H' → OwnV K T (.own 1) w H w' H' v' (.dic ys) → Q v' H') (r : RepK K T w.F vs ys) (z : ys.length ≤ sizeMax) : ∀ p, H p = none → Q (.ref p) (upd H p (.dK vs)) := fun p hp =>
  q _ _ w (k.other hp) (.other k hp) ⟨[p], .dic upd_same (ownk0 r) z, New.one k hp⟩
theorem keyR_inj {k : Key} {a : D} (h : KeyR k a) : keyD a = true := by
  obtain ⟨h1, _⟩ := h
  cases k <;> cases h1 <;> rfl
theorem pairs_rep {F H : Hp} (fh : FH F H) : ∀ {xs : List D} {vs : List V} {kvs : List (D × D)}, Reps K T F vs xs → pairsO xs = some kvs → (∀ p ∈ kvs, keyD p.1 = true) → ∃ (ps : List Addr) (ks : List (Key × V)), vs = ps.map V.ref ∧ Paired (fun p kv => SqT K H p [kV kv.1, kv.2]) ps ks ∧ RepK K T F ks kvs
  | [], _, _, .nil, h, _ => by
    cases h
    exact ⟨[], [], rfl, .nil, .nil⟩
  | x :: xs, _, kvs, .cons (v := v) (vs := vs) hr r, h, hk => by
    unfold pairsO at h
    split at h
    · cases ‹x :: xs = []›
    · rename_i a b r' e
      cases e
      cases hp : pairsO xs with
      | none =>
        rw [hp] at h
        cases h
      | some kv2 =>
        rw [hp] at h
        cases h
        obtain ⟨ps, ks, rfl, p2, r2⟩ := pairs_rep fh r hp fun p hq => hk p (List.mem_cons_of_mem _ hq)
        obtain ⟨ad, us, rfl, hH, rr, _⟩ := rep_tup hr
        cases rr with
        | @cons u1 d1 us1 ds1 ra ra' =>
          cases ra' with
          | @cons u2 d2 us2 ds2 rb rb' =>
            cases rb' with
            | nil =>
              obtain ⟨kk, rfl, hkr⟩ := keyR_of ra (hk _ List.mem_cons_self)
              exact ⟨ad :: ps, (kk, u2) :: ks, rfl, .cons (sqt_fh K fh hH) p2, .cons hkr rb r2⟩
    · cases h
theorem mkDic_key : ∀ {kvs acc d : List (D × D)}, mkDic acc kvs = some d → ∀ p ∈ kvs, keyD p.1 = true
  | [], _, _, _, p, hp => by cases hp
  | (k, v) :: r, acc, d, h, p, hp => by
    unfold mkDic at h
    cases e : putO acc k v with
    | none =>
      rw [e] at h
      cases h
    | some acc2 =>
      rw [e] at h
      rcases List.mem_cons.mp hp with rfl | hp
      · unfold putO at e
        split at e
        · rename_i q
          exact (Bool.and_eq_true_iff.mp q).1
        · cases e
      · exact mkDic_key h p hp
theorem mkDic_rep {F : Hp} : ∀ {kvs acc d : List (D × D)} {ks as : List (Key × V)}, mkDic acc kvs = some d → RepK K T F ks kvs → RepK K T F as acc → acc.length ≤ sizeMax → RepK K T F (mergeK as ks) d ∧ d.length ≤ sizeMax
  | [], acc, d, _, as, h, .nil, ra, hz => by
    cases h
    exact ⟨ra, hz⟩
  | (k, v) :: r, acc, d, _, as, h, .cons (k := kk) (v := vv) (vs := ks) hk hv rr, ra, hz => by
    unfold mkDic at h
    cases e : putO acc k v with
    | none =>
      rw [e] at h
      cases h
    | some acc2 =>
      rw [e] at h
      unfold putO at e
      split at e
      · rename_i q
        cases e
        obtain ⟨_, q2⟩ := Bool.and_eq_true_iff.mp q
        have q2 := of_decide_eq_true q2
        refine mkDic_rep (as := L2.putK as kk vv) h rr (repK_put hk hv ra) ?_
        unfold putD
        split
        · rw [List.length_map]
          omega
        · rw [List.length_append]
          simp
          omega
      · cases e
theorem rl_dictP : Rl1F K T (fun x H Q => ∃ (a : Addr) (ps : List Addr) (kvs : List (Key × V)), [x] = [.ref a] ∧ SqL K H a (ps.map V.ref) ∧ Paired (fun p kv => SqT K H p [kV kv.1, kv.2]) ps kvs ∧ ∀ p, H p = none → Q (.ref p) (upd H p (.dK (mergeK [] kvs)))) dDictP := fun w s H v x y k r1 hg Q q => by
  cases x with
  | lst xs =>
    unfold dDictP at hg
    dsimp only [] at hg
    cases hp : pairsO xs with
    | none =>
      rw [hp] at hg
      cases hg
    | some kvs =>
      rw [hp] at hg
      cases hm : mkDic [] kvs with
      | none =>
        dsimp only [] at hg
        rw [hm] at hg
        cases hg
      | some d =>
        dsimp only [] at hg
        rw [hm] at hg
        cases hg
        obtain ⟨a, vs, rfl, h, r, z⟩ := r1
        obtain ⟨ps, ks, rfl, p2, r2⟩ := pairs_rep k.fh r hp (mkDic_key hm)
        obtain ⟨r3, z3⟩ := mkDic_rep hm r2 .nil (Nat.zero_le _)
        exact ⟨a, ps, ks, rfl, .of h, p2, give_dic k q r3 z3⟩
  | _ => cases hg
theorem w_bdict {e : Expr} {p pos : Pos} {f : ME} (hK : X.K = K) (hc : X.calm = true) (hm : X.mg "dict" = none) (hg : Gl X "dict") (hp : plain e = true) (h : SE K T .raw X W e f) : SE K T (.own 1) X W (.Call (.Name "dict" p) [e] [] pos) (op1F dDictP f) := by
  subst hK
  exact se_tyF (call_dictP hc) rl_dictP hp hg hm (by decide +kernel) (by decide) (by decide) h
/-! ### list(d.values()) -/
def dVal : D → Option D
  | .dic kvs => some (.lst (kvs.map (·.2)))
  | _ => none
def tListV (td : TE) : TE := fun σ H Q => td σ H fun x H1 => ∃ a kvs, x = .ref a ∧ Rd H1 a (.dK kvs) ∧ ∀ p, H1 p = none → Q (.ref p) (upd H1 p (.lst (kvs.map (·.2))))
theorem pe_listV {e : Expr} {p apos cpos pos : Pos} {td : TE} (hcalm : X.calm = true) (he : PE X e td) (hg : Gl X "list") (hm : X.mg "list" = none) (hv : bootBuiltins "list" = some (.type "list")) (hbase : attributeBase e "values" X.env (eval e X.env) = eval e X.env) (hline : (apos.endLine == cpos.line) = true) :
    PE X (.Call (.Name "list" p) [.Call (.Attribute e "values" apos) [] [] cpos] [] pos) (tListV td) := by
  refine ⟨fun pins sh σ H Q I h => ?_⟩
  refine wpAny_Call_Name_kw (ld_blt I hg hm hv ?_)
  refine PyProof.Rows.callWith_type1 ?_ rfl rfl
  show wpAny _ _ (spliced ((false, eval (.Call (.Attribute e "values" apos) [] [] cpos) X.env) :: backTo pos (starEach [] X.env))) _ _ sh
  refine Calls.spliced_cons ?_
  refine wpAny_Call_method (T := "dict") (id := "dict.values") hbase rfl hline F.plainAttrs_dict F.slot_dict_values F.type_dict_values (thn (he.run pins sh σ H _ I h) fun u s1 ⟨x, H1, I1, rx, d, kvs, ex, hd, q⟩ => ?_)
  subst ex
  obtain rfl : u = Value.ref d := rx
  obtain ⟨z, lo, vs, rel, dd⟩ := dk_rd I1.hok hd
  obtain ⟨ep, hm2⟩ := dd.dictAt
  refine ⟨hm2.dictOf.typeIs, hm2.dictOf.mapOf.noDict, ?_⟩
  have hl : kvs.length = vs.length := rel.length
  have I2 : Inv X pins σ H1 { s1 with heap := s1.heap.push { cls := .type "dict_values", data := .fields #[.ref d] } } := I1.kept (t' := s1.toks) fun b ob q => Heap.get?_push_of_some _ q
  have view : (s1.heap.push { cls := .type "dict_values", data := .fields #[.ref d] }).IsValuesView s1.heap.objs.size d := ⟨_, Heap.get?_push_size _ rfl, rfl, rfl⟩
  show wpAny _ _ (callWith cpos (.builtin "dict.values") [.ref d] [] []) _ X.xe s1
  refine method_meetsIn F.slot_dict_values F.entry_dict_values rfl (PySem.evalArgs_none ⟨rfl, hm2.dictOf.typeIs, F.args_dict_values_1 _, _, meets_dict_values (mixKind X.prog X.w) d lo, ⟨vs, hm2.dictOf⟩, ?_⟩)
  refine Calls.spliced_nil ?_
  refine PySem.W.kdl_call (PySem.W.kdl_values (knd := mixKind X.prog X.w) (kvs := vs) (ep := ep)) (I1.ok.hd hcalm) ⟨view, hm2.push _⟩ (by rw [← hl]; exact z) fun h' tk acc' c' hk hS hacc => ?_
  have hn : H1 (s1.heap.push { cls := .type "dict_values", data := .fields #[.ref d] }).objs.size = none := I2.hok.fresh (Nat.le_refl _)
  have rv : Vals (kvs.map (·.2)) acc'.toList := vals_ix ((List.length_map _).trans (hl.trans (hacc.1.symm.trans Array.length_toList.symm))) fun i v u h1 h2 => by
    obtain ⟨k, e1⟩ := hacc.2 i u (by rw [← Array.getElem?_toList]; exact h2)
    obtain ⟨x, e2, e3⟩ := KV.at' rel e1
    rw [List.getElem?_map, e2] at h1
    cases h1
    exact e3
  refine ⟨.ref _, _, I2.laid (t' := tk) (o := .lst (kvs.map (·.2))) hk (Nat.le_refl _) ⟨by rw [List.length_map]; exact z, acc'.toList, c', rv, by rw [Array.toArray_toList]; exact hS⟩, rfl, q _ hn⟩
theorem se_listV {e : Expr} {p apos cpos pos : Pos} {f : ME} (hcalm : X.calm = true) (he : SE K T .raw X W e f) (hg : Gl X "list") (hm : X.mg "list" = none) (hbase : attributeBase e "values" X.env (eval e X.env) = eval e X.env) (hline : (apos.endLine == cpos.line) = true) :
    SE K T (.own 1) X W (.Call (.Name "list" p) [.Call (.Attribute e "values" apos) [] [] cpos] [] pos) (op1F dVal f) :=
  se_op1F (r := fun x H Q => ∃ a kvs, x = .ref a ∧ Rd H a (.dK kvs) ∧ ∀ p, H p = none → Q (.ref p) (upd H p (.lst (kvs.map (·.2))))) (fun ha => pe_listV hcalm ha hg hm (by decide +kernel) hbase hline) (fun w s H v x y k r1 hx Q q => by
    cases x with
    | dic kvs =>
      cases hx
      obtain ⟨a, ks, rfl, h, r, z⟩ := r1
      exact ⟨a, ks, rfl, h, give_lst k q (repK_vals r) (by rw [List.length_map]; exact z)⟩
    | _ => cases hx) he
end
end VM

set_option Elab.async false
set_option linter.all false
set_option maxRecDepth 100000
set_option maxHeartbeats 2000000
/-! VM33: several targets by a tuple. -/
namespace VM
open PySem PySem.Spec PyProof PyProof.Rows L2
section
variable {K : PySem.W.Frag} {T : Tab} {w w' : Wd} {s s' : Store} {H H' : Hp} {X : Cx} {W : WX}
theorem ownL_mut {F H : Hp} : ∀ {ks : List Nat} {vs : List V} {ds : List D} {P : List Addr}, OwnL K T F H ks vs ds P → ∀ p ∈ P, H p ≠ none
  | _, _, _, _, .nil, p, hp => by cases hp
  | _, _, _, _, .cons h r, p, hp => by
    rcases List.mem_append.mp hp with hp | hp
    · exact (h.mut p hp).some
    · exact ownL_mut r p hp
theorem ownL_keep {F H H' : Hp} : ∀ {ks : List Nat} {vs : List V} {ds : List D} {P : List Addr}, OwnL K T F H ks vs ds P → (∀ p ∈ P, H' p = H p) → OwnL K T F H' ks vs ds P
  | _, _, _, _, .nil, _ => .nil
  | _, _, _, _, .cons h r, hk => .cons (h.sub (Sub.refl _) fun p hp => hk p (List.mem_append_left _ hp)) (ownL_keep r fun p hp => hk p (List.mem_append_right _ hp))
theorem ss_parT2 {rk i j k1 k2 : Nat} {tg : Expr} {es : List Expr} {f : MA} {kt : Nat} {pt pos : Pos} (hK : X.K = K) (ha : SAm K T [k1, k2] X W es f) (hg : PG X tg (L2.gTup X.K 2 (L2.gCons (L2.gName i) (L2.gCons (L2.gName j) L2.gNil)))) (hs : swapsWithSole [tg] (.Tuple es kt pt) pos.line X.env = pure false) (hw : swappedStores [tg] (.Tuple es kt pt) X.env = pure none)
    (h1 : (assignEach [tg] X.env).map (·.2) = [assign tg X.env]) : SS K T rk X W (.Assign [tg] (.Tuple es kt pt) pos) (sPar [k1, k2] [i, j] f) := .mk fun w env s σ H k eo D p => by
  subst hK
  refine wps_of (ps_asg (pe_tup pa_wp) hg hs hw h1) (ha w env s σ H k eo _ (PostS.bind eo p fun vs ds H1 w1 s1 a1 b1 c q => ?_))
  obtain ⟨P, o, nw⟩ := c
  have len := ownL_len o
  match vs, len with
  | [v1, v2], _ =>
    refine ⟨show 2 ≤ sizeLine by decide, fun q' hq => ⟨q', [v1, v2], rfl, .of upd_same, rfl, v1, [v2], rfl, v2, [], rfl, rfl, ?_⟩⟩
    cases hn : nameGo [k1, k2] [i, j] ds env s1 with
    | none =>
      rw [hn] at q
      exact q.elim
    | some r =>
      obtain ⟨e2, s2⟩ := r
      rw [hn] at q
      have o2 := ownL_keep (H' := upd H1 q' (.tup [v1, v2])) o fun p hp => upd_ne fun z => ownL_mut o p hp (by rw [z]; exact hq)
      obtain ⟨w2, x1, x2, x3⟩ := name_all (a1.other hq) (b1.trans (.other a1 hq)) o2 nw (eo.nxt b1) hn
      exact q.giveN x1 x2 x3
end
end VM

set_option Elab.async false
set_option linter.all false
set_option maxRecDepth 100000
set_option maxHeartbeats 2000000
/-! VM34: things of one's own within things of one's own. -/
namespace VM
open PySem PySem.Spec PyProof PyProof.Rows L2
section
variable {K : PySem.W.Frag} {T : Tab} {w w' : Wd} {s s' : Store} {H H' : Hp} {X : Cx} {W : WX}
theorem owns_app {F H : Hp} {k : Nat} : ∀ {vs : List V} {ds : List D} {P : List Addr} {us : List V} {es : List D} {Q : List Addr}, Owns K T F H k vs ds P → Owns K T F H k us es Q → Owns K T F H k (vs ++ us) (ds ++ es) (P ++ Q)
  | _, _, _, _, _, _, .nil, r => r
  | _, _, _, _, _, _, .cons h t, r => by
    rw [List.append_assoc]
    exact .cons h (owns_app t r)
theorem owns_len {F H : Hp} {k : Nat} : ∀ {vs : List V} {ds : List D} {P : List Addr}, Owns K T F H k vs ds P → vs.length = ds.length
  | _, _, _, .nil => rfl
  | _, _, _, .cons _ r => by rw [List.length_cons, List.length_cons, owns_len r]
theorem owns_at {F H : Hp} {k : Nat} : ∀ {vs : List V} {ds : List D} {P : List Addr} {i : Nat} {d : D}, Owns K T F H k vs ds P → ds[i]? = some d → ∃ v P', vs[i]? = some v ∧ Own K T F H k v d P' ∧ P'.Sublist P
  | _, _, _, _, _, .nil, e => by simp at e
  | _, _, _, 0, _, .cons (P := P) (Q := Q) h _, e => by
    cases e
    exact ⟨_, P, rfl, h, List.sublist_append_left P Q⟩
  | _, _, _, i + 1, _, .cons (P := P) (Q := Q) _ r, e => by
    obtain ⟨v, P', h1, h2, h3⟩ := owns_at r (by simpa using e)
    exact ⟨v, P', h1, h2, h3.trans (List.sublist_append_right P Q)⟩
/-! ### x.append(e), e of j levels, x of j + 1 -/
def eAppO (j : Nat) (f g : ME) : ME := fun e s => (f e s).bind fun x s => match peek x s with
  | some (.lst _) => (g e s).bind fun y s => (match x with
    | .ref h => (match s[h]? with
      | some ⟨false, k, some (.lst xs)⟩ => if k = j + 1 ∧ xs.length < sizeMax then .ok .non (s.set h ⟨false, j + 1, some (.lst (xs ++ [y]))⟩) else .bad
      | _ => .bad)
    | _ => .bad)
  | _ => .bad
theorem SOk.addTo {w0 : Wd} {s0 : Store} {H0 : Hp} (k : SOk K T w s H) (n0 : Nxt w0 s0 H0 w s H) {h j : Nat} {ad : Addr} {xs : List D} {y : D} {v : V} {P : List Addr} (he : s[h]? = some ⟨false, j + 1, some (.lst xs)⟩) (hio : w.io[h]? = some ad) (o : Own K T w.F H j v y P) (nw : New w0 H0 w P) (lt : xs.length < sizeMax) :
    ∃ us w', H ad = some (.lst us) ∧ us.length = xs.length ∧ SOk K T w' (s.set h ⟨false, j + 1, some (.lst (xs ++ [y]))⟩) (upd H ad (.lst (us ++ [v]))) ∧ Nxt w0 s0 H0 w' (s.set h ⟨false, j + 1, some (.lst (xs ++ [y]))⟩) (upd H ad (.lst (us ++ [v]))) := by
  obtain ⟨a', Pe, ha', hP, ok⟩ := k.entry he
  rw [hio] at ha'
  cases ha'
  obtain ⟨ow, hq⟩ := ok
  obtain ⟨Q, rfl⟩ := hq (by intro z; cases z)
  have ow : Own K T w.F H (j + 1) (.ref ad) (.lst xs) (ad :: Q) := ow
  cases ow with
  | lst hH r z =>
    rename_i us
    have hin : ∀ p ∈ ad :: Q, p ∈ w.Ps.flatten := fun p hp => mem_flat hP hp
    have nd1 := nodup_flatten k.dis hP
    have hadP : ad ∉ P := fun hp => (nw.out ad hp).2.1 (hin ad List.mem_cons_self)
    have hadQ : ad ∉ Q := (List.nodup_cons.mp nd1).1
    have ne : ∀ p, p ∈ Q ++ P → upd H ad (.lst (us ++ [v])) p = H p := fun p hp => upd_ne fun z => by
      rw [z] at hp
      rcases List.mem_append.mp hp with hp | hp
      · exact hadQ hp
      · exact hadP hp
    have ow2 : Own K T w.F (upd H ad (.lst (us ++ [v]))) (j + 1) (.ref ad) (.lst (xs ++ [y])) (ad :: (Q ++ P)) := by
      refine .lst upd_same ?_ (by rw [List.length_append]; exact lt)
      have r2 := Owns.sub (Sub.refl w.F) r (H' := upd H ad (.lst (us ++ [v]))) fun p hp => ne p (List.mem_append_left _ hp)
      have o2 := Own.sub (Sub.refl w.F) o (H' := upd H ad (.lst (us ++ [v]))) fun p hp => ne p (List.mem_append_right _ hp)
      have := owns_app r2 (.cons o2 .nil)
      rw [List.append_nil] at this
      exact this
    have hFad : w.F ad = none := k.out ad (hin ad List.mem_cons_self)
    have fh2 : FH w.F (upd H ad (.lst (us ++ [v]))) := fun a u ea => by
      rw [upd_ne fun z => by rw [z, hFad] at ea; cases ea]
      exact k.fh a u ea
    have nd2 : (ad :: (Q ++ P)).Nodup := List.nodup_cons.mpr ⟨fun hp => (List.mem_append.mp hp).elim hadQ hadP, List.nodup_append.mpr ⟨(List.nodup_cons.mp nd1).2, nw.nd, fun x hx y hy e => (nw.out y hy).2.1 (by rw [← e]; exact hin x (List.mem_cons_of_mem _ hx))⟩⟩
    have lk : ∀ (h' : Nat) (f : Ent), s0[h']? = some f → f.lk = true → h ≠ h' := fun h' f hf hl q => by
      subst q
      have := (n0.lock h f hf hl).1
      rw [he] at this
      cases this
      cases hl
    refine ⟨us, ⟨w.F, w.io, w.Ps.set h (ad :: (Q ++ P))⟩, hH, owns_len r, k.put (e' := ⟨false, j + 1, some (.lst (xs ++ [y]))⟩) he hio hP (Sub.refl _) fh2 (fun p hp hn => upd_ne fun z => hp (by rw [z]; exact List.mem_cons_self)) ⟨ow2, fun _ => ⟨_, rfl⟩⟩ nd2 (fun p hp => ?_) (fun p hp => ?_) (fun p hp _ => k.out p hp),
      n0.F, n0.io, by rw [List.length_set]; exact n0.len, fun p hp hf hn => ?_, fun h' f hf hl => ?_⟩
    · rcases List.mem_cons.mp hp with rfl | hp
      · exact .inl List.mem_cons_self
      · rcases List.mem_append.mp hp with hp | hp
        · exact .inl (List.mem_cons_of_mem _ hp)
        · exact .inr (nw.out p hp).2.1
    · rcases List.mem_cons.mp hp with rfl | hp
      · exact hFad
      · rcases List.mem_append.mp hp with hp | hp
        · exact k.out p (hin p (List.mem_cons_of_mem _ hp))
        · exact (nw.out p hp).1
    · obtain ⟨x, y', z'⟩ := n0.keep p hp hf hn
      refine ⟨by rw [upd_ne fun q => z' (by rw [q]; exact hin ad List.mem_cons_self)]; exact x, y', fun q => ?_⟩
      rcases (set_flatten_mem hP).mp q with q | ⟨i, R, _, hR, hp'⟩
      · rcases List.mem_cons.mp q with rfl | q
        · exact z' (hin p List.mem_cons_self)
        · rcases List.mem_append.mp q with q | q
          · exact z' (hin p (List.mem_cons_of_mem _ q))
          · rcases (nw.out p q).2.2.2 with y2 | y2
            · exact hp y2
            · exact hn y2
      · exact z' (mem_flat hR hp')
    · obtain ⟨x, y', z'⟩ := n0.lock h' f hf hl
      have nh := lk h' f hf hl
      refine ⟨by rw [List.getElem?_set_ne nh]; exact x, ?_, fun P' hP' p hp => ?_⟩
      · show (w.Ps.set h (ad :: (Q ++ P)))[h']? = w0.Ps[h']?
        rw [List.getElem?_set_ne nh]
        exact y'
      · rw [upd_ne fun q => ?_]
        · exact z' P' hP' p hp
        · subst q
          rw [← y'] at hP'
          exact flatten_apart k.dis hP hP' nh List.mem_cons_self hp
theorem w_appO {j : Nat} {o e : Expr} {apos cpos : Pos} {f g : ME} (hK : X.K = K) (ho : SE K T .raw X W o f) (he : SE K T (.own j) X W e g) (hp : plain e = true) (hb : attributeBase o "append" X.env (eval o X.env) = eval o X.env) (hl : (apos.endLine == cpos.line) = true) :
    SE K T .tree X W (.Call (.Attribute o "append" apos) [e] [] cpos) (eAppO j f g) := .mk fun w env s σ H k eo Q p => by
  subst hK
  refine wpe_of (pe_bm PySem.F.plainAttrs_list PySem.F.slot_list_append PySem.F.type_list_append mt_append pe_wp pa_wp hb (by rw [star_plain hp]; rfl) hl (star_plain hp _ _) tail0) (ho w env s σ H k eo _ (Post.bind p fun v d H1 w1 s1 a1 b1 c1 q => ?_))
  have c1 : RepS X.K T w1 v d := c1
  cases hpk : peek d s1 with
  | none =>
    rw [hpk] at q
    exact q.elim
  | some z0 =>
    rw [hpk] at q
    cases z0 with
    | lst zs =>
      dsimp only [] at q
      obtain ⟨ad, rfl, hz⟩ := peek_ok a1 c1 hpk
      refine ⟨ty_lst (.lst zs) ad H1 rfl hz, ?_⟩
      refine wpa_of (pa_cons pe_wp pa_nil (star_plain hp _ _)) (he w1 env s1 σ H1 a1 (eo.nxt b1) _ (Post.bind (Post.nxt (rel1 := fun w' _ => Rep X.K T w'.F) b1 q fun _ _ _ _ _ _ z => z) fun v2 d2 H2 w2 s2 a2 b2 c2 q2 => ?_))
      have c1' : RepS X.K T w2 (.ref ad) d := RepS.nxt b2 c1
      cases d with
      | ref h =>
        obtain ⟨a', hio, e'⟩ := c1'
        cases e'
        dsimp only [] at q2
        split at q2
        · rename_i kk xs hs2
          split at q2
          · rename_i hk
            obtain ⟨rfl, lt⟩ := hk
            obtain ⟨P, o2, nw⟩ := c2
            obtain ⟨us, w3, hH, hlen, k3, n3⟩ := a2.addTo b2 hs2 hio o2 nw lt
            exact ⟨ad, us, v2, rfl, rfl, hH, by rw [hlen]; exact lt, q2.give k3 n3 .non⟩
          · exact q2.elim
        · exact q2.elim
      | _ =>
        exact q2.elim
    | _ => exact q.elim
/-! ### given away at its level; an item of what is thrown away -/
def eMoveK (k i : Nat) : ME := fun e s => match e[i]? with
  | some (some (.ref h)) => (match s[h]? with
    | some ⟨false, j, some x⟩ => if j = k then .ok x (s.set h ⟨false, 0, none⟩) else .bad
    | _ => .bad)
  | _ => .bad
theorem se_moveK {i j : Nat} {e : Expr} (h : PE X e (tVar i)) : SE K T (.own (j + 1)) X W e (eMoveK (j + 1) i) := .mk fun w env s σ H k eo Q p => by
  unfold eMoveK at p
  split at p
  · rename_i hh q
    split at p
    · rename_i jj x he
      split at p
      · rename_i e0
        subst e0
        obtain ⟨v, h1, a, hio, rfl⟩ := eo.get i _ q
        obtain ⟨a', Pe, ha', hP, ok⟩ := k.entry he
        rw [hio] at ha'
        cases ha'
        obtain ⟨ow, hq⟩ := ok
        obtain ⟨k2, n2⟩ := k.drop he rfl hio hP
        refine wpe_of h ⟨_, h1, p _ H _ k2 n2 ⟨Pe, ow, nodup_flatten k.dis hP, fun r hr => ?_⟩⟩
        refine ⟨k.out r (mem_flat hP hr), fun z => ?_, k.out r (mem_flat hP hr), .inr (mem_flat hP hr)⟩
        rcases (set_flatten_mem hP).mp z with z | ⟨i2, R, ne, hR, hp⟩
        · cases z
        · exact flatten_apart k.dis hP hR (fun q => ne q.symm) hr hp
      · exact p.elim
    · exact p.elim
  · exact p.elim
def eIxO (f g : ME) : ME := fun e s => (f e s).bind fun x s => (g e s).bind fun i s => match x, i with
  | .lst xs, .int i => ofO s (ixO xs i)
  | _, _ => .bad
theorem owns_ix {F H : Hp} {k : Nat} {vs : List V} {ds : List D} {P : List Addr} {i : Int} {d : D} (r : Owns K T F H k vs ds P) (h : ixO ds i = some d) : ∃ v P', atI vs i = some v ∧ Own K T F H k v d P' ∧ P'.Sublist P := by
  rw [ixO_at] at h
  unfold atI at h ⊢
  rw [owns_len r]
  cases e : ixN ds.length i with
  | none =>
    rw [e] at h
    cases h
  | some j =>
    rw [e] at h
    exact owns_at r h
theorem w_ixO {j : Nat} {a b : Expr} {pos : Pos} {f g : ME} (hK : X.K = K) (h1 : SE K T (.own (j + 1)) X W a f) (h2 : SE K T .raw X W b g) (hp : PlainIx b) : SE K T (.own j) X W (.Subscript a b pos) (eIxO f g) := .mk fun w env s σ H k eo Q p => by
  subst hK
  refine wpe_of (pe_ix ix_list pe_wp pe_wp hp) (h1 w env s σ H k eo _ (Post.bind p fun v d H1 w1 s1 a1 b1 c1 q => h2 w1 env s1 σ H1 a1 (eo.nxt b1) _ (Post.step b1 q fun v2 d2 H2 w2 s2 a2 b2 c2 q2 => ?_)))
  obtain ⟨P, o, nw⟩ := c1
  obtain ⟨hk, nw2⟩ := nw.keep o.mut b2
  have o2 := o.sub b2.F hk
  cases d with
  | lst xs =>
    cases d2 with
    | int i =>
      have c2 : Rep X.K T w2.F v2 (.int i) := c2
      cases rep_int c2
      have q2 : Post X.K T W w s σ H (fun w' H' => OwnV X.K T (.own j) w H w' H') Q (ofO s2 (ixO xs i)) := q2
      cases hx : ixO xs i with
      | none =>
        rw [hx] at q2
        exact q2.elim
      | some y =>
        rw [hx] at q2
        cases o2 with
        | flat hc _ => cases hc
        | lst hH r z =>
          obtain ⟨v', P', e1, o3, sl⟩ := owns_ix r hx
          refine ⟨_, _, i, v', rfl, rfl, .of hH, e1, q2.give a2 (b1.trans b2) ⟨P', o3, (List.nodup_cons.mp nw2.nd).2.sublist sl, fun p hp => nw2.out p (List.mem_cons_of_mem _ (sl.subset hp))⟩⟩
    | _ => exact q2.elim
  | _ => exact q2.elim
end
end VM

set_option Elab.async false
set_option linter.all false
set_option maxRecDepth 100000
set_option maxHeartbeats 1000000
/-! VM35: plain lemmas: the store, what is read. -/
namespace VM
section
variable {s : Store} {a b x : Ent} {l : Store}
theorem st_get0 : (s ++ a :: l)[s.length]? = some a := by simp
theorem st_get1 : (s ++ a :: b :: l)[s.length + 1]? = some b := by simp
theorem st_get2 {c : Ent} : (s ++ a :: b :: c :: l)[s.length + 2]? = some c := by simp
theorem st_set0 : (s ++ a :: l).set s.length x = s ++ x :: l := by simp
theorem st_set1 : (s ++ a :: b :: l).set (s.length + 1) x = s ++ a :: x :: l := by simp
theorem st_set2 {c : Ent} : (s ++ a :: b :: c :: l).set (s.length + 2) x = s ++ a :: b :: x :: l := by simp
theorem st_take : (s ++ l).take s.length = s := by simp
theorem st_getP {i : Nat} (h : i < s.length) : (s ++ l)[i]? = s[i]? := List.getElem?_append_left h
theorem st_setP {i : Nat} (h : i < s.length) : (s ++ l).set i x = s.set i x ++ l := by rw [List.set_append_left _ _ h]
end
/-- what d stands for, when it is read -/
inductive Rd : Store → D → D → Prop where
  | tree {s : Store} {d : D} (h : isRef d = false) : Rd s d d
  | ref {s : Store} {h : Nat} {x : D} {lk : Bool} (e : s[h]? = some ⟨lk, 1, some x⟩) : Rd s (.ref h) x
theorem Rd.view {s : Store} {d x : D} (r : Rd s d x) : view s d = some x := by
  cases r with
  | tree h => cases d <;> first | rfl | cases h
  | ref e => unfold VM.view; dsimp only []; rw [e]
theorem Rd.open {s : Store} {d x : D} (r : Rd s d x) : open1 d s = .ok x s := by
  cases r with
  | tree h => cases d <;> first | rfl | cases h
  | ref e => rename_i lk; unfold VM.open1; dsimp only []; rw [e]
theorem Rd.app {s : Store} {d x : D} {l : Store} (r : Rd s d x) : Rd (s ++ l) d x := by
  cases r with
  | tree h => exact .tree h
  | ref e => exact .ref (by rw [st_getP (List.getElem?_eq_some_iff.mp e).1]; exact e)
theorem lock_ref {s : Store} {h : Nat} {x : D} (e : s[h]? = some ⟨false, 1, some x⟩) : lockOf (.ref h) s = (s.set h ⟨true, 1, some x⟩, some h) := by
  unfold lockOf
  dsimp only []
  rw [e]
theorem unlock_set {s : Store} {h : Nat} {x : D} (e : s[h]? = some ⟨false, 1, some x⟩) : unlock (some h) (s.set h ⟨true, 1, some x⟩) = s := by
  have lt := (List.getElem?_eq_some_iff.mp e).1
  unfold unlock
  dsimp only []
  rw [List.getElem?_set_self lt]
  dsimp only []
  rw [List.set_set]
  have := (List.getElem?_eq_some_iff.mp e).2
  rw [← this, List.set_getElem_self]
/-! ### lists walked, item by item -/
theorem lcGo_map {g : MG} {t : MT} {f : ME} {e0 : Env} {α : Type} {φ ψ : α → D} {s : Store} : ∀ (xs : List α) (acc : List D), (∀ a ∈ xs, ∃ e, g e0 (φ a) = some e ∧ t e s = .ok true s ∧ f e s = .ok (ψ a) s) → acc.length + xs.length ≤ sizeMax →
    lcGo g t f e0 (xs.map φ) acc s = .ok (acc ++ xs.map ψ) s
  | [], acc, _, _ => by simp [lcGo]
  | a :: xs, acc, h, hl => by
    obtain ⟨e, h1, h2, h3⟩ := h a List.mem_cons_self
    rw [List.length_cons] at hl
    have ih := lcGo_map xs (acc ++ [ψ a]) (fun b hb => h b (List.mem_cons_of_mem _ hb)) (by rw [List.length_append]; simp; omega)
    rw [List.map_cons]
    unfold lcGo
    rw [h1]
    dsimp only []
    rw [h2]
    dsimp only []
    rw [h3]
    dsimp only []
    rw [if_pos (by omega), ih]
    simp
theorem lcGo_filter {g : MG} {t : MT} {f : ME} {e0 : Env} {α : Type} {φ ψ : α → D} {p : α → Bool} {s : Store} : ∀ (xs : List α) (acc : List D), (∀ a ∈ xs, ∃ e, g e0 (φ a) = some e ∧ t e s = .ok (p a) s ∧ (p a = true → f e s = .ok (ψ a) s)) → acc.length + xs.length ≤ sizeMax →
    lcGo g t f e0 (xs.map φ) acc s = .ok (acc ++ (xs.filter p).map ψ) s
  | [], acc, _, _ => by simp [lcGo]
  | a :: xs, acc, h, hl => by
    obtain ⟨e, h1, h2, h3⟩ := h a List.mem_cons_self
    rw [List.length_cons] at hl
    rw [List.map_cons]
    unfold lcGo
    rw [h1]
    dsimp only []
    rw [h2]
    cases q : p a with
    | true =>
      have ih := lcGo_filter (p := p) xs (acc ++ [ψ a]) (fun b hb => h b (List.mem_cons_of_mem _ hb)) (by rw [List.length_append]; simp; omega)
      dsimp only []
      rw [h3 q]
      dsimp only []
      rw [if_pos (by omega), ih]
      simp [q]
    | false =>
      have ih := lcGo_filter (p := p) xs acc (fun b hb => h b (List.mem_cons_of_mem _ hb)) (by omega)
      dsimp only []
      rw [ih]
      simp [q]
/-! ### == of plain things -/
theorem eqN_int (a b : Int) : eqN (.int a) (.int b) = some (a == b) := rfl
theorem eqN_str (a b : List Nat) : eqN (.str a) (.str b) = some (a == b) := rfl
theorem eqN_pair (a b c d : Int) : eqN (.tup [.int a, .int b]) (.tup [.int c, .int d]) = some (decide ((a, b) = (c, d))) := by
  show (match allO (List.zipWith (eqO 39) [D.int a, D.int b] [D.int c, D.int d]) with
    | none => none
    | some e => some (e && _)) = _
  simp [allO, eqO]
  congr 1 <;> exact Bool.eq_iff_iff.mpr (by simp)
theorem memO_pairs (p : Int × Int) : ∀ l : List (Int × Int), memO (.tup [.int p.1, .int p.2]) (l.map fun q => .tup [.int q.1, .int q.2]) = some (decide (p ∈ l))
  | [] => by simp [memO]
  | q :: l => by
    rw [List.map_cons]
    unfold memO
    rw [eqN_pair, memO_pairs p l]
    simp only [List.mem_cons, Option.some.injEq]
    rw [← Bool.decide_or]
    congr 1
    exact propext ⟨fun h => h.elim (fun e => .inl (by obtain ⟨a, b⟩ := p; obtain ⟨c, d⟩ := q; cases e; rfl)) .inr, fun h => h.elim (fun e => .inl (by rw [e])) .inr⟩
section
variable {s : Store}
theorem open_int {i : Int} : open1 (.int i) s = .ok (.int i) s := rfl
theorem view_int {i : Int} : VM.view s (.int i) = some (.int i) := rfl
theorem frozen_int {i : Int} : frozen (.int i) s = .ok (.int i) s := rfl
theorem open_str {z : List Nat} : open1 (.str z) s = .ok (.str z) s := rfl
theorem view_str {z : List Nat} : VM.view s (.str z) = some (.str z) := rfl
theorem frozen_str {z : List Nat} : frozen (.str z) s = .ok (.str z) s := rfl
theorem open_bl {b : Bool} : open1 (.bl b) s = .ok (.bl b) s := rfl
theorem view_bl {b : Bool} : VM.view s (.bl b) = some (.bl b) := rfl
theorem frozen_bl {b : Bool} : frozen (.bl b) s = .ok (.bl b) s := rfl
theorem open_non  : open1 (.non) s = .ok (.non) s := rfl
theorem view_non  : VM.view s (.non) = some (.non) := rfl
theorem frozen_non  : frozen (.non) s = .ok (.non) s := rfl
theorem open_tup {l : List D} : open1 (.tup l) s = .ok (.tup l) s := rfl
theorem view_tup {l : List D} : VM.view s (.tup l) = some (.tup l) := rfl
theorem frozen_tup {l : List D} : frozen (.tup l) s = .ok (.tup l) s := rfl
theorem open_lst {l : List D} : open1 (.lst l) s = .ok (.lst l) s := rfl
theorem view_lst {l : List D} : VM.view s (.lst l) = some (.lst l) := rfl
theorem frozen_lst {l : List D} : frozen (.lst l) s = .ok (.lst l) s := rfl
theorem open_dic {l : List (D × D)} : open1 (.dic l) s = .ok (.dic l) s := rfl
theorem view_dic {l : List (D × D)} : VM.view s (.dic l) = some (.dic l) := rfl
theorem frozen_dic {l : List (D × D)} : frozen (.dic l) s = .ok (.dic l) s := rfl
theorem open_ins {c : Nat} {l : List (Nat × D)} : open1 (.ins c l) s = .ok (.ins c l) s := rfl
theorem view_ins {c : Nat} {l : List (Nat × D)} : VM.view s (.ins c l) = some (.ins c l) := rfl
theorem frozen_ins {c : Nat} {l : List (Nat × D)} : frozen (.ins c l) s = .ok (.ins c l) s := rfl
theorem ofO_some {α : Type} {x : α} : ofO s (some x) = .ok x s := rfl
theorem bind_ok {α β : Type} {x : α} {f : α → Store → R β} : R.bind (.ok x s) f = f x s := rfl
end
/-! ### one construct at a time -/
section
variable {e e1 : Env} {s s1 s2 s3 s4 : Store} {f f1 f2 : ME} {a : MA} {t u : MT} {m n : MS} {x y x' y' z d : D} {ds : List D} {b : Bool}
theorem op2_at {g : D → D → Option D} (h1 : f1 e s = .ok x s1) (h2 : f2 e s1 = .ok y s2) (v1 : VM.view s2 x = some x') (v2 : VM.view s2 y = some y') (hg : g x' y' = some z) : op2 g f1 f2 e s = .ok z s2 := by
  unfold op2
  rw [h1, bind_ok, h2, bind_ok, v1, v2]
  dsimp only []
  rw [hg]
  rfl
theorem op2F_at {g : D → D → Option D} (h1 : f1 e s = .ok x s1) (h2 : f2 e s1 = .ok y s2) (o1 : open1 x s2 = .ok x' s3) (o2 : open1 y s3 = .ok y' s4) (hg : g x' y' = some z) : op2F g f1 f2 e s = .ok z s4 := by
  unfold op2F
  rw [h1, bind_ok, h2, bind_ok, o1, bind_ok, o2, bind_ok, hg]
  rfl
theorem op1_at {g : D → Option D} (h1 : f1 e s = .ok x s1) (v1 : VM.view s1 x = some x') (hg : g x' = some z) : op1 g f1 e s = .ok z s1 := by
  unfold op1
  rw [h1, bind_ok, v1]
  dsimp only []
  rw [hg]
  rfl
theorem op1F_at {g : D → Option D} (h1 : f1 e s = .ok x s1) (o1 : open1 x s1 = .ok x' s2) (hg : g x' = some z) : op1F g f1 e s = .ok z s2 := by
  unfold op1F
  rw [h1, bind_ok, o1, bind_ok, hg]
  rfl
theorem tE_at (h : f e s = .ok (.bl b) s1) : tE f e s = .ok b s1 := by
  unfold tE
  rw [h, bind_ok]
theorem tNot_at (h : t e s = .ok b s1) : tNot t e s = .ok (!b) s1 := by
  unfold tNot
  rw [h, bind_ok]
theorem tOr_t (h : t e s = .ok true s1) : tOr t u e s = .ok true s1 := by
  unfold tOr
  rw [h, bind_ok]
  rfl
theorem tOr_f (h : t e s = .ok false s1) : tOr t u e s = u e s1 := by
  unfold tOr
  rw [h, bind_ok]
  rfl
theorem tAnd_t (h : t e s = .ok true s1) : tAnd t u e s = u e s1 := by
  unfold tAnd
  rw [h, bind_ok]
  rfl
theorem tAnd_f (h : t e s = .ok false s1) : tAnd t u e s = .ok false s1 := by
  unfold tAnd
  rw [h, bind_ok]
  rfl
theorem sIf_t (h : t e s = .ok true s1) : sIf t m n e s = m e s1 := by
  unfold sIf RSb
  rw [h]
  rfl
theorem sIf_f (h : t e s = .ok false s1) : sIf t m n e s = n e s1 := by
  unfold sIf RSb
  rw [h]
  rfl
theorem sRet_at (h : f e s = .ok d s1) : sRet f e s = .ret d s1 := by
  unfold sRet RSb
  rw [h]
theorem sExpr_at (h : f e s = .ok d s1) : sExpr f e s = .nx e s1 := by
  unfold sExpr RSb
  rw [h]
theorem aCons_at (h : f e s = .ok d s1) (r : a e s1 = .ok ds s2) : aCons f a e s = .ok (d :: ds) s2 := by
  unfold aCons
  rw [h, bind_ok, r, bind_ok]
theorem eCall_at {fn : Fn} (h : a e s = .ok ds s1) (hn : ds.length = fn.np) : eCall fn a e s = fn.sem ds s1 := by
  unfold eCall
  rw [h, bind_ok, if_pos hn]
theorem eRaw_at {i : Nat} (h : e[i]? = some (some d)) : eRaw i e s = .ok d s := by
  unfold eRaw
  rw [h]
theorem eGet_at {i : Nat} (h : e[i]? = some (some d)) (hf : frozen d s = .ok d s) : eGet i e s = .ok d s := by
  unfold eGet eFrozen
  rw [eRaw_at h, bind_ok, hf]
theorem eTup_at (h : a e s = .ok ds s1) (hz : ds.length ≤ sizeMax) : eTup a e s = .ok (.tup ds) s1 := by
  unfold eTup
  rw [h, bind_ok, if_pos hz]
theorem eLst_at (h : a e s = .ok ds s1) (hz : ds.length ≤ sizeMax) : eLst a e s = .ok (.lst ds) s1 := by
  unfold eLst
  rw [h, bind_ok, if_pos hz]
/-- a comprehension over a list that nobody else holds -/
theorem eLc_map {own : List Nat} {g : MG} {α : Type} {φ ψ : α → D} {it : ME} (xs : List α) (h : it e s = .ok (.lst (xs.map φ)) s) (hi : ∀ q ∈ xs, ∃ e', g (wipe e own) (φ q) = some e' ∧ t e' s = .ok true s ∧ f e' s = .ok (ψ q) s) (hz : xs.length ≤ sizeMax) :
    eLc own (iSeqA it) g t f e s = .ok (.lst (xs.map ψ)) s := by
  have i : iSeqA it e s = .ok (xs.map φ, none) s := by
    unfold iSeqA
    rw [h, bind_ok]
    rfl
  unfold eLc
  rw [i, bind_ok]
  dsimp only []
  rw [lcGo_map xs [] hi (by rw [List.length_nil]; omega)]
  rfl
theorem eLc_rd {own : List Nat} {g : MG} {α : Type} {φ ψ : α → D} {p : α → Bool} {it : ME} (xs : List α) (h : it e s = .ok d s) (hr : s1 = (lockOf d s).1) (hv : VM.view s d = some (.lst (xs.map φ))) (ho : open1 d s = .ok (.lst (xs.map φ)) s) (hu : unlock (lockOf d s).2 s1 = s)
    (hi : ∀ q ∈ xs, ∃ e', g (wipe e own) (φ q) = some e' ∧ t e' s1 = .ok (p q) s1 ∧ (p q = true → f e' s1 = .ok (ψ q) s1)) (hz : xs.length ≤ sizeMax) :
    eLc own (iSeqA it) g t f e s = .ok (.lst ((xs.filter p).map ψ)) s := by
  subst hr
  have i : iSeqA it e s = .ok (xs.map φ, (lockOf d s).2) (lockOf d s).1 := by
    unfold iSeqA
    rw [h, bind_ok, hv]
    dsimp only []
    rw [ho, bind_ok]
  unfold eLc
  rw [i, bind_ok]
  dsimp only []
  rw [lcGo_filter (p := p) xs [] hi (by rw [List.length_nil]; omega)]
  dsimp only []
  rw [hu]
  rfl
end
theorem eMut_at {e : Env} {s s1 s2 : Store} {ty : D → Bool} {g : D → List D → Option (D × D)} {f : ME} {a : MA} {h : Nat} {x x2 res z : D} {ds : List D} (h1 : f e s = .ok (.ref h) s1) (pk : s1[h]? = some ⟨false, 1, some x⟩) (ht : ty x = true) (ha : a e s1 = .ok ds s2) (tk : s2[h]? = some ⟨false, 1, some x2⟩) (hg : g x2 ds = some (res, z)) :
    eMut ty g f a e s = .ok res (s2.set h ⟨false, 1, some z⟩) := by
  have p : peek (.ref h) s1 = some x := by unfold peek; dsimp only []; rw [pk]
  have q : take1 (.ref h) s2 = .ok (h, x2) (s2.set h ⟨false, 1, some x2⟩) := by unfold take1; dsimp only []; rw [tk]
  unfold eMut
  rw [h1, bind_ok, p]
  simp only [ht, if_true]
  rw [ha, bind_ok, q, bind_ok]
  dsimp only []
  rw [hg]
  dsimp only []
  rw [List.set_set]
section
variable {e e' : Env} {s s1 s' : Store} {t : MT} {m : MS} {n : Nat} {d : D}
theorem whileGo_f (h : t e s = .ok false s1) : whileGo t m (n + 1) e s = .nx e s1 := by
  unfold whileGo RSb
  rw [h]
  rfl
theorem whileGo_nx (h : t e s = .ok true s1) (q : m e s1 = .nx e' s') : whileGo t m (n + 1) e s = whileGo t m n e' s' := by
  rw [whileGo]
  unfold RSb
  rw [h]
  dsimp only []
  rw [q]
  rfl
theorem whileGo_ret (h : t e s = .ok true s1) (q : m e s1 = .ret d s') : whileGo t m (n + 1) e s = .ret d s' := by
  rw [whileGo]
  unfold RSb
  rw [h]
  dsimp only []
  rw [q]
  rfl
theorem sCons_ret {m n : MS} (q : m e s = .ret d s') : sCons m n e s = .ret d s' := by
  unfold sCons
  rw [q]
theorem sCons_exc {m n : MS} {c : Nat} {fs : List (Nat × D)} (q : m e s = .exc c fs e' s') : sCons m n e s = .exc c fs e' s' := by
  unfold sCons
  rw [q]
end
end VM

set_option Elab.async false
set_option linter.all false
set_option maxRecDepth 100000
set_option maxHeartbeats 1000000
/-! VM36: rows of programs; ways through them. -/
namespace VM
abbrev restS : List Nat := [114, 101, 115, 116]
abbrev insideS : List Nat := [105, 110, 115, 105, 100, 101]
abbrev writeS : List Nat := [119, 114, 105, 116, 101]
abbrev readS : List Nat := [114, 101, 97, 100]
/-- a row -/
inductive RW where
  | rest (j : Nat) | inside (j : Nat) | write (c : List Nat) (x : Nat) (j : Nat) | read (c : List Nat) (cs : List (Nat × Nat)) (j : Nat)
def csD (cs : List (Nat × Nat)) : List (D × D) := cs.map fun p => (.int p.1, .int p.2)
def RW.d : RW → D
  | .rest j => .tup [.str restS, .int j]
  | .inside j => .tup [.str insideS, .int j]
  | .write c x j => .tup [.str writeS, .str c, .int x, .int j]
  | .read c cs j => .tup [.str readS, .str c, .dic (csD cs), .int j]
def RW.sort : RW → List Nat
  | .rest _ => restS
  | .inside _ => insideS
  | .write _ _ _ => writeS
  | .read _ _ _ => readS
def RW.last : RW → Nat
  | .rest j => j
  | .inside j => j
  | .write _ _ j => j
  | .read _ _ j => j
def RW.next : RW → List Nat
  | .read _ cs j => j :: cs.map (·.2)
  | r => [r.last]
def RW.isRest : RW → Bool
  | .rest _ => true
  | _ => false
def RW.isIn : RW → Bool
  | .inside _ => true
  | _ => false
def nD (xs : List Nat) : List D := xs.map fun (j : Nat) => D.int j
def rowsD (rs : List RW) : D := .lst (rs.map RW.d)
theorem ix0 (r : RW) : dIx r.d (.int 0) = some (.str r.sort) := by cases r <;> rfl
theorem ixL (r : RW) : dIx r.d (.int (-1)) = some (.int r.last) := by cases r <;> rfl
theorem d_ref (r : RW) : isRef r.d = false := by cases r <;> rfl
theorem open_d (r : RW) (s : Store) : open1 r.d s = .ok r.d s := by cases r <;> rfl
theorem view_d (r : RW) (s : Store) : VM.view s r.d = some r.d := by cases r <;> rfl
theorem frozen_d (r : RW) (s : Store) : frozen r.d s = .ok r.d s := by cases r <;> rfl
theorem ixRow {rs : List RW} {i : Nat} {r : RW} (h : rs[i]? = some r) : dIx (rowsD rs) (.int i) = some r.d := by
  show ixO (rs.map RW.d) (i : Int) = _
  unfold ixO
  rw [if_pos (by omega)]
  simp [h]
theorem sz : sizeMax = 16777216 := rfl
/-! ### ways -/
def inc (r : RW) (c : Nat) : Nat := if r.isIn then c + 1 else c
def badN (r : RW) (c : Nat) : Bool := decide (1 < c) || (r.isRest && decide (c = 0))
inductive Reach (rs : List RW) (first : RW) : Nat → Nat → Prop where
  | init {f : Nat} (h : f ∈ first.next) : Reach rs first f 0
  | step {p c f : Nat} {r : RW} (h : Reach rs first p c) (hr : rs[p]? = some r) (hb : badN r (inc r c) = false) (hn : r.isRest = false) (hf : f ∈ r.next) : Reach rs first f (inc r c)
def Good (rs : List RW) (first : RW) : Prop := ∀ p c r, Reach rs first p c → rs[p]? = some r → badN r (inc r c) = false
/-- followers are rows -/
def Closed (rs : List RW) : Prop := ∀ r ∈ rs, (∀ f ∈ r.next, f < rs.length) ∧ r.next.length ≤ 4
theorem reach_lt {rs : List RW} {first : RW} (hc : Closed rs) (hf : first ∈ rs) {p c : Nat} (h : Reach rs first p c) : p < rs.length := by
  cases h with
  | init h => exact (hc _ hf).1 _ h
  | step h hr hb hn hf' => exact (hc _ (List.mem_of_getElem? hr)).1 _ hf'
theorem inc_le {r : RW} {c : Nat} (h : badN r (inc r c) = false) : inc r c ≤ 1 := by
  unfold badN at h
  rw [Bool.or_eq_false_iff] at h
  have := of_decide_eq_false h.1
  omega
theorem reach_c {rs : List RW} {first : RW} {p c : Nat} (h : Reach rs first p c) : c ≤ 1 := by
  cases h with
  | init _ => omega
  | step h hr hb hn hf => exact inc_le hb
/-- all pairs -/
def univ (n : Nat) : List (Nat × Nat) := (List.range n).flatMap fun p => [(p, 0), (p, 1)]
theorem mem_univ {n p c : Nat} (h1 : p < n) (h2 : c ≤ 1) : (p, c) ∈ univ n := by
  unfold univ
  rw [List.mem_flatMap]
  refine ⟨p, List.mem_range.mpr h1, ?_⟩
  have : c = 0 ∨ c = 1 := by omega
  rcases this with rfl | rfl <;> simp
theorem univ_len (n : Nat) : (univ n).length = 2 * n := by
  unfold univ
  induction n with
  | zero => rfl
  | succ n ih =>
    rw [List.range_succ, List.flatMap_append, List.length_append, ih]
    simp
    omega
/-- how many are not in it -/
def left (u seen : List (Nat × Nat)) : Nat := (u.filter fun x => !decide (x ∈ seen)).length
theorem left_le (u : List (Nat × Nat)) {seen more : List (Nat × Nat)} (h : ∀ x ∈ seen, x ∈ more) : left u more ≤ left u seen := by
  unfold left
  induction u with
  | nil => exact Nat.le_refl _
  | cons x u ih =>
    rw [List.filter_cons, List.filter_cons]
    by_cases h1 : x ∈ seen
    · have h2 := h x h1
      simp only [h1, h2, decide_true, Bool.not_true, if_false, Bool.false_eq_true]
      exact ih
    · simp only [h1, decide_false, Bool.not_false, if_true]
      split
      · rw [List.length_cons, List.length_cons]
        omega
      · rw [List.length_cons]
        omega
theorem left_lt {u : List (Nat × Nat)} {seen more : List (Nat × Nat)} {y : Nat × Nat} (h : ∀ x ∈ seen, x ∈ more) (hu : y ∈ u) (h1 : y ∉ seen) (h2 : y ∈ more) : left u more < left u seen := by
  induction u with
  | nil => cases hu
  | cons x u ih =>
    have le := left_le u h
    unfold left at ih le ⊢
    rw [List.filter_cons, List.filter_cons]
    rcases List.mem_cons.mp hu with rfl | hu
    · simp only [h1, h2, decide_true, decide_false, Bool.not_true, Bool.not_false, if_true, if_false, Bool.false_eq_true, List.length_cons]
      omega
    · have := ih hu
      by_cases e1 : x ∈ seen
      · have e2 := h x e1
        simp only [e1, e2, decide_true, Bool.not_true, if_false, Bool.false_eq_true]
        exact this
      · simp only [e1, decide_false, Bool.not_false, if_true]
        split
        · rw [List.length_cons, List.length_cons]
          omega
        · rw [List.length_cons]
          omega
theorem left_all (u seen : List (Nat × Nat)) : left u seen ≤ u.length := List.length_filter_le _ _
/-! ### the package's search: a stack -/
def Proc (rs : List RW) (seen : List (Nat × Nat)) (x : Nat × Nat) : Prop := ∃ r, rs[x.1]? = some r ∧ badN r (inc r x.2) = false ∧ (r.isRest = true ∨ (x.1, inc r x.2) ∈ seen)
structure InvA (rs : List RW) (first : RW) (todo seen : List (Nat × Nat)) : Prop where
  re : ∀ x ∈ todo, Reach rs first x.1 x.2
  sn : ∀ x ∈ seen, ∃ r, rs[x.1]? = some r ∧ x.2 ≤ 1 ∧ ∀ f ∈ r.next, (f, x.2) ∈ todo ∨ Proc rs seen (f, x.2)
  st : ∀ f ∈ first.next, (f, 0) ∈ todo ∨ Proc rs seen (f, 0)
theorem Proc.mono {rs : List RW} {seen more : List (Nat × Nat)} (h : ∀ x ∈ seen, x ∈ more) {x : Nat × Nat} (p : Proc rs seen x) : Proc rs more x := by
  obtain ⟨r, h1, h2, h3⟩ := p
  exact ⟨r, h1, h2, h3.imp id (h _)⟩
theorem invA_start {rs : List RW} {first : RW} : InvA rs first (first.next.map fun f => (f, 0)) [] :=
  ⟨fun x hx => by
    obtain ⟨f, hf, rfl⟩ := List.mem_map.mp hx
    exact .init hf, fun x hx => (by cases hx), fun f hf => .inl (List.mem_map.mpr ⟨f, hf, rfl⟩)⟩
theorem invA_end {rs : List RW} {first : RW} {seen : List (Nat × Nat)} (i : InvA rs first [] seen) : Good rs first := by
  have key : ∀ p c, Reach rs first p c → Proc rs seen (p, c) := by
    intro p c h
    induction h with
    | init hf => exact (i.st _ hf).resolve_left (by simp)
    | step h hr hb hn hf ih =>
      obtain ⟨r', e1, _, e3⟩ := ih
      rw [hr] at e1
      cases e1
      rcases e3 with e3 | e3
      · rw [hn] at e3
        cases e3
      · obtain ⟨r2, q1, _, q2⟩ := i.sn _ e3
        rw [hr] at q1
        cases q1
        exact (q2 _ hf).resolve_left (by simp)
  intro p c r h hr
  obtain ⟨r', e1, e2, _⟩ := key p c h
  rw [hr] at e1
  cases e1
  exact e2
/-- popped: done already, or at rest -/
theorem invA_skip {rs : List RW} {first : RW} {todo seen : List (Nat × Nat)} {p c : Nat} {r : RW} (i : InvA rs first (todo ++ [(p, c)]) seen) (hr : rs[p]? = some r) (hb : badN r (inc r c) = false) (h : r.isRest = true ∨ (p, inc r c) ∈ seen) : InvA rs first todo seen := by
  have key : ∀ y, y ∈ todo ++ [(p, c)] ∨ Proc rs seen y → y ∈ todo ∨ Proc rs seen y := fun y hy => by
    rcases hy with hy | hy
    · rcases List.mem_append.mp hy with hy | hy
      · exact .inl hy
      · cases List.mem_singleton.mp hy
        exact .inr ⟨r, hr, hb, h⟩
    · exact .inr hy
  exact ⟨fun x hx => i.re x (List.mem_append_left _ hx), fun x hx => by
    obtain ⟨r2, h1, h2, h3⟩ := i.sn x hx
    exact ⟨r2, h1, h2, fun f hf => key _ (h3 f hf)⟩, fun f hf => key _ (i.st f hf)⟩
/-- popped, and its followers put -/
theorem invA_push {rs : List RW} {first : RW} {todo seen : List (Nat × Nat)} {p c : Nat} {r : RW} (i : InvA rs first (todo ++ [(p, c)]) seen) (hr : rs[p]? = some r) (hb : badN r (inc r c) = false) (hn : r.isRest = false) :
    InvA rs first (todo ++ r.next.map fun f => (f, inc r c)) (seen ++ [(p, inc r c)]) := by
  have hx : Reach rs first p c := i.re (p, c) (by simp)
  have mono : ∀ x ∈ seen, x ∈ seen ++ [(p, inc r c)] := fun x hx => List.mem_append_left _ hx
  have key : ∀ y, y ∈ todo ++ [(p, c)] ∨ Proc rs seen y → y ∈ (todo ++ r.next.map fun f => (f, inc r c)) ∨ Proc rs (seen ++ [(p, inc r c)]) y := fun y hy => by
    rcases hy with hy | hy
    · rcases List.mem_append.mp hy with hy | hy
      · exact .inl (List.mem_append_left _ hy)
      · cases List.mem_singleton.mp hy
        exact .inr ⟨r, hr, hb, .inr (by simp)⟩
    · exact .inr (hy.mono mono)
  refine ⟨fun x hx' => ?_, fun x hx' => ?_, fun f hf => key _ (i.st f hf)⟩
  · rcases List.mem_append.mp hx' with h | h
    · exact i.re x (List.mem_append_left _ h)
    · obtain ⟨f, hf, rfl⟩ := List.mem_map.mp h
      exact .step hx hr hb hn hf
  · rcases List.mem_append.mp hx' with h | h
    · obtain ⟨r2, h1, h2, h3⟩ := i.sn x h
      exact ⟨r2, h1, h2, fun f hf => key _ (h3 f hf)⟩
    · cases List.mem_singleton.mp h
      exact ⟨r, hr, inc_le hb, fun f hf => .inl (List.mem_append_right _ (List.mem_map.mpr ⟨f, hf, rfl⟩))⟩
/-! ### the law's search: a list gone through -/
structure InvB (rs : List RW) (first : RW) (found : List (Nat × Nat)) (at_ : Nat) : Prop where
  re : ∀ x ∈ found, Reach rs first x.1 x.2
  st : ∀ f ∈ first.next, (f, 0) ∈ found
  le : at_ ≤ found.length
  dn : ∀ i x, i < at_ → found[i]? = some x → ∃ r, rs[x.1]? = some r ∧ badN r (inc r x.2) = false ∧ (r.isRest = true ∨ ∀ f ∈ r.next, (f, inc r x.2) ∈ found)
theorem invB_start {rs : List RW} {first : RW} : InvB rs first (first.next.map fun f => (f, 0)) 0 :=
  ⟨fun x hx => by
    obtain ⟨f, hf, rfl⟩ := List.mem_map.mp hx
    exact .init hf, fun f hf => List.mem_map.mpr ⟨f, hf, rfl⟩, Nat.zero_le _, fun i x h => by omega⟩
theorem invB_end {rs : List RW} {first : RW} {found : List (Nat × Nat)} (i : InvB rs first found found.length) : Good rs first := by
  have key : ∀ p c, Reach rs first p c → (p, c) ∈ found := by
    intro p c h
    induction h with
    | init hf => exact i.st _ hf
    | step h hr hb hn hf ih =>
      obtain ⟨k, hk⟩ := List.getElem?_of_mem ih
      obtain ⟨r', e1, _, e3⟩ := i.dn k _ (List.getElem?_eq_some_iff.mp hk).1 hk
      rw [hr] at e1
      cases e1
      rcases e3 with e3 | e3
      · rw [hn] at e3
        cases e3
      · exact e3 _ hf
  intro p c r h hr
  obtain ⟨k, hk⟩ := List.getElem?_of_mem (key p c h)
  obtain ⟨r', e1, e2, _⟩ := i.dn k _ (List.getElem?_eq_some_iff.mp hk).1 hk
  rw [hr] at e1
  cases e1
  exact e2
theorem invB_step {rs : List RW} {first : RW} {found more : List (Nat × Nat)} {at_ p c : Nat} {r : RW} (i : InvB rs first found at_) (hx : found[at_]? = some (p, c)) (hr : rs[p]? = some r) (hb : badN r (inc r c) = false)
    (hm : r.isRest = true ∧ more = [] ∨ r.isRest = false ∧ more = (r.next.map fun f => (f, inc r c)).filter fun x => !decide (x ∈ found)) : InvB rs first (found ++ more) (at_ + 1) := by
  have hre : Reach rs first p c := i.re (p, c) (List.mem_of_getElem? hx)
  have lt := (List.getElem?_eq_some_iff.mp hx).1
  refine ⟨fun x hx' => ?_, fun f hf => List.mem_append_left _ (i.st f hf), by rw [List.length_append]; omega, fun k x hk hx' => ?_⟩
  · rcases List.mem_append.mp hx' with h | h
    · exact i.re x h
    · rcases hm with ⟨_, rfl⟩ | ⟨hn, rfl⟩
      · cases h
      · obtain ⟨f, hf, rfl⟩ := List.mem_map.mp (List.mem_filter.mp h).1
        exact .step hre hr hb hn hf
  · have hk' : k < found.length := by omega
    rw [List.getElem?_append_left hk'] at hx'
    by_cases e : k = at_
    · subst e
      rw [hx] at hx'
      cases hx'
      refine ⟨r, hr, hb, ?_⟩
      rcases hm with ⟨h, _⟩ | ⟨_, rfl⟩
      · exact .inl h
      · refine .inr fun f hf => ?_
        by_cases q : (f, inc r c) ∈ found
        · exact List.mem_append_left _ q
        · exact List.mem_append_right _ (List.mem_filter.mpr ⟨List.mem_map.mpr ⟨f, hf, rfl⟩, by simpa using q⟩)
    · obtain ⟨r2, h1, h2, h3⟩ := i.dn k x (by omega) hx'
      exact ⟨r2, h1, h2, h3.imp id fun h f hf => List.mem_append_left _ (h f hf)⟩
end VM

set_option Elab.async false
set_option linter.all false
set_option maxRecDepth 100000
set_option maxHeartbeats 1000000
/-! VM37: drawing, as what is kept. -/
namespace VM
/-- the source lies at 0, at most n numbers are drawn -/
def Drw (s : Store) (n : Nat) : Prop := ∃ (g sd : Int) (k : Nat), s[0]? = some (srcE g sd k) ∧ 0 ≤ sd ∧ sd < 2147483647 ∧ k ≤ n
theorem Drw.le {s : Store} {n m : Nat} (h : Drw s n) (l : n ≤ m) : Drw s m := by
  obtain ⟨g, sd, k, h1, h2, h3, h4⟩ := h
  exact ⟨g, sd, k, h1, h2, h3, by omega⟩
theorem Drw.pos {s : Store} {n : Nat} (h : Drw s n) : 0 < s.length := by
  obtain ⟨g, sd, k, h1, _⟩ := h
  exact (List.getElem?_eq_some_iff.mp h1).1
theorem Drw.app {s l : Store} {n : Nat} (h : Drw s n) : Drw (s ++ l) n := by
  have p := h.pos
  obtain ⟨g, sd, k, h1, h2⟩ := h
  exact ⟨g, sd, k, by rw [List.getElem?_append_left p]; exact h1, h2⟩
theorem Drw.set {s : Store} {n i : Nat} {x : Ent} (h : Drw s n) (hi : i ≠ 0) : Drw (s.set i x) n := by
  obtain ⟨g, sd, k, h1, h2⟩ := h
  exact ⟨g, sd, k, by rw [List.getElem?_set_ne hi]; exact h1, h2⟩
theorem Drw.of {s t : Store} {n : Nat} (h : Drw s n) (e : t[0]? = s[0]?) : Drw t n := by
  obtain ⟨g, sd, k, h1, h2⟩ := h
  exact ⟨g, sd, k, by rw [e]; exact h1, h2⟩
/-- all the same, but for the source -/
structure Sm (s t : Store) : Prop where
  len : t.length = s.length
  same : ∀ i, i ≠ 0 → t[i]? = s[i]?
theorem Sm.refl {s : Store} : Sm s s := ⟨rfl, fun _ _ => rfl⟩
theorem Sm.trans {s t u : Store} (a : Sm s t) (b : Sm t u) : Sm s u := ⟨b.len.trans a.len, fun i h => (b.same i h).trans (a.same i h)⟩
/-- what lay there below is the same, but for the source -/
structure Kp (S s : Store) (n : Nat) : Prop where
  len : S.length ≤ s.length
  same : ∀ i, i ≠ 0 → i < S.length → s[i]? = S[i]?
  src : Drw s n
  pos : 0 < S.length
theorem Kp.of {S : Store} {n : Nat} (h : Drw S n) : Kp S S n := ⟨Nat.le_refl _, fun _ _ _ => rfl, h, h.pos⟩
theorem Kp.sm {S s t : Store} {n m : Nat} (k : Kp S s n) (a : Sm s t) (h : Drw t m) : Kp S t m := ⟨by rw [a.len]; exact k.len, fun i h1 h2 => (a.same i h1).trans (k.same i h1 h2), h, k.pos⟩
theorem Kp.app {S s l : Store} {n : Nat} (k : Kp S s n) : Kp S (s ++ l) n := ⟨by rw [List.length_append]; have := k.len; omega, fun i h1 h2 => by
  rw [List.getElem?_append_left (Nat.lt_of_lt_of_le h2 k.len)]
  exact k.same i h1 h2, k.src.app, k.pos⟩
theorem Kp.set {S s : Store} {n i : Nat} {x : Ent} (k : Kp S s n) (hi : S.length ≤ i) : Kp S (s.set i x) n := ⟨by rw [List.length_set]; exact k.len, fun j h1 h2 => by
  rw [List.getElem?_set_ne (by omega)]
  exact k.same j h1 h2, k.src.set (by have := k.pos; omega), k.pos⟩
theorem Kp.le {S s : Store} {n m : Nat} (k : Kp S s n) (l : n ≤ m) : Kp S s m := ⟨k.len, k.same, k.src.le l, k.pos⟩
theorem Kp.take {S s : Store} {n : Nat} (k : Kp S s n) : Sm S (s.take S.length) ∧ Drw (s.take S.length) n := by
  refine ⟨⟨by rw [List.length_take]; have := k.len; omega, fun i h => ?_⟩, k.src.of ?_⟩
  · by_cases q : i < S.length
    · rw [List.getElem?_take_of_lt q]
      exact k.same i h q
    · rw [List.getElem?_eq_none (by rw [List.length_take]; omega), List.getElem?_eq_none (by omega)]
  · rw [List.getElem?_take_of_lt k.pos]
theorem dr {s : Store} {n many : Nat} (h : Drw s n) (hn : n < 15000000) (h1 : 0 < many) (h2 : many < 1000000) : ∃ (d : Nat) (t : Store), fnDraw.sem [.ref 0, .int many] s = .ok (.int d) t ∧ d < many ∧ Sm s t ∧ Drw t (n + 1) := by
  have p := h.pos
  obtain ⟨g, sd, k, e, b1, b2, b3⟩ := h
  obtain ⟨g', d, d1, d2, q⟩ := draw_ok (many := many) e b1 b2 (by omega) (by omega) (by omega) (by omega)
  obtain ⟨d, rfl⟩ := Int.eq_ofNat_of_zero_le d1
  refine ⟨d, _, q, by omega, ⟨List.length_set, fun i hi => List.getElem?_set_ne (Ne.symm hi)⟩, g', sd, k + 1, ?_, b1, b2, by omega⟩
  rw [List.getElem?_set_self p]
  rfl
theorem dr_at {e : Env} {s s1 : Store} {f : ME} {i n many : Nat} (h0 : e[i]? = some (some (.ref 0))) (hf : f e s = .ok (.int many) s1) (h : Drw s1 n) (hn : n < 15000000) (h1 : 0 < many) (h2 : many < 1000000) : ∃ (d : Nat) (t : Store), eCall fnDraw (aCons (eRaw i) (aCons f aNil)) e s = .ok (.int d) t ∧ d < many ∧ Sm s1 t ∧ Drw t (n + 1) := by
  obtain ⟨d, t, q, r⟩ := dr h hn h1 h2
  exact ⟨d, t, (eCall_at (aCons_at (eRaw_at h0) (aCons_at hf rfl)) rfl).trans q, r⟩
/-- a comprehension that draws at each turn -/
theorem lcGo_dr {g : MG} {t : MT} {f : ME} {e0 : Env} {α β : Type} {φ : α → D} {ψ : α → β → D} {Q : α → β → Prop} : ∀ (xs : List α) (acc : List D) (s : Store) (n : Nat), Drw s n → n + xs.length < 15000000 →
    (∀ a ∈ xs, ∀ s m, Drw s m → m < 15000000 → ∃ e b s', g e0 (φ a) = some e ∧ t e s = .ok true s ∧ f e s = .ok (ψ a b) s' ∧ Q a b ∧ Sm s s' ∧ Drw s' (m + 1)) → acc.length + xs.length ≤ sizeMax →
    ∃ (ps : List (α × β)) (s' : Store), ps.map (·.1) = xs ∧ (∀ p ∈ ps, Q p.1 p.2) ∧ lcGo g t f e0 (xs.map φ) acc s = .ok (acc ++ ps.map fun p => ψ p.1 p.2) s' ∧ Sm s s' ∧ Drw s' (n + xs.length)
  | [], acc, s, n, h, _, _, _ => ⟨[], s, rfl, (fun p hp => (by cases hp)), (by simp [lcGo]), Sm.refl, h⟩
  | a :: xs, acc, s, n, h, hn, hi, hl => by
    rw [List.length_cons] at hl hn
    obtain ⟨e, b, s1, h1, h2, h3, h4, h5, h6⟩ := hi a List.mem_cons_self s n h (by omega)
    obtain ⟨ps, s', q1, q2, q3, q4, q5⟩ := lcGo_dr xs (acc ++ [ψ a b]) s1 (n + 1) h6 (by omega) (fun b hb => hi b (List.mem_cons_of_mem _ hb)) (by rw [List.length_append, List.length_singleton]; omega)
    refine ⟨(a, b) :: ps, s', by rw [List.map_cons, q1], fun p hp => ?_, ?_, h5.trans q4, q5.le (by rw [List.length_cons]; omega)⟩
    · rcases List.mem_cons.mp hp with rfl | hp
      · exact h4
      · exact q2 p hp
    · rw [List.map_cons]
      unfold lcGo
      rw [h1]
      dsimp only []
      rw [h2]
      dsimp only []
      rw [h3]
      dsimp only []
      rw [if_pos (by omega), q3]
      simp
/-- a comprehension that draws in its test -/
theorem lcGo_sub {g : MG} {t : MT} {f : ME} {e0 : Env} {α : Type} {φ ψ : α → D} : ∀ (xs : List α) (acc : List D) (s : Store) (n : Nat), Drw s n → n + xs.length < 15000000 →
    (∀ a ∈ xs, ∀ s m, Drw s m → m < 15000000 → ∃ e b s', g e0 (φ a) = some e ∧ t e s = .ok b s' ∧ f e s' = .ok (ψ a) s' ∧ Sm s s' ∧ Drw s' (m + 1)) → acc.length + xs.length ≤ sizeMax →
    ∃ (ys : List α) (s' : Store), ys.Sublist xs ∧ lcGo g t f e0 (xs.map φ) acc s = .ok (acc ++ ys.map ψ) s' ∧ Sm s s' ∧ Drw s' (n + xs.length)
  | [], acc, s, n, h, _, _, _ => ⟨[], s, .slnil, (by simp [lcGo]), Sm.refl, h⟩
  | a :: xs, acc, s, n, h, hn, hi, hl => by
    rw [List.length_cons] at hl hn
    obtain ⟨e, b, s1, h1, h2, h3, h5, h6⟩ := hi a List.mem_cons_self s n h (by omega)
    rw [List.map_cons]
    cases b with
    | true =>
      obtain ⟨ys, s', q1, q3, q4, q5⟩ := lcGo_sub xs (acc ++ [ψ a]) s1 (n + 1) h6 (by omega) (fun b hb => hi b (List.mem_cons_of_mem _ hb)) (by rw [List.length_append, List.length_singleton]; omega)
      refine ⟨a :: ys, s', .cons₂ _ q1, ?_, h5.trans q4, q5.le (by rw [List.length_cons]; omega)⟩
      unfold lcGo
      rw [h1]
      dsimp only []
      rw [h2]
      dsimp only []
      rw [h3]
      dsimp only []
      rw [if_pos (by omega), q3]
      simp
    | false =>
      obtain ⟨ys, s', q1, q3, q4, q5⟩ := lcGo_sub xs acc s1 (n + 1) h6 (by omega) (fun b hb => hi b (List.mem_cons_of_mem _ hb)) (by omega)
      refine ⟨ys, s', .cons _ q1, ?_, h5.trans q4, q5.le (by rw [List.length_cons]; omega)⟩
      unfold lcGo
      rw [h1]
      dsimp only []
      rw [h2]
      dsimp only []
      exact q3
theorem eMove1_at {e : Env} {s : Store} {i h : Nat} {x : D} (h0 : e[i]? = some (some (.ref h))) (hs : s[h]? = some ⟨false, 1, some x⟩) : eMove1 i e s = .ok x (s.set h ⟨false, 0, none⟩) := by
  unfold eMove1
  rw [h0]
  dsimp only []
  unfold take1
  dsimp only []
  rw [hs]
  show R.ok x ((s.set h ⟨false, 1, some x⟩).set h ⟨false, 0, none⟩) = _
  rw [List.set_set]
theorem eGet_fz {e : Env} {s : Store} {i h : Nat} {x : D} (h0 : e[i]? = some (some (.ref h))) (hs : s[h]? = some ⟨false, 1, some x⟩) : eGet i e s = .ok x (s.set h ⟨false, 0, some x⟩) := by
  unfold eGet eFrozen
  rw [eRaw_at h0, bind_ok]
  unfold frozen
  dsimp only []
  rw [hs]
end VM

set_option Elab.async false
set_option linter.all false
set_option maxRecDepth 100000
set_option maxHeartbeats 1000000
/-! VM38: a property that hands out a field. -/
namespace VM
open PySem PySem.Spec PyProof.Rows L2
def ePrp (c n : Nat) (g : ME) : ME := fun e s => (g e s).bind fun x s => (open1 x s).bind fun x s => match x with
  | .ins k fs => if k = c then ofO s (fs.lookup n) else .bad
  | _ => .bad
section
variable {K : PySem.W.Frag} {T : Tab} {X : Cx} {W : WX}
/-- the property f of the class c hands out the field n -/
structure Prp (P : Program) (wo : World) (K : PySem.W.Frag) (mg : Str → Option Value) (base : Heap) (T : Tab) (k c : Nat) (f : Str) (n : Nat) : Prop where
  ex : ∃ C p g fd ps, T.cls c = some C ∧ Cls K C ∧ PropOf K C f p g ∧ FnOk P wo K mg base (L2.CX P wo) k g fd ps (getSp C (T.fld n)) ∧ Binds K fd ps []
  inj : ∀ m, T.fld m = T.fld n → m = n
theorem lookup_fldN {F : Hp} {n : Nat} (inj : ∀ m, T.fld m = T.fld n → m = n) {d : D} : ∀ {fv : List (Str × V)} {fs : List (Nat × D)}, RepF K T F fv fs → fs.lookup n = some d → ∃ v, fv.lookup (T.fld n) = some v ∧ Rep K T F v d
  | _, _, .nil, h => by cases h
  | _, _, .cons (n := m) hv r, h => by
    rw [List.lookup_cons] at h ⊢
    by_cases q : m = n
    · subst q
      rw [show (m == m) = true from beq_self_eq_true m] at h
      cases h
      rw [show (T.fld m == T.fld m) = true from beq_self_eq_true _]
      exact ⟨_, rfl, hv⟩
    · rw [show (n == m) = false from beq_eq_false_iff_ne.mpr fun z => q z.symm] at h
      rw [show (T.fld n == T.fld m) = false from beq_eq_false_iff_ne.mpr fun z => q (inj m z.symm)]
      exact lookup_fldN inj r h
theorem se_prp {k c n : Nat} {e : Expr} {f : Str} {pos : Pos} {g : ME} (pp : Prp X.prog X.w X.K X.mg X.base T k c f n) (hr : Room (k + 1) X.A) (he : SE X.K T .raw X W e g) (hb : attributeBase e f X.env (eval e X.env) = eval e X.env) : SE X.K T .tree X W (.Attribute e f pos) (ePrp c n g) := .mk fun w env s σ H kk eo Q p => by
  obtain ⟨C, pa, ga, fd, ps, hC, cl, po, F, hbn⟩ := pp.ex
  refine wpe_of (pe_prop pe_wp cl po F hr hbn .nil (E := fun _ _ _ => False) (fun pins σ H s e s' I z => ?_) hb) (he w env s σ H kk eo _ (Post.bind p fun v d H1 w1 s1 a b c1 q => ?_))
  · obtain ⟨_, _, _, _, _, _, _, _, _, _, _, _, z⟩ := z
    exact z.elim
  · cases ho : open1 d s1 with
    | bad =>
      rw [ho] at q
      exact q.elim
    | exc _ _ _ => exact (open1_noexc ho).elim
    | ok x s2 =>
      rw [ho] at q
      obtain ⟨w2, k2, n2, r2, _⟩ := open1_ok a c1 ho
      cases x with
      | ins cc fs =>
        obtain ⟨ad, C2, dx, fv, rfl, hC2, hH, rf⟩ := r2
        have q3 : Post X.K T W w s σ H (fun w' _ => Rep X.K T w'.F) Q (if cc = c then ofO s2 (fs.lookup n) else .bad) := q
        split at q3
        · rename_i hcc
          subst hcc
          rw [hC] at hC2
          cases hC2
          cases hl : fs.lookup n with
          | none =>
            rw [hl] at q3
            exact q3.elim
          | some y =>
            rw [hl] at q3
            obtain ⟨u, h1, h2⟩ := lookup_fldN pp.inj rf hl
            exact ⟨ad, dx, fv, rfl, hH, ad, dx, fv, u, rfl, hH, h1, q3.give k2 (b.trans n2) h2⟩
        · exact q3.elim
      | _ => exact q.elim
end
end VM

set_option Elab.async false
set_option linter.all false
set_option maxRecDepth 100000
set_option maxHeartbeats 2000000
/-! VM39: facts of properties. -/
namespace VM
open PySem PySem.Spec PyProof PyProof.Rows L2 NdefX
/-- a property: its class, its name, its getter's text -/
structure DefP where
  x : Str
  f : Str
  qual : Str
  params : Arguments
  body : List Stmt
  scope : Scope
def pAd (K : PySem.W.Frag) (d : DefP) : Addr := match PySem.W.findIn K (.ref (He.ga K d.x)) d.f with
  | some (some (.ref p)) => p
  | _ => 0
def gAd (K : PySem.W.Frag) (d : DefP) : Addr := match PySem.W.recIn K (pAd K d) "property" with
  | some (.ref g :: _) => g
  | _ => 0
def gV (K : PySem.W.Frag) (d : DefP) : FnV := match K.lookup (gAd K d) with
  | some ⟨_, _, .func fd, _⟩ => some (fd.name, fd.qualname, fd.params, fd.body, fd.scope, fd.globals, fd.builtins)
  | _ => none
def DefP.val (d : DefP) : FnV := some (d.f, d.qual, d.params, .stmts d.body, d.scope, mainGlobals, builtinsNs)
def gcV (K : PySem.W.Frag) (d : DefP) : Value := match K.lookup (gAd K d) with
  | some ⟨_, _, .func fd, _⟩ => fd.code
  | _ => .none
def propB (K : PySem.W.Frag) (d : DefP) : Bool := eqOV (PySem.W.findIn K (.ref (He.ga K d.x)) d.f) (some (some (.ref (pAd K d)))) && (eqOV (PySem.W.specialIn K (.ref (pAd K d)) "__get__") (some (some (.builtin "property.__get__"))) && (decide (PySem.W.takesIn K (.ref (pAd K d)) = some true) &&
  ((match PySem.W.recIn K (pAd K d) "property" with
    | some (.ref _ :: _) => true
    | _ => false) &&
  ((match K.lookup (gAd K d) with
    | some ⟨_, _, .func fd, _⟩ => decide (fd.closure = []) && (decide (fd.defaults = .none) && decide (fd.kwdefaults = .none))
    | _ => false) && PySem.W.codeIn K (gcV K d) d.qual))))
structure PropK (K : PySem.W.Frag) (d : DefP) : Prop where
  ex : ∃ (oc : Value) (od : Option Addr) (osl : Array (Option Value)) (doc pm ctv cdv : Value) (an : Option Addr), K.lookup (gAd K d) = some ⟨oc, od, .func (PySem.W.fnOf d.f d.qual d.params d.body d.scope .none .none doc pm an cdv ctv), osl⟩ ∧ PySem.W.codeIn K cdv d.qual = true
  pr : PropOf K (He.ga K d.x) d.f (pAd K d) (gAd K d)
theorem propB_ok {K : PySem.W.Frag} {d : DefP} (e : gV K d = d.val) (h : propB K d = true) : PropK K d := by
  obtain ⟨h1, h⟩ := He.ba h
  obtain ⟨h2, h⟩ := He.ba h
  obtain ⟨h3, h⟩ := He.ba h
  obtain ⟨h4, h⟩ := He.ba h
  obtain ⟨h5, h6⟩ := He.ba h
  refine ⟨?_, of_decide_eq_true h1, of_decide_eq_true h2, of_decide_eq_true h3, ?_⟩
  · cases q : K.lookup (gAd K d) with
    | none =>
      rw [q] at h5
      cases h5
    | some o =>
      obtain ⟨oc, od, dt, osl⟩ := o
      unfold gV at e
      unfold gcV at h6
      rw [q] at h5 h6 e
      cases dt with
      | func fd =>
        obtain ⟨n1, n2, n3, n4, n5, n6, n7, n8, n9, n10, n11, n12, n13, n14, n15⟩ := fd
        have e2 : (some (n1, n2, n3, n4, n5, n6, n15) : FnV) = some (d.f, d.qual, d.params, FuncBody.stmts d.body, d.scope, mainGlobals, builtinsNs) := e
        simp only [Option.some.injEq, Prod.mk.injEq] at e2
        obtain ⟨a1, a2, a3, a4, a5, a6, a7⟩ := e2
        obtain ⟨b1, h5⟩ := He.ba h5
        obtain ⟨b2, b3⟩ := He.ba h5
        have c1 := of_decide_eq_true b1
        have c2 := of_decide_eq_true b2
        have c3 := of_decide_eq_true b3
        clear b1 b2 b3 h5 h
        dsimp only at c1 c2 c3 h6
        subst a1 a2 a3 a4 a5 a6 a7 c1 c2 c3
        exact ⟨_, _, _, _, _, _, _, _, rfl, h6⟩
      | _ => cases h5
  · unfold gAd
    split at h4
    · rename_i g r q
      rw [q]
      exact ⟨r, rfl⟩
    · cases h4
end VM

set_option Elab.async false
set_option linter.all false
set_option maxRecDepth 100000
set_option maxHeartbeats 2000000
/-! VM40: the Hook with properties; the property's fact. -/
namespace VM
open PySem PySem.Spec PyProof PyProof.Rows L2 NdefX
abbrev AlY : Type := List FnV × AlX
def obY (more : PySem.W.Frag → Bool) (fa : List He.Fa) (dn : List He.DefD) (en : List DefE) (pn : List DefP) (K : PySem.W.Frag) : AlY := (pn.map fun d => gV K d, obX more fa dn en K)
def vaY (dn : List He.DefD) (en : List DefE) (pn : List DefP) : AlY := (pn.map DefP.val, vaX dn en)
structure SaysY (more : PySem.W.Frag → Bool) (fa : List He.Fa) (dn : List He.DefD) (en : List DefE) (pn : List DefP) (K : PySem.W.Frag) : Prop where
  prs : pn.map (fun d => gV K d) = pn.map DefP.val
  sx : SaysX more fa dn en K
def obYG (n : Nat) (more : PySem.W.Frag → Bool) (fa : List He.Fa) (dn : List He.DefD) (en : List DefE) (pn : List DefP) (g : Addr → Option Obj) : AlY := obY more fa dn en pn (He.frG g (cStatics :: He.asD g n))
theorem saysY_of {more : PySem.W.Frag → Bool} {fa : List He.Fa} {dn : List He.DefD} {en : List DefE} {pn : List DefP} {K : PySem.W.Frag} (e : obY more fa dn en pn K = vaY dn en pn) : SaysY more fa dn en pn K := ⟨congrArg Prod.fst e, saysX_of (congrArg Prod.snd e)⟩
def hookY (n : Nat) (more : PySem.W.Frag → Bool) (fa : List He.Fa) (dn : List He.DefD) (en : List DefE) (pn : List DefP) : PySem.W.Hook where
  α := AlY
  obs := fun sh => obYG n more fa dn en pn sh.heap.get?
  val := fun _ => vaY dn en pn
  says := fun _ h => ∃ K : PySem.W.Frag, K.In h ∧ SaysY more fa dn en pn K
  of := fun _ _ e => ⟨_, He.frG_in, saysY_of e⟩
  keeps := fun _ _ _ ⟨K, hK, c⟩ k => ⟨K, PySem.W.Frag.In.keeps hK k, c⟩
theorem obYG_eq {n : Nat} {more : PySem.W.Frag → Bool} {fa : List He.Fa} {dn : List He.DefD} {en : List DefE} {pn : List DefP} {g : Addr → Option Obj} {sh : Shared} (h : ∀ a, g a = sh.heap.get? a) : obYG n more fa dn en pn g = (hookY n more fa dn en pn).obs sh := by
  have e : g = sh.heap.get? := funext h
  rw [e] <;> rfl
theorem SaysY.at {more : PySem.W.Frag → Bool} {fa : List He.Fa} {dn : List He.DefD} {en : List DefE} {pn : List DefP} {K : PySem.W.Frag} (c : SaysY more fa dn en pn K) (i : Nat) {d : DefP} (h : pn[i]? = some d) : gV K d = d.val := by
  have e := congrArg (fun l => l[i]?) c.prs
  simp only [List.getElem?_map, h, Option.map_some] at e
  exact Option.some.inj e
theorem prp_ok {P : Program} {wo : World} {K : PySem.W.Frag} {mg : Str → Option Value} {base : Heap} {T : Tab} {k c n : Nat} {d : DefP} {N : List Str} {own : Str} {p1 p2 p3 : Pos} (pk : PropK K d) (hC : T.cls c = some (He.ga K d.x)) (cl : Cls K (He.ga K d.x)) (S : FnScope N ["self"] d.scope) (hN : N[0]? = some ("self" : Str))
    (hb : d.body = [.Return (some (.Attribute (.Name "self" p1) own p2)) p3]) (hn : T.fld n = own) (na : NoAttr K (He.ga K d.x) own) (inj : ∀ m, T.fld m = own → m = n)
    (bn : ∀ (doc pm : Value) (an : Option Addr) (cdv ctv : Value) (us : List Value), us.length = 1 → bindArgs (PySem.W.fnOf d.f d.qual d.params d.body d.scope .none .none doc pm an cdv ctv) ⟨us, []⟩ = pure ((["self"] : List Str).zip us)) : Prp P wo K mg base T (k + 1) c d.f n := by
  obtain ⟨oc, od, osl, doc, pm, ctv, cdv, an, lk, hcd⟩ := pk.ex
  subst hn
  exact ⟨⟨_, _, _, _, _, hC, cl, pk.pr, fn_getter lk hcd S hN hb cl na, .all fun us hl => bn _ _ _ _ _ us hl⟩, inj⟩
theorem w_prp {K : PySem.W.Frag} {T : Tab} {X : Cx} {W : WX} {k c n : Nat} {e : Expr} {f : Str} {pos : Pos} {g : ME} (hK : X.K = K) (pp : Prp X.prog X.w K X.mg X.base T k c f n) (hr : Room (k + 1) X.A) (he : SE K T .raw X W e g) (hb : attributeBase e f X.env (eval e X.env) = eval e X.env) : SE K T .tree X W (.Attribute e f pos) (ePrp c n g) := by
  subst hK
  exact se_prp pp hr he hb
end VM

set_option Elab.async false
set_option linter.all false
set_option maxRecDepth 100000
set_option maxHeartbeats 1000000
/-! VM41: xs.clear(), xs[::-1]. -/
namespace VM
open PySem PySem.Spec PyProof.Rows L2
section
variable {K : PySem.W.Frag} {T : Tab} {X : Cx} {W : WX}
theorem w_clear {o : Expr} {apos cpos : Pos} {f : ME} (hK : X.K = K) (ho : SE K T .raw X W o f) (hb : attributeBase o "clear" X.env (eval o X.env) = eval o X.env) (hl : (apos.endLine == cpos.line) = true) : SE K T .tree X W (.Call (.Attribute o "clear" apos) [] [] cpos) (eMut isLst gClear f aNil) := by
  subst hK
  exact se_mut0 (fun h1 => pe_bm0 PySem.F.plainAttrs_list PySem.F.slot_list_clear PySem.F.type_list_clear mt_clear h1 hb hl) rl_clear ty_lst ho
theorem reps_rev {F : Hp} : ∀ {vs : List V} {ds : List D}, Reps K T F vs ds → Reps K T F vs.reverse ds.reverse
  | _, _, .nil => .nil
  | _, _, .cons h r => by
    rw [List.reverse_cons, List.reverse_cons]
    exact (reps_rev r).append (.cons h .nil)
def dRevL : D → Option D
  | .lst xs => some (.lst xs.reverse)
  | _ => none
theorem w_rev {e : Expr} {k : Nat} {p1 p2 p3 pos : Pos} {f : ME} (hK : X.K = K) (he : SE K T .raw X W e f) : SE K T (.own 1) X W (.Subscript e (.Slice none none (some (.UnaryOp .USub (.Constant (.int 1) k p1) p2)) p3) pos) (op1F dRevL f) := by
  subst hK
  exact se_op1F (r := fun x H Q => ∃ a xs, x = .ref a ∧ SqL X.K H a xs ∧ ∀ p, H p = none → Q (.ref p) (upd H p (.lst xs.reverse))) (fun ha => pe_revL ha) (fun w s H v x y k r1 hx Q q => by
    cases x with
    | lst xs =>
      cases hx
      obtain ⟨a, vs, rfl, h, r, z⟩ := r1
      exact ⟨a, vs, rfl, .inl (.inl h), give_lst k q (reps_rev r) (by rw [List.length_reverse]; exact z)⟩
    | _ => cases hx) he
theorem w_ltLt {a b c : Expr} {pos : Pos} {f1 f2 f3 : ME} (h1 : SE K T .tree X W a f1) (h2 : SE K T .tree X W b f2) (h3 : SE K T .tree X W c f3) : SE K T .tree X W (.Compare a [.Lt, .Lt] [b, c] pos) (eChainI (fun i j => decide (i < j)) (fun i j => decide (i < j)) f1 f2 f3) := se_chainI op_lt op_lt h1 h2 h3 (nomark _)
end
end VM

set_option Elab.async false
set_option linter.all false
set_option maxRecDepth 100000
set_option maxHeartbeats 1000000
/-! VM42: another name for the same thing. -/
namespace VM
open PySem PySem.Spec PyProof.Rows L2
section
variable {K : PySem.W.Frag} {T : Tab} {X : Cx} {W : WX}
def sRefV (i : Nat) (f : ME) : MS := fun e s => RSb (f e s) e fun d s => if i < e.length then .nx (e.set i (some d)) s else .bad
theorem ss_ref {rk : Nat} {i : Nat} {x : Str} {e : Expr} {pos pos' : Pos} {f : ME} (he : SE K T .raw X W e f) (hN : X.N.Nodup) (hi : X.N[i]? = some x) (hx : Loc X.env.scope x) (hf : X.fn x = true ∨ X.env.scope.names.lookup x = some .local) (hs : swapsWith e (some (.Name x pos')) pos.line X.env = pure false) :
    SS K T rk X W (.Assign [.Name x pos'] e pos) (sRefV i f) := .mk fun w env s σ H k eo D p =>
  wps_of (ps_set hN hi hx pe_wp hs hf) (he w env s σ H k eo _ (PostS.bind eo p fun v d H1 w1 s1 a b c q => by
    have c : RepS K T w1 v d := c
    have q : PostS K T rk W w s H D (if i < env.length then .nx (env.set i (some d)) s1 else .bad) := q
    split at q
    · exact q.giveN a b ((eo.nxt b).set i c)
    · exact q.elim))
end
end VM

set_option Elab.async false
set_option linter.all false
set_option maxRecDepth 100000
set_option maxHeartbeats 2000000
/-! VM43: tuples of instances compared, also unlike; an instance beside None or a tuple. -/
namespace VM
open PySem PySem.Spec PyProof.Rows L2
section
open PySem.SeqAt
open AutoSeq1 (wpAny_loadPart')
open MeetsSeq MeetsSeq2 MeetsSeq3 SeqRoads2
variable {prog : Program} {w : World} {A : Around} {R : Result → Shared → Prop}
/-- how the answer comes of the items' answers -/
def tpAns (ok : Nat → Bool) (p q : Nat) : Bool := (List.range (min p q)).all ok && p == q
theorem tpAns_drop (ok : Nat → Bool) (p q i : Nat) (h : i < min p q) : ((List.range (min p q)).drop i).all ok = (ok i && ((List.range (min p q)).drop (i + 1)).all ok) := by
  have hd : (List.range (min p q)).drop i = i :: (List.range (min p q)).drop (i + 1) := by simp [List.drop_eq_getElem_cons, h]
  rw [hd, List.all_cons]
theorem zip_at {p q : List Value} {i : Nat} {r : List (Value × Value)} {y : Value × Value} (hz : y :: r = (p.zip q).drop i) : ∃ (h1 : i < p.length) (h2 : i < q.length), y = (p[i], q[i]) ∧ r = (p.zip q).drop (i + 1) := by
  have hl : i < (p.zip q).length := by
    rcases Nat.lt_or_ge i (p.zip q).length with g | g
    · exact g
    · rw [List.drop_of_length_le g] at hz
      cases hz
  rw [List.drop_eq_getElem_cons hl] at hz
  have hl2 := hl
  rw [List.length_zip] at hl2
  refine ⟨by omega, by omega, ?_, ?_⟩
  · have e := (List.cons.inj hz).1
    rw [e, List.getElem_zip]
  · exact (List.cons.inj hz).2
theorem tpEq (a b : Addr) (p q : Array Value) (n1 n2 : Nat) (d1 d2 : Option Addr) (s1 s2 : Array (Option Value)) (ok : Nat → Bool) (J : Shared → Prop)
    (turn : ∀ i (h1 : i < p.size) (h2 : i < q.size) sh, J sh → wpAny (model prog w) A.in1 (eqBool p[i] q[i]) (fun r sh' => r = ok i ∧ J sh') (fun e sh' => R (.error e) sh') sh)
    (fin : ∀ sh, J sh → R (.ok (.ret (.bool (tpAns ok p.size q.size)))) sh) {sh : Shared} (ha : sh.heap.get? a = some { cls := .type "tuple", dict := d1, data := .seq p n1, slots := s1 }) (hb : sh.heap.get? b = some { cls := .type "tuple", dict := d2, data := .seq q n2, slots := s2 }) (h : J sh) :
    wpAny (model prog w) A.in1 (Builtin.«tuple.__eq__» ⟨[.ref a, .ref b], []⟩) (GQ.FinOf prog w A R) (fun e sh' => R (.error e) sh') sh := by
  have f2 := AutoSeq1.sub_tuple_tuple
  have h0 := h
  obtain ⟨hp, g, d, tk, os⟩ := sh
  wp_walk using wpAny_loadPart' ha, wpAny_loadPart' hb, wpAny_forIn_list _ (fun rest b sh' => b.1 = none ∧ ∃ i, rest = (p.toList.zip q.toList).drop i ∧ i ≤ min p.size q.size ∧ (List.range (min p.size q.size)).all ok = ((List.range (min p.size q.size)).drop i).all ok ∧ J sh') _
  case turn =>
    rintro ⟨y, x⟩ rest b sh' ⟨hb', i, hz, hi, hA, hJ⟩
    obtain ⟨g1, g2, e1, e2⟩ := zip_at hz
    cases e1
    have g1 : i < p.size := by simpa using g1
    have g2 : i < q.size := by simpa using g2
    rw [tpAns_drop ok _ _ i (by omega)] at hA
    refine wpAny_bind (wpAny_mono (turn i g1 g2 sh' hJ) (fun r s2 q2 => ?_) fun _ _ x => x)
    obtain ⟨hr, q2⟩ := q2
    subst hr
    cases hk : ok i with
    | true =>
      rw [hk] at hA
      wp_walk
      exact ⟨rfl, i + 1, e2, by omega, by rw [hA]; rfl, q2⟩
    | false =>
      rw [hk] at hA
      have hR := fin s2 q2
      have ez : tpAns ok p.size q.size = false := by
        unfold tpAns
        rw [hA]
        rfl
      rw [ez] at hR
      wp_walk
      first | exact ⟨_, rfl, by simpa using hR⟩ | simpa using hR
  case fin =>
    rintro ⟨b1, b2⟩ sh' ⟨hb', i, hz, hi, hA, hJ⟩
    simp only at hb'
    subst hb'
    have hge : min p.size q.size ≤ i := by
      rcases Nat.lt_or_ge i (min p.size q.size) with g | g
      · rw [List.drop_eq_getElem_cons (by rw [List.length_zip, Array.length_toList, Array.length_toList]; exact g)] at hz
        cases hz
      · exact g
    have hR := fin sh' hJ
    have ez : tpAns ok p.size q.size = (p.size == q.size) := by
      unfold tpAns
      rw [hA, List.drop_of_length_le (by simpa using hge)]
      rfl
    rw [ez] at hR
    wp_walk
    first | exact ⟨_, rfl, by simpa [Builtin.Tuple.tupleCompareSizes] using hR⟩ | simpa [Builtin.Tuple.tupleCompareSizes] using hR
  case h =>
    exact ⟨rfl, 0, rfl, by omega, rfl, h0⟩
theorem tpNe (a b : Addr) (p q : Array Value) (n1 n2 : Nat) (d1 d2 : Option Addr) (s1 s2 : Array (Option Value)) (ok : Nat → Bool) (J : Shared → Prop)
    (turn : ∀ i (h1 : i < p.size) (h2 : i < q.size) sh, J sh → wpAny (model prog w) A.in1 (eqBool p[i] q[i]) (fun r sh' => r = ok i ∧ J sh') (fun e sh' => R (.error e) sh') sh)
    (fin : ∀ sh, J sh → R (.ok (.ret (.bool (!tpAns ok p.size q.size)))) sh) {sh : Shared} (ha : sh.heap.get? a = some { cls := .type "tuple", dict := d1, data := .seq p n1, slots := s1 }) (hb : sh.heap.get? b = some { cls := .type "tuple", dict := d2, data := .seq q n2, slots := s2 }) (h : J sh) :
    wpAny (model prog w) A.in1 (Builtin.«tuple.__ne__» ⟨[.ref a, .ref b], []⟩) (GQ.FinOf prog w A R) (fun e sh' => R (.error e) sh') sh := by
  have f2 := AutoSeq1.sub_tuple_tuple
  have h0 := h
  obtain ⟨hp, g, d, tk, os⟩ := sh
  wp_walk using wpAny_loadPart' ha, wpAny_loadPart' hb, wpAny_forIn_list _ (fun rest b sh' => b.1 = none ∧ ∃ i, rest = (p.toList.zip q.toList).drop i ∧ i ≤ min p.size q.size ∧ (List.range (min p.size q.size)).all ok = ((List.range (min p.size q.size)).drop i).all ok ∧ J sh') _
  case turn =>
    rintro ⟨y, x⟩ rest b sh' ⟨hb', i, hz, hi, hA, hJ⟩
    obtain ⟨g1, g2, e1, e2⟩ := zip_at hz
    cases e1
    have g1 : i < p.size := by simpa using g1
    have g2 : i < q.size := by simpa using g2
    rw [tpAns_drop ok _ _ i (by omega)] at hA
    refine wpAny_bind (wpAny_mono (turn i g1 g2 sh' hJ) (fun r s2 q2 => ?_) fun _ _ x => x)
    obtain ⟨hr, q2⟩ := q2
    subst hr
    cases hk : ok i with
    | true =>
      rw [hk] at hA
      wp_walk
      exact ⟨rfl, i + 1, e2, by omega, by rw [hA]; rfl, q2⟩
    | false =>
      rw [hk] at hA
      have hR := fin s2 q2
      have ez : tpAns ok p.size q.size = false := by
        unfold tpAns
        rw [hA]
        rfl
      rw [ez] at hR
      wp_walk
      first | exact ⟨_, rfl, by simpa using hR⟩ | simpa using hR
  case fin =>
    rintro ⟨b1, b2⟩ sh' ⟨hb', i, hz, hi, hA, hJ⟩
    simp only at hb'
    subst hb'
    have hge : min p.size q.size ≤ i := by
      rcases Nat.lt_or_ge i (min p.size q.size) with g | g
      · rw [List.drop_eq_getElem_cons (by rw [List.length_zip, Array.length_toList, Array.length_toList]; exact g)] at hz
        cases hz
      · exact g
    have hR := fin sh' hJ
    have ez : tpAns ok p.size q.size = (p.size == q.size) := by
      unfold tpAns
      rw [hA, List.drop_of_length_le (by simpa using hge)]
      rfl
    rw [ez] at hR
    wp_walk
    first | exact ⟨_, rfl, by simpa [Builtin.Tuple.tupleCompareSizes, bne] using hR⟩ | simpa [Builtin.Tuple.tupleCompareSizes, bne] using hR
  case h =>
    exact ⟨rfl, 0, rfl, by omega, rfl, h0⟩

theorem rcTp {E : Value → Shared → Prop} {a b : Addr} {p q : Array Value} {Q : Value → Shared → Prop} (ok : Nat → Bool) (hu : A.units < cLine) (J : Shared → Prop) {sh : Shared}
    (ha : sh.heap.IsTuple a p) (hb : sh.heap.IsTuple b q) (turn : ∀ i (h1 : i < p.size) (h2 : i < q.size) sh, J sh → wpAny (model prog w) A.in1 (eqBool p[i] q[i]) (fun r sh' => r = ok i ∧ J sh') E sh)
    (fin : ∀ sh, J sh → Q (.bool (tpAns ok p.size q.size)) sh) (h : J sh) : wpAny (model prog w) A (richCompare .Eq (.ref a) (.ref b)) Q E sh := by
  obtain ⟨⟨c1, d1, t1, s1⟩, o1, e1, n1, g1⟩ := id ha
  obtain ⟨⟨c2, d2, t2, s2⟩, o2, e2, n2, g2⟩ := id hb
  simp only at e1 g1 e2 g2
  subst e1 g1 e2 g2
  refine wpAny_richCompare_same_room (op := .Eq) ⟨_, o1, rfl⟩ ⟨_, o2, rfl⟩ F.slot_tuple_eq (GQ.call_here F.slot_tuple_eq ⟨_, o1, rfl⟩ F.entry_tuple_eq (F.args_tuple_eq_2 _ _) ?_) hu
  exact tpEq (R := wants (fun v sh' => v ≠ .notImplemented ∧ Q v sh') E) a b p q n1 n2 d1 d2 s1 s2 ok J turn (fun sh' z => ⟨(fun x => nomatch x), fin sh' z⟩) o1 o2 h
theorem rnTp {E : Value → Shared → Prop} {a b : Addr} {p q : Array Value} {Q : Value → Shared → Prop} (ok : Nat → Bool) (hu : A.units < cLine) (J : Shared → Prop) {sh : Shared}
    (ha : sh.heap.IsTuple a p) (hb : sh.heap.IsTuple b q) (turn : ∀ i (h1 : i < p.size) (h2 : i < q.size) sh, J sh → wpAny (model prog w) A.in1 (eqBool p[i] q[i]) (fun r sh' => r = ok i ∧ J sh') E sh)
    (fin : ∀ sh, J sh → Q (.bool (!tpAns ok p.size q.size)) sh) (h : J sh) : wpAny (model prog w) A (richCompare .NotEq (.ref a) (.ref b)) Q E sh := by
  obtain ⟨⟨c1, d1, t1, s1⟩, o1, e1, n1, g1⟩ := id ha
  obtain ⟨⟨c2, d2, t2, s2⟩, o2, e2, n2, g2⟩ := id hb
  simp only at e1 g1 e2 g2
  subst e1 g1 e2 g2
  refine wpAny_richCompare_same_room (op := .NotEq) ⟨_, o1, rfl⟩ ⟨_, o2, rfl⟩ F.slot_tuple_ne (GQ.call_here F.slot_tuple_ne ⟨_, o1, rfl⟩ F.entry_tuple_ne (F.args_tuple_ne_2 _ _) ?_) hu
  exact tpNe (R := wants (fun v sh' => v ≠ .notImplemented ∧ Q v sh') E) a b p q n1 n2 d1 d2 s1 s2 ok J turn (fun sh' z => ⟨(fun x => nomatch x), fin sh' z⟩) o1 o2 h
end
section
variable {K : PySem.W.Frag} {T : Tab} {w w' : Wd} {s s' : Store} {H H' : Hp} {X : Cx} {W : WX}
/-- the own == called with any second value -/
theorem run_eqV {n : Nat} {f : Addr} {fd : FuncData} {ps : List Str} {sp : Sp} {A : Around} {pins : List (Addr × Obj)} {σ : L2.St} {sh : Shared} {a : Addr} {y : V} {u : Value} {QQ : Bool → Hp → Prop} (F : FnOk X.prog X.w X.K X.mg X.base (L2.CX X.prog X.w) n f fd ps sp) (hb : Binds X.K fd ps []) (sb : L2.Sub X n A) (I : Inv X pins σ H sh) (ru : RelV y u)
    (h : sp [.ref a, y] H (fun v H' => ∃ k, v = .bl k ∧ QQ k H') fun _ _ _ => False) {Q : Value → Shared → Prop} (q : ∀ k H' sh', Inv X pins σ H' sh' → QQ k H' → Q (.bool k) sh') {E : Value → Shared → Prop} : wpAny (model X.prog X.w) A (call (.ref f) [.ref a, u]) Q E sh := by
  have e0 : Env0 X.prog X.w X.K X.mg X.base A X.stack sh H := by
    have e := I.env0
    exact ⟨by rw [sb.fr]; exact e.frames, e.mod, e.bs, e.bsz, e.funs, e.frf, e.hok, e.bare⟩
  have hl := F.len _ _ _ _ h
  have bnd := hb sh [.ref a, u] I.kIn (by rw [List.append_nil]; exact hl)
  rw [List.append_nil] at bnd
  refine wpAny_call (codeAny_mono (F.run A X.stack sh H ⟨[.ref a, u], []⟩ [.ref a, u] [.ref a, y] _ _ sb.room e0 bnd (.cons rfl (.cons ru .nil)) h) fun r s' hq => ?_)
  cases r with
  | error e =>
    obtain ⟨_, _, _, _, _, _, _, _, _, _, _, _, z⟩ := hq
    exact z.elim
  | ok fl =>
    cases fl with
    | ret u =>
      obtain ⟨z, H', I', rz, k, ez, qq⟩ := I.after hq
      subst ez
      cases rz
      exact q k H' s' I' qq
    | next => exact False.elim hq
    | brk => exact False.elim hq
    | cont => exact False.elim hq

theorem nf1 (K : PySem.W.Frag) (C : Addr) : PySem.W.notFirst K C (.type "NoneType") = true := by
  unfold PySem.W.notFirst PySem.W.subIn
  rw [Bool.or_eq_true]
  exact .inr (by rfl)
theorem nf2 (K : PySem.W.Frag) (C : Addr) : PySem.W.notFirst K C (.type "tuple") = true := by
  unfold PySem.W.notFirst PySem.W.subIn
  rw [Bool.or_eq_true]
  exact .inr (by rfl)
theorem tup_looks {M : Model} {h : Heap} {a : Addr} {its : Array Value} (t : h.IsTuple a its) : PySem.W.Looks M h (typeOf (.ref a)) (.type "tuple") := by
  obtain ⟨o, ho, hc, _⟩ := t
  exact fun A Q E s k q => wpAny_typeOf_ref (k _ _ ho) (by rw [hc]; exact q)
/-- an instance == None or a tuple -/
def oddV (K : PySem.W.Frag) (H : Hp) (y : V) : Prop := y = .non ∨ ∃ b vs, y = .ref b ∧ SqT K H b vs
def rInsOdd (K : PySem.W.Frag) (sp : Sp) (C : Addr) : R2 := fun x y H Q => ∃ a dx fs, x = .ref a ∧ H a = some (.ins C dx fs) ∧ oddV K H y ∧ sp [x, y] H (fun v H' => ∃ k, v = .bl k ∧ Q (.bl k) H') XF
theorem op_insOdd {n : Nat} {f C : Addr} {fd : FuncData} {ps : List Str} {sp : Sp} (F : FnOk X.prog X.w X.K X.mg X.base (L2.CX X.prog X.w) n f fd ps sp) (hr : Room n X.A) (hs : PySem.W.findIn X.K (.ref C) "__eq__" = some (some (.ref f))) (hf : PySem.W.isFn X.K (.ref f) = true) (hb : Binds X.K fd ps []) :
    OpR X (compareOp .Eq) (rInsOdd X.K sp C) := by
  intro pins sh σ H x y v u Q I rx ry h
  obtain ⟨a, dx, fs, rfl, ha, hy, q⟩ := h
  cases rx
  obtain ⟨od, J⟩ := inst_two I ha
  obtain ⟨m, hF⟩ := I.fr
  show wpAny (model X.prog X.w) X.A (richCompare .Eq (.ref a) u) (EP X pins σ Q) X.xe sh
  have go : wpAny (model X.prog X.w) X.A (call (.ref f) [.ref a, u]) (PySem.W.CmpBack (EP X pins σ Q)) X.xe sh := run_eqV F hb ⟨hr, rfl⟩ I ry q fun k H' sh' I' q' => ⟨.bl k, H', I', rfl, q'⟩
  rcases hy with rfl | ⟨b, vs, rfl, hv⟩
  · cases ry
    exact PySem.W.cmp_K (op := .Eq) (tb := .type "NoneType") hr.units0 hF I.ok.mod.kin J (.of_pure rfl) (nf1 _ _) hs hf go
  · cases ry
    obtain ⟨its, r1, p1, _⟩ := I.tuple hv
    exact PySem.W.cmp_K (op := .Eq) (tb := .type "tuple") hr.units0 hF I.ok.mod.kin J (tup_looks p1) (nf2 _ _) hs hf go
def oddD : D → Bool
  | .non => true
  | .tup _ => true
  | _ => false
def eEqO (c : Nat) (fn : Fn) (f1 f2 : ME) : ME := fun e s => (f1 e s).bind fun x s => (f2 e s).bind fun y s => match view s x with
  | some (.ins k _) => if k = c ∧ oddD y = true ∧ fn.np = 2 then (match fn.sem [x, y] s with
    | .ok (.bl b) s => .ok (.bl b) s
    | _ => .bad) else .bad
  | _ => .bad
theorem odd_at (k : SOk K T w s H) {v : V} {d : D} (r : RepS K T w v d) (h : oddD d = true) : oddV K H v := by
  cases d with
  | non =>
    have r : Rep K T w.F v .non := r
    cases r
    exact .inl rfl
  | tup ds =>
    have r : Rep K T w.F v (.tup ds) := r
    cases r with
    | tup h r z => exact .inr ⟨_, _, rfl, sqt_fh K k.fh h⟩
  | _ => cases h
theorem se_eqO {k c : Nat} {fn : Fn} {a b : Expr} {pos : Pos} {f1 f2 : ME} (ec : EqC X.prog X.w X.K X.mg X.base T k c fn) (hr : Room k X.A) (h1 : SE X.K T .raw X W a f1) (h2 : SE X.K T .raw X W b f2) : SE X.K T .tree X W (.Compare a [.Eq] [b] pos) (eEqO c fn f1 f2) := .mk fun w env s σ H k0 eo Q p => by
  obtain ⟨f, fd, ps, C, F, hC, hs, hf, hne, hm, hb⟩ := ec.ex
  refine wpe_of (pe_cmpR (op_insOdd F hr hs hf hb) pe_wp pe_wp (nomark _)) (h1 w env s σ H k0 eo _ (Post.bind p fun v d H1 w1 s1 a1 b1 c1 q => h2 w1 env s1 σ H1 a1 (eo.nxt b1) _ (Post.step b1 q fun v2 d2 H2 w2 s2 a2 b2 c2 q2 => ?_)))
  have c1 : RepS X.K T w2 v d := RepS.nxt b2 c1
  have c2 : RepS X.K T w2 v2 d2 := c2
  cases hx : view s2 d with
  | none =>
    rw [hx] at q2
    exact q2.elim
  | some x =>
    rw [hx] at q2
    cases x with
    | ins k1 fs1 =>
      dsimp only [] at q2
      split at q2
      · rename_i hk
        obtain ⟨rfl, ho, hnp⟩ := hk
        obtain ⟨ad, dx, fv, rfl, hH⟩ := ins_at a2 c1 hx hC
        refine ⟨ad, dx, fv, rfl, hH, odd_at a2 c2 ho, w2, s2, [d, d2], a2, .cons c1 (.cons c2 .nil), hnp.symm, ?_⟩
        cases er : fn.sem [d, d2] s2 with
        | ok r s3 =>
          rw [er] at q2
          cases r with
          | bl z =>
            intro v3 H3 w3 a3 b3 c3
            obtain ⟨P, ow, _⟩ := c3
            exact ⟨z, own_bl ow, q2.give a3 ((b1.trans b2).trans b3) (.bl _)⟩
          | _ => exact q2.elim
        | exc _ _ _ =>
          rw [er] at q2
          exact q2.elim
        | bad =>
          rw [er] at q2
          exact q2.elim
      · exact q2.elim
    | _ => exact q2.elim

/-! ### tuples of instances, also unlike -/
def fst1 : D → Option D
  | .ins _ [(_, a)] => some a
  | _ => none
def eqPair (fn : Fn) (x y : D) : Option Bool := match fn.sem [x, y] [] with
  | .ok (.bl b) _ => (match fst1 x, fst1 y with
    | some p, some q => if eqN p q = some b then some b else none
    | _, _ => none)
  | _ => none
def eqRow (fn : Fn) : List D → List D → Option (List Bool)
  | x :: xs, y :: ys => match eqPair fn x y, eqRow fn xs ys with
    | some b, some r => some (b :: r)
    | _, _ => none
  | _, _ => some []
theorem eqRow_at {fn : Fn} : ∀ {xs ys : List D} {r : List Bool} {i : Nat} {x y : D}, eqRow fn xs ys = some r → xs[i]? = some x → ys[i]? = some y → eqPair fn x y = some (r.getD i false)
  | a :: xs, b :: ys, r, i, x, y, h, h1, h2 => by
    unfold eqRow at h
    cases e1 : eqPair fn a b with
    | none =>
      rw [e1] at h
      cases h
    | some c =>
      cases e2 : eqRow fn xs ys with
      | none =>
        rw [e1, e2] at h
        cases h
      | some q =>
        rw [e1, e2] at h
        cases h
        cases i with
        | zero =>
          cases h1
          cases h2
          exact e1
        | succ i => exact eqRow_at (i := i) e2 (by simpa using h1) (by simpa using h2)
/-- two tuples of instances == or != -/
def eEqR (neg : Bool) (c : Nat) (fn : Fn) (f1 f2 : ME) : ME := fun e s => (f1 e s).bind fun x s => (f2 e s).bind fun y s => match x, y with
  | .tup xs, .tup ys => if (xs.all (insOf c) && ys.all (insOf c)) && decide (fn.np = 2) then (match eqRow fn xs ys with
    | some r => .ok (.bl (tpAns (fun i => r.getD i false) xs.length ys.length != neg)) s
    | none => .bad) else .bad
  | _, _ => .bad
def rTpR (X : Cx) (sp : Sp) (C : Addr) (neg : Bool) : R2 := fun x y H Q => ∃ a b xs ys, ∃ ok : Nat → Bool, x = .ref a ∧ y = .ref b ∧ SqT X.K H a xs ∧ SqT X.K H b ys ∧ ∃ Good : Hp → Prop, Good H ∧
  (∀ (i : Nat) u v H', xs[i]? = some u → ys[i]? = some v → Good H' → ∃ a b dx dy fs gs, u = .ref a ∧ v = .ref b ∧ H' a = some (.ins C dx fs) ∧ H' b = some (.ins C dy gs) ∧ (∀ pins σ sh, Inv X pins σ H' sh → a = b → ok i = true) ∧ sp [u, v] H' (fun z H'' => ∃ k, z = .bl k ∧ (k = ok i ∧ Good H'')) XF) ∧ ∀ H', Good H' → Q (.bl (tpAns ok xs.length ys.length != neg)) H'
theorem op_tpR {n : Nat} {f C : Addr} {fd : FuncData} {ps : List Str} {sp : Sp} (F : FnOk X.prog X.w X.K X.mg X.base (L2.CX X.prog X.w) n f fd ps sp) (hr : Room (n + 1) X.A) (hs : PySem.W.findIn X.K (.ref C) "__eq__" = some (some (.ref f))) (hf : PySem.W.isFn X.K (.ref f) = true) (hb : Binds X.K fd ps []) (neg : Bool) :
    OpR X (compareOp (if neg then .NotEq else .Eq)) (rTpR X sp C neg) := by
  intro pins sh σ H x y v u Q I rx ry h
  obtain ⟨a, b, xs, ys, ok, rfl, rfl, h1, h2, Good, g0, step, fin⟩ := h
  cases rx
  cases ry
  obtain ⟨its, r1, p1, _⟩ := I.tuple h1
  obtain ⟨its2, r2, p2, _⟩ := I.tuple h2
  have l1 := r1.length
  have l2 := r2.length
  have hu := hr.un
  have turn : ∀ i (g1 : i < its.toArray.size) (g2 : i < its2.toArray.size) sh', (∃ H', Inv X pins σ H' sh' ∧ Good H') → wpAny (model X.prog X.w) X.A.in1 (eqBool its.toArray[i] its2.toArray[i]) (fun r sh'' => r = ok i ∧ ∃ H', Inv X pins σ H' sh'' ∧ Good H') X.xe sh' := fun i g1 g2 sh' ⟨H', I', g⟩ => by
    have hi1 : i < xs.length := by simpa [l1] using g1
    have hi2 : i < ys.length := by simpa [l2] using g2
    obtain ⟨u1, e1, ru1⟩ := r1.get (List.getElem?_eq_getElem hi1)
    obtain ⟨u2, e2, ru2⟩ := r2.get (List.getElem?_eq_getElem hi2)
    have eu1 : its.toArray[i] = u1 := by
      obtain ⟨_, q⟩ := List.getElem?_eq_some_iff.mp e1
      simpa using q
    have eu2 : its2.toArray[i] = u2 := by
      obtain ⟨_, q⟩ := List.getElem?_eq_some_iff.mp e2
      simpa using q
    rw [eu1, eu2]
    obtain ⟨ad, bd, dx, dy, fs, gs, ex, ey, ha, hb', hself, q⟩ := step i _ _ H' (List.getElem?_eq_getElem hi1) (List.getElem?_eq_getElem hi2) g
    rw [ex] at ru1 q
    rw [ey] at ru2 q
    cases ru1
    cases ru2
    by_cases hab : ad = bd
    · have hz := hself _ _ _ I' hab
      subst hab
      exact SeqAt.EqAt.same (A := X.A.in1) (s := sh') (.ref ad) X.prog X.w X.xe _ ⟨hz.symm, H', I', g⟩
    · obtain ⟨od, J⟩ := inst_two I' ha
      obtain ⟨od', J'⟩ := inst_two I' hb'
      obtain ⟨m, hF⟩ := I'.fr
      have sb : L2.Sub X (n + 1) X.A := ⟨hr, rfl⟩
      refine GQ.eqBool_refG hab (PySem.W.cmp_K (op := .Eq) (tb := .ref C) sb.in1.room.units0 hF I'.ok.mod.kin J J'.type (by simp [PySem.W.notFirst]) hs hf ?_)
      exact run_eq F hb sb.in1 I' q fun k H'' sh'' I'' qq => by
        obtain ⟨rfl, g'⟩ := qq
        exact ⟨_, rfl, rfl, H'', I'', g'⟩
  have z1 : its.toArray.size = xs.length := by simp [l1]
  have z2 : its2.toArray.size = ys.length := by simp [l2]
  cases neg with
  | false =>
    show wpAny (model X.prog X.w) X.A (richCompare .Eq (.ref a) (.ref b)) (EP X pins σ Q) X.xe sh
    exact rcTp ok (by omega) _ p1 p2 turn (fun sh' ⟨H', I', g⟩ => ⟨.bl _, H', I', by rw [z1, z2]; rfl, by have := fin H' g; rwa [Bool.bne_false] at this⟩) ⟨H, I, g0⟩
  | true =>
    show wpAny (model X.prog X.w) X.A (richCompare .NotEq (.ref a) (.ref b)) (EP X pins σ Q) X.xe sh
    exact rnTp ok (by omega) _ p1 p2 turn (fun sh' ⟨H', I', g⟩ => ⟨.bl _, H', I', by rw [z1, z2]; rfl, by have := fin H' g; rwa [Bool.bne_true] at this⟩) ⟨H, I, g0⟩
theorem ins_fst {F : Hp} {v : V} {c : Nat} {fs : List (Nat × D)} {a : D} (r : Rep K T F v (.ins c fs)) (h : fst1 (.ins c fs) = some a) : ∃ ad C dx n u, v = .ref ad ∧ F ad = some (.ins C dx [(T.fld n, u)]) ∧ Rep K T F u a := by
  cases r with
  | ins hc h2 r =>
    cases r with
    | nil => cases h
    | cons h3 r =>
      cases r with
      | nil =>
        cases h
        exact ⟨_, _, _, _, _, rfl, h2, h3⟩
      | cons => cases h
theorem se_eqR {k c : Nat} {fn : Fn} {a b : Expr} {pos : Pos} {f1 f2 : ME} (neg : Bool) (ec : EqC X.prog X.w X.K X.mg X.base T k c fn) (hr : Room (k + 1) X.A) (h1 : SE X.K T .raw X W a f1) (h2 : SE X.K T .raw X W b f2) : SE X.K T .tree X W (.Compare a [if neg then .NotEq else .Eq] [b] pos) (eEqR neg c fn f1 f2) := .mk fun w env s σ H k0 eo Q p => by
  obtain ⟨f, fd, ps, C, F, hC, hs, hf, hne, hm, hb⟩ := ec.ex
  refine wpe_of (pe_cmpR (op_tpR F hr hs hf hb neg) pe_wp pe_wp (by cases neg <;> exact nomark _)) (h1 w env s σ H k0 eo _ (Post.bind p fun v d H1 w1 s1 a1 b1 c1 q => h2 w1 env s1 σ H1 a1 (eo.nxt b1) _ (Post.step b1 q fun v2 d2 H2 w2 s2 a2 b2 c2 q2 => ?_)))
  have c1 : RepS X.K T w2 v d := RepS.nxt b2 c1
  have c2 : RepS X.K T w2 v2 d2 := c2
  cases d with
  | tup xs =>
    cases d2 with
    | tup ys =>
      dsimp only [] at q2
      split at q2
      · rename_i hk
        simp only [Bool.and_eq_true, decide_eq_true_eq] at hk
        obtain ⟨⟨ix, iy⟩, hnp⟩ := hk
        cases er : eqRow fn xs ys with
        | none =>
          rw [er] at q2
          exact q2.elim
        | some ro =>
        rw [er] at q2
        have c1 : Rep X.K T w2.F v (.tup xs) := c1
        have c2 : Rep X.K T w2.F v2 (.tup ys) := c2
        cases c1 with
        | tup hx rx _ =>
        cases c2 with
        | tup hy ry _ =>
        have lx := rx.length
        have ly := ry.length
        refine ⟨_, _, _, _, fun i => ro.getD i false, rfl, rfl, sqt_fh X.K a2.fh hx, sqt_fh X.K a2.fh hy, fun H' => ∃ w3, SOk X.K T w3 s2 H' ∧ Nxt w2 s2 H2 w3 s2 H', ⟨w2, a2, .refl⟩, fun i u z H' hu hz g => ?_, fun H' g => ?_⟩
        · obtain ⟨w3, a3, b3⟩ := g
          obtain ⟨dx, ex, qx⟩ := Reps.get' rx hu
          obtain ⟨dy, ey, qy⟩ := Reps.get' ry hz
          have ep := eqRow_at er ex ey
          obtain ⟨fs, rfl⟩ := insOf_at ix ex
          obtain ⟨gs, rfl⟩ := insOf_at iy ey
          have qx := qx.sub b3.F
          have qy := qy.sub b3.F
          have rsx : RepS X.K T (⟨w3.F, [], []⟩ : Wd) u (.ins c fs) := .of qx
          have rsy : RepS X.K T (⟨w3.F, [], []⟩ : Wd) z (.ins c gs) := .of qy
          obtain ⟨ad, dx, fv, rfl, hH⟩ := ins_at a3.bare rsx rfl hC
          obtain ⟨bd, dy, gv, rfl, hH2⟩ := ins_at a3.bare rsy rfl hC
          unfold eqPair at ep
          split at ep
          · rename_i bb s4 es
            split at ep
            · rename_i pa pb e1 e2
              split at ep
              · rename_i en
                cases ep
                refine ⟨ad, bd, dx, dy, fv, gv, rfl, rfl, hH, hH2, fun pins σ' sh I' hab => ?_, ⟨w3.F, [], []⟩, [], [.ins c fs, .ins c gs], a3.bare, .cons rsx (.cons rsy .nil), hnp.symm, ?_⟩
                · subst hab
                  obtain ⟨ad1, C1, dx1, n1, u1, k1, m1, z1⟩ := ins_fst qx e1
                  obtain ⟨ad2, C2, dx2, n2, u2, k2, m2, z2⟩ := ins_fst qy e2
                  cases k1
                  cases k2
                  rw [m1] at m2
                  injection m2 with m2
                  injection m2 with _ _ m2
                  injection m2 with m2
                  injection m2 with _ m2
                  subst m2
                  exact eq_self I' a3.fh _ _ _ _ _ en z1 z2
                · rw [es]
                  intro v3 H4 w4 a4 b4 c4
                  obtain ⟨P, ow, _⟩ := c4
                  obtain ⟨a5, b5⟩ := a3.frame b4 a4
                  exact ⟨_, own_bl ow, rfl, _, a5, b3.trans b5⟩
              · cases ep
            · cases ep
          · cases ep
        · obtain ⟨w3, a3, b3⟩ := g
          rw [← lx, ← ly] at q2
          exact q2.give a3 ((b1.trans b2).trans b3) (.bl _)
      · exact q2.elim
    | _ => exact q2.elim
  | _ => exact q2.elim
theorem w_eqR {k c : Nat} {fn : Fn} {a b : Expr} {pos : Pos} {f1 f2 : ME} (hK : X.K = K) (ec : EqC X.prog X.w K X.mg X.base T k c fn) (hr : Room (k + 1) X.A) (h1 : SE K T .raw X W a f1) (h2 : SE K T .raw X W b f2) : SE K T .tree X W (.Compare a [.Eq] [b] pos) (eEqR false c fn f1 f2) := by
  subst hK
  exact se_eqR false ec hr h1 h2
theorem w_neR {k c : Nat} {fn : Fn} {a b : Expr} {pos : Pos} {f1 f2 : ME} (hK : X.K = K) (ec : EqC X.prog X.w K X.mg X.base T k c fn) (hr : Room (k + 1) X.A) (h1 : SE K T .raw X W a f1) (h2 : SE K T .raw X W b f2) : SE K T .tree X W (.Compare a [.NotEq] [b] pos) (eEqR true c fn f1 f2) := by
  subst hK
  exact se_eqR true ec hr h1 h2
theorem w_eqO {k c : Nat} {fn : Fn} {a b : Expr} {pos : Pos} {f1 f2 : ME} (hK : X.K = K) (ec : EqC X.prog X.w K X.mg X.base T k c fn) (hr : Room k X.A) (h1 : SE K T .raw X W a f1) (h2 : SE K T .raw X W b f2) : SE K T .tree X W (.Compare a [.Eq] [b] pos) (eEqO c fn f1 f2) := by
  subst hK
  exact se_eqO ec hr h1 h2
end
end VM

set_option Elab.async false
set_option linter.all false
set_option maxRecDepth 100000
set_option maxHeartbeats 4000000
/-! VM44: len(set(t)), sorted(t) of a tuple of texts. -/
namespace VM
open PySem PySem.Spec PyProof.Rows L2
theorem sub_tup_set : isSubtype (.type "tuple") (.type "set") = pure false := by rw [isSubtype_type]; kernel_rfl
theorem sub_tup_frozen : isSubtype (.type "tuple") (.type "frozenset") = pure false := by rw [isSubtype_type]; kernel_rfl
section
variable {P : Program} {wo : World} {A : Around} {E : Value → Shared → Prop} {s : Shared}
set_option maxRecDepth 100000 in
set_option maxHeartbeats 3200000 in
/-- set(a tuple of texts) -/
theorem call_set_tup {l : Addr} {items : Array Value} (ys : List Str) {Q : Value → Shared → Prop} (hh : A.handled = none) (hl : s.heap.IsTuple l items) (hit : StrsAre items.toList ys) (hb : ys.length + 1 < scanBound)
    (h : ∀ (h' : Heap) (tk : Nat), TxS wo h' s.heap.objs.size (putsTx [] ys) → (∀ b o, s.heap.get? b = some o → h'.get? b = some o) → Q (.ref s.heap.objs.size) { s with heap := h', toks := tk }) :
    wpAny (model P wo) A (call (.type "set") [.ref l]) Q E s := by
  have isz : items.size = ys.length := by
    rw [← Array.length_toList]
    clear h hb hl
    generalize items.toList = us at hit
    induction hit with
    | nil => rfl
    | cons x t r ih => rw [List.length_cons, List.length_cons, ih]
  obtain ⟨c, tl, hmro⟩ := F.called_set.mro
  have hmade := F.called_set.made
  have hsub := F.called_set.sub
  refine wpAny_call (codeAny_of_tree ?_)
  show wpAny _ _ (callAny (.type "set") _) _ _ _
  refine wpAny_pure ⟨Code.quiet_builtin _ (by decide +kernel), codeAny_builtin F.entry_type_call ?_⟩
  rw [Around.under_plain (weight_type_call_type "set" [.ref l] []) rfl]
  have h1 := F.called_set.notType
  have h2 := F.called_set.canCreate
  have hct := F.typeCall_set_1 (.ref l)
  repeat (any_goals (first | assumption | wp_step))
  refine codeAny_mono (code_set_led1 (.ref l) (E := E) (Q₁ := fun obj s1 => obj = .ref s.heap.objs.size ∧ s1 = { s with heap := s.heap.push (noSet wo) }) ⟨rfl, rfl⟩) fun r s1 hr => ?_
  cases r with
  | error e => exact hr
  | ok fl =>
    cases fl with
    | ret obj =>
      obtain ⟨rfl, rfl⟩ := hr
      have atS : (s.heap.push (noSet wo)).get? s.heap.objs.size = some (noSet wo) := Heap.get?_push_size _ rfl
      have hT : Shared.TypeIs { s with heap := s.heap.push (noSet wo) } (.ref s.heap.objs.size) "set" := ⟨_, atS, rfl⟩
      have hli := F.called_set.init.lookup
      have hbi := F.called_set.init.bind (.ref s.heap.objs.size)
      repeat (any_goals (first | assumption | wp_step))
      refine codeAny_mono (codeAny_call_builtin (R := wants (fun r s2 => r = .none ∧ ∃ h' tk, s2 = { s with heap := h', toks := tk } ∧ TxS wo h' s.heap.objs.size (putsTx [] ys) ∧
          (∀ b o, s.heap.get? b = some o → h'.get? b = some o)) E) F.called_set.init.plain F.entry_set_init (check_set_init_1 hT ?_)) fun r2 s2 hr2 => ?_
      · obtain ⟨⟨ocls, odict, odata, oslots⟩, hol, hcl, nl, hdl⟩ := hl
        simp only at hcl hdl
        subst hcl; subst hdl
        have hol2 : (s.heap.push (noSet wo)).get? l = some { cls := .type "tuple", dict := odict, data := .seq items nl, slots := oslots } := Heap.get?_push_of_some _ hol
        have hsls := sub_tup_set
        have hslf := sub_tup_frozen
        have hne : (Value.type "tuple" == Value.type "dict") = false := by decide
        have hl1 : (s.heap.push (noSet wo)).IsTuple l items := ⟨_, hol2, rfl, nl, rfl⟩
        unfold Builtin.«set.__init__» noKeywords Builtin.Frozenset.updateFrom
        generalize hPI : pyIter = PI
        wp_walk
        subst hPI
        refine wpAny_pyIter_tuple hl1 (wpAny_bind (wpAny_runValue ?_))
        have llt : l < s.heap.objs.size := Heap.lt_size hol
        have h3 : A.in1.in1.in1.handled = none := by simp [hh]
        have hneI : l ≠ (s.heap.push (noSet wo)).objs.size := by
          rw [Heap.size_push]; exact Nat.ne_of_lt (Nat.lt_succ_of_lt llt)
        have hSf : s.heap.objs.size ∉ [(s.heap.push (noSet wo)).objs.size, l] := by
          rw [Heap.size_push]; simp only [List.mem_cons, List.mem_singleton, List.not_mem_nil, or_false, not_or]
          exact ⟨Nat.ne_of_lt (Nat.lt_succ_self _), Nat.ne_of_gt llt⟩
        have hval : ∀ (i : Nat) (v : Value), items[i]? = some v → ∃ k t, ys[i]? = some k ∧ v = .str k t := fun i v hv => strs_val hit i v (by rw [Array.getElem?_toList]; exact hv)
        refine tx_loop ((Walks.tuple h3 _ l hneI items).toS) s.heap.objs.size hSf ys isz hval (items.size - 0) 0 _ [] (by omega) (Nat.zero_le _) ⟨⟨_, Heap.get?_push_size _ rfl, rfl, rfl⟩, (hl1.push _)⟩ (by rw [isz]; simp; omega) ?hS0 ?hR
        case hS0 => exact txS_new (Heap.get?_push_of_some _ atS)
        case hR =>
          intro s' hm hS'
          obtain ⟨h', g2, d', tk', os'⟩ := s'
          obtain rfl : g2 = s.gens := hm.gens
          obtain rfl : d' = s.drawn := hm.drawn
          obtain rfl : os' = s.os := hm.os
          show wpAny _ _ _ _ _ _
          refine wpAny_pure ?_
          show wpAny _ _ (ret Value.none) _ _ _
          refine wpAny_pure ⟨rfl, h', tk', rfl, hS', fun b o e => ?_⟩
          have b0 : b < s.heap.objs.size := Heap.lt_size e
          have b2 : b ≠ (s.heap.push (noSet wo)).objs.size := by
            rw [Heap.size_push]; exact Nat.ne_of_lt (Nat.lt_succ_of_lt b0)
          exact hm.heap b o (by simp only [List.mem_cons, List.mem_singleton, List.not_mem_nil, or_false, not_or]; exact ⟨Nat.ne_of_lt b0, b2⟩) (Heap.get?_push_of_some _ (Heap.get?_push_of_some _ e))
      · cases r2 with
        | error e => exact hr2
        | ok fl2 =>
          cases fl2 with
          | ret r =>
            obtain ⟨rfl, h', tk, rfl, hS', hk'⟩ := hr2
            repeat (any_goals (first | assumption | wp_step))
            exact h _ _ hS' hk'
          | _ => exact hr2.elim
    | _ => exact hr.elim

theorem collect_tupK {l : Addr} {vs : List Value} {Q : List Value → Shared → Prop} (hl : s.heap.IsTuple l vs.toArray) (hz : vs.length ≤ sizeLine)
    (h : ∀ s1, (∀ b o, s.heap.get? b = some o → s1.heap.get? b = some o) → s.heap.objs.size ≤ s1.heap.objs.size → s1.gens = s.gens → s1.os = s.os → Q vs s1) : wpAny (model P wo) A (collect (.ref l)) Q E s := by
  obtain ⟨o, ho, hc, n, hd⟩ := id hl
  unfold collect
  refine wpAny_bind (wpAny_runValue (codeAny_builtin entry_proto_collect' ?_))
  show wpAny _ _ (do again (.builtin "list.__iadd__" ⟨[← newList [], .ref l], []⟩)) _ _ s
  refine wpAny_bind (wpAny_newList (wpAny_pure ⟨Code.quiet_builtin _ (by decide +kernel), codeAny_builtin entry_list_iadd' ?_⟩))
  show wpAny _ _ (Builtin.List.listExtendWith (.ref s.heap.objs.size) (.ref l) (.ref s.heap.objs.size)) _ _ { s with heap := s.heap.push (seqObj "list" #[] 0) }
  unfold Builtin.List.listExtendWith
  have hz' : (s.heap.push (seqObj "list" #[] 0)).get? l = some o := Heap.get?_push_of_some _ ho
  refine wpAny_bind (wpAny_typeOf (T := "tuple") ⟨o, hz', hc⟩ ?_)
  rw [if_pos (by simp)]
  refine wpAny_bind (listItems_at hz' hd ?_)
  refine wpAny_bind (listItems_at (xs := #[]) (n := 0) (Heap.get?_push_size _ rfl) rfl ?_)
  rw [if_neg (by simp)]
  refine wpAny_bind (listUpdate_at (xs := #[]) (n := 0) (Heap.get?_push_size _ rfl) rfl ?_ (Nat.zero_le _) (by show (#[] ++ vs.toArray).size ≤ sizeLine + 1; simp only [Array.size_append, List.size_toArray, List.length_nil]; omega))
  refine wpAny_pure ?_
  refine wpAny_bind (wpAny_load (get?_update_seq (Heap.get?_push_size _ rfl) _) ?_)
  show wpAny _ _ (pure ((#[] : Array Value) ++ vs.toArray).toList) Q E _
  rw [show ((#[] : Array Value) ++ vs.toArray).toList = vs by simp]
  refine wpAny_pure (h _ (fun b o' e => ?_) ?_ rfl rfl)
  rotate_left
  · have e1 := (Heap.SameBut.update (s.heap.push (seqObj "list" #[] 0)) s.heap.objs.size (Obj.mapSeq (· ++ vs.toArray))).1
    have e2 := Heap.size_push s.heap (seqObj "list" #[] 0)
    show s.heap.objs.size ≤ ((s.heap.push (seqObj "list" #[] 0)).update s.heap.objs.size (Obj.mapSeq (· ++ vs.toArray))).objs.size
    omega
  have lt := Heap.lt_size e
  exact ((Heap.SameBut.update (s.heap.push (seqObj "list" #[] 0)) s.heap.objs.size (Obj.mapSeq (· ++ vs.toArray))).2 b (Nat.ne_of_lt lt)).trans (Heap.get?_push_of_some _ e)
/-- sorted(a tuple of texts) -/
theorem sorted_tup {a : Addr} {l : List Str} {vs : List Value} {Q : Value → Shared → Prop} (ht : s.heap.IsTuple a vs.toArray) (hS : StrsAre vs l) (vlen : vs.length ≤ sizeLine)
    (hQ : ∀ s' p (out : Array Value) (c : Nat) (ys : List Str), (∀ b o, s.heap.get? b = some o → s'.heap.get? b = some o) → s'.gens = s.gens → s'.os = s.os → s.heap.objs.size ≤ p →
      s'.heap.get? p = some (seqObj "list" out c) → StrsAre out.toList ys → ys.Perm l → sortedS ys = true → Q (.ref p) s') :
    wpAny (model P wo) A (call (.builtin "sorted") [.ref a]) Q E s := by
  refine Calls.call_function_entry kind_sorted plain_sorted entry_sorted (args_sorted1 _) ?_
  unfold Builtin.«sorted»
  refine wpAny_bind (m := checkCount "sorted" 1 1 _) (wpAny_pure ?_)
  refine wpAny_bind (collect_tupK (A := A.in1) ht vlen fun s1 k1 hz g1 o1 => ?_)
  refine wpAny_bind (wpAny_newList ?_ vlen)
  have hoL : (s1.heap.push (seqObj "list" vs.toArray 0)).get? s1.heap.objs.size = some (seqObj "list" vs.toArray 0) := Heap.get?_push_size _ rfl
  refine wpAny_bind (wpAny_holding (wpAny_call_entry slot_list_sort ⟨_, hoL, rfl⟩ entry_list_sort (list_sort_treeKAny strKind_oneLt hoL hS.keysOf (fun v1 v2 rest e => keyKind_strs (by rw [← e]; exact hS)) vlen fun st' a1 a2 => ⟨_, rfl, ?_⟩) (args_list_sort _)))
  obtain ⟨ys, b1, b2, b3⟩ := sorted_out_str hS a1 a2
  obtain ⟨c, hc⟩ := sortedHeap_at (vs := vs) (out := (arrOf st').map (·.2)) hoL
  refine wpAny_pure ⟨_, rfl, hQ _ s1.heap.objs.size _ c ys (fun b u e => ?_) g1 o1 hz hc b1 b2 b3⟩
  have q := k1 b u e
  have lt := Heap.lt_size q
  show (sortedHeap (s1.heap.push (seqObj "list" vs.toArray 0)) s1.heap.objs.size vs ((arrOf st').map (·.2))).get? b = some u
  rw [sortedHeap_old (Nat.ne_of_lt lt) (by rw [size_push']; exact Nat.lt_succ_of_lt lt)]
  exact Heap.get?_push_of_some _ q
end
section
variable {K : PySem.W.Frag} {T : Tab} {w w' : Wd} {s s' : Store} {H H' : Hp} {X : Cx} {W : WX}
theorem call_setT2 (hc : X.calm = true) : CallR X (.type "set") (fun xs H Q => ∃ l ys, xs = [.ref l] ∧ (SqL X.K H l (ys.map V.str) ∨ SqT X.K H l (ys.map V.str)) ∧ ys.length + 1 < scanBound ∧ ∀ p, H p = none → Q (.ref p) (upd H p (SetTx X.w p (putsTx [] ys)))) := fun pins s σ H xs us Q I r h => by
  obtain ⟨l, ys, rfl, sq, hb, q⟩ := h
  rcases sq with sq | sq
  · exact call_setT hc pins s σ H _ us Q I r ⟨l, ys, rfl, sq, hb, q⟩
  · obtain rfl := Vals.ref1 r
    obtain ⟨its, rv, pl, _⟩ := I.tuple sq
    refine call_set_tup ys (I.ok.hd hc) pl (by simpa using rv.strs) hb fun h' tk R k => ?_
    have hn := I.hok.fresh (Nat.le_refl s.heap.objs.size)
    exact ⟨.ref s.heap.objs.size, _, I.laid (t' := tk) (a := s.heap.objs.size) (o := SetTx X.w s.heap.objs.size (putsTx [] ys)) (h' := h') k (Nat.le_refl _) (setTx_ok R), rfl, q _ hn⟩
def rSetIn2 (wo : World) (K : PySem.W.Frag) (r : List V → Hp → VK → Prop) : V → Hp → VK → Prop := fun x H Q => ∃ l ys, [x] = [.ref l] ∧ (SqL K H l (ys.map V.str) ∨ SqT K H l (ys.map V.str)) ∧ ys.length + 1 < scanBound ∧ ∀ p, H p = none → r [.ref p] (upd H p (SetTx wo p (putsTx [] ys))) Q
/-- the items of a list or tuple -/
def dSeq (g : D → Option D) : D → Option D
  | .tup xs => g (.lst xs)
  | d => g d
theorem rl_lenSet2 {wo : World} : Rl1F K T (rSetIn2 wo K fun xs H Q => ∃ a l, xs = [.ref a] ∧ H a = some (SetTx wo a l) ∧ Q (.int (l.length : Nat)) H) (dSeq dLenSet) := fun w s H v x y k r1 hg Q q => by
  cases x with
  | lst xs =>
    obtain ⟨l, ys, e, sq, rest⟩ := rl_lenSet (wo := wo) w s H v (.lst xs) y k r1 hg Q q
    exact ⟨l, ys, e, .inl sq, rest⟩
  | tup xs =>
    have r1 : Rep K T w.F v (.tup xs) := r1
    cases r1 with
    | tup h r z =>
    have hg : (match strsO xs with
      | some zs => if zs.length + 1 < 4000 then some (D.int (putsN [] zs).length) else none
      | none => none) = some y := hg
    cases e : strsO xs with
    | none =>
      rw [e] at hg
      cases hg
    | some zs =>
      rw [e] at hg
      dsimp only [] at hg
      split at hg
      · rename_i lt
        cases hg
        obtain ⟨e1, e2, e3⟩ := reps_strs r e
        subst e1
        refine ⟨_, zs.map mkS, rfl, .inr (sqt_fh K k.fh h), by rw [List.length_map]; exact Nat.lt_of_lt_of_le lt bound4, fun p hp => ⟨p, _, rfl, upd_same, ?_⟩⟩
        have e5 := puts_is zs []
        rw [List.map_nil] at e5
        rw [e5, List.length_map]
        exact q _ _ w (k.other hp) (.other k hp) (own_flat (F := w.F) rfl (k.other hp) (.int _))
      · cases hg
  | dic kvs => cases hg
  | _ => cases hg
theorem se_setIn2 {x : Str} {id : String} {r : List V → Hp → VK → Prop} {g : D → Option D} {e : Expr} {p p2 pos pos2 : Pos} {f : ME} (hc : X.calm = true) (hr : CallR X (.builtin id) r) (rl : Rl1F X.K T (rSetIn2 X.w X.K r) g) (hp : plain e = true) (hg : Gl X x) (hm : X.mg x = none) (hv : bootBuiltins x = some (.builtin id)) (hn : x ≠ "__name__") (hdb : (x == ("__debug__" : Str)) = false)
    (hg2 : Gl X "set") (hm2 : X.mg "set" = none) (h : SE X.K T .raw X W e f) : SE X.K T (.own 1) X W (.Call (.Name x p) [.Call (.Name "set" p2) [e] [] pos2] [] pos) (op1F g f) :=
  se_op1F (r := rSetIn2 X.w X.K r) (fun ha => pe_callB hr hg hm hv (pa_cons (pe_callTy (call_setT2 hc) hg2 hm2 (by decide +kernel) (pa_cons ha pa_nil (star_plain hp _ _)) (by decide) (by decide) (star_plain hp _ _) tail0) pa_nil) hn hdb rfl tail0) rl h
theorem w_lenSet2 {e : Expr} {p p2 pos pos2 : Pos} {f : ME} (hK : X.K = K) (hc : X.calm = true) (hm : X.mg "len" = none) (hm2 : X.mg "set" = none) (hg : Gl X "len") (hg2 : Gl X "set") (hp : plain e = true) (h : SE K T .raw X W e f) : SE K T (.own 1) X W (.Call (.Name "len" p) [.Call (.Name "set" p2) [e] [] pos2] [] pos) (op1F (dSeq dLenSet) f) := by
  subst hK
  exact se_setIn2 hc call_lenT rl_lenSet2 hp hg hm (by decide +kernel) (by decide) (by decide) hg2 hm2 h
theorem cr_sortedTu : CallR X (.builtin "sorted") (fun vs H Q => ∃ (a : Addr) (xs : List Str), vs = [V.ref a] ∧ SqT X.K H a (xs.map V.str) ∧ ∀ (ys : List Str) (p : Addr), ys.Perm xs → sortedS ys = true → H p = none → Q (.ref p) (upd H p (.lst (ys.map V.str)))) := fun pins s σ H xs us Q I r h => by
  obtain ⟨a, l, rfl, sq, q⟩ := h
  obtain rfl := Vals.ref1 r
  obtain ⟨its, rv, pl, hz⟩ := I.tuple sq
  have e0 := rv.length
  rw [List.length_map] at e0
  refine sorted_tup (l := l) (vs := its) pl (by simpa using rv.strs) (by rw [List.length_map] at hz; omega) fun s' p out c ys k g o hp hg hi pm so => ?_
  have len : (ys.map V.str).length ≤ sizeLine := by
    rw [List.length_map] at hz ⊢
    rw [pm.length_eq]
    exact hz
  have hn : H p = none := I.hok.fresh hp
  have J : Inv X pins σ (upd H p (.lst (ys.map V.str))) { s with heap := s'.heap, gens := s'.gens, drawn := s'.drawn, toks := s'.toks } :=
    I.call (ch := []) (Un.laid k hp hn) (I.hok.laid k hp ⟨len, out.toList, c, vals_of_strs hi, hg⟩) (by rw [g]; exact I.bare) (fun _ z => nomatch z)
  have e : s' = { s with heap := s'.heap, gens := s'.gens, drawn := s'.drawn, toks := s'.toks } := by
    cases s'
    cases s
    cases o
    rfl
  rw [e]
  exact ⟨.ref p, _, J, rfl, q ys p pm so hn⟩
def rSortB (K : PySem.W.Frag) : List V → Hp → VK → Prop := fun vs H Q => rSortA K vs H Q ∨ (∃ (a : Addr) (xs : List Str), vs = [V.ref a] ∧ SqT K H a (xs.map V.str) ∧ ∀ (ys : List Str) (p : Addr), ys.Perm xs → sortedS ys = true → H p = none → Q (.ref p) (upd H p (.lst (ys.map V.str))))
theorem call_sortB (hc : X.calm = true) : CallR X (.builtin "sorted") (rSortB X.K) := fun pins s σ H xs us Q I r h => by
  rcases h with h | h
  · exact call_sortA hc pins s σ H xs us Q I r h
  · exact cr_sortedTu pins s σ H xs us Q I r h
def dSortB : D → Option D
  | .tup xs => match strsO xs with
    | some zs => some (.lst ((sortN zs).map .str))
    | none => none
  | d => dSortA d
theorem rl_sortB : Rl1F K T (fun x H Q => rSortB K [x] H Q) dSortB := fun w s H v x y k r1 hg Q q => by
  cases x with
  | tup xs =>
    have r1 : Rep K T w.F v (.tup xs) := r1
    cases r1 with
    | tup h r z =>
    have hg : (match strsO xs with
      | some zs => some (D.lst ((sortN zs).map .str))
      | none => none) = some y := hg
    cases e2 : strsO xs with
    | none =>
      rw [e2] at hg
      cases hg
    | some zs =>
      rw [e2] at hg
      cases hg
      obtain ⟨e1, e3, e4⟩ := reps_strs r e2
      subst e1
      refine .inr ⟨_, zs.map mkS, rfl, sqt_fh K k.fh h, fun ys p hp hs hn => ?_⟩
      rw [sortN_is hp hs]
      exact give_lst k q (strs_reps fun u hu => e4 u ((sortN_perm zs).mem_iff.mp hu)) (by rw [List.length_map, (sortN_perm zs).length_eq, e3]; exact z) p hn
  | lst xs => exact .inl (rl_sortA w s H v (.lst xs) y k r1 hg Q q)
  | dic kvs => exact .inl (rl_sortA w s H v (.dic kvs) y k r1 hg Q q)
  | _ => cases hg
theorem w_bsorted2 {e : Expr} {p pos : Pos} {f : ME} (hK : X.K = K) (hc : X.calm = true) (hm : X.mg "sorted" = none) (hg : Gl X "sorted") (hp : plain e = true) (h : SE K T .raw X W e f) : SE K T (.own 1) X W (.Call (.Name "sorted" p) [e] [] pos) (op1F dSortB f) := by
  subst hK
  exact se_biF (call_sortB hc) rl_sortB hp hg hm (by decide +kernel) (by decide) (by decide) h
end
end VM

set_option Elab.async false
set_option linter.all false
set_option maxRecDepth 100000
set_option maxHeartbeats 1000000
/-! VM45: a < b < c as a test. -/
namespace VM
open PySem PySem.Spec PyProof.Rows L2
section
variable {K : PySem.W.Frag} {T : Tab} {X : Cx} {W : WX}
theorem st_ltLt {a b c : Expr} {pos : Pos} {f1 f2 f3 : ME} (h1 : SE K T .tree X W a f1) (h2 : SE K T .tree X W b f2) (h3 : SE K T .tree X W c f3) : ST K T X W (.Compare a [.Lt, .Lt] [b, c] pos) (tE (eChainI (fun i j => decide (i < j)) (fun i j => decide (i < j)) f1 f2 f3)) :=
  st_chainI op_lt op_lt h1 h2 h3 (nomark _)
end
end VM

set_option Elab.async false
set_option linter.all false
set_option maxRecDepth 100000
set_option maxHeartbeats 1000000
/-! VM46: a tuple that was made without a dict of its own (.set in the trees); its .index of texts; list.index. -/
namespace VM
open PySem PySem.Spec PyProof.Rows L2
section
variable {K : PySem.W.Frag} {T : Tab} {w w' : Wd} {s s' : Store} {H H' : Hp} {X : Cx} {W : WX}
theorem call_tupN : CallR X (.type "tuple") (fun xs H Q => ∃ p ys, xs = [.ref p] ∧ SqL X.K H p ys ∧ ∀ l o, H l = none → o.dict = none → Q (.ref l) (upd H l (.frz o (.tup ys)))) := fun pins s σ H xs us Q I r h => by
  obtain ⟨p, ys, rfl, sq, q⟩ := h
  obtain rfl := Vals.ref1 r
  obtain ⟨its, rv, pl, hz⟩ := I.list sq
  have e0 := rv.length
  refine call_tuple_list pl.isList (fun h' kp => ?_) (by simp only [List.size_toArray]; omega)
  have I1 : Inv X pins σ H { s with heap := h' } := I.kept (t' := s.toks) kp
  have I2 : Inv X pins σ (upd H h'.objs.size (.frz { cls := .type "tuple", data := .seq its.toArray } (.tup ys))) { s with heap := h'.push { cls := .type "tuple", data := .seq its.toArray } } :=
    I1.laid (t' := s.toks) (fun b o e => Heap.get?_push_of_some _ e) (Nat.le_refl _) (show ObjOk X.prog X.w _ _ _ (.frz _ (.tup ys)) from ⟨Heap.get?_push_size _ rfl, hz, its, rv, IsTup.new _ _⟩)
  exact ⟨.ref h'.objs.size, _, I2, rfl, q _ _ (I1.hok.fresh (Nat.le_refl _)) rfl⟩
def dTupN : D → Option D
  | .lst xs => some (.set xs)
  | _ => none
theorem rl_tupN : Rl1F K T (fun x H Q => ∃ p ys, [x] = [V.ref p] ∧ SqL K H p ys ∧ ∀ l o, H l = none → o.dict = none → Q (.ref l) (upd H l (.frz o (.tup ys)))) dTupN := fun w s H v x y k r1 hg Q q => by
  cases x with
  | lst xs =>
    cases hg
    obtain ⟨a, vs, rfl, h, r, z⟩ := r1
    refine ⟨a, vs, rfl, .of h, fun p o hp hd => ?_⟩
    obtain ⟨w2, h1, h2, h3, _⟩ := k.new (o := .frz o (.tup vs)) hp
    exact q _ _ w2 h1 h2 (own_flat (F := w.F) rfl h1 (.tpn h3 hd (r.sub h2.F) z))
  | _ => cases hg
theorem w_btupN {e : Expr} {p pos : Pos} {f : ME} (hK : X.K = K) (hm : X.mg "tuple" = none) (hg : Gl X "tuple") (hp : plain e = true) (h : SE K T .raw X W e f) : SE K T (.own 1) X W (.Call (.Name "tuple" p) [e] [] pos) (op1F dTupN f) := by
  subst hK
  exact se_tyF call_tupN rl_tupN hp hg hm (by decide +kernel) (by decide) (by decide) h
/-- .. as a tuple like any other -/
def tupOf : D → D
  | .set ds => .tup ds
  | d => d
def eAsT (f : ME) : ME := fun e s => (f e s).bind fun x s => .ok (tupOf x) s
theorem rep_tupOf {F : Hp} {v : V} {d : D} (r : Rep K T F v d) : Rep K T F v (tupOf d) := by
  cases r with
  | tpn h hd r z => exact .tup (.inl (.inr ⟨_, h⟩)) r z
  | szs h => exact .szs h
  | clsv h => exact .clsv h
  | exi hc h hd r => exact .exi hc h hd r
  | exb hc h => exact .exb hc h
  | non => exact .non
  | bl b => exact .bl b
  | int i => exact .int i
  | str s h => exact .str s h
  | tup h r z => exact .tup h r z
  | lst h r z => exact .lst h r z
  | fl h r z => exact .fl h r z
  | dic h r z => exact .dic h r z
  | ins hc h r => exact .ins hc h r
theorem se_asT {e : Expr} {f : ME} (h : SE K T .tree X W e f) : SE K T .tree X W e (eAsT f) := .mk fun w env s σ H k eo Q p =>
  h w env s σ H k eo _ (Post.bind p fun v d H1 w1 s1 a b c q => q.give a b (rep_tupOf c))
/-! ### .index -/
def rTix (K : PySem.W.Frag) : V → List V → Hp → VK → Prop := fun x xs H Q => ∃ (a : Addr) (ys : List Str) (k : Str), x = .ref a ∧ xs = [.str k] ∧ SqT K H a (ys.map V.str) ∧ k ∈ ys ∧ Q (.int (ys.idxOf k : Nat)) H
theorem mt_tix : MtR X "tuple.index" (rTix X.K) := fun pins s σ H x xs v us Q I rx rxs h => by
  obtain ⟨a, ys, k, rfl, rfl, sq, hk, q⟩ := h
  cases rx
  cases rxs with
  | cons ry rt =>
    cases rt
    obtain ⟨t, rfl⟩ := ry
    obtain ⟨its, rv, pl, hz⟩ := I.tuple sq
    exact PySem.SeqAt.tuple_index_strs pl rv.strs hk ⟨.int (ys.idxOf k : Nat), H, I.tok _, ⟨_, rfl⟩, q⟩
def noD (x : V) (H : Hp) : Prop := ∃ a o ys, x = .ref a ∧ H a = some (.frz o (.tup ys)) ∧ o.dict = none
def tTix (K : PySem.W.Frag) (to : TE) (t : TA) : TE := fun σ H Q => to σ H fun x H1 => noD x H1 ∧ t σ H1 fun xs H2 => rTix K x xs H2 Q
theorem noD_is {pins : List (Addr × Obj)} {σ : L2.St} {sh : Shared} {x : V} {v : Value} (I : Inv X pins σ H sh) (r : RelV x v) (n : noD x H) : sh.TypeIs v "tuple" ∧ ∀ a, v = .ref a → ∃ ob, sh.heap.get? a = some ob ∧ ob.dict = none := by
  obtain ⟨a, o, ys, rfl, ha, hd⟩ := n
  cases r
  obtain ⟨h1, _, its, _, pl⟩ := I.hok a _ ha
  exact ⟨pl.typeIs, fun b e => by cases e; exact ⟨o, h1, hd⟩⟩
theorem pe_tix {o e : Expr} {to : TE} {t : TA} {apos cpos : Pos} (ho : PE X o to) (ha : PA X [e] t) (hp : plain e = true) (hbase : attributeBase o "index" X.env (eval o X.env) = eval o X.env) (hline : (apos.endLine == cpos.line) = true) : PE X (.Call (.Attribute o "index" apos) [e] [] cpos) (tTix X.K to t) := by
  refine ⟨fun pins s σ H Q I h => ?_⟩
  refine wpAny_Call_method_late hbase (by rw [star_plain hp]; rfl) hline rfl (thn (ho.run pins s σ H _ I h) fun v s1 ⟨x, H1, I1, r1, ty, q1⟩ => ?_)
  obtain ⟨h1, h2⟩ := noD_is I1 r1 ty
  refine ⟨"tuple", "tuple.index", PySem.F.plainAttrs_tuple, PySem.F.slot_tuple_index, PySem.F.type_tuple_index, h1, h2, ?_⟩
  have hA := ha.run cpos pins s1 σ H1 _ I1 q1
  rw [star_plain hp] at hA ⊢
  refine Calls.callWith_builtin (by rfl) (Calls.evalArgs_plain ?_)
  exact thn hA fun us s2 ⟨vs, H2, I2, r2, q2⟩ => mt_tix pins s2 σ H2 x vs v us Q I2 r1 r2 q2
def eTix (f g : ME) : ME := fun e s => (f e s).bind fun x s => match x with
  | .set ds => (g e s).bind fun y s => (match y with
    | .str z => (match strsO ds with
      | some zs => if z ∈ zs then .ok (.int (zs.idxOf z : Nat)) s else .bad
      | none => .bad)
    | _ => .bad)
  | _ => .bad
theorem idx_mkS (zs : List (List Nat)) (z : List Nat) : (zs.map mkS).idxOf (mkS z) = zs.idxOf z := by
  induction zs with
  | nil => rfl
  | cons a zs ih =>
    rw [List.map_cons, List.idxOf_cons, List.idxOf_cons, ih]
    have e : (mkS a == mkS z) = (a == z) := str_beq a z
    rw [e]
theorem se_tix {o e : Expr} {apos cpos : Pos} {f g : ME} (ho : SE X.K T .tree X W o f) (he : SE X.K T .tree X W e g) (hp : plain e = true) (hbase : attributeBase o "index" X.env (eval o X.env) = eval o X.env) (hline : (apos.endLine == cpos.line) = true) : SE X.K T .tree X W (.Call (.Attribute o "index" apos) [e] [] cpos) (eTix f g) := .mk fun w env s σ H k eo Q p => by
  refine wpe_of (pe_tix pe_wp (pa_cons pe_wp pa_nil (star_plain hp _ _)) hp hbase hline) (ho w env s σ H k eo _ (Post.bind p fun v d H1 w1 s1 a1 b1 c1 q => ?_))
  have c1 : Rep X.K T w1.F v d := c1
  cases d with
  | set ds =>
    cases c1 with
    | @tpn ad ob vs _ h hd r z =>
      have hH : H1 ad = some (.frz ob (.tup vs)) := by
        rcases a1.fh _ _ h with h | ⟨⟨_, m⟩, _⟩
        · exact h
        · cases m
      refine ⟨⟨ad, ob, vs, rfl, hH, hd⟩, he w1 env s1 σ H1 a1 (eo.nxt b1) _ (Post.step b1 q fun v2 d2 H2 w2 s2 a2 b2 c2 q2 => ?_)⟩
      have c2 : Rep X.K T w2.F v2 d2 := c2
      cases d2 with
      | str zt =>
        obtain ⟨rfl, _⟩ := rep_str c2
        dsimp only [] at q2
        cases es : strsO ds with
        | none =>
          rw [es] at q2
          exact q2.elim
        | some zs =>
          rw [es] at q2
          dsimp only [] at q2
          split at q2
          · rename_i hm
            obtain ⟨e1, _, _⟩ := reps_strs r es
            subst e1
            have h2 := b2.F _ _ h
            have hH2 : SqT X.K H2 ad ((zs.map mkS).map V.str) := sqt_fh X.K a2.fh (.inl (.inr ⟨_, h2⟩))
            refine ⟨ad, zs.map mkS, mkS zt, rfl, rfl, hH2, mkS_mem.mpr hm, ?_⟩
            rw [idx_mkS]
            exact q2.give a2 (b1.trans b2) (.int _)
          · exact q2.elim
      | _ => exact q2.elim
  | _ => exact q.elim
end
end VM

set_option Elab.async false
set_option linter.all false
set_option maxRecDepth 100000
set_option maxHeartbeats 1000000
/-! VM47: d.get(k, x); list(d); list.index of texts; what is changed at once (E.append(x)); d.clear(). -/
namespace VM
open PySem PySem.Spec PyProof.Rows L2
section
variable {K : PySem.W.Frag} {T : Tab} {w w' : Wd} {s s' : Store} {H H' : Hp} {X : Cx} {W : WX}
/-! ### d.get(k, x) -/
def eDGet (f g h : ME) : ME := fun e s => (f e s).bind fun x s => match view s x with
  | some (.dic _) => (g e s).bind fun y s => (h e s).bind fun z s => (open1 x s).bind fun x s => match x with
    | .dic kvs => if keyD y then (match getK eqN y kvs with
      | some (some v) => .ok v s
      | some none => .ok z s
      | none => .bad) else .bad
    | _ => .bad
  | _ => .bad
theorem isd_at (k : SOk K T w s H) {v : V} {d : D} {kvs : List (D × D)} (r : RepS K T w v d) (h : view s d = some (.dic kvs)) : ∃ a, v = .ref a ∧ IsD H a := by
  obtain ⟨G, fh, rx, _⟩ := read_ok k r h
  cases rx with
  | dic h r z => exact ⟨_, rfl, .inl ⟨_, fh.rd h⟩⟩
theorem se_dget {o e f : Expr} {apos cpos : Pos} {g1 g2 g3 : ME} (hu : X.A.units + 1 < cLine) (m : M2 X o "get" apos e f cpos) (h1 : SE X.K T .raw X W o g1) (h2 : SE X.K T .tree X W e g2) (h3 : SE X.K T .tree X W f g3) : SE X.K T .tree X W (.Call (.Attribute o "get" apos) [e, f] [] cpos) (eDGet g1 g2 g3) := .mk fun w env s σ H k eo Q p =>
  wpe_of (pe_dget2 hu pe_wp pe_wp pe_wp m) (h1 w env s σ H k eo _ (Post.bind p fun v d H1 w1 s1 a1 b1 c1 q => by
    have c1 : RepS X.K T w1 v d := c1
    cases hv : view s1 d with
    | none =>
      rw [hv] at q
      exact q.elim
    | some x0 =>
      rw [hv] at q
      cases x0 with
      | dic kv0 =>
        obtain ⟨ad, rfl, hD⟩ := isd_at a1 c1 hv
        refine ⟨ad, rfl, hD, h2 w1 env s1 σ H1 a1 (eo.nxt b1) _ (Post.bind (Post.nxt (rel1 := fun w' _ => Rep X.K T w'.F) b1 q fun _ _ _ _ _ _ z => z) fun v2 d2 H2 w2 s2 a2 b2 c2 q2 => ?_)⟩
        refine h3 w2 env s2 σ H2 a2 ((eo.nxt b1).nxt b2) _ (Post.bind (Post.nxt (rel1 := fun w' _ => Rep X.K T w'.F) b2 q2 fun _ _ _ _ _ _ z => z) fun v3 d3 H3 w3 s3 a3 b3 c3 q3 => ?_)
        have c2 : Rep X.K T w3.F v2 d2 := Rep.sub b3.F c2
        have c3 : Rep X.K T w3.F v3 d3 := c3
        have c1 : RepS X.K T w3 (.ref ad) d := RepS.nxt b3 (RepS.nxt b2 c1)
        cases ho : open1 d s3 with
        | bad =>
          rw [ho] at q3
          exact q3.elim
        | exc _ _ _ => exact (open1_noexc ho).elim
        | ok x s4 =>
          rw [ho] at q3
          obtain ⟨w4, k4, n4, r4, _⟩ := open1_ok a3 c1 ho
          cases x with
          | dic kvs =>
            obtain ⟨a', ks, e', hR, rK, _⟩ := r4
            cases e'
            have q3 : Post X.K T W w2 s2 σ H2 (fun w' _ => Rep X.K T w'.F) Q (if keyD d2 then (match getK eqN d2 kvs with
              | some (some v) => .ok v s4
              | some none => .ok d3 s4
              | none => .bad) else .bad) := q3
            split at q3
            · rename_i hk
              obtain ⟨kk, rfl, rfl⟩ := key_of_rep c2 hk
              rcases getK_rep (n := 40) kk rK with ⟨g1, g2⟩ | ⟨v', dd, g1, g2, g3⟩
              · rw [g1] at q3
                refine ⟨none, .inl ⟨ks, kk, hR, rfl, g2.symm⟩, ?_⟩
                exact q3.give k4 (b3.trans n4) (Rep.sub n4.F c3)
              · rw [g1] at q3
                refine ⟨some v', .inl ⟨ks, kk, hR, rfl, g2.symm⟩, ?_⟩
                exact q3.give k4 (b3.trans n4) g3
            · exact q3.elim
          | _ => exact q3.elim
      | _ => exact q.elim))
/-! ### list(d) -/
def dListK : D → Option D
  | .dic kvs => some (.lst (kvs.map (·.1)))
  | _ => none
theorem reps_keys {F : Hp} : ∀ {ks : List (Key × V)} {kvs : List (D × D)}, RepK K T F ks kvs → Reps K T F (ks.map fun kv => kV kv.1) (kvs.map (·.1))
  | _, _, .nil => .nil
  | _, _, .cons (k := k) (d := d) hk h r => by
    refine .cons ?_ (reps_keys r)
    obtain ⟨e, hz⟩ := hk
    cases k with
    | inl i =>
      cases e
      exact .int i
    | inr y =>
      cases e
      have : y = (⟨y.cps.toList.toArray⟩ : Str) := by cases y; simp
      show Rep K T F (.str y) (.str y.cps.toList)
      rw [this]
      simpa using Rep.str (K := K) (T := T) (F := F) y.cps.toList hz
theorem rl_listK : Rl1F K T (fun x H Q => ∃ (a : Addr) (kvs : List (Key × V)), [x] = [.ref a] ∧ L2.Rd H a (.dK kvs) ∧ ∀ p, H p = none → Q (.ref p) (upd H p (.lst (kvs.map fun kv => kV kv.1)))) dListK := fun w s H v x y k r1 hg Q q => by
  cases x with
  | dic kvs =>
    cases hg
    obtain ⟨a, ks, rfl, h, r, z⟩ := r1
    exact ⟨a, ks, rfl, h, give_lst k q (reps_keys r) (by rw [List.length_map]; exact z)⟩
  | _ => cases hg
theorem w_blistK {e : Expr} {p pos : Pos} {f : ME} (hK : X.K = K) (hc : X.calm = true) (hm : X.mg "list" = none) (hg : Gl X "list") (hp : plain e = true) (h : SE K T .raw X W e f) : SE K T (.own 1) X W (.Call (.Name "list" p) [e] [] pos) (op1F dListK f) := by
  subst hK
  exact se_tyF (call_listD hc) rl_listK hp hg hm (by decide +kernel) (by decide) (by decide) h
/-! ### what is new, changed at once -/
def eTmp (f : ME) : ME := fun e s => (f e s).bind fun d s => if contD d then .ok (.ref s.length) (s ++ [⟨false, 1, some d⟩]) else .bad
theorem se_tmp {e : Expr} {f : ME} (h : SE K T (.own 1) X W e f) : SE K T .raw X W e (eTmp f) := .mk fun w env s σ H k eo Q p =>
  h w env s σ H k eo _ (Post.bind p fun v d H1 w1 s1 a b c q => by
    split at q
    · rename_i hc
      obtain ⟨P, ow, nw⟩ := c
      obtain ⟨x, Q', rfl, rfl⟩ := own_cont ow hc
      obtain ⟨w2, k2, n2, r2, n3, e2⟩ := a.own b ow nw
      exact q.give k2 n2 r2
    · exact q.elim)
/-! ### xs.index of texts -/
def rLix (K : PySem.W.Frag) : V → List V → Hp → VK → Prop := fun x xs H Q => ∃ (a : Addr) (ys : List Str) (k : Str), x = .ref a ∧ xs = [.str k] ∧ SqL K H a (ys.map V.str) ∧ k ∈ ys ∧ Q (.int (ys.idxOf k : Nat)) H
theorem mt_lix : MtR X "list.index" (rLix X.K) := fun pins s σ H x xs v us Q I rx rxs h => by
  obtain ⟨a, ys, k, rfl, rfl, sq, hk, q⟩ := h
  cases rx
  cases rxs with
  | cons ry rt =>
    cases rt
    obtain ⟨t, rfl⟩ := ry
    obtain ⟨its, rv, pl, hz⟩ := I.list sq
    exact PySem.SeqAt.list_index_strs pl.isList rv.strs (by rw [List.length_map] at hz; exact hz) hk ⟨.int (ys.idxOf k : Nat), H, I.tok _, ⟨_, rfl⟩, q⟩
def eLix (f g : ME) : ME := fun e s => (f e s).bind fun x s => match view s x with
  | some (.lst _) => (g e s).bind fun y s => (match y, view s x with
    | .str z, some (.lst ds) => (match strsO ds with
      | some zs => if z ∈ zs then .ok (.int (zs.idxOf z : Nat)) s else .bad
      | none => .bad)
    | _, _ => .bad)
  | _ => .bad
theorem se_lix {o e : Expr} {apos cpos : Pos} {f g : ME} (ho : SE X.K T .raw X W o f) (he : SE X.K T .tree X W e g) (hp : plain e = true) (hbase : attributeBase o "index" X.env (eval o X.env) = eval o X.env) (hline : (apos.endLine == cpos.line) = true) : SE X.K T .tree X W (.Call (.Attribute o "index" apos) [e] [] cpos) (eLix f g) := .mk fun w env s σ H k eo Q p => by
  refine wpe_of (pe_bm PySem.F.plainAttrs_list PySem.F.slot_list_index PySem.F.type_list_index mt_lix pe_wp (pa_cons pe_wp pa_nil (star_plain hp _ _)) hbase (by rw [star_plain hp]; rfl) hline (star_plain hp _ _) tail0) (ho w env s σ H k eo _ (Post.bind p fun v d H1 w1 s1 a1 b1 c1 q => ?_))
  have c1 : RepS X.K T w1 v d := c1
  cases hv : view s1 d with
  | none =>
    rw [hv] at q
    exact q.elim
  | some x0 =>
    rw [hv] at q
    cases x0 with
    | lst l0 =>
      obtain ⟨G, fh, rx, _⟩ := read_ok a1 c1 hv
      cases rx with
      | @lst ad vs0 _ h0 _ _ =>
        refine ⟨.inl ⟨rfl, _, .of (fh.lst h0)⟩, he w1 env s1 σ H1 a1 (eo.nxt b1) _ (Post.step b1 q fun v2 d2 H2 w2 s2 a2 b2 c2 q2 => ?_)⟩
        have c2 : Rep X.K T w2.F v2 d2 := c2
        have c1 : RepS X.K T w2 (.ref ad) d := RepS.nxt b2 c1
        cases d2 with
        | str zt =>
          obtain ⟨rfl, _⟩ := rep_str c2
          cases hv2 : view s2 d with
          | none =>
            rw [hv2] at q2
            exact q2.elim
          | some x2 =>
            rw [hv2] at q2
            cases x2 with
            | lst ds =>
              dsimp only [] at q2
              cases es : strsO ds with
              | none =>
                rw [es] at q2
                exact q2.elim
              | some zs =>
                rw [es] at q2
                dsimp only [] at q2
                split at q2
                · rename_i hm
                  obtain ⟨G2, fh2, rx2, _⟩ := read_ok a2 c1 hv2
                  cases rx2 with
                  | lst h2 r2 z2 =>
                    obtain ⟨e1, _, _⟩ := reps_strs r2 es
                    subst e1
                    refine ⟨ad, zs.map mkS, mkS zt, rfl, rfl, .of (fh2.lst h2), mkS_mem.mpr hm, ?_⟩
                    rw [idx_mkS]
                    exact q2.give a2 (b1.trans b2) (.int _)
                · exact q2.elim
            | _ => exact q2.elim
        | _ => exact q2.elim
    | _ => exact q.elim
def gClearD : D → List D → Option (D × D)
  | .dic _, [] => some (.non, .dic [])
  | _, _ => none
theorem rl_clearD : RlM K T rDClear gClearD := fun F H a z vs ds res z' fh rt hn ow rs hg Q q => by
  unfold gClearD at hg
  split at hg
  · cases hg
    cases rs
    cases ow with
    | dic h r zz => exact ⟨a, _, rfl, rfl, h, q _ _ (.dic upd_same .nil (Nat.zero_le _)) .non⟩
  · cases hg
theorem ty_dic : ∀ z (a : Addr) (H : Hp), isDic z = true → PkOk H a z → tyV X.K "dict" (.ref a) H := fun z a H h p => by
  cases z with
  | dic xs =>
    obtain ⟨vs, e⟩ := p
    exact .inr (.inr (.inl ⟨rfl, .inl ⟨vs, e⟩⟩))
  | _ => cases h
theorem w_clearD {o : Expr} {apos cpos : Pos} {f : ME} (hK : X.K = K) (hb : attributeBase o "clear" X.env (eval o X.env) = eval o X.env) (hl : (apos.endLine == cpos.line) = true) (ho : SE K T .raw X W o f) : SE K T .tree X W (.Call (.Attribute o "clear" apos) [] [] cpos) (eMut isDic gClearD f aNil) := by
  subst hK
  exact se_mut0 (fun h1 => pe_dclear h1 hb hl) rl_clearD ty_dic ho
end
end VM

set_option Elab.async false
set_option linter.all false
set_option maxRecDepth 100000
set_option maxHeartbeats 1000000
/-! VM48: short words for VM46 and VM47. -/
namespace VM
open PySem PySem.Spec PyProof.Rows L2
section
variable {K : PySem.W.Frag} {T : Tab} {X : Cx} {W : WX}
theorem w_tix {o e : Expr} {apos cpos : Pos} {f g : ME} (hK : X.K = K) (ho : SE K T .tree X W o f) (he : SE K T .tree X W e g) (hp : plain e = true) (hbase : attributeBase o "index" X.env (eval o X.env) = eval o X.env) (hline : (apos.endLine == cpos.line) = true) : SE K T .tree X W (.Call (.Attribute o "index" apos) [e] [] cpos) (eTix f g) := by
  subst hK
  exact se_tix ho he hp hbase hline
theorem w_lix {o e : Expr} {apos cpos : Pos} {f g : ME} (hK : X.K = K) (ho : SE K T .raw X W o f) (he : SE K T .tree X W e g) (hp : plain e = true) (hbase : attributeBase o "index" X.env (eval o X.env) = eval o X.env) (hline : (apos.endLine == cpos.line) = true) : SE K T .tree X W (.Call (.Attribute o "index" apos) [e] [] cpos) (eLix f g) := by
  subst hK
  exact se_lix ho he hp hbase hline
theorem w_dget {o e f : Expr} {apos cpos : Pos} {g1 g2 g3 : ME} {k : Nat} (hK : X.K = K) (hr : Room k X.A) (m : M2 X o "get" apos e f cpos) (h1 : SE K T .raw X W o g1) (h2 : SE K T .tree X W e g2) (h3 : SE K T .tree X W f g3) : SE K T .tree X W (.Call (.Attribute o "get" apos) [e, f] [] cpos) (eDGet g1 g2 g3) := by
  subst hK
  exact se_dget (by have := room41 hr; omega) m h1 h2 h3
end
end VM

set_option Elab.async false
set_option linter.all false
set_option maxRecDepth 100000
set_option maxHeartbeats 1000000
/-! VM49: enumerate over a tuple. -/
namespace VM
open PySem PySem.Spec PyProof.Rows L2
open AutoSeq1 (wpAny_loadPart')
section
variable {K : PySem.W.Frag} {T : Tab} {w w' : Wd} {s s' : Store} {H H' : Hp} {X : Cx} {W : WX}
theorem mk_enumT (tp : Addr) (us : Array Value) :
    Meets (Builtin.«enumerate.__new__» ⟨[.type "enumerate", .ref tp], []⟩) (fun _ R z => z.heap.IsTuple tp us ∧
      R (.ok (.ret (.ref (z.heap.push { cls := .type "tuple_iterator", data := .fields #[.ref tp, .int 0 0] }).objs.size)))
        { z with heap := (z.heap.push { cls := .type "tuple_iterator", data := .fields #[.ref tp, .int 0 0] }).push { cls := .type "enumerate", data := .fields #[.none, .bool false, .ref z.heap.objs.size, rawInt 0, .none, .none] } }) :=
  .of_wp fun pr wd A R z hh => by
    obtain ⟨hp, gs, dr, tk, os⟩ := z
    obtain ⟨h1, hh⟩ := hh
    have hs := sub_enumerate
    have q1 : ∀ {A' : Around} {E : Value → Shared → Prop} {Q : Value → Shared → Prop}, Q (.ref hp.objs.size) ⟨hp.push { cls := .type "tuple_iterator", data := .fields #[.ref tp, .int 0 0] }, gs, dr, tk, os⟩ → wpAny (model pr wd) A' (pyIter (.ref tp)) Q E ⟨hp, gs, dr, tk, os⟩ :=
      fun q => wpAny_pyIter_tuple h1 q
    wp_walk using q1
    refine wpAny_stack_any fun st => wpAny_pure ?_
    split
    · rename_i cc _ _ _ _ _
      cases (cc == Value.type "enumerate")
      · wp_walk using q1
        exact ⟨_, rfl, hh⟩
      · wp_walk using q1
        exact ⟨_, rfl, hh⟩
    · wp_walk using q1
      exact ⟨_, rfl, hh⟩
theorem call_enumT {prog : Program} {wd : World} {A : Around} {E : Value → Shared → Prop} {z : Shared} {tp : Addr} {us : Array Value} {Q : Value → Shared → Prop} (hT : z.heap.IsTuple tp us)
    (q : ∀ h', IsEnum h' (z.heap.objs.size + 1) z.heap.objs.size 0 .none → h'.IsTupleIter z.heap.objs.size tp 0 → h'.objs.size = z.heap.objs.size + 2 →
      (∀ b o, z.heap.get? b = some o → h'.get? b = some o) → Q (.ref (z.heap.objs.size + 1)) { z with heap := h' }) :
    wpAny (model prog wd) A (call (.type "enumerate") [.ref tp]) Q E z := by
  refine callType_new F.called_enumerate (by decide) (F.typeCall_enumerate_1 _) (F.newCall_enumerate_1 _) (fun y => F.args_object_init_2 y _) F.entry_enumerate_new (mk_enumT tp us) ⟨hT, ?_⟩
  have hz : (z.heap.push { cls := .type "tuple_iterator", data := .fields #[.ref tp, .int 0 0] }).objs.size = z.heap.objs.size + 1 := Heap.size_push ..
  show _ ∧ _
  rw [hz]
  have he : IsEnum ((z.heap.push { cls := .type "tuple_iterator", data := .fields #[.ref tp, .int 0 0] }).push
      { cls := .type "enumerate", data := .fields #[.none, .bool false, .ref z.heap.objs.size, rawInt 0, .none, .none] }) (z.heap.objs.size + 1) z.heap.objs.size 0 .none := by
    have := Heap.get?_push_size (z.heap.push { cls := .type "tuple_iterator", data := .fields #[.ref tp, .int 0 0] })
      (o := { cls := .type "enumerate", data := .fields #[.none, .bool false, .ref z.heap.objs.size, rawInt 0, .none, .none] }) rfl
    rw [hz] at this
    exact this
  exact ⟨⟨_, he, rfl⟩, q _ he ⟨_, Heap.get?_push_of_some _ (Heap.get?_push_size _ rfl), rfl, rfl⟩ (by rw [Heap.size_push, hz]) fun b o x => Heap.get?_push_of_some _ (Heap.get?_push_of_some _ x)⟩
/-- the tuple at a, each item in a new pair -/
def IteT (K : PySem.W.Frag) (a : Addr) : It :=
  ⟨fun i H => ∃ (xs : List V) (x : V), SqT K H a xs ∧ xs[i]? = some x, fun i H v H' => ∃ p x, v = .ref p ∧ H p = none ∧ H' = upd H p (.tup [.int (i : Nat), x]) ∧ ∀ xs, SqT K H a xs → xs[i]? = some x, fun i H => ∃ xs : List V, SqT K H a xs ∧ xs.length ≤ i⟩
theorem turn_enumT {P : Program} {wd : World} {elts : List Expr} {kk : Nat} {tpos : Pos} (a e it : Addr) (h1 : e ≠ it) (h2 : a ≠ it) (h3 : a ≠ e) :
    Turn P wd K (.Tuple elts kk tpos) (IteT K a) [e, it] e (fun i h => (∃ old, IsEnum h e it ((i : Nat) : Int) old) ∧ h.IsTupleIter it a i) where
  mem := by simp
  obj := fun i h st b hb => by
    obtain ⟨⟨old, he⟩, o, ho, hc, hd⟩ := st
    have e' : b = e ∨ b = it := by simpa using hb
    rcases e' with z | z
    · rw [z]
      exact ⟨_, he, fun v q => nomatch q⟩
    · rw [z]
      exact ⟨o, ho, fun v q => by rw [hd] at q; cases q⟩
  keep := fun i h h' st k => let ⟨⟨old, he⟩, hi⟩ := st; ⟨⟨old, k e (by simp) _ he⟩, hi.at fun o q => k it (by simp) o q⟩
  item := by
    intro X hP hw hK hc i pins s σ H E I hf st hg
    subst hP hw hK
    obtain ⟨⟨old, he⟩, hit⟩ := st
    obtain ⟨xs, x, hq, hx⟩ := hg
    obtain ⟨its, rv, p, hz⟩ := I.tuple hq
    obtain ⟨u, hu, ru⟩ := rv.get hx
    have hel : e < s.heap.objs.size := Heap.lt_size he
    have hil : it < s.heap.objs.size := by obtain ⟨_, q, _⟩ := hit; exact Heap.lt_size q
    have hi : i < its.toArray.size := by
      have := (List.getElem?_eq_some_iff.mp hu).1
      simpa using this
    have Dd : Draws X.prog X.w X.A.in1 it [it, a] its.toArray.size (fun i v => its.toArray[i]? = some v) (fun i h => h.IsTupleIter it a i ∧ h.IsTuple a its.toArray) := Draws.tuple (A := X.A.in1) (show X.A.in1.handled = none from I.ok.hd hc) it a h2 its.toArray
    have hef : e ∉ [it, a] := by
      intro m
      have m : e = it ∨ e = a := by simpa using m
      rcases m with m | m
      · exact h1 m
      · exact h3 m.symm
    refine wpAny_pyNext_enum_itemC Dd he ⟨hit, p⟩ hi h1 hef fun y h' tk hP ho hit' hT hsz hk => ?_
    have ey : y = u := by
      have hP : its.toArray[i]? = some y := hP
      rw [show its.toArray[i]? = its[i]? by simp, hu] at hP
      cases hP
      rfl
    subst ey
    refine ⟨_, rfl, wpAny_letOwnedTupleGo_enum (s := { s with heap := h', toks := tk + 1 }) ho fun h'' he' sb => ?_⟩
    have hT2 : h''.get? s.heap.objs.size = some { cls := .type "tuple", data := .seq #[.int i tk, y] } := (sb.2 _ (Nat.ne_of_gt hel)).trans hT
    have new : ObjOk X.prog X.w (upd H s.heap.objs.size (.tup [.int (i : Nat), x])) h'' s.heap.objs.size (.tup [.int (i : Nat), x]) :=
      ⟨by show 2 ≤ sizeLine; decide, [.int i tk, y], .cons ⟨_, rfl⟩ (.cons ru .nil), ⟨_, hT2, rfl, _, rfl⟩⟩
    have I1 : Inv X pins σ (upd H s.heap.objs.size (.tup [.int (i : Nat), x])) { s with heap := h'', toks := tk + 1 } :=
      I.turnedNew (ch := [e, it]) (fun b ob hb q => (sb.2 b (fun z => hb (by simp [z]))).trans (hk b ob (fun z => hb (by simp [z])) (fun z => hb (by simp [z])) q)) hf (Nat.le_refl _) new
    refine ⟨.ref s.heap.objs.size, _, I1, rfl, ⟨_, x, rfl, I.hok.fresh (Nat.le_refl _), rfl, fun ys hy => by rw [I.tuple_inj hy hq]; exact hx⟩, ⟨⟨y, ?_⟩, hit'.1.at fun o q => (sb.2 it (Ne.symm h1)).trans q⟩, fun b hb => ?_⟩
    · have e1 : ((i + 1 : Nat) : Int) = (i : Int) + 1 := by omega
      rw [e1]
      exact he'
    · have hb' : b < s.heap.objs.size := by
        have e' : b = e ∨ b = it := by simpa using hb
        rcases e' with z | z
        · rw [z]; exact hel
        · rw [z]; exact hil
      rw [upd_ne (Nat.ne_of_lt hb')]
      exact (hf b hb).1
  done := by
    intro X hP hw hK hc i pins s σ H E I hf st hg
    subst hP hw hK
    obtain ⟨⟨old, he⟩, hit⟩ := st
    obtain ⟨xs, hq, hx⟩ := hg
    obtain ⟨its, rv, p, hz⟩ := I.tuple hq
    obtain ⟨f0, f1, f2, f3, f4, f5⟩ := hf it (by simp)
    have hl := rv.length
    have hn : its.toArray[i]? = none := by simp; omega
    have hT : s.TypeIs (.ref e) "enumerate" := ⟨_, he, rfl⟩
    unfold pyNext
    refine wpAny_bind (wpAny_attempt (wpAny_callSpecial?_slot (name := Str.ofString "__next__") hT F.slot_enumerate_next
      (wpAny_call_entry F.slot_enumerate_next hT F.entry_enumerate_next ?_ (F.args_enumerate_next_1 _))))
    show wpAny _ _ (field (.ref e) 2 >>= _) _ _ _
    refine wpAny_bind (wpAny_field he rfl (x := .ref it) rfl ?_)
    refine wpAny_bind (wpAny_nextOf_tuple_end (I.ok.hd hc) hit p hn fun h' x he' hx' => ?_)
    obtain ⟨o, ho, hcl⟩ := hx'
    refine wpAny_bind (wpAny_isInstance (T := "StopIteration") (b := true) ⟨o, ho, hcl⟩ isSubtype_stop ?_)
    exact wpAny_pure ⟨rfl, I.turned (t' := s.toks) (fun b o hb q => he' b o hb q) f0 f1 f3 f4 f5⟩
  self := fun A i s Q E st h => let ⟨⟨_, he⟩, _⟩ := st; wpAny_pyIter_enum he h
def iEnumT (K : PySem.W.Frag) (ta : TA) : TI := fun σ H R => ta σ H fun vs H1 => ∃ a xs, vs = [.ref a] ∧ SqT K H1 a xs ∧ R (IteT K a) H1
theorem pi_enumT {e : Expr} {ta : TA} {p pos tpos : Pos} {elts : List Expr} {kk : Nat} (hg : Gl X "enumerate") (hm : X.mg "enumerate" = none) (ha : PA X [e] ta) (hs : starEach [e] X.env = [(false, eval e X.env)]) :
    PI X (.Tuple elts kk tpos) (.Call (.Name "enumerate" p) [e] [] pos) (iEnumT X.K ta) := by
  refine ⟨fun pins s σ H R I h => ?_⟩
  refine Call_ (ld_blt I hg hm boot_enumerate (PyProof.Rows.callWith_type1 (thn (ha.run pos pins s σ H _ I h) fun us s1 ⟨vs, H1, I1, r1, q1⟩ => ?_) hs rfl))
  obtain ⟨a, xs, ex, hq, q⟩ := q1
  subst ex
  cases r1 with
  | cons r rr =>
    cases rr
    cases r
    obtain ⟨its, rv, p', hz⟩ := I1.tuple hq
    have hal : a < s1.heap.objs.size := by obtain ⟨o, ho, _⟩ := id p'; exact Heap.lt_size ho
    refine call_enumT p' fun h' he hit hsz hk => wpAny_pyIter_enum he ?_
    have I2 : Inv X pins σ H1 { s1 with heap := h' } := I1.kept (t' := s1.toks) hk
    refine ⟨s1.heap.objs.size + 1, [s1.heap.objs.size + 1, s1.heap.objs.size], _, _, H1, rfl, I2, turn_enumT a (s1.heap.objs.size + 1) s1.heap.objs.size (Nat.succ_ne_self _) (Nat.ne_of_lt hal) (Nat.ne_of_lt (Nat.lt_succ_of_lt hal)), ⟨⟨.none, he⟩, hit⟩, fun b hb => ?_, q⟩
    have e' : b = s1.heap.objs.size + 1 ∨ b = s1.heap.objs.size := by simpa using hb
    have hle : s1.heap.objs.size ≤ b := by
      rcases e' with z | z
      · rw [z]; exact Nat.le_add_right _ _
      · rw [z]; exact Nat.le_refl _
    exact I1.fpOk hle (I1.hok.fresh hle)
theorem src_enumT {a : Addr} {vs : List V} {xs : List D} (h : SqT K w.F a vs) (r : Reps K T w.F vs xs) : Src K T (IteT K a) (enumL 0 xs) w s H := fun w' s' H' k' n => by
  have sq : SqT K H' a vs := sqt_fh K k'.fh (sqt_sub K n.F h)
  refine ⟨fun i hi => ⟨vs, sq, by rw [r.length]; rw [enumL_len] at hi; exact hi⟩, fun i d hd => ?_⟩
  rw [enumL_at] at hd
  cases e : xs[i]? with
  | none =>
    rw [e] at hd
    cases hd
  | some y =>
    rw [e] at hd
    cases hd
    obtain ⟨v, hv, rv⟩ := r.get e
    refine ⟨⟨vs, v, sq, hv⟩, fun x H2 hy => ?_⟩
    obtain ⟨p, x', rfl, hn, rfl, hx⟩ := hy
    have e2 := hx vs sq
    rw [hv] at e2
    cases e2
    rw [Nat.zero_add]
    exact new_pair k' hn (.int _) (rv.sub n.F)
/-- enumerate(tuple) -/
def iEnumTA (f : ME) : MI := fun e s => (f e s).bind fun d s => match d with
  | .tup xs => .ok (enumL 0 xs, none) s
  | _ => .bad
theorem si_enumT {e : Expr} {p pos tpos : Pos} {elts : List Expr} {kk : Nat} {f : ME} (hK : X.K = K) (hg : Gl X "enumerate") (hm : X.mg "enumerate" = none) (h : SE K T .tree X W e f) (hs : starEach [e] X.env = [(false, eval e X.env)]) :
    SI K T X W (.Tuple elts kk tpos) (.Call (.Name "enumerate" p) [e] [] pos) (iEnumTA f) := .mk fun w env s σ H k eo RR q => by
  subst hK
  refine wpi_of (pi_enumT hg hm (pa_cons pe_wp pa_nil hs) hs) (h w env s σ H k eo _ (PostI.bind q fun v d H1 w1 s1 a b c q => ?_))
  have c : Rep X.K T w1.F v d := c
  cases d with
  | tup xs =>
    obtain ⟨a1, vs, rfl, h1, r1, z1⟩ := rep_tup c
    exact ⟨a1, vs, rfl, sqt_fh X.K a.fh h1, PostI.give q a b (src_enumT h1 r1) lk_none⟩
  | _ => exact q.elim
end
end VM

set_option Elab.async false
set_option linter.all false
set_option maxRecDepth 100000
set_option maxHeartbeats 2000000
/-! VM50: enumerate over a list or a tuple; sorted(set(xs)) of ints; list.index of trees. -/
namespace VM
open PySem PySem.Spec PyProof.Rows L2
open AutoSeq1 (wpAny_loadPart')
section
variable {K : PySem.W.Frag} {T : Tab} {w w' : Wd} {s s' : Store} {H H' : Hp} {X : Cx} {W : WX}
/-! ### enumerate -/
def iEnumBK (K : PySem.W.Frag) (ta : TA) : TI := fun σ H R => ta σ H fun vs H1 => (∃ a xs, vs = [.ref a] ∧ SqL K H1 a xs ∧ R (Ite K a) H1) ∨ ∃ a xs, vs = [.ref a] ∧ SqT K H1 a xs ∧ R (IteT K a) H1
theorem pi_enumB {e : Expr} {ta : TA} {p pos tpos : Pos} {elts : List Expr} {kk : Nat} (hg : Gl X "enumerate") (hm : X.mg "enumerate" = none) (ha : PA X [e] ta) (hs : starEach [e] X.env = [(false, eval e X.env)]) :
    PI X (.Tuple elts kk tpos) (.Call (.Name "enumerate" p) [e] [] pos) (iEnumBK X.K ta) := by
  refine ⟨fun pins s0 σ H R I h => ?_⟩
  refine Call_ (ld_blt I hg hm boot_enumerate (PyProof.Rows.callWith_type1 (thn (ha.run pos pins s0 σ H _ I h) fun us s1 ⟨vs, H1, I1, r1, q1⟩ => ?_) hs rfl))
  rcases q1 with ⟨a, xs, ex, hq, q⟩ | ⟨a, xs, ex, hq, q⟩
  · subst ex
    cases r1 with
    | cons r rr =>
      cases rr
      cases r
      obtain ⟨its, rv, pl, hz⟩ := I1.list hq
      refine call_enumerate_list pl.isList fun h' he hit hsz hk => wpAny_pyIter_enum he ?_
      have J : Inv X pins σ H1 { s1 with heap := h' } := I1.kept (t' := s1.toks) hk
      refine ⟨s1.heap.objs.size + 1, [s1.heap.objs.size + 1, s1.heap.objs.size], _, _, H1, rfl, J, turn_enum a (s1.heap.objs.size + 1) s1.heap.objs.size, ⟨⟨.none, he⟩, hit, Nat.succ_ne_self _⟩, fun b hb => ?_, q⟩
      have hle : s1.heap.objs.size ≤ b := by
        rcases (show b = s1.heap.objs.size + 1 ∨ b = s1.heap.objs.size by simpa using hb) with z | z
        · rw [z]
          exact Nat.le_add_right _ _
        · rw [z]
          exact Nat.le_refl _
      exact I1.fpOk hle (I1.hok.fresh hle)
  · subst ex
    cases r1 with
    | cons r rr =>
      cases rr
      cases r
      obtain ⟨its, rv, pl, hz⟩ := I1.tuple hq
      have hal : a < s1.heap.objs.size := by obtain ⟨o, ho, _⟩ := id pl; exact Heap.lt_size ho
      refine call_enumT pl fun h' he hit hsz hk => wpAny_pyIter_enum he ?_
      have J : Inv X pins σ H1 { s1 with heap := h' } := I1.kept (t' := s1.toks) hk
      refine ⟨s1.heap.objs.size + 1, [s1.heap.objs.size + 1, s1.heap.objs.size], _, _, H1, rfl, J, turn_enumT a (s1.heap.objs.size + 1) s1.heap.objs.size (Nat.succ_ne_self _) (Nat.ne_of_lt hal) (Nat.ne_of_lt (Nat.lt_succ_of_lt hal)), ⟨⟨.none, he⟩, hit⟩, fun b hb => ?_, q⟩
      have hle : s1.heap.objs.size ≤ b := by
        rcases (show b = s1.heap.objs.size + 1 ∨ b = s1.heap.objs.size by simpa using hb) with z | z
        · rw [z]
          exact Nat.le_add_right _ _
        · rw [z]
          exact Nat.le_refl _
      exact I1.fpOk hle (I1.hok.fresh hle)
def iEnumB (f : ME) : MI := fun e s => (f e s).bind fun d s => (open1 d s).bind fun x s => match x with
  | .lst xs => .ok (enumL 0 xs, (lockOf d s).2) (lockOf d s).1
  | .tup xs => .ok (enumL 0 xs, none) s
  | _ => .bad
theorem si_enumB {e : Expr} {p pos tpos : Pos} {elts : List Expr} {kk : Nat} {f : ME} (hK : X.K = K) (hg : Gl X "enumerate") (hm : X.mg "enumerate" = none) (h : SE K T .raw X W e f) (hs : starEach [e] X.env = [(false, eval e X.env)]) :
    SI K T X W (.Tuple elts kk tpos) (.Call (.Name "enumerate" p) [e] [] pos) (iEnumB f) := .mk fun w env s σ H k eo RR q => by
  subst hK
  refine wpi_of (pi_enumB hg hm (pa_cons pe_wp pa_nil hs) hs) (h w env s σ H k eo _ (PostI.bind q fun v d H1 w1 s1 a b c q => ?_))
  cases ho : open1 d s1 with
  | bad =>
    rw [ho] at q
    exact q.elim
  | exc _ _ _ => exact (open1_noexc ho).elim
  | ok x s2 =>
    rw [ho] at q
    cases x with
    | lst xs =>
      obtain ⟨a1, vs, w2, rfl, k2, n2, r2, z2, st, lk⟩ := lock_lst a c ho
      exact .inl ⟨a1, vs, rfl, st w2 _ H1 k2 .refl, PostI.give q k2 (b.trans n2) (src_enum st r2) (lk.back b)⟩
    | tup xs =>
      obtain ⟨w2, k2, n2, r2, _⟩ := open1_ok a c ho
      obtain ⟨a1, vs, rfl, h1, r1, z1⟩ := rep_tup r2
      exact .inr ⟨a1, vs, rfl, sqt_fh X.K k2.fh h1, PostI.give q k2 (b.trans n2) (src_enumT h1 r1) lk_none⟩
    | _ => exact q.elim
/-! ### sorted(set(xs)) of ints -/
def uniqZ : List Int → List Int
  | [] => []
  | x :: r => if x ∈ uniqZ r then uniqZ r else x :: uniqZ r
theorem uniqZ_mem {k : Int} : ∀ l : List Int, k ∈ uniqZ l ↔ k ∈ l
  | [] => Iff.rfl
  | x :: r => by
    unfold uniqZ
    split
    · rename_i h
      rw [uniqZ_mem r, List.mem_cons]
      constructor
      · exact .inr
      · rintro (rfl | q)
        · exact (uniqZ_mem r).mp h
        · exact q
    · rw [List.mem_cons, List.mem_cons, uniqZ_mem r]
theorem uniqZ_nodup : ∀ l : List Int, (uniqZ l).Nodup
  | [] => List.nodup_nil
  | x :: r => by
    unfold uniqZ
    split
    · exact uniqZ_nodup r
    · rename_i h
      exact List.nodup_cons.mpr ⟨h, uniqZ_nodup r⟩
theorem uniqZ_len : ∀ l : List Int, (uniqZ l).length ≤ l.length
  | [] => Nat.le_refl _
  | x :: r => by
    have := uniqZ_len r
    unfold uniqZ
    split
    · rw [List.length_cons]
      omega
    · rw [List.length_cons, List.length_cons]
      omega
theorem ints_val : ∀ {vs : List Value} {ss : List Int}, IntsAre vs ss → ∀ (i : Nat) (v : Value), vs[i]? = some v → ∃ k t, ss[i]? = some k ∧ v = .int k t
  | _, _, .nil, i, v, h => by simp at h
  | _, _, .cons x t r, 0, v, h => by
    cases h
    exact ⟨x, t, rfl, rfl⟩
  | _, _, .cons x t r, i + 1, v, h => by
    obtain ⟨k, t', h1, h2⟩ := ints_val r i v (by simpa using h)
    exact ⟨k, t', by simpa using h1, h2⟩
end
section
variable {P : Program} {wo : World} {A : Around} {E : Value → Shared → Prop} {s : Shared}
set_option maxRecDepth 100000 in
set_option maxHeartbeats 3200000 in
/-- set(a list of ints) -/
theorem call_set_lsI {l : Addr} {items : Array Value} (ys : List Int) {Q : Value → Shared → Prop} (hh : A.handled = none) (hl : s.heap.IsList l items) (hit : IntsAre items.toList ys) (hb : ys.length + 1 < scanBound)
    (h : ∀ (h' : Heap) (tk c : Nat), SetR wo h' s.heap.objs.size (fun j => decide (j ∈ ys)) c → (∀ b o, s.heap.get? b = some o → h'.get? b = some o) → Q (.ref s.heap.objs.size) { s with heap := h', toks := tk }) :
    wpAny (model P wo) A (call (.type "set") [.ref l]) Q E s := by
  have isz : items.size = ys.length := by
    rw [← Array.length_toList]
    clear h hb hl
    generalize items.toList = us at hit
    induction hit with
    | nil => rfl
    | cons x t r ih => rw [List.length_cons, List.length_cons, ih]
  obtain ⟨c, tl, hmro⟩ := F.called_set.mro
  have hmade := F.called_set.made
  have hsub := F.called_set.sub
  refine wpAny_call (codeAny_of_tree ?_)
  show wpAny _ _ (callAny (.type "set") _) _ _ _
  refine wpAny_pure ⟨Code.quiet_builtin _ (by decide +kernel), codeAny_builtin F.entry_type_call ?_⟩
  rw [Around.under_plain (weight_type_call_type "set" [.ref l] []) rfl]
  have h1 := F.called_set.notType
  have h2 := F.called_set.canCreate
  have hct := F.typeCall_set_1 (.ref l)
  repeat (any_goals (first | assumption | wp_step))
  refine codeAny_mono (code_set_led1 (.ref l) (E := E) (Q₁ := fun obj s1 => obj = .ref s.heap.objs.size ∧ s1 = { s with heap := s.heap.push (noSet wo) }) ⟨rfl, rfl⟩) fun r s1 hr => ?_
  cases r with
  | error e => exact hr
  | ok fl =>
    cases fl with
    | ret obj =>
      obtain ⟨rfl, rfl⟩ := hr
      have atS : (s.heap.push (noSet wo)).get? s.heap.objs.size = some (noSet wo) := Heap.get?_push_size _ rfl
      have hT : Shared.TypeIs { s with heap := s.heap.push (noSet wo) } (.ref s.heap.objs.size) "set" := ⟨_, atS, rfl⟩
      have hli := F.called_set.init.lookup
      have hbi := F.called_set.init.bind (.ref s.heap.objs.size)
      repeat (any_goals (first | assumption | wp_step))
      refine codeAny_mono (codeAny_call_builtin (R := wants (fun r s2 => r = .none ∧ ∃ h' tk c, s2 = { s with heap := h', toks := tk } ∧ SetR wo h' s.heap.objs.size (fun j => decide (j ∈ ys)) c ∧
          (∀ b o, s.heap.get? b = some o → h'.get? b = some o)) E) F.called_set.init.plain F.entry_set_init (check_set_init_1 hT ?_)) fun r2 s2 hr2 => ?_
      · obtain ⟨⟨ocls, odict, odata, oslots⟩, hol, hcl, nl, hdl⟩ := hl
        simp only at hcl hdl
        subst hcl; subst hdl
        have hol2 : (s.heap.push (noSet wo)).get? l = some { cls := .type "list", dict := odict, data := .seq items nl, slots := oslots } := Heap.get?_push_of_some _ hol
        have hsls := F.sub_list_set
        have hslf := F.sub_list_frozenset
        have hne : (Value.type "list" == Value.type "dict") = false := by decide
        have hl1 : (s.heap.push (noSet wo)).IsList l items := ⟨_, hol2, rfl, nl, rfl⟩
        unfold Builtin.«set.__init__» noKeywords Builtin.Frozenset.updateFrom
        generalize hPI : pyIter = PI
        wp_walk
        subst hPI
        refine wpAny_pyIter_list hl1 (wpAny_bind (wpAny_runValue ?_))
        have llt : l < s.heap.objs.size := Heap.lt_size hol
        have h3 : A.in1.in1.in1.handled = none := by simp [hh]
        have hneI : l ≠ (s.heap.push (noSet wo)).objs.size := by
          rw [Heap.size_push]; exact Nat.ne_of_lt (Nat.lt_succ_of_lt llt)
        have hSf : s.heap.objs.size ∉ [(s.heap.push (noSet wo)).objs.size, l] := by
          rw [Heap.size_push]; simp only [List.mem_cons, List.mem_singleton, List.not_mem_nil, or_false, not_or]
          exact ⟨Nat.ne_of_lt (Nat.lt_succ_self _), Nat.ne_of_gt llt⟩
        have hval : ∀ (i : Nat) (v : Value), items[i]? = some v → ∃ k t, ys[i]? = some k ∧ v = .int k t := fun i v hv => ints_val hit i v (by rw [Array.getElem?_toList]; exact hv)
        refine set_update_ints ((Walks.list h3 _ l hneI items).toS) s.heap.objs.size hSf ys isz hb hval (items.size - 0) 0 _ (by omega) (Nat.zero_le _) ⟨⟨_, Heap.get?_push_size _ rfl, rfl, rfl⟩, (hl1.push _)⟩ ?hS0 ?hR
        case hS0 => exact ⟨0, Nat.le_refl 0, setR_new_at (Heap.get?_push_of_some _ atS)⟩
        case hR =>
          intro s' c' hm hc' hS'
          obtain ⟨h', g2, d', tk', os'⟩ := s'
          obtain rfl : g2 = s.gens := hm.gens
          obtain rfl : d' = s.drawn := hm.drawn
          obtain rfl : os' = s.os := hm.os
          show wpAny _ _ _ _ _ _
          refine wpAny_pure ?_
          show wpAny _ _ (ret Value.none) _ _ _
          refine wpAny_pure ⟨rfl, h', tk', c', rfl, hS', fun b o e => ?_⟩
          have b0 : b < s.heap.objs.size := Heap.lt_size e
          have b2 : b ≠ (s.heap.push (noSet wo)).objs.size := by
            rw [Heap.size_push]; exact Nat.ne_of_lt (Nat.lt_succ_of_lt b0)
          exact hm.heap b o (by simp only [List.mem_cons, List.mem_singleton, List.not_mem_nil, or_false, not_or]; exact ⟨Nat.ne_of_lt b0, b2⟩) (Heap.get?_push_of_some _ (Heap.get?_push_of_some _ e))
      · cases r2 with
        | error e => exact hr2
        | ok fl2 =>
          cases fl2 with
          | ret r =>
            obtain ⟨rfl, h', tk, c', rfl, hS', hk'⟩ := hr2
            repeat (any_goals (first | assumption | wp_step))
            exact h _ _ _ hS' hk'
          | _ => exact hr2.elim
    | _ => exact hr.elim
theorem setR_card {h : Heap} {a : Addr} {ys : List Int} {c : Nat} (R : SetR wo h a (fun j => decide (j ∈ ys)) c) : c = (uniqZ ys).length := by
  obtain ⟨o, es, ep, t, _, _, _, _, nd, mem, _, _, sz, _⟩ := R
  have p : (es.toList.map L2.keyOf).Perm (uniqZ ys) := (List.perm_ext_iff_of_nodup nd (uniqZ_nodup ys)).mpr fun k => by
    rw [← mem k, uniqZ_mem, decide_eq_true_eq]
  rw [← p.length_eq, List.length_map, Array.length_toList, sz]
end
section
variable {K : PySem.W.Frag} {T : Tab} {w w' : Wd} {s s' : Store} {H H' : Hp} {X : Cx} {W : WX}
theorem call_setI (hc : X.calm = true) : CallR X (.type "set") (fun xs H Q => ∃ l ys, xs = [.ref l] ∧ SqL X.K H l (ys.map V.int) ∧ ys.length + 1 < scanBound ∧ ∀ p, H p = none → Q (.ref p) (upd H p (SetO X.w p (fun j => decide (j ∈ ys)) (uniqZ ys).length))) := fun pins s σ H xs us Q I r h => by
  obtain ⟨l, ys, rfl, sq, hb, q⟩ := h
  obtain rfl := Vals.ref1 r
  obtain ⟨its, rv, pl, _⟩ := I.list sq
  refine call_set_lsI ys (I.ok.hd hc) pl.isList (by simpa using rv.ints) hb fun h' tk c R k => ?_
  have hn := I.hok.fresh (Nat.le_refl s.heap.objs.size)
  have e := setR_card R
  subst e
  exact ⟨.ref s.heap.objs.size, _, I.laid (t' := tk) (a := s.heap.objs.size) (o := SetO X.w s.heap.objs.size (fun j => decide (j ∈ ys)) (uniqZ ys).length) (h' := h') k (Nat.le_refl _) (setO_new R), rfl, q _ hn⟩
def dSortSetI : D → Option D
  | .lst xs => match intsO xs with
    | some ns => if ns.length + 1 < 4000 && decide ((uniqZ ns).length < 64) then some (.lst ((sortZ (uniqZ ns)).map .int)) else none
    | none => none
  | _ => none
def rSetInI (wo : World) (K : PySem.W.Frag) (r : List V → Hp → VK → Prop) : V → Hp → VK → Prop := fun x H Q => ∃ l ys, [x] = [.ref l] ∧ SqL K H l (ys.map V.int) ∧ ys.length + 1 < scanBound ∧ ∀ p, H p = none → r [.ref p] (upd H p (SetO wo p (fun j => decide (j ∈ ys)) (uniqZ ys).length)) Q
theorem ints_repsZ {F : Hp} : ∀ ns : List Int, Reps K T F (ns.map V.int) (ns.map D.int)
  | [] => .nil
  | n :: ns => .cons (.int n) (ints_repsZ ns)
theorem rl_sortSetI {wo : World} : Rl1F K T (rSetInI wo K (rSortedSet wo)) dSortSetI := fun w s H v x y k r1 hg Q q => by
  cases x with
  | lst xs =>
    obtain ⟨a, vs, rfl, h, r, z⟩ := r1
    have hg : (match intsO xs with
      | some ns => if ns.length + 1 < 4000 && decide ((uniqZ ns).length < 64) then some (D.lst ((sortZ (uniqZ ns)).map .int)) else none
      | none => none) = some y := hg
    cases e : intsO xs with
    | none =>
      rw [e] at hg
      cases hg
    | some ns =>
      rw [e] at hg
      dsimp only [] at hg
      split at hg
      · rename_i lt
        rw [Bool.and_eq_true, decide_eq_true_eq, decide_eq_true_eq] at lt
        cases hg
        have e1 := reps_ints r e
        subst e1
        refine ⟨a, ns, rfl, .of h, Nat.lt_of_lt_of_le lt.1 bound4, fun p hp => ⟨p, _, _, rfl, upd_same, lt.2, fun out p2 hs hm hl hn => ?_⟩⟩
        have nd : out.Nodup := hs.imp fun h => by
          intro e
          omega
        have pm : out.Perm (uniqZ ns) := (List.perm_ext_iff_of_nodup nd (uniqZ_nodup ns)).mpr fun j => by
          rw [hm j, uniqZ_mem, decide_eq_true_eq]
        have es : out = sortZ (uniqZ ns) := sortZ_is pm (hs.imp fun h => by omega)
        subst es
        have k2 := k.other (o := SetO wo p (fun j => decide (j ∈ ns)) (uniqZ ns).length) hp
        have n2 : Nxt w s H w s (upd H p (SetO wo p (fun j => decide (j ∈ ns)) (uniqZ ns).length)) := .other k hp
        refine give_lst k2 (fun v' H' w' a b c => q v' H' w' a (n2.trans b) (c.nxt n2)) (ints_repsZ _) ?_ p2 hn
        rw [List.length_map, (sortZ_perm _).length_eq]
        have : (4000 : Nat) ≤ sizeMax := by decide
        omega
      · cases hg
  | _ => cases hg
theorem w_sortSetI {e : Expr} {p p2 pos pos2 : Pos} {f : ME} (hK : X.K = K) (hc : X.calm = true) (hm : X.mg "sorted" = none) (hm2 : X.mg "set" = none) (hg : Gl X "sorted") (hg2 : Gl X "set") (hp : plain e = true) (h : SE K T .raw X W e f) : SE K T (.own 1) X W (.Call (.Name "sorted" p) [.Call (.Name "set" p2) [e] [] pos2] [] pos) (op1F dSortSetI f) := by
  subst hK
  exact se_op1F (r := rSetInI X.w X.K (rSortedSet X.w)) (fun ha => pe_callB (cr_sortedSet hc) hg hm (by decide +kernel) (pa_cons (pe_callTy (call_setI hc) hg2 hm2 (by decide +kernel) (pa_cons ha pa_nil (star_plain hp _ _)) (by decide) (by decide) (star_plain hp _ _) tail0) pa_nil) (by decide) (by decide) rfl tail0) rl_sortSetI h
/-! ### xs.index(x) of trees -/
def firstB : List Bool → Option Nat
  | [] => none
  | b :: r => if b then some 0 else (firstB r).map (· + 1)
theorem firstB_some : ∀ {bs : List Bool} {j : Nat}, firstB bs = some j → j < bs.length ∧ bs.getD j false = true ∧ ∀ m, m < j → bs.getD m false = false
  | [], j, h => by cases h
  | b :: r, j, h => by
    unfold firstB at h
    cases b with
    | true =>
      cases h
      exact ⟨by simp, rfl, fun m hm => by omega⟩
    | false =>
      cases e : firstB r with
      | none =>
        rw [e] at h
        cases h
      | some i =>
        rw [e] at h
        have h : some (i + 1) = some j := h
        cases h
        obtain ⟨h1, h2, h3⟩ := firstB_some e
        refine ⟨by rw [List.length_cons]; omega, by simpa using h2, fun m hm => ?_⟩
        cases m with
        | zero => rfl
        | succ m => simpa using h3 m (by omega)
def eqsO (x : D) : List D → Option (List Bool)
  | [] => some []
  | y :: r => match eqN y x, eqsO x r with
    | some b, some bs => some (b :: bs)
    | _, _ => none
theorem eqsO_some {x : D} : ∀ {ys : List D} {bs : List Bool}, eqsO x ys = some bs → bs.length = ys.length ∧ ∀ (j : Nat) (y : D), ys[j]? = some y → eqN y x = some (bs.getD j false)
  | [], bs, h => by
    cases h
    exact ⟨rfl, fun j y e => by simp at e⟩
  | y :: r, bs, h => by
    unfold eqsO at h
    cases e1 : eqN y x with
    | none =>
      rw [e1] at h
      cases h
    | some b =>
      cases e2 : eqsO x r with
      | none =>
        rw [e1, e2] at h
        cases h
      | some cs =>
        rw [e1, e2] at h
        cases h
        obtain ⟨h1, h2⟩ := eqsO_some e2
        refine ⟨by rw [List.length_cons, List.length_cons, h1], fun j z e => ?_⟩
        cases j with
        | zero =>
          cases e
          exact e1
        | succ j => exact h2 j z (by simpa using e)
def rGix (K : PySem.W.Frag) (T : Tab) : V → List V → Hp → VK → Prop := fun x xs H Q => ∃ (G : Hp) (ys : List D) (v : V) (d : D) (bs : List Bool) (j : Nat), FH G H ∧ Rep K T G x (.lst ys) ∧ xs = [v] ∧ Rep K T G v d ∧ eqsO d ys = some bs ∧ firstB bs = some j ∧ Q (.int (j : Nat)) H
theorem mt_gix (hu : X.A.units + 64 < cLine) : MtR X "list.index" (rGix X.K T) := fun pins s σ H x xs v us Q I rx rxs h => by
  obtain ⟨G, ys, v2, d, bs, j, fh, r1, rfl, r2, e, ej, q⟩ := h
  cases rxs with
  | cons ry rt =>
    cases rt
    cases r1 with
    | lst h2 q2 z2 =>
      cases rx
      obtain ⟨its, rv, t1⟩ := lst_val I fh h2
      obtain ⟨b2, b1⟩ := eqsO_some e
      obtain ⟨f1, f2, f3⟩ := firstB_some ej
      obtain ⟨dd, n, sl, e1⟩ := isLst_of t1
      have hA : X.A.in1.units + 41 < cLine := by
        show X.A.units + 1 + 41 < cLine
        omega
      have hsz : its.toArray.size = bs.length := by rw [List.size_toArray, ← rv.length, q2.length, b2]
      have hz : sizeMax ≤ 1152921504606846976 := by decide
      have hj : j < 1152921504606846976 := by
        rw [b2] at f1
        omega
      refine call_meetsIn PySem.F.slot_list_index ⟨_, e1, rfl⟩ PySem.F.entry_list_index (PySem.F.args_list_index_2 _ _) (cl_index _ its.toArray n dd sl _ (fun j => bs.getD j false) j (by rw [hsz]; exact f1) (by show (j : Int) < 9223372036854775807; omega) f2 f3) ⟨e1, items_in I fh ry r2 q2 rv b1 _ hA, ?_⟩
      exact ⟨.int (j : Nat), H, I.tok _, ⟨_, rfl⟩, q⟩
def eGix (f g : ME) : ME := fun e s => (f e s).bind fun x s => match view s x with
  | some (.lst _) => (g e s).bind fun y s => (match view s x with
    | some (.lst ds) => (match eqsO y ds with
      | some bs => (match firstB bs with
        | some j => .ok (.int (j : Nat)) s
        | none => .bad)
      | none => .bad)
    | _ => .bad)
  | _ => .bad
theorem se_gix {o e : Expr} {apos cpos : Pos} {f g : ME} {k : Nat} (hr : Room k X.A) (ho : SE X.K T .raw X W o f) (he : SE X.K T .tree X W e g) (hp : plain e = true) (hbase : attributeBase o "index" X.env (eval o X.env) = eval o X.env) (hline : (apos.endLine == cpos.line) = true) : SE X.K T .tree X W (.Call (.Attribute o "index" apos) [e] [] cpos) (eGix f g) := .mk fun w env s σ H k eo Q p => by
  refine wpe_of (pe_bm PySem.F.plainAttrs_list PySem.F.slot_list_index PySem.F.type_list_index (mt_gix (T := T) (room41 hr)) pe_wp (pa_cons pe_wp pa_nil (star_plain hp _ _)) hbase (by rw [star_plain hp]; rfl) hline (star_plain hp _ _) tail0) (ho w env s σ H k eo _ (Post.bind p fun v d H1 w1 s1 a1 b1 c1 q => ?_))
  have c1 : RepS X.K T w1 v d := c1
  cases hv : view s1 d with
  | none =>
    rw [hv] at q
    exact q.elim
  | some x0 =>
    rw [hv] at q
    cases x0 with
    | lst l0 =>
      obtain ⟨G, fh, rx, _⟩ := read_ok a1 c1 hv
      cases rx with
      | @lst ad vs0 _ h0 _ _ =>
        refine ⟨.inl ⟨rfl, _, .of (fh.lst h0)⟩, he w1 env s1 σ H1 a1 (eo.nxt b1) _ (Post.step b1 q fun v2 d2 H2 w2 s2 a2 b2 c2 q2 => ?_)⟩
        have c2 : Rep X.K T w2.F v2 d2 := c2
        have c1 : RepS X.K T w2 (.ref ad) d := RepS.nxt b2 c1
        cases hv2 : view s2 d with
        | none =>
          rw [hv2] at q2
          exact q2.elim
        | some x2 =>
          rw [hv2] at q2
          cases x2 with
          | lst ds =>
            dsimp only [] at q2
            cases es : eqsO d2 ds with
            | none =>
              rw [es] at q2
              exact q2.elim
            | some bs =>
              rw [es] at q2
              dsimp only [] at q2
              cases ej : firstB bs with
              | none =>
                rw [ej] at q2
                exact q2.elim
              | some j =>
                rw [ej] at q2
                obtain ⟨G2, fh2, rx2, sub2⟩ := read_ok a2 c1 hv2
                exact ⟨G2, ds, v2, d2, bs, j, fh2, rx2, rfl, c2.sub sub2, es, ej, q2.give a2 (b1.trans b2) (.int _)⟩
          | _ => exact q2.elim
    | _ => exact q.elim
end
end VM

set_option Elab.async false
set_option linter.all false
set_option maxRecDepth 100000
set_option maxHeartbeats 1000000
/-! VM51: list(range(n)); a set of texts that has a name, and its size. -/
namespace VM
open PySem PySem.Spec PyProof.Rows L2
section
variable {K : PySem.W.Frag} {T : Tab} {w w' : Wd} {s s' : Store} {H H' : Hp} {X : Cx} {W : WX}
theorem w_gix {o e : Expr} {apos cpos : Pos} {f g : ME} {k : Nat} (hK : X.K = K) (hr : Room k X.A) (ho : SE K T .raw X W o f) (he : SE K T .tree X W e g) (hp : plain e = true) (hbase : attributeBase o "index" X.env (eval o X.env) = eval o X.env) (hline : (apos.endLine == cpos.line) = true) : SE K T .tree X W (.Call (.Attribute o "index" apos) [e] [] cpos) (eGix f g) := by
  subst hK
  exact se_gix hr ho he hp hbase hline
/-! ### list(range(n)) -/
def dRangeL : D → Option D
  | .int n => if 0 ≤ n ∧ n ≤ 100000 then some (.lst ((List.range n.toNat).map fun (i : Nat) => .int i)) else none
  | _ => none
theorem rl_rangeL : Rl1F K T (fun x H Q => ∃ n, x = V.int n ∧ RgOk 0 n ∧ ∀ q, H q = none → Q (.ref q) (upd H q (.lst (rgV 0 n)))) dRangeL := fun w s H v x y k r1 hg Q q => by
  cases x with
  | int n =>
    have hg : (if 0 ≤ n ∧ n ≤ 100000 then some (D.lst ((List.range n.toNat).map fun (i : Nat) => .int i)) else none) = some y := hg
    split at hg
    · rename_i hn
      cases hg
      have r1 : Rep K T w.F v (.int n) := r1
      cases rep_int r1
      refine ⟨n, rfl, .of_le (by omega) (by omega) (by omega) (by omega), give_lst k q ?_ ?_⟩
      · have e : rgV 0 n = ((List.range n.toNat).map fun (i : Nat) => (i : Int)).map V.int := by
          unfold rgV
          rw [List.map_map, Int.sub_zero]
          congr 1
          funext i
          show V.int (0 + (i : Int)) = V.int (i : Int)
          rw [Int.zero_add]
        have e2 : ((List.range n.toNat).map fun (i : Nat) => D.int i) = ((List.range n.toNat).map fun (i : Nat) => (i : Int)).map D.int := by
          rw [List.map_map]
          rfl
        rw [e, e2]
        exact ints_repsZ _
      · rw [List.length_map, List.length_range]
        have : 100000 ≤ sizeMax := by decide
        omega
    · cases hg
  | _ => cases hg
theorem w_listRg {e : Expr} {p p2 pos pos2 : Pos} {f : ME} (hK : X.K = K) (hc : X.calm = true) (hm : X.mg "list" = none) (hm2 : X.mg "range" = none) (hg : Gl X "list") (hg2 : Gl X "range") (hp : plain e = true) (h : SE K T .raw X W e f) : SE K T (.own 1) X W (.Call (.Name "list" p) [.Call (.Name "range" p2) [e] [] pos2] [] pos) (op1F dRangeL f) := by
  subst hK
  exact se_op1F (fun ha => pe_listRg hc hg hm (prg_1 hg2 hm2 ha (star_plain hp _ _)) rfl) rl_rangeL h
/-! ### a set of texts, named -/
theorem szO_of {wo : World} {h : Heap} {a : Addr} {l : List Str} (R : TxS wo h a l) {P : Program} {H : Hp} : ObjOk P wo H h a (SzO a l.length) := by
  obtain ⟨ob, es, ep, tb, ho, hex, hd, hf, hn, hb⟩ := tx_size R
  refine ⟨⟨ob, es, ep, tb, ho, hex, hd, hf, hn, hb⟩, ⟨ob, ho⟩, fun h1 h2 r k => ?_⟩
  obtain ⟨ob, es, ep, tb, q, r⟩ := r
  exact ⟨ob, es, ep, tb, k _ q, r⟩
theorem call_setSz (hc : X.calm = true) : CallR X (.type "set") (fun xs H Q => ∃ l ys, xs = [.ref l] ∧ SqL X.K H l (ys.map V.str) ∧ ys.length + 1 < scanBound ∧ ∀ p, H p = none → Q (.ref p) (upd H p (SzO p (putsTx [] ys).length))) := fun pins s σ H xs us Q I r h => by
  obtain ⟨l, ys, rfl, sq, hb, q⟩ := h
  obtain rfl := Vals.ref1 r
  obtain ⟨its, rv, pl, _⟩ := I.list sq
  refine call_set_txs ys (I.ok.hd hc) pl.isList rv.strs hb fun h' tk R k => ?_
  have hn := I.hok.fresh (Nat.le_refl s.heap.objs.size)
  exact ⟨.ref s.heap.objs.size, _, I.laid (t' := tk) (a := s.heap.objs.size) (o := SzO s.heap.objs.size (putsTx [] ys).length) (h' := h') k (Nat.le_refl _) (szO_of R), rfl, q _ hn⟩
def dSetSz : D → Option D
  | .lst xs => match strsO xs with
    | some zs => if zs.length + 1 < 4000 then some (.exn (putsN [] zs).length []) else none
    | none => none
  | _ => none
theorem rl_setSz : Rl1F K T (fun x H Q => ∃ l ys, [x] = [V.ref l] ∧ SqL K H l (ys.map V.str) ∧ ys.length + 1 < scanBound ∧ ∀ p, H p = none → Q (.ref p) (upd H p (SzO p (putsTx [] ys).length))) dSetSz := fun w s H v x y k r1 hg Q q => by
  cases x with
  | lst xs =>
    obtain ⟨a, vs, rfl, h, r, z⟩ := r1
    have hg : (match strsO xs with
      | some zs => if zs.length + 1 < 4000 then some (D.exn (putsN [] zs).length []) else none
      | none => none) = some y := hg
    cases e : strsO xs with
    | none =>
      rw [e] at hg
      cases hg
    | some zs =>
      rw [e] at hg
      dsimp only [] at hg
      split at hg
      · rename_i lt
        cases hg
        obtain ⟨e1, e2, e3⟩ := reps_strs r e
        subst e1
        refine ⟨a, zs.map mkS, rfl, .of h, by rw [List.length_map]; exact Nat.lt_of_lt_of_le lt bound4, fun p hp => ?_⟩
        have e5 := puts_is zs []
        rw [List.map_nil] at e5
        rw [e5, List.length_map]
        obtain ⟨w2, h1, h2, h3, _⟩ := k.new (o := SzO p (putsN [] zs).length) hp
        exact q _ _ w2 h1 h2 (own_flat (F := w.F) rfl h1 (.szs h3))
      · cases hg
  | _ => cases hg
theorem w_setSz {e : Expr} {p pos : Pos} {f : ME} (hK : X.K = K) (hc : X.calm = true) (hm : X.mg "set" = none) (hg : Gl X "set") (hp : plain e = true) (h : SE K T .raw X W e f) : SE K T (.own 1) X W (.Call (.Name "set" p) [e] [] pos) (op1F dSetSz f) := by
  subst hK
  exact se_tyF (call_setSz hc) rl_setSz hp hg hm (by decide +kernel) (by decide) (by decide) h
theorem call_lenSz : CallR X (.builtin "len") (fun xs H Q => ∃ a n, xs = [.ref a] ∧ H a = some (SzO a n) ∧ Q (.int (n : Nat)) H) := fun pins s σ H xs us Q I r h => by
  obtain ⟨a, n, rfl, ha, q⟩ := h
  obtain rfl := Vals.ref1 r
  obtain ⟨ob, es, ep, tb, ho, hex, hd, hf, hn, hb⟩ := (I.hok a _ ha).1
  refine call_len_set ho hex hd hf (by unfold scanBound at hb; omega) ?_
  exact ⟨.int (n : Nat), H, I.tok _, ⟨_, by rw [hn]⟩, q⟩
def dLenSz : D → Option D
  | .exn n [] => some (.int (n : Nat))
  | _ => none
theorem rl_lenSz : Rl1 K T (fun x H Q => ∃ a n, [x] = [V.ref a] ∧ H a = some (SzO a n) ∧ Q (.int (n : Nat)) H) dLenSz := fun w s H G v x y k fh sub r1 hg Q q => by
  cases x with
  | exn n fs =>
    cases fs with
    | nil =>
      cases hg
      cases r1 with
      | szs h =>
        rcases fh _ _ h with h | ⟨⟨_, m⟩, _⟩
        · exact ⟨_, _, rfl, h, q _ _ _ k .refl (.int _)⟩
        · cases m
    | cons => cases hg
  | _ => cases hg
theorem w_lenSz {e : Expr} {p pos : Pos} {f : ME} (hK : X.K = K) (hm : X.mg "len" = none) (hg : Gl X "len") (hp : plain e = true) (h : SE K T .raw X W e f) : SE K T .tree X W (.Call (.Name "len" p) [e] [] pos) (op1 dLenSz f) := by
  subst hK
  exact se_bi call_lenSz rl_lenSz hp hg hm (by decide +kernel) (by decide) (by decide) h
end
end VM

set_option Elab.async false
set_option linter.all false
set_option maxRecDepth 100000
set_option maxHeartbeats 2000000
/-! VM52: list(zip(xs, ys)) of two lists or two tuples of one length: the pairs that it holds are new ones. -/
namespace VM
open PySem PySem.Spec PyProof.Rows L2
namespace Zl
theorem no_len : typeLookup (.type "zip") "__len__" = pure none := by rw [typeLookup_type, builtinLookup_eq_fast]; kernel_rfl
theorem no_hint : typeLookup (.type "zip") "__length_hint__" = pure none := by rw [typeLookup_type, builtinLookup_eq_fast]; kernel_rfl
section
variable {prog : Program} {wd : World} {A : Around} {E : Value → Shared → Prop} {y : Shared} {z TI TO i1 i2 : Addr} {fp1 fp2 : List Addr} {n i : Nat} {P1 P2 : Nat → Value → Prop} {St1 St2 : Nat → Heap → Prop}
theorem held_item {T : Addr} {f : Bool} {oT : Obj} {Q : Value → Shared → Prop} (S : ZipSep2 z TI TO i1 i2 fp1 fp2) (D1 : Draws prog wd A i1 fp1 n P1 St1) (D2 : Draws prog wd A i2 fp2 n P2 St2)
    (az : IsZipHeld y.heap z TI TO T f) (aT : y.heap.get? T = some oT) (aI : IsTupOf2 y.heap TI (.ref i1) (.ref i2)) (t1 : St1 i y.heap) (t2 : St2 i y.heap) (lt : i < n)
    (q : ∀ x1 x2 h' tk, P1 i x1 → P2 i x2 → IsZipHeld h' z TI TO T true → St1 (i + 1) h' → St2 (i + 1) h' → IsTupOf2 h' y.heap.objs.size x1 x2 → h'.objs.size = y.heap.objs.size + 1 →
      (∀ c o, c ≠ z → c ≠ i1 → c ≠ i2 → y.heap.get? c = some o → h'.get? c = some o) → Q (.ref y.heap.objs.size) { y with heap := h', toks := tk }) :
    wpAny (model prog wd) A (Builtin.«zip.__next__» ⟨[.ref z], []⟩) (fun fin s' => ∃ v, fin = .done (.ret v) ∧ Q v s') E y := by
  obtain ⟨hp, gs, dr, tk0, os⟩ := y
  show wpAny _ _ (field (.ref z) 2 >>= _) _ _ _
  refine wpAny_bind (wpAny_field az rfl (x := .bool false) rfl ?_)
  show wpAny _ _ (field (.ref z) 3 >>= _) _ _ _
  refine wpAny_bind (wpAny_field az rfl (x := .ref TI) rfl ?_)
  refine wpAny_bind (wpAny_seqItems aI rfl ?_)
  show wpAny _ _ (Builtin.SmallTypes.ownedTupleIsFree (.ref z) >>= _) _ _ _
  refine wpAny_bind (wpAny_tupleHeld_zip az aT fun u1 uz us => ?_)
  replace us : Heap.SameBut z hp u1 := us
  simp only [Bool.false_eq_true, if_false]
  refine wpAny_bind ?_
  rw [← Array.forIn_toList]
  simp only [List.forIn_cons, List.forIn_nil]
  refine wpAny_bind (wpAny_bind (wpAny_holding ?_))
  show wpAny _ _ (Builtin.SmallTypes.nextOf (.ref i1) >>= _) _ _ ⟨u1, gs, dr, tk0, os⟩
  refine wpAny_bind (D1.item i _ _ _ lt (D1.over t1 us S.zf1) fun x1 b1 k1 hx1 sn1 bs => wpAny_pure ?_)
  replace bs : Heap.SameBut i1 u1 b1 := bs
  refine wpAny_pure ?_
  refine wpAny_bind (wpAny_bind (wpAny_holding ?_))
  show wpAny _ _ (Builtin.SmallTypes.nextOf (.ref i2) >>= _) _ _ ⟨b1, gs, dr, k1, os⟩
  refine wpAny_bind (D2.item i _ _ _ lt (D2.over (D2.over t2 us S.zf2) bs S.sep1_2) fun x2 c1 k2 hx2 sn2 cs => wpAny_pure ?_)
  replace cs : Heap.SameBut i2 b1 c1 := cs
  refine wpAny_pure (wpAny_pure ?_)
  show wpAny _ _ (newTuple [x1, x2] >>= _) _ _ ⟨c1, gs, dr, k2, os⟩
  refine wpAny_bind (wpAny_newTuple ?_)
  have sz : c1.objs.size = hp.objs.size := by rw [cs.1, bs.1, us.1]
  have z3 : IsZipHeld c1 z TI TO T true := cs.extBut _ _ S.zi2 (bs.extBut _ _ S.zi1 uz)
  have kp : ∀ c o, c ≠ z → c ≠ i1 → c ≠ i2 → hp.get? c = some o → c1.get? c = some o := fun c o e1 e2 e3 e => cs.extBut _ _ e3 (bs.extBut _ _ e2 (us.extBut _ _ e1 e))
  refine wpAny_pure ⟨_, rfl, ?_⟩
  show Q (.ref c1.objs.size) _
  have tp : IsTupOf2 (c1.push { cls := .type "tuple", data := .seq #[x1, x2] }) c1.objs.size x1 x2 := Heap.get?_push_size _ rfl
  have z4 : (c1.push { cls := .type "tuple", data := .seq #[x1, x2] }).objs.size = c1.objs.size + 1 := Heap.size_push ..
  rw [sz] at tp z4 ⊢
  exact q x1 x2 _ k2 hx1 hx2 (Heap.get?_push_of_some _ z3) (D1.frame _ _ _ (D1.over sn1 cs S.sep2_1) fun b _ o e => Heap.get?_push_of_some _ e) (D2.frame _ _ _ sn2 fun b _ o e => Heap.get?_push_of_some _ e) tp z4 fun c o e1 e2 e3 e => Heap.get?_push_of_some _ (kp c o e1 e2 e3 e)
theorem held_end {T : Addr} {f : Bool} {oT : Obj} {Q : Fin → Shared → Prop} (S : ZipSep2 z TI TO i1 i2 fp1 fp2) (D1 : Draws prog wd A i1 fp1 n P1 St1)
    (az : IsZipHeld y.heap z TI TO T f) (aT : y.heap.get? T = some oT) (aI : IsTupOf2 y.heap TI (.ref i1) (.ref i2)) (t1 : St1 n y.heap)
    (q : ∀ h' e, (∀ c o, c ≠ z → c ≠ i1 → y.heap.get? c = some o → h'.get? c = some o) → (∃ o, h'.get? e = some o ∧ o.cls = .type "StopIteration") → E (.ref e) { y with heap := h' }) :
    wpAny (model prog wd) A (Builtin.«zip.__next__» ⟨[.ref z], []⟩) Q E y := by
  show wpAny _ _ (field (.ref z) 2 >>= _) _ _ _
  refine wpAny_bind (wpAny_field az rfl (x := .bool false) rfl ?_)
  show wpAny _ _ (field (.ref z) 3 >>= _) _ _ _
  refine wpAny_bind (wpAny_field az rfl (x := .ref TI) rfl ?_)
  refine wpAny_bind (wpAny_seqItems aI rfl ?_)
  show wpAny _ _ (Builtin.SmallTypes.ownedTupleIsFree (.ref z) >>= _) _ _ _
  refine wpAny_bind (wpAny_tupleHeld_zip az aT fun u1 uz us => ?_)
  simp only [Bool.false_eq_true, if_false]
  refine wpAny_bind ?_
  rw [← Array.forIn_toList]
  simp only [List.forIn_cons, List.forIn_nil]
  refine wpAny_bind (wpAny_bind (wpAny_holding ?_))
  show wpAny _ _ (Builtin.SmallTypes.nextOf (.ref i1) >>= _) _ _ _
  refine wpAny_bind (D1.done { y with heap := u1 } _ _ (D1.over t1 us S.zf1) fun h' e hs he => ?_)
  exact q h' e (fun c o c1 c2 x => hs _ _ c2 (us.extBut _ _ c1 x)) he
/-- where the zip stands: nothing given out yet, or the first pair still held -/
def ZSt (z TI TO i1 i2 S : Addr) (St1 St2 : Nat → Heap → Prop) (i : Nat) (h : Heap) : Prop :=
  IsTupOf2 h TI (.ref i1) (.ref i2) ∧ St1 i h ∧ St2 i h ∧ ((IsZip h z TI TO .none ∧ ∃ a b, IsTupOf2 h TO a b) ∨ ∃ T f oT, IsZipHeld h z TI TO T f ∧ h.get? T = some oT ∧ T ≠ z ∧ T ≠ i1 ∧ T ≠ i2 ∧ T ≠ S)
theorem next_item {S : Addr} {Q : Option Value → Shared → Prop} (Z : ZipSep2 z TI TO i1 i2 fp1 fp2) (D1 : Draws prog wd A.in1 i1 fp1 n P1 St1) (D2 : Draws prog wd A.in1 i2 fp2 n P2 St2)
    (st : ZSt z TI TO i1 i2 S St1 St2 i y.heap) (lS : S < y.heap.objs.size) (lt : i < n)
    (q : ∀ x1 x2 h' tk, P1 i x1 → P2 i x2 → ZSt z TI TO i1 i2 S St1 St2 (i + 1) h' → IsTupOf2 h' y.heap.objs.size x1 x2 → h'.objs.size = y.heap.objs.size + 1 →
      (∀ c o, c ≠ z → c ≠ TO → c ≠ i1 → c ≠ i2 → y.heap.get? c = some o → h'.get? c = some o) → Q (some (.ref y.heap.objs.size)) { y with heap := h', toks := tk }) :
    wpAny (model prog wd) A (pyNext (.ref z)) Q E y := by
  obtain ⟨aI, t1, t2, hz⟩ := st
  have nw : ∀ {c o}, y.heap.get? c = some o → y.heap.objs.size ≠ c := fun e => Nat.ne_of_gt (Heap.lt_size e)
  have n1 : y.heap.objs.size ≠ i1 := let ⟨_, e⟩ := D1.live _ _ t1; nw e
  have n2 : y.heap.objs.size ≠ i2 := let ⟨_, e⟩ := D2.live _ _ t2; nw e
  rcases hz with ⟨az, a, b, aO⟩ | ⟨T, f, oT, az, aT, r1, r2, r3, r4⟩
  · refine wpAny_pyNext_zipD2_item Z D1 D2 az aI aO t1 t2 lt lt fun x1 x2 h' tk p1 p2 a1 _ s1 s2 a5 a6 hk => ?_
    exact q x1 x2 h' tk p1 p2 ⟨hk _ _ Z.TIz Z.TITO Z.TIi1 Z.TIi2 aI, s1, s2, .inr ⟨_, false, _, a1, a5, nw az, n1, n2, Nat.ne_of_gt lS⟩⟩ a5 a6 hk
  · have hT : y.TypeIs (.ref z) "zip" := ⟨_, az, rfl⟩
    unfold pyNext
    exact wpAny_bind (wpAny_attempt (wpAny_callSpecial?_slot (name := Str.ofString "__next__") hT F.slot_zip_next
      (wpAny_call_entry F.slot_zip_next hT F.entry_zip_next
        (held_item Z D1 D2 az aT aI t1 t2 lt fun x1 x2 h' tk p1 p2 a1 s1 s2 a5 a6 hk => wpAny_pure (q x1 x2 h' tk p1 p2 ⟨hk _ _ Z.TIz Z.TIi1 Z.TIi2 aI, s1, s2, .inr ⟨T, true, oT, a1, hk _ _ r1 r2 r3 aT, r1, r2, r3, r4⟩⟩ a5 a6 fun c o c1 _ c3 c4 e => hk c o c1 c3 c4 e)) (F.args_zip_next_1 _))))
theorem next_end {S : Addr} {Q : Option Value → Shared → Prop} (Z : ZipSep2 z TI TO i1 i2 fp1 fp2) (D1 : Draws prog wd A.in1 i1 fp1 n P1 St1) (D2 : Draws prog wd A.in1 i2 fp2 n P2 St2)
    (st : ZSt z TI TO i1 i2 S St1 St2 n y.heap) (q : ∀ h' tk, (∀ c o, c ≠ z → c ≠ TO → c ≠ i1 → c ≠ i2 → y.heap.get? c = some o → h'.get? c = some o) → Q none { y with heap := h', toks := tk }) :
    wpAny (model prog wd) A (pyNext (.ref z)) Q E y := by
  obtain ⟨aI, t1, t2, hz⟩ := st
  rcases hz with ⟨az, a, b, aO⟩ | ⟨T, f, oT, az, aT, r1, r2, r3, r4⟩
  · exact wpAny_pyNext_zipD2_end Z D1 D2 az aI aO t1 t2 (Nat.le_refl _) (Nat.le_refl _) (.inl rfl) q
  · have hT : y.TypeIs (.ref z) "zip" := ⟨_, az, rfl⟩
    unfold pyNext
    refine wpAny_bind (wpAny_attempt (wpAny_callSpecial?_slot (name := Str.ofString "__next__") hT F.slot_zip_next
      (wpAny_call_entry F.slot_zip_next hT F.entry_zip_next (held_end Z D1 az aT aI t1 fun h' e hk he => ?_) (F.args_zip_next_1 _))))
    obtain ⟨o, ho, hc⟩ := he
    refine wpAny_bind (wpAny_isInstance (T := "StopIteration") (b := true) ⟨o, ho, hc⟩ isSubtype_stop ?_)
    exact wpAny_pure (q _ _ fun c o c1 _ c3 _ e => hk c o c1 c3 e)
theorem ZSt.keep {S : Addr} {h h' : Heap} (Z : ZipSep2 z TI TO i1 i2 fp1 fp2) (D1 : Draws prog wd A i1 fp1 n P1 St1) (D2 : Draws prog wd A i2 fp2 n P2 St2) (m1 : S ∉ fp1) (m2 : S ∉ fp2) (e1 : z ≠ S) (e2 : TI ≠ S) (e3 : TO ≠ S)
    (x : ZSt z TI TO i1 i2 S St1 St2 i h) (hk : ∀ b o, b ≠ S → h.get? b = some o → h'.get? b = some o) : ZSt z TI TO i1 i2 S St1 St2 i h' := by
  obtain ⟨aI, t1, t2, hz⟩ := x
  refine ⟨hk _ _ e2 aI, D1.frame _ _ _ t1 fun b hb o e => hk b o (fun q => m1 (q ▸ hb)) e, D2.frame _ _ _ t2 fun b hb o e => hk b o (fun q => m2 (q ▸ hb)) e, ?_⟩
  rcases hz with ⟨az, a, b, aO⟩ | ⟨T, f, oT, az, aT, r1, r2, r3, r4⟩
  · exact .inl ⟨hk _ _ e1 az, a, b, hk _ _ e3 aO⟩
  · exact .inr ⟨T, f, oT, hk _ _ e1 az, hk _ _ r4 aT, r1, r2, r3, r4⟩
/-- the pairs made so far -/
structure ZG (P1 P2 : Nat → Value → Prop) (lo : Addr) (h : Heap) (as : List Addr) : Prop where
  rise : as.Pairwise (· < ·)
  above : ∀ a ∈ as, lo < a
  pairs : ∀ (j : Nat) (a : Addr), as[j]? = some a → ∃ x1 x2, P1 j x1 ∧ P2 j x2 ∧ h.get? a = some { cls := .type "tuple", data := .seq #[x1, x2] }
theorem ZG.there {lo : Addr} {h : Heap} {as : List Addr} (g : ZG P1 P2 lo h as) {a : Addr} (ha : a ∈ as) : a < h.objs.size := by
  obtain ⟨j, hj⟩ := List.mem_iff_getElem?.mp ha
  obtain ⟨_, _, _, _, e⟩ := g.pairs j a hj
  exact Heap.lt_size e
end
section
variable {prog : Program} {wd : World} {A : Around} {y : Shared} {R : Result → Shared → Prop} {z TI TO i1 i2 : Addr} {fp1 fp2 : List Addr} {n : Nat} {P1 P2 : Nat → Value → Prop} {St1 St2 : Nat → Heap → Prop}
theorem loop {S : Addr} (Z : ZipSep2 z TI TO i1 i2 fp1 fp2) (D1 : Draws prog wd A.in1.in1 i1 fp1 n P1 St1) (D2 : Draws prog wd A.in1.in1 i2 fp2 n P2 St2) (m1 : S ∉ fp1) (m2 : S ∉ fp2) (lz : z < S) (lI : TI < S) (lO : TO < S) (l1 : i1 < S) (l2 : i2 < S) (hn : n ≤ sizeLine) (res : Value) {h0 : Heap}
    (hR : ∀ h' tk acc c as, (∀ b o, b ≠ S → b ≠ z → b ≠ TO → b ≠ i1 → b ≠ i2 → h0.get? b = some o → h'.get? b = some o) → h'.get? S = some { cls := .type "list", dict := none, data := .seq acc c, slots := #[] } → as.length = n → ZG P1 P2 S h' as →
      acc.toList = as.map Value.ref → R (.ok (.ret res)) { y with heap := h', toks := tk }) :
    ∀ (k i : Nat) (h : Heap) (tk c : Nat) (acc : Array Value) (as : List Addr), n - i = k → i ≤ n → ZSt z TI TO i1 i2 S St1 St2 i h → (∀ b o, b ≠ S → b ≠ z → b ≠ TO → b ≠ i1 → b ≠ i2 → h0.get? b = some o → h.get? b = some o) →
      h.get? S = some { cls := .type "list", dict := none, data := .seq acc c, slots := #[] } → acc.toList = as.map Value.ref → as.length = i → ZG P1 P2 S h as →
      codeAny (model prog wd) A (.builtin "list.extend.loop" ⟨[.ref S, .ref z, res], []⟩) R { y with heap := h, toks := tk } := by
  intro k
  induction k with
  | zero =>
    intro i h tk c acc as hk hi st kp aS hacc hal G
    have e : i = n := by omega
    subst e
    refine codeAny_builtin PySem.F.entry_extend_loop ?_
    rw [Around.under_plainId PySem.F.plain_extend_loop _]
    show wpAny _ A.in1 (pyNext (.ref z) >>= _) _ _ _
    refine wpAny_bind (next_end (y := { y with heap := h, toks := tk }) (A := A.in1) Z D1 D2 st fun h' tk' he => ?_)
    refine wpAny_pure (hR h' tk' acc c as (fun b o q1 q2 q3 q4 q5 q => he b o q2 q3 q4 q5 (kp b o q1 q2 q3 q4 q5 q)) (he S _ (Nat.ne_of_gt lz) (Nat.ne_of_gt lO) (Nat.ne_of_gt l1) (Nat.ne_of_gt l2) aS) hal ⟨G.rise, G.above, fun j a hj => ?_⟩ hacc)
    obtain ⟨x1, x2, p1, p2, p3⟩ := G.pairs j a hj
    have up := G.above a (List.mem_of_getElem? hj)
    exact ⟨x1, x2, p1, p2, he a _ (Nat.ne_of_gt (Nat.lt_trans lz up)) (Nat.ne_of_gt (Nat.lt_trans lO up)) (Nat.ne_of_gt (Nat.lt_trans l1 up)) (Nat.ne_of_gt (Nat.lt_trans l2 up)) p3⟩
  | succ k ih =>
    intro i h tk c acc as hk hi st kp aS hacc hal G
    have lt : i < n := by omega
    have sz : acc.size = i := by rw [← Array.length_toList, hacc, List.length_map, hal]
    have lS : S < h.objs.size := Heap.lt_size aS
    refine codeAny_builtin PySem.F.entry_extend_loop ?_
    rw [Around.under_plainId PySem.F.plain_extend_loop _]
    show wpAny _ A.in1 (pyNext (.ref z) >>= _) _ _ _
    refine wpAny_bind (next_item (y := { y with heap := h, toks := tk }) (A := A.in1) Z D1 D2 st lS lt fun x1 x2 h' tk' p1 p2 st' aT zz hkp => ?_)
    dsimp only at aT zz hkp ⊢
    have aS' := hkp S _ (Nat.ne_of_gt lz) (Nat.ne_of_gt lO) (Nat.ne_of_gt l1) (Nat.ne_of_gt l2) aS
    have up : ∀ b o, b ≠ S → h'.get? b = some o → (h'.update S (Obj.mapSeq (·.push (Value.ref h.objs.size)))).get? b = some o := fun b o hb e => (Heap.get?_update_other _ _ (Ne.symm hb)).trans e
    show wpAny _ A.in1 (updateSeq S (·.push (Value.ref h.objs.size)) >>= _) _ _ _
    refine wpAny_bind ?_
    refine wpAny_updateSeq aS' rfl (wpAny_pure ⟨plainId_quiet PySem.F.plain_extend_loop _, ih (i + 1) _ tk' _ (acc.push (Value.ref h.objs.size)) (as ++ [h.objs.size]) (by omega) lt (st'.keep Z D1 D2 m1 m2 (Nat.ne_of_lt lz) (Nat.ne_of_lt lI) (Nat.ne_of_lt lO) up)
      (fun b o q1 q2 q3 q4 q5 e => up b o q1 (hkp b o q2 q3 q4 q5 (kp b o q1 q2 q3 q4 q5 e))) (Heap.get?_update_self _ aS' rfl) (by rw [Array.toList_push, hacc, List.map_append]; rfl) (by rw [List.length_append, hal]; rfl) ⟨?_, ?_, ?_⟩⟩) (by rw [sz]; omega) (by show (acc.push (Value.ref h.objs.size)).size ≤ sizeLine + 1; rw [Array.size_push, sz]; omega)
    · refine List.pairwise_append.mpr ⟨G.rise, List.pairwise_singleton _ _, fun a ha b hb => ?_⟩
      rw [List.mem_singleton.mp hb]
      exact G.there ha
    · intro a ha
      rcases List.mem_append.mp ha with ha | ha
      · exact G.above a ha
      · rw [List.mem_singleton.mp ha]
        exact lS
    · intro j b hj
      rcases Nat.lt_trichotomy j as.length with q | q | q
      · rw [List.getElem?_append_left q] at hj
        obtain ⟨w1, w2, e1, e2, e3⟩ := G.pairs j b hj
        have hb := G.above b (List.mem_of_getElem? hj)
        exact ⟨w1, w2, e1, e2, up b _ (Nat.ne_of_gt hb) (hkp b _ (Nat.ne_of_gt (Nat.lt_trans lz hb)) (Nat.ne_of_gt (Nat.lt_trans lO hb)) (Nat.ne_of_gt (Nat.lt_trans l1 hb)) (Nat.ne_of_gt (Nat.lt_trans l2 hb)) e3)⟩
      · subst q
        have hb : h.objs.size = b := by simpa using hj
        subst hb
        exact ⟨x1, x2, by rw [hal]; exact p1, by rw [hal]; exact p2, up _ _ (Nat.ne_of_gt lS) aT⟩
      · have none' : (as ++ [h.objs.size])[j]? = none := List.getElem?_eq_none (by rw [List.length_append, List.length_singleton]; omega)
        rw [none'] at hj
        cases hj
theorem extend {S : Addr} (Z : ZipSep2 z TI TO i1 i2 fp1 fp2) (D1 : Draws prog wd A.in1.in1 i1 fp1 n P1 St1) (D2 : Draws prog wd A.in1.in1 i2 fp2 n P2 St2) (m1 : S ∉ fp1) (m2 : S ∉ fp2) (lz : z < S) (lI : TI < S) (lO : TO < S) (l1 : i1 < S) (l2 : i2 < S) (hn : n ≤ sizeLine) (res : Value) (c0 : Nat)
    (az : IsZip y.heap z TI TO .none) (aO : ∃ a b, IsTupOf2 y.heap TO a b) (aI : IsTupOf2 y.heap TI (.ref i1) (.ref i2)) (t1 : St1 0 y.heap) (t2 : St2 0 y.heap) (aS : y.heap.get? S = some { cls := .type "list", data := .seq #[] c0 })
    (hR : ∀ h' tk acc c as, (∀ b o, b ≠ S → b ≠ z → b ≠ TO → b ≠ i1 → b ≠ i2 → y.heap.get? b = some o → h'.get? b = some o) → h'.get? S = some { cls := .type "list", dict := none, data := .seq acc c, slots := #[] } → as.length = n → ZG P1 P2 S h' as →
      acc.toList = as.map Value.ref → R (.ok (.ret res)) { y with heap := h', toks := tk }) :
    wpAny (model prog wd) A.in1 (Builtin.List.listExtendWith (.ref S) (.ref z) res)
      (fun fin s' => match fin with | .done f => R (.ok f) s' | .again c' => c'.quiet = true ∧ codeAny (model prog wd) A c' R s') (fun e s' => R (.error e) s') y := by
  have hT : ∀ tk, ({ y with toks := tk } : Shared).TypeIs (.ref z) "zip" := fun _ => ⟨_, az, rfl⟩
  unfold Builtin.List.listExtendWith
  refine wpAny_bind (wpAny_typeOf (hT y.toks) ?_)
  have h1 : Builtin.List.listSameRef (.ref S) (.ref z) = false := by simp [Builtin.List.listSameRef, Nat.ne_of_gt lz]
  have h2 : (Value.type "zip" == Value.type "list") = false := by decide
  have h3 : (Value.type "zip" == Value.type "tuple") = false := by decide
  simp only [h1, h2, h3, Bool.or_false, Bool.false_eq_true, if_false]
  refine wpAny_bind (wpAny_pyIter_zip az ?_)
  refine wpAny_bind (wpAny_holding ?_)
  unfold Builtin.List.listLengthHint
  refine wpAny_bind (wpAny_specialOf (hT y.toks) no_len ?_)
  show wpAny _ A.in1 (specialOf (Value.ref z) (Str.ofString "__length_hint__") >>= _) _ _ _
  refine wpAny_bind (wpAny_specialOf (hT y.toks) no_hint ?_)
  refine wpAny_pure ?_
  show wpAny _ A.in1 (rule "list.extend.makes-room" >>= fun _ => Builtin.List.listTouch (.ref S) >>= fun _ =>
    again (.builtin "list.extend.loop" ⟨[.ref S, .ref z, res], []⟩)) _ _ _
  refine wpAny_bind (wpAny_rule ?_)
  refine wpAny_bind ?_
  show wpAny _ A.in1 (updateSeq S (·.push .none) >>= fun _ => updateSeq S (·.pop)) _ _ _
  refine wpAny_bind (wpAny_updateSeq aS rfl ?_)
  have aS2 := Heap.get?_update_self (Obj.mapSeq (·.push Value.none)) aS rfl
  refine wpAny_updateSeq (hz := by seq_fits) aS2 rfl ?_
  have aS3 := Heap.get?_update_self (Obj.mapSeq (·.pop)) aS2 rfl
  have oth : ∀ b o, b ≠ S → y.heap.get? b = some o → ((y.heap.update S (Obj.mapSeq (·.push Value.none))).update S (Obj.mapSeq (·.pop))).get? b = some o :=
    fun b o hb e => (Heap.get?_update_other _ _ (Ne.symm hb)).trans ((Heap.get?_update_other _ _ (Ne.symm hb)).trans e)
  have st : ZSt z TI TO i1 i2 S St1 St2 0 y.heap := ⟨aI, t1, t2, .inl ⟨az, aO⟩⟩
  refine wpAny_pure ⟨plainId_quiet PySem.F.plain_extend_loop _, loop (h0 := y.heap) Z D1 D2 m1 m2 lz lI lO l1 l2 hn res hR n 0 _ _ _ #[] [] (Nat.sub_zero _) (Nat.zero_le _)
    (st.keep Z D1 D2 m1 m2 (Nat.ne_of_lt lz) (Nat.ne_of_lt lI) (Nat.ne_of_lt lO) oth) (fun b o q1 _ _ _ _ e => oth b o q1 e) aS3 rfl rfl ⟨List.Pairwise.nil, (fun _ ha => nomatch ha), (fun j a hj => by simp at hj)⟩⟩
end
section
variable {prog : Program} {wd : World} {A : Around} {E : Value → Shared → Prop} {y : Shared} {z TI TO i1 i2 : Addr} {fp1 fp2 : List Addr} {n : Nat} {P1 P2 : Nat → Value → Prop} {St1 St2 : Nat → Heap → Prop}
theorem call_ok {Q : Value → Shared → Prop} (Z : ZipSep2 z TI TO i1 i2 fp1 fp2) (D1 : Draws prog wd A.in1.in1.in1 i1 fp1 n P1 St1) (D2 : Draws prog wd A.in1.in1.in1 i2 fp2 n P2 St2) (hf : ∀ b ∈ fp1 ++ fp2, b < y.heap.objs.size) (hn : n ≤ sizeLine)
    (az : IsZip y.heap z TI TO .none) (aO : ∃ a b, IsTupOf2 y.heap TO a b) (aI : IsTupOf2 y.heap TI (.ref i1) (.ref i2)) (t1 : St1 0 y.heap) (t2 : St2 0 y.heap)
    (q : ∀ h' tk acc c as, (∀ b o, b ≠ z → b ≠ TO → b ≠ i1 → b ≠ i2 → y.heap.get? b = some o → h'.get? b = some o) → h'.get? y.heap.objs.size = some { cls := .type "list", dict := none, data := .seq acc c, slots := #[] } → as.length = n → ZG P1 P2 y.heap.objs.size h' as →
      acc.toList = as.map Value.ref → Q (.ref y.heap.objs.size) { y with heap := h', toks := tk }) :
    wpAny (model prog wd) A (call (.type "list") [.ref z]) Q E y := by
  refine callType_codes (Q₁ := fun obj s1 => obj = .ref y.heap.objs.size ∧ s1 = { y with heap := y.heap.push { cls := .type "list", data := .seq #[] } }) PySem.F.called_list (PySem.F.typeCall_list_1 _) PySem.F.entry_list_init
    (code_list_new _ ⟨rfl, rfl⟩) fun obj s1 e1 => ?_
  obtain ⟨rfl, rfl⟩ := e1
  have up : ∀ b o, y.heap.get? b = some o → (y.heap.push { cls := .type "list", data := .seq #[] }).get? b = some o := fun b o e => Heap.get?_push_of_some _ e
  have aS : (y.heap.push { cls := .type "list", data := .seq #[] }).get? y.heap.objs.size = some { cls := .type "list", data := .seq #[] } := Heap.get?_push_size _ rfl
  refine ⟨⟨_, aS, rfl⟩, PySem.F.args_list_init_2 _ _, ?_⟩
  show wpAny _ A.in1.in1 (do let old ← Builtin.List.listItems (.ref y.heap.objs.size); Builtin.List.listUpdate (.ref y.heap.objs.size) (fun _ => #[]); letGo old.toList.reverse; Builtin.List.listExtendWith (.ref y.heap.objs.size) (.ref z) .none) _ _ _
  refine wpAny_bind ?_
  unfold Builtin.List.listItems
  refine wpAny_bind (wpAny_seqItems aS rfl (wpAny_pure ?_))
  show wpAny _ _ (updateSeq y.heap.objs.size (fun _ => #[]) >>= fun _ => letGo (#[] : Array Value).toList.reverse >>= fun _ => Builtin.List.listExtendWith (.ref y.heap.objs.size) (.ref z) .none) _ _ _
  refine wpAny_bind (wpAny_updateSeq aS rfl ?_)
  have aS2 := Heap.get?_update_self (Obj.mapSeq (fun _ => (#[] : Array Value))) aS rfl
  have oth : ∀ b o, b ≠ y.heap.objs.size → y.heap.get? b = some o → ((y.heap.push { cls := .type "list", data := .seq #[] }).update y.heap.objs.size (Obj.mapSeq (fun _ => (#[] : Array Value)))).get? b = some o :=
    fun b o hb e => (Heap.get?_update_other _ _ (Ne.symm hb)).trans (up b o e)
  have lt : ∀ {b o}, y.heap.get? b = some o → b < y.heap.objs.size := fun e => Heap.lt_size e
  have ne : ∀ {b o}, y.heap.get? b = some o → b ≠ y.heap.objs.size := fun e => Nat.ne_of_lt (Heap.lt_size e)
  have m1 : y.heap.objs.size ∉ fp1 := fun h => Nat.lt_irrefl _ (hf _ (List.mem_append_left _ h))
  have m2 : y.heap.objs.size ∉ fp2 := fun h => Nat.lt_irrefl _ (hf _ (List.mem_append_right _ h))
  refine wpAny_bind (wpAny_letGo ?_)
  obtain ⟨a, b, aO⟩ := aO
  refine extend (A := A.in1) (n := n) (P1 := P1) (P2 := P2) (St1 := St1) (St2 := St2) Z D1 D2 m1 m2 (lt az) (lt aI) (lt aO) (hf _ (List.mem_append_left _ Z.mem1)) (hf _ (List.mem_append_right _ Z.mem2)) hn .none _ (oth _ _ (ne az) az) ⟨a, b, oth _ _ (ne aO) aO⟩ (oth _ _ (ne aI) aI)
    (D1.frame _ _ _ t1 fun b hb o e => oth b o (Nat.ne_of_lt (hf b (List.mem_append_left _ hb))) e) (D2.frame _ _ _ t2 fun b hb o e => oth b o (Nat.ne_of_lt (hf b (List.mem_append_right _ hb))) e) aS2 (fun h' tk acc c as hk hS' hl hG hacc => ?_)
  exact ⟨rfl, q h' tk acc c as (fun b o q1 q2 q3 q4 e => hk b o (ne e) q1 q2 q3 q4 (oth b o (ne e) e)) hS' hl hG hacc⟩
end
end Zl
end VM

set_option Elab.async false
set_option linter.all false
set_option maxRecDepth 100000
set_option maxHeartbeats 2000000
/-! VM53: list(zip(xs, ys)) as a rule. -/
namespace VM
open PySem PySem.Spec PyProof.Rows L2
/-- the pairs laid at their places -/
def putZ : Hp → List Addr → List (V × V) → Hp
  | H, a :: as, q :: qs => putZ (upd H a (.tup [q.1, q.2])) as qs
  | H, _, _ => H
theorem putZ_off {b : Addr} : ∀ (as : List Addr) (qs : List (V × V)) (H : Hp), b ∉ as → putZ H as qs b = H b
  | [], _, _, _ => rfl
  | _ :: _, [], _, _ => rfl
  | a :: as, q :: qs, H, h => by
    show putZ (upd H a (.tup [q.1, q.2])) as qs b = H b
    rw [putZ_off as qs _ (fun z => h (List.mem_cons_of_mem _ z)), upd_ne (fun z => h (by rw [z]; exact List.mem_cons_self))]
theorem putZ_at : ∀ (as : List Addr) (qs : List (V × V)) (H : Hp), as.length = qs.length → as.Nodup → ∀ (j : Nat) (a : Addr), as[j]? = some a → ∃ q, qs[j]? = some q ∧ putZ H as qs a = some (.tup [q.1, q.2])
  | [], _, _, _, _, j, a, h => by simp at h
  | _ :: _, [], _, h, _, _, _, _ => by simp at h
  | a :: as, q :: qs, H, h, hn, 0, b, e => by
    cases e
    have hn' := List.nodup_cons.mp hn
    refine ⟨q, rfl, ?_⟩
    show putZ (upd H a (.tup [q.1, q.2])) as qs a = _
    rw [putZ_off as qs _ hn'.1, upd_same]
  | a :: as, q :: qs, H, h, hn, j + 1, b, e => putZ_at as qs (upd H a (.tup [q.1, q.2])) (Nat.succ.inj h) (List.nodup_cons.mp hn).2 j b e
theorem sep_new (N l1 l2 : Nat) (h1 : l1 < N) (h2 : l2 < N) : ZipSep2 (N + 4) (N + 2) (N + 3) N (N + 1) [N, l1] [N + 1, l2] where
  TIz := (by omega : ¬ (N + 2 = N + 4))
  TOz := (by omega : ¬ (N + 3 = N + 4))
  TITO := (by omega : ¬ (N + 2 = N + 3))
  TIi1 := (by omega : ¬ (N + 2 = N))
  mem1 := List.mem_cons_self
  zf1 := fun h => by
    have : N + 4 = N ∨ N + 4 = l1 := by simpa using h
    omega
  Tf1 := fun h => by
    have : N + 3 = N ∨ N + 3 = l1 := by simpa using h
    omega
  TIi2 := (by omega : ¬ (N + 2 = N + 1))
  mem2 := List.mem_cons_self
  zf2 := fun h => by
    have : N + 4 = N + 1 ∨ N + 4 = l2 := by simpa using h
    omega
  Tf2 := fun h => by
    have : N + 3 = N + 1 ∨ N + 3 = l2 := by simpa using h
    omega
  sep1_2 := fun h => by
    have : N = N + 1 ∨ N = l2 := by simpa using h
    omega
  sep2_1 := fun h => by
    have : N + 1 = N ∨ N + 1 = l1 := by simpa using h
    omega
def rListZ (K : PySem.W.Frag) : R2 := fun x y H Q => ∃ a b xs ys, x = .ref a ∧ y = .ref b ∧ ((SqL K H a xs ∧ SqL K H b ys) ∨ (SqT K H a xs ∧ SqT K H b ys)) ∧ xs.length = ys.length ∧
  ∀ (ts : List Addr) (p : Addr), ts.length = (xs.zip ys).length → ts.Nodup → p ∉ ts → H p = none → (∀ t ∈ ts, H t = none) → Q (.ref p) (upd (putZ H ts (xs.zip ys)) p (.lst (ts.map V.ref)))
section
variable {X : Cx}
theorem zip_laid {pins : List (Addr × Obj)} {σ : L2.St} {H : Hp} {s : Shared} {h' : Heap} {tk c : Nat} {xs ys : List V} {its its2 : List Value} {acc : Array Value} {as : List Addr} {S : Addr} (I : Inv X pins σ H s) (hz : xs.length ≤ sizeLine) (rv : Vals xs its) (rv2 : Vals ys its2) (hl : xs.length = ys.length)
    (hk : ∀ b o, s.heap.get? b = some o → h'.get? b = some o) (lS : s.heap.objs.size ≤ S) (hS : h'.get? S = some { cls := .type "list", dict := none, data := .seq acc c, slots := #[] }) (la : as.length = xs.length)
    (G : Zl.ZG (fun i v => its.toArray[i]? = some v) (fun i v => its2.toArray[i]? = some v) S h' as) (hacc : acc.toList = as.map Value.ref) :
    S ∉ as ∧ as.Nodup ∧ H S = none ∧ (∀ t ∈ as, H t = none) ∧ Inv X pins σ (upd (putZ H as (xs.zip ys)) S (.lst (as.map V.ref))) { s with heap := h', toks := tk } := by
  have lz : as.length = (xs.zip ys).length := by rw [List.length_zip, ← hl, Nat.min_self, la]
  have nS : S ∉ as := fun z => Nat.lt_irrefl _ (G.above _ z)
  have nd : as.Nodup := List.Pairwise.imp (fun {a b} (h : a < b) => Nat.ne_of_lt h) G.rise
  have new : ∀ t ∈ as, H t = none := fun t ht => I.hok.fresh (Nat.le_trans lS (Nat.le_of_lt (G.above t ht)))
  have newS : H S = none := I.hok.fresh lS
  have off : ∀ b, b ∉ as → b ≠ S → upd (putZ H as (xs.zip ys)) S (.lst (as.map V.ref)) b = H b := fun b h1 h2 => by rw [upd_ne h2, putZ_off as _ _ h1]
  have low : ∀ b o, s.heap.get? b = some o → b ∉ as ∧ b ≠ S := fun b o e => ⟨fun z => absurd (Heap.lt_size e) (Nat.not_lt.mpr (Nat.le_trans lS (Nat.le_of_lt (G.above b z)))), Nat.ne_of_lt (Nat.lt_of_lt_of_le (Heap.lt_size e) lS)⟩
  have kp : ∀ b u, H b = some u → upd (putZ H as (xs.zip ys)) S (.lst (as.map V.ref)) b = some u := fun b u e => by
    rw [off b (fun z => by rw [new b z] at e; cases e) (fun z => by rw [z, newS] at e; cases e)]
    exact e
  refine ⟨nS, nd, newS, new, ?_⟩
  refine I.call' (ch := []) rfl ⟨fun b o q _ _ _ => hk b o q, fun b o q _ _ _ => ⟨o.slots, hk b o q⟩, fun b o q n _ => ?_, fun b o q _ => ⟨o, hk b o q⟩, fun b xs q => kp b _ q, fun b o u q => kp b _ q, fun b ps q => ⟨#[], by rw [kp b _ q]; simp⟩⟩ (fun b u q => ?_) I.bare fun b z => by simp at z
  · obtain ⟨z1, z2⟩ := low b o q
    rw [off b z1 z2]
    exact n
  · by_cases hb2 : b = S
    · rw [hb2] at q ⊢
      rw [upd_same] at q
      cases q
      refine ⟨by rw [List.length_map]; omega, acc.toList, c, by rw [hacc]; exact LiI.vals_refs as, ?_⟩
      rw [Array.toArray_toList]
      exact hS
    · by_cases hb : b ∈ as
      · obtain ⟨j, hj⟩ := List.mem_iff_getElem?.mp hb
        obtain ⟨pr, e1, e2⟩ := putZ_at as (xs.zip ys) H lz nd j b hj
        rw [upd_ne hb2, e2] at q
        cases q
        obtain ⟨x1, x2, f1, f2, f3⟩ := G.pairs j b hj
        rw [List.getElem?_zip_eq_some] at e1
        obtain ⟨g1, g2⟩ := e1
        obtain ⟨u1, w1, r1⟩ := rv.get g1
        obtain ⟨u2, w2, r2⟩ := rv2.get g2
        have y1 : u1 = x1 := by
          have f1 : its.toArray[j]? = some x1 := f1
          rw [show its.toArray[j]? = its[j]? by simp, w1] at f1
          cases f1
          rfl
        have y2 : u2 = x2 := by
          have f2 : its2.toArray[j]? = some x2 := f2
          rw [show its2.toArray[j]? = its2[j]? by simp, w2] at f2
          cases f2
          rfl
        subst y1 y2
        exact ⟨by show 2 ≤ sizeLine; decide, [u1, u2], .cons r1 (.cons r2 .nil), ⟨_, f3, rfl, _, rfl⟩⟩
      · rw [off b hb hb2] at q
        exact (I.hok b u q).stay (fun d v _ y => hk d v y) (fun d y => kp d _ y) fun d xs y => kp d _ y
variable {a b : Expr} {ta tb : TE}
theorem pe_listZip {p p2 pos pos2 : Pos} (hc : X.calm = true) (hg : Gl X "list") (hm : X.mg "list" = none) (hg2 : Gl X "zip") (hm2 : X.mg "zip" = none) (ha : PE X a ta) (hb : PE X b tb) (na : starEach [a, b] X.env = (false, eval a X.env) :: starEach [b] X.env) (nb : starEach [b] X.env = (false, eval b X.env) :: starEach [] X.env)
    (hp : (backTo pos2 (starEach [b] X.env)).any (·.1) = false) (ne : starEach [.Call (.Name "zip" p2) [a, b] [] pos2] X.env = (false, eval (.Call (.Name "zip" p2) [a, b] [] pos2) X.env) :: starEach [] X.env) :
    PE X (.Call (.Name "list" p) [.Call (.Name "zip" p2) [a, b] [] pos2] [] pos) (tOp (rListZ X.K) ta tb) := by
  refine ⟨fun pins s σ H Q I h => ?_⟩
  refine Call_ (ld_blt I hg hm boot_list (PyProof.Rows.callWith_type1 (args_cons ?_ ne) ne))
  refine Call_ (ld_blt I hg2 hm2 boot_zip (PyProof.Rows.callWith_type1 (args_cons (thn (ha.run pins s σ H _ I h) fun v s1 ⟨x, H1, I1, r1, q1⟩ => one_arg hb I1 q1 (fun u s2 y H2 I2 r2 q => ?_) nb) na) na hp))
  obtain ⟨d, e, xs, ys, rfl, rfl, sq, hl, q⟩ := q
  obtain rfl : v = .ref d := r1
  obtain rfl : u = .ref e := r2
  rcases sq with ⟨k1, k2⟩ | ⟨k1, k2⟩
  · obtain ⟨its, rv, m1, z1⟩ := I2.list k1
    obtain ⟨its2, rv2, m2, z2⟩ := I2.list k2
    have e1 : its.toArray.size = xs.length := by rw [List.size_toArray, ← rv.length]
    have e2 : its2.toArray.size = xs.length := by rw [List.size_toArray, ← rv2.length, ← hl]
    refine call_zip_2 m1.isList m2.isList fun h' az aI aO t1 t2 sz hk => args_nil ?_
    have D1 := Draws.list (prog := X.prog) (w := X.w) (A := X.A.in1.in1.in1) (show X.A.in1.in1.in1.handled = none from I2.ok.hd hc) s2.heap.objs.size d (Nat.ne_of_lt m1.lt) its.toArray
    have D2 := Draws.list (prog := X.prog) (w := X.w) (A := X.A.in1.in1.in1) (show X.A.in1.in1.in1.handled = none from I2.ok.hd hc) (s2.heap.objs.size + 1) e (Nat.ne_of_lt (Nat.lt_succ_of_lt m2.lt)) its2.toArray
    rw [e1] at D1
    rw [e2] at D2
    refine Zl.call_ok (y := { s2 with heap := h' }) (n := xs.length) (sep_new s2.heap.objs.size d e m1.lt m2.lt) D1 D2 (fun b hb => ?_) z1 az ⟨_, _, aO⟩ aI ⟨t1, (m1.isList).at fun o x => hk _ o x⟩ ⟨t2, (m2.isList).at fun o x => hk _ o x⟩ fun h2 tk acc c as hk2 hS la G hacc => ?_
    · have e' : b = s2.heap.objs.size ∨ b = d ∨ b = s2.heap.objs.size + 1 ∨ b = e := by simpa using hb
      show b < h'.objs.size
      rw [sz]
      rcases e' with z | z | z | z
      · rw [z]; exact Nat.lt_add_of_pos_right (by decide)
      · rw [z]; exact Nat.lt_of_lt_of_le m1.lt (Nat.le_add_right _ _)
      · rw [z]; exact Nat.add_lt_add_left (by decide) _
      · rw [z]; exact Nat.lt_of_lt_of_le m2.lt (Nat.le_add_right _ _)
    · have lt : ∀ {b o}, s2.heap.get? b = some o → b < s2.heap.objs.size := fun e => Heap.lt_size e
      have kk : ∀ b o, s2.heap.get? b = some o → h2.get? b = some o := fun b o x => hk2 b o (Nat.ne_of_lt (Nat.lt_of_lt_of_le (lt x) (Nat.le_add_right _ _))) (Nat.ne_of_lt (Nat.lt_of_lt_of_le (lt x) (Nat.le_add_right _ _))) (Nat.ne_of_lt (lt x)) (Nat.ne_of_lt (Nat.lt_succ_of_lt (lt x))) (hk b o x)
      obtain ⟨w1, w2, w3, w4, J⟩ := zip_laid (tk := tk) (S := h'.objs.size) I2 z1 rv rv2 hl kk (by rw [sz]; exact Nat.le_add_right _ _) hS la G hacc
      exact ⟨.ref h'.objs.size, _, J, rfl, q as _ (by rw [la, List.length_zip, ← hl, Nat.min_self]) w2 w1 w3 w4⟩
  · obtain ⟨its, rv, m1, z1⟩ := I2.tuple k1
    obtain ⟨its2, rv2, m2, z2⟩ := I2.tuple k2
    have l1 : d < s2.heap.objs.size := by obtain ⟨o, ho, _⟩ := id m1; exact Heap.lt_size ho
    have l2 : e < s2.heap.objs.size := by obtain ⟨o, ho, _⟩ := id m2; exact Heap.lt_size ho
    have e1 : its.toArray.size = xs.length := by rw [List.size_toArray, ← rv.length]
    have e2 : its2.toArray.size = xs.length := by rw [List.size_toArray, ← rv2.length, ← hl]
    refine RZ.call_zipT (show s2.heap.IsTuple d its.toArray from m1) (show s2.heap.IsTuple e its2.toArray from m2) fun h' az aI aO t1 t2 sz hk => args_nil ?_
    have D1 := Draws.tuple (prog := X.prog) (w := X.w) (A := X.A.in1.in1.in1) (show X.A.in1.in1.in1.handled = none from I2.ok.hd hc) s2.heap.objs.size d (Nat.ne_of_lt l1) its.toArray
    have D2 := Draws.tuple (prog := X.prog) (w := X.w) (A := X.A.in1.in1.in1) (show X.A.in1.in1.in1.handled = none from I2.ok.hd hc) (s2.heap.objs.size + 1) e (Nat.ne_of_lt (Nat.lt_succ_of_lt l2)) its2.toArray
    rw [e1] at D1
    rw [e2] at D2
    refine Zl.call_ok (y := { s2 with heap := h' }) (n := xs.length) (sep_new s2.heap.objs.size d e l1 l2) D1 D2 (fun b hb => ?_) z1 az ⟨_, _, aO⟩ aI ⟨t1, (show s2.heap.IsTuple d its.toArray from m1).at fun o x => hk _ o x⟩ ⟨t2, (show s2.heap.IsTuple e its2.toArray from m2).at fun o x => hk _ o x⟩ fun h2 tk acc c as hk2 hS la G hacc => ?_
    · have e' : b = s2.heap.objs.size ∨ b = d ∨ b = s2.heap.objs.size + 1 ∨ b = e := by simpa using hb
      show b < h'.objs.size
      rw [sz]
      rcases e' with z | z | z | z
      · rw [z]; exact Nat.lt_add_of_pos_right (by decide)
      · rw [z]; exact Nat.lt_of_lt_of_le l1 (Nat.le_add_right _ _)
      · rw [z]; exact Nat.add_lt_add_left (by decide) _
      · rw [z]; exact Nat.lt_of_lt_of_le l2 (Nat.le_add_right _ _)
    · have lt : ∀ {b o}, s2.heap.get? b = some o → b < s2.heap.objs.size := fun e => Heap.lt_size e
      have kk : ∀ b o, s2.heap.get? b = some o → h2.get? b = some o := fun b o x => hk2 b o (Nat.ne_of_lt (Nat.lt_of_lt_of_le (lt x) (Nat.le_add_right _ _))) (Nat.ne_of_lt (Nat.lt_of_lt_of_le (lt x) (Nat.le_add_right _ _))) (Nat.ne_of_lt (lt x)) (Nat.ne_of_lt (Nat.lt_succ_of_lt (lt x))) (hk b o x)
      obtain ⟨w1, w2, w3, w4, J⟩ := zip_laid (tk := tk) (S := h'.objs.size) I2 z1 rv rv2 hl kk (by rw [sz]; exact Nat.le_add_right _ _) hS la G hacc
      exact ⟨.ref h'.objs.size, _, J, rfl, q as _ (by rw [la, List.length_zip, ← hl, Nat.min_self]) w2 w1 w3 w4⟩
end
/-! ### as a meaning -/
section
variable {K : PySem.W.Frag} {T : Tab} {w w' : Wd} {s s' : Store} {H H' : Hp} {X : Cx} {W : WX}
def zipD : List D → List D → List D
  | x :: xs, y :: ys => .tup [x, y] :: zipD xs ys
  | _, _ => []
theorem zipD_len : ∀ (xs ys : List D), xs.length = ys.length → (zipD xs ys).length = xs.length
  | [], [], _ => rfl
  | [], _ :: _, h => by cases h
  | _ :: _, [], h => by cases h
  | x :: xs, y :: ys, h => by
    show (zipD xs ys).length + 1 = xs.length + 1
    rw [zipD_len xs ys (Nat.succ.inj h)]
def dZipL : D → D → Option D
  | .lst xs, .lst ys => if xs.length = ys.length ∧ xs.length ≤ 1000 then some (.lst (zipD xs ys)) else none
  | .tup xs, .tup ys => if xs.length = ys.length ∧ xs.length ≤ 1000 then some (.lst (zipD xs ys)) else none
  | _, _ => none
theorem put_ok : ∀ (ts : List Addr) (us vs : List V) (xs ys : List D) (w : Wd) (H : Hp), SOk K T w s H → ts.length = (us.zip vs).length → (∀ t ∈ ts, H t = none) → ts.Nodup → Reps K T w.F us xs → Reps K T w.F vs ys → us.length = vs.length →
    ∃ w', SOk K T w' s (putZ H ts (us.zip vs)) ∧ Nxt w s H w' s (putZ H ts (us.zip vs)) ∧ Reps K T w'.F (ts.map V.ref) (zipD xs ys)
  | [], [], [], _, _, w, H, k, _, _, _, r1, r2, _ => by
    cases r1
    cases r2
    exact ⟨w, k, .refl, .nil⟩
  | [], _ :: _, _ :: _, _, _, _, _, _, h, _, _, _, _, _ => by simp at h
  | _ :: _, [], [], _, _, _, _, _, h, _, _, _, _, _ => by simp at h
  | _, [], _ :: _, _, _, _, _, _, _, _, _, _, _, h => by cases h
  | _, _ :: _, [], _, _, _, _, _, _, _, _, _, _, h => by cases h
  | t :: ts, u :: us, v :: vs, _, _, w, H, k, h, nw, nd, r1, r2, l => by
    cases r1 with
    | cons ra r1 =>
      cases r2 with
      | cons rb r2 =>
        have nd' := List.nodup_cons.mp nd
        obtain ⟨w2, k2, n2, f2, _⟩ := k.new (o := .tup [u, v]) (nw t List.mem_cons_self)
        obtain ⟨w3, k3, n3, r3⟩ := put_ok ts us vs _ _ w2 (upd H t (.tup [u, v])) k2 (by simpa using h) (fun b hb => by
          rw [upd_ne (fun z => nd'.1 (by rw [← z]; exact hb))]
          exact nw b (List.mem_cons_of_mem _ hb)) nd'.2 (r1.sub n2.F) (r2.sub n2.F) (Nat.succ.inj l)
        refine ⟨w3, k3, n2.trans n3, ?_⟩
        exact .cons (.tup (.of (n3.F _ _ f2)) (.cons ((ra.sub n2.F).sub n3.F) (.cons ((rb.sub n2.F).sub n3.F) .nil)) (by show 2 ≤ sizeMax; decide)) r3
theorem rl_listZ : Rl2F K T (rListZ K) dZipL := fun w s H v x v2 x2 y k r1 r2 hg Q q => by
  have fin : ∀ {a b : Addr} {us vs : List V} {xs ys : List D}, ((SqL K H a us ∧ SqL K H b vs) ∨ (SqT K H a us ∧ SqT K H b vs)) → Reps K T w.F us xs → Reps K T w.F vs ys → (if xs.length = ys.length ∧ xs.length ≤ 1000 then some (D.lst (zipD xs ys)) else none) = some y → rListZ K (.ref a) (.ref b) H Q := fun {a b us vs xs ys} sq ra rb hg => by
    split at hg
    · rename_i e
      cases hg
      have l : us.length = vs.length := by rw [ra.length, rb.length, e.1]
      refine ⟨a, b, us, vs, rfl, rfl, sq, l, fun ts p e1 e2 e3 e4 e5 => ?_⟩
      obtain ⟨w', k', n', r'⟩ := put_ok ts us vs xs ys w H k e1 e5 e2 ra rb l
      have hp : putZ H ts (us.zip vs) p = none := by rw [putZ_off ts _ _ e3, e4]
      refine give_lst k' (fun v' H' w'' a1 a2 a3 => q v' H' w'' a1 (n'.trans a2) (a3.nxt n')) r' ?_ p hp
      rw [zipD_len xs ys e.1]
      have : 1000 ≤ sizeMax := by decide
      omega
    · cases hg
  cases x with
  | lst xs =>
    cases x2 with
    | lst ys =>
      obtain ⟨a, us, rfl, h1, ra, _⟩ := r1
      obtain ⟨b, vs, rfl, h2, rb, _⟩ := r2
      exact fin (.inl ⟨.of h1, .of h2⟩) ra rb hg
    | _ => cases hg
  | tup xs =>
    cases x2 with
    | tup ys =>
      have r1 : Rep K T w.F v (.tup xs) := r1
      have r2 : Rep K T w.F v2 (.tup ys) := r2
      cases r1 with
      | tup h1 ra _ =>
        cases r2 with
        | tup h2 rb _ => exact fin (.inr ⟨sqt_fh K k.fh h1, sqt_fh K k.fh h2⟩) ra rb hg
    | _ => cases hg
  | _ => cases hg
theorem w_listZ {a b : Expr} {p p2 pos pos2 : Pos} {f g : ME} (hK : X.K = K) (hc : X.calm = true) (hm : X.mg "list" = none) (hm2 : X.mg "zip" = none) (hg : Gl X "list") (hg2 : Gl X "zip") (hpa : plain a = true) (hpb : plain b = true) (h1 : SE K T .raw X W a f) (h2 : SE K T .raw X W b g) : SE K T (.own 1) X W (.Call (.Name "list" p) [.Call (.Name "zip" p2) [a, b] [] pos2] [] pos) (op2F dZipL f g) := by
  subst hK
  exact se_op2F (fun ha hb => pe_listZip hc hg hm hg2 hm2 ha hb (star_plain hpa _ _) (star_plain hpb _ _) (by rw [star_plain hpb]; rfl) rfl) rl_listZ h1 h2
end
end VM

set_option Elab.async false
set_option linter.all false
set_option maxRecDepth 100000
set_option maxHeartbeats 1000000
/-! VM54: a, b = a list of two; a call that leaves the last parameter to its default None. -/
namespace VM
open PySem PySem.Spec PyProof.Rows L2
namespace Ul
section
variable {prog : Program} {wd : World} {A : Around} {E : Value → Shared → Prop} {y : Shared}
theorem draw_lst {j l : Addr} {items : Array Value} (hne : l ≠ j) : ∀ (n i : Nat) (y : Shared) (Q : List Value → Shared → Prop), y.heap.IsListIter j l i → y.heap.IsList l items → i + n ≤ items.size →
    (∀ h', h'.IsListIter j l (i + n) → Heap.SameBut j y.heap h' → Q ((items.toList.drop i).take n) { y with heap := h' }) → wpAny (model prog wd) A (draw (.ref j) n) Q E y
  | 0, i, y, Q, ji, _, _, q => by
    show wpAny _ _ (pure []) Q E y
    exact wpAny_pure (by simpa using q y.heap ji (Heap.SameBut.refl ..))
  | n + 1, i, y, Q, ji, jl, le, q => by
    have lt : i < items.size := by omega
    show wpAny _ _ (pyNext (.ref j) >>= _) Q E y
    refine wpAny_bind (wpAny_pyNext_list_item ji jl (x := items[i]) (by simp [lt]) fun u1 ui us => ?_)
    refine wpAny_bind (wpAny_holding (draw_lst hne n (i + 1) _ _ ui (jl.extBut us.extBut hne) (by omega) fun u2 vi vs => wpAny_pure ?_))
    have e1 : items.toList.drop i = items[i] :: items.toList.drop (i + 1) := by simp [List.drop_eq_getElem_cons, lt]
    have z := q u2 (by rw [show i + (n + 1) = i + 1 + n by omega]; exact vi) (us.trans vs)
    rw [e1, List.take_succ_cons] at z
    exact z
theorem items_lst {l : Addr} {items : Array Value} {Q : List Value → Shared → Prop} (hh : A.handled = none) (jl : y.heap.IsList l items)
    (q : ∀ h', Heap.ExtBut y.heap.objs.size y.heap h' → Q items.toList { y with heap := h' }) : wpAny (model prog wd) A (unpackItems (.ref l) items.size none) Q E y := by
  have lt : l ≠ y.heap.objs.size := by obtain ⟨o, ho, _⟩ := id jl; exact Nat.ne_of_lt (Heap.lt_size ho)
  unfold unpackItems
  refine wpAny_bind ?_
  · unfold notIterableAtAll
    refine wpAny_bind (wpAny_specialOf jl.typeIs slot_list_iter.lookup ?_)
    refine wpAny_pure ?_
    simp only [Bool.false_eq_true, if_false]
    refine wpAny_bind (wpAny_holding (wpAny_pyIter_list jl ?_))
    refine wpAny_bind (wpAny_holding (draw_lst lt items.size 0 _ _ ⟨_, Heap.get?_push_size _ rfl, rfl, rfl⟩ (jl.push _) (by omega) fun u1 ui us => ?_))
    have all : List.take items.size (List.drop 0 items.toList) = items.toList := by
      rw [List.drop_zero]
      exact List.take_of_length_le (by simp)
    rw [all]
    rw [if_neg (by simp)]
    have j2 : u1.IsList l items := (jl.push _).extBut us.extBut lt
    refine wpAny_bind (wpAny_holding (wpAny_pyNext_list_end hh ui j2 (by simp) fun u2 e2 => ?_))
    simp only [Option.isSome_none, Bool.false_eq_true, if_false]
    refine wpAny_pure (q u2 fun b o hb e => e2 b o hb (us.extBut b o hb (Heap.get?_push_of_some _ e)))
theorem asg_lst {env : PySem.Env} {elts : List Expr} {x1} {pos : Pos} {l : Addr} {items : Array Value} {Q : Unit → Shared → Prop} (hh : A.handled = none) (jl : y.heap.IsList l items)
    (hn : (assignEach elts env).length = items.size) (hs : (assignEach elts env).findIdx? (·.1) = none)
    (q : ∀ h', Heap.ExtBut y.heap.objs.size y.heap h' → wpAny (model prog wd) A (assignInOrder ((assignEach elts env).map (·.2)) items.toList) Q E { y with heap := h' }) :
    wpAny (model prog wd) A (assign (.Tuple elts x1 pos) env (.ref l)) Q E y := by
  rw [assign_Tuple]
  refine wpAny_bind (wpAny_standAt ?_)
  unfold unpack
  rw [hn, hs]
  exact wpAny_bind (wpAny_holding (items_lst hh jl q))
end
end Ul
section
variable {K : PySem.W.Frag} {T : Tab} {w w' : Wd} {s s' : Store} {H H' : Hp} {X : Cx} {W : WX}
/-- (a, b, ..) = a list of that length -/
def gUnl (K : PySem.W.Frag) (n : Nat) (t : TGs) : TG := fun v σ H Q => ∃ a xs, v = .ref a ∧ SqL K H a xs ∧ xs.length = n ∧ t xs σ H Q
theorem pg_unl {es : List Expr} {k : Nat} {t : TGs} {n : Nat} {pos : Pos} (hc : X.calm = true) (h : PGs X es t)
    (hn : (assignEach es X.env).length = n) (hs : (assignEach es X.env).findIdx? (·.1) = none) : PG X (.Tuple es k pos) (gUnl X.K n t) := by
  refine ⟨fun pins s σ H v u Q I r hw => ?_⟩
  obtain ⟨a, xs, e1, sq, hl, hw⟩ := hw
  subst e1
  cases r
  obtain ⟨its, rv, pl, hz⟩ := I.list sq
  refine Ul.asg_lst (I.ok.hd hc) pl.isList (by simp [hn, ← hl, rv.length]) hs fun h' hx => ?_
  have I1 : Inv X pins σ H { s with heap := h' } := I.kept (t' := s.toks) fun b o e => hx b o (Nat.ne_of_lt (Heap.lt_size e)) e
  exact h.run pins _ σ H xs _ Q I1 (by simpa using rv) hw
def gUnlT (gs : List MG) : MG := fun e d => match d with
  | .lst ds => gAll gs e ds
  | _ => none
theorem sg_unl {is : List Nat} {gs : List MG} {t : TGs} (h : SGs K T is gs t) : SG K T is (gUnlT gs) (gUnl K gs.length t) := fun w s H k env σ v d env' eo r hg Q q => by
  cases d with
  | lst ds =>
    cases r with
    | lst h1 e1 z =>
      have hg : gAll gs env ds = some env' := hg
      exact ⟨_, _, rfl, sql_fh K k.fh (.of h1), by rw [e1.length]; exact gAll_len hg, h w s H k env σ _ ds env' eo e1 hg Q q⟩
  | _ => cases hg
/-! ### a default -/
structure CalD (P : Program) (wo : World) (K : PySem.W.Frag) (mg : Str → Option Value) (base : Heap) (T : Tab) (k : Nat) (x : Str) (fn : Fn) : Prop where
  ex : ∃ f fd ps u, FnOk P wo K mg base (L2.CX P wo) k f fd ps (spOf K T fn) ∧ mg x = some (.ref f) ∧ PySem.W.keepIn K (.ref f) = true ∧ Binds K fd ps [u] ∧ RelV V.non u
theorem CalD.mono {P : Program} {wo : World} {mg : Str → Option Value} {base : Heap} {j k : Nat} {x : Str} {fn : Fn} (c : CalD P wo K mg base T j x fn) (h : j ≤ k) : CalD P wo K mg base T k x fn := by
  obtain ⟨f, fd, ps, u, a, b⟩ := c.ex
  exact ⟨f, fd, ps, u, a.mono h, b⟩
theorem run_dfl {CX : CXT} {k : Nat} {f : Addr} {fd : FuncData} {ps : List Str} {sp : Sp} {E : L2.St → XK} {pins : List (Addr × Obj)} {σ : L2.St} {H : Hp} {s : Shared} {Q : VK} {us : List Value} {vs : List V} {u : Value} (F : FnOk X.prog X.w X.K X.mg X.base CX k f fd ps sp) (hr : Room k X.A) (hb : Binds X.K fd ps [u]) (hu : RelV V.non u) (hx : PassesAt CX X σ (E σ))
    (I : Inv X pins σ H s) (r : Vals vs us) (h : sp (vs ++ [V.non]) H Q (E σ)) : wpAny (model X.prog X.w) X.A (call (.ref f) us) (EP X pins σ Q) X.xe s := by
  have r2 : Vals (vs ++ [V.non]) (us ++ [u]) := r.append (.cons hu .nil)
  have hl : (us ++ [u]).length = ps.length := by rw [← r2.length]; exact F.len _ _ _ _ h
  refine wpAny_call (codeAny_mono (F.run X.A X.stack s H ⟨us, []⟩ (us ++ [u]) (vs ++ [V.non]) Q (E σ) hr I.env0 (hb s us I.kIn hl) r2 h) fun r s' hq => ?_)
  cases r with
  | error e => exact hx pins H s e s' I hq
  | ok fl =>
    cases fl with
    | ret u => exact I.after hq
    | next => exact False.elim hq
    | brk => exact False.elim hq
    | cont => exact False.elim hq
def tCallD (sp : Sp) (E : L2.St → XK) (t : TA) : TE := fun σ H Q => t σ H fun vs H1 => sp (vs ++ [V.non]) H1 Q (E σ)
/-- f(..) with its last parameter left out -/
def eCallD (fn : Fn) (a : MA) : ME := fun e s => (a e s).bind fun ds s => if (ds ++ [D.non]).length = fn.np then fn.sem (ds ++ [D.non]) s else .bad
theorem RepSs.snoc {vs : List V} {ds : List D} (r : RepSs K T w vs ds) : RepSs K T w (vs ++ [V.non]) (ds ++ [D.non]) := by
  induction r with
  | nil => exact .cons (show RepS K T w .non .non from Rep.non) .nil
  | cons h r ih => exact .cons h ih
theorem w_callD {k : Nat} {x : Str} {fn : Fn} {e : Expr} {es : List Expr} {p pos : Pos} {a : MA} (hK : X.K = K) (c : CalD X.prog X.w K X.mg X.base T k x fn) (hr : Room k X.A) (tk : Takes X W) (hg : Gl X x) (ha : SA K T true X W (e :: es) a) (hdb : (x == ("__debug__" : Str)) = false)
    (he : starEach (e :: es) X.env = (false, eval e X.env) :: starEach es X.env) (hpl : (backTo pos (starEach es X.env)).any (·.1) = false) : SE K T (.own fn.ret) X W (.Call (.Name x p) (e :: es) [] pos) (eCallD fn a) := .mk fun w env s σ H k1 eo Q q => by
  subst hK
  obtain ⟨f, fd, ps, u, F, hm, hk, hb, hu⟩ := c.ex
  have pe : ∀ {t : TA}, PA X (e :: es) t → PE X (.Call (.Name x p) (e :: es) [] pos) (tCallD (spOf X.K T fn) (WE W) t) := fun {t} pa => by
    refine ⟨fun pins s σ H Q I h => ?_⟩
    refine wpAny_Call_Name_kw (ld_glob I hg hm ?_ hdb)
    refine PySem.W.callWith_K (h₀ := X.base) I.ok.mod.kin hk (thn (pa.run pos pins s σ H _ I h) fun us s1 ⟨vs, H1, I1, r, q⟩ => ⟨I1.kIn, ?_⟩) he hpl
    exact run_dfl F hr hb hu (passAt tk σ) I1 r q
  refine wpe_of (pe pa_wp) ?_
  refine ha w env s σ H k1 eo _ (Post.bind q fun vs ds H1 w1 s1 a1 b1 c q => ?_)
  have c : RepSs X.K T w1 vs ds := c
  split at q
  · rename_i hl
    exact ⟨w1, s1, ds ++ [D.non], a1, c.snoc, hl, post_at (Post.nxt (rel1 := fun w' H' => OwnV X.K T (.own fn.ret) w1 H1 w' H') b1 q fun _ _ _ _ _ _ z => z.nxt b1)⟩
  · exact q.elim
end
end VM

set_option Elab.async false
set_option linter.all false
set_option maxRecDepth 100000
set_option maxHeartbeats 1000000
/-! VM55: texts taken apart: split, partition, int; zip in a loop; classmethods, classes as values. -/
namespace VM
open PySem PySem.Spec PyProof.Rows L2 PySem.NumText
section
variable {K : PySem.W.Frag} {T : Tab} {w w' : Wd} {s s' : Store} {H H' : Hp} {X : Cx} {W : WX}
/-! ### x.split(sep) -/
def splitN (S x : List Nat) : List (List Nat) := (Txt.split (mkS x) (mkS S)).map fun p => p.cps.toList
def dSplit (S : List Nat) : D → Option D
  | .str x => if x.length + 2 ≤ sizeMax ∧ (splitN S x).length ≤ sizeMax ∧ ∀ p ∈ splitN S x, p.length ≤ sizeMax then some (.lst ((splitN S x).map .str)) else none
  | _ => none
theorem mkS_back (p : Str) : (⟨p.cps.toList.toArray⟩ : Str) = p := by cases p; simp
theorem reps_texts {F : Hp} : ∀ {l : List Str}, (∀ p ∈ l.map (fun p => p.cps.toList), p.length ≤ sizeMax) → Reps K T F (l.map V.str) ((l.map fun p => p.cps.toList).map .str)
  | [], _ => .nil
  | p :: l, h => by
    refine .cons ?_ (reps_texts fun q hq => h q (List.mem_cons_of_mem _ hq))
    have r := Rep.str (K := K) (T := T) (F := F) p.cps.toList (h _ List.mem_cons_self)
    rw [mkS_back] at r
    exact r
theorem rl_split {S : List Nat} {z : Str} (hz : z = ⟨S.toArray⟩) (hs : (z.length == 0) = false) : Rl1F K T (fun x H Q => (∃ a, x = V.str a) ∧ ∃ a b, x = V.str a ∧ [V.str z] = [V.str b] ∧ (b.length == 0) = false ∧ a.length + 2 ≤ sizeLine ∧ rNewStrs (Txt.split a b) H Q) (dSplit S) := fun w s H v x y k r1 hg Q q => by
  cases x with
  | str x =>
    have hg : (if x.length + 2 ≤ sizeMax ∧ (splitN S x).length ≤ sizeMax ∧ ∀ p ∈ splitN S x, p.length ≤ sizeMax then some (D.lst ((splitN S x).map .str)) else none) = some y := hg
    split at hg
    · rename_i hc
      cases hg
      have r1 : Rep K T w.F v (.str x) := r1
      obtain ⟨rfl, hx⟩ := rep_str r1
      subst hz
      refine ⟨⟨_, rfl⟩, _, _, rfl, rfl, hs, ?_, ?_⟩
      · show x.toArray.size + 2 ≤ sizeLine
        rw [List.size_toArray]
        exact hc.1
      · exact give_lst k q (reps_texts hc.2.2) (by rw [List.length_map]; exact hc.2.1)
    · cases hg
  | _ => cases hg
theorem w_split {o : Expr} {z : Str} {j : Nat} {p1 apos cpos : Pos} {f : ME} (S : List Nat) (hz : z = ⟨S.toArray⟩) (hs : (z.length == 0) = false) (hK : X.K = K) (ho : SE K T .raw X W o f) (hbase : attributeBase o "split" X.env (eval o X.env) = eval o X.env) (hline : (apos.endLine == cpos.line) = true)
    (he : starEach [.Constant (.str z) j p1] X.env = [(false, eval (.Constant (.str z) j p1) X.env)]) : SE K T (.own 1) X W (.Call (.Attribute o "split" apos) [.Constant (.str z) j p1] [] cpos) (op1F (dSplit S) f) := by
  subst hK
  exact se_op1F (r := fun x H Q => (∃ a, x = V.str a) ∧ ∃ a b, x = V.str a ∧ [V.str z] = [V.str b] ∧ (b.length == 0) = false ∧ a.length + 2 ≤ sizeLine ∧ rNewStrs (Txt.split a b) H Q)
    (fun {ta} ha => pe_split ha pe_str he hbase hline) (rl_split hz hs) ho

/-! ### x.partition(sep) -/
def partN (S x : List Nat) : List Nat × List Nat × List Nat := ((Txt.partition (mkS x) (mkS S)).1.cps.toList, (Txt.partition (mkS x) (mkS S)).2.1.cps.toList, (Txt.partition (mkS x) (mkS S)).2.2.cps.toList)
def dPart (S : List Nat) : D → Option D
  | .str x => if x.length ≤ sizeMax ∧ (partN S x).1.length ≤ sizeMax ∧ (partN S x).2.1.length ≤ sizeMax ∧ (partN S x).2.2.length ≤ sizeMax then some (.tup [.str (partN S x).1, .str (partN S x).2.1, .str (partN S x).2.2]) else none
  | _ => none
theorem rep_text {F : Hp} (p : Str) (h : p.cps.toList.length ≤ sizeMax) : Rep K T F (.str p) (.str p.cps.toList) := by
  have r := Rep.str (K := K) (T := T) (F := F) p.cps.toList h
  rw [mkS_back] at r
  exact r
theorem rl_part {S : List Nat} {z : Str} (hz : z = ⟨S.toArray⟩) (hs : (z.length == 0) = false) : Rl1F K T (fun x H Q => (∃ a, x = V.str a) ∧ ∃ a b, x = V.str a ∧ [V.str z] = [V.str b] ∧ (b.length == 0) = false ∧ a.length ≤ sizeLine ∧
      ∀ p, H p = none → Q (.ref p) (upd H p (.tup [.str (Txt.partition a b).1, .str (Txt.partition a b).2.1, .str (Txt.partition a b).2.2]))) (dPart S) := fun w s H v x y k r1 hg Q q => by
  cases x with
  | str x =>
    have hg : (if x.length ≤ sizeMax ∧ (partN S x).1.length ≤ sizeMax ∧ (partN S x).2.1.length ≤ sizeMax ∧ (partN S x).2.2.length ≤ sizeMax then some (D.tup [.str (partN S x).1, .str (partN S x).2.1, .str (partN S x).2.2]) else none) = some y := hg
    split at hg
    · rename_i hc
      cases hg
      have r1 : Rep K T w.F v (.str x) := r1
      obtain ⟨rfl, hx⟩ := rep_str r1
      subst hz
      refine ⟨⟨_, rfl⟩, _, _, rfl, rfl, hs, ?_, fun p hp => ?_⟩
      · show x.toArray.size ≤ sizeLine
        rw [List.size_toArray]
        exact hx
      · obtain ⟨w2, h1, h2, h3, _⟩ := k.new (o := .tup [.str (Txt.partition (mkS x) (mkS S)).1, .str (Txt.partition (mkS x) (mkS S)).2.1, .str (Txt.partition (mkS x) (mkS S)).2.2]) hp
        exact q _ _ w2 h1 h2 (own_flat (F := w.F) rfl h1 (.tup (.of h3) (.cons (rep_text _ hc.2.1) (.cons (rep_text _ hc.2.2.1) (.cons (rep_text _ hc.2.2.2) .nil))) (show 3 ≤ sizeMax by decide)))
    · cases hg
  | _ => cases hg
theorem w_part {o : Expr} {z : Str} {j : Nat} {p1 apos cpos : Pos} {f : ME} (S : List Nat) (hz : z = ⟨S.toArray⟩) (hs : (z.length == 0) = false) (hK : X.K = K) (ho : SE K T .raw X W o f) (hbase : attributeBase o "partition" X.env (eval o X.env) = eval o X.env) (hline : (apos.endLine == cpos.line) = true)
    (he : starEach [.Constant (.str z) j p1] X.env = [(false, eval (.Constant (.str z) j p1) X.env)]) : SE K T (.own 1) X W (.Call (.Attribute o "partition" apos) [.Constant (.str z) j p1] [] cpos) (op1F (dPart S) f) := by
  subst hK
  exact se_op1F (r := fun x H Q => (∃ a, x = V.str a) ∧ ∃ a b, x = V.str a ∧ [V.str z] = [V.str b] ∧ (b.length == 0) = false ∧ a.length ≤ sizeLine ∧
      ∀ p, H p = none → Q (.ref p) (upd H p (.tup [.str (Txt.partition a b).1, .str (Txt.partition a b).2.1, .str (Txt.partition a b).2.2])))
    (fun {ta} ha => pe_partition ha pe_str he hbase hline) (rl_part hz hs) ho

/-! ### int(text) -/
def digN (c : Nat) : Bool := decide (48 ≤ c) && decide (c ≤ 57)
def dIntT : D → Option D
  | .str z => if z ≠ [] ∧ z.length ≤ 640 ∧ z.all digN = true then some (.int ((digitsVal z : Nat) : Int)) else none
  | _ => none
theorem rl_intT : Rl1F K T (fun x H Q => ∃ a n, [x] = [V.str a] ∧ PySem.intText? a = some n ∧ a.length ≤ 640 ∧ Q (.int n) H) dIntT := fun w s H v x y k r1 hg Q q => by
  cases x with
  | str z =>
    have hg : (if z ≠ [] ∧ z.length ≤ 640 ∧ z.all digN = true then some (D.int ((digitsVal z : Nat) : Int)) else none) = some y := hg
    split at hg
    · rename_i hc
      cases hg
      have r1 : Rep K T w.F v (.str z) := r1
      obtain ⟨rfl, hx⟩ := rep_str r1
      have ad : AllDigits (⟨z.toArray⟩ : Str).cps.toList := fun c hm => by
        have hm : c ∈ z := by simpa using hm
        have := List.all_eq_true.mp hc.2.2 c hm
        unfold digN at this
        rw [Bool.and_eq_true, decide_eq_true_eq, decide_eq_true_eq] at this
        exact this
      have hl : (⟨z.toArray⟩ : Str).length ≤ 640 := by
        show z.toArray.size ≤ 640
        rw [List.size_toArray]
        exact hc.2.1
      refine ⟨_, _, rfl, intText_digits ad (by simpa using hc.1) (Nat.le_trans hl (by decide)), hl, ?_⟩
      exact q _ _ w k .refl (own_flat (F := w.F) rfl k (show Rep K T w.F (.int ((digitsVal z : Nat) : Int)) _ from .int _))
    · cases hg
  | _ => cases hg
theorem w_intT {e : Expr} {p pos : Pos} {f : ME} (hK : X.K = K) (hm : X.mg "int" = none) (hg : Gl X "int") (hp : plain e = true) (h : SE K T .raw X W e f) : SE K T (.own 1) X W (.Call (.Name "int" p) [e] [] pos) (op1F dIntT f) := by
  subst hK
  exact se_tyF call_int_str rl_intT hp hg hm (by decide +kernel) (by decide) (by decide) h
end
end VM

set_option Elab.async false
set_option linter.all false
set_option maxRecDepth 100000
set_option maxHeartbeats 1000000
/-! VM56: zip in a loop; classmethods, classes as values. -/
namespace VM
open PySem PySem.Spec PyProof.Rows L2
section
variable {K : PySem.W.Frag} {T : Tab} {w w' : Wd} {s s' : Store} {H H' : Hp} {X : Cx} {W : WX}
/-! ### for .. in zip(xs, ys) -/
def iZipF (f g : ME) : MI := fun e s => (f e s).bind fun x s => (g e s).bind fun y s => match x, y with
  | .lst xs, .lst ys => .ok (zipD xs ys, none) s
  | _, _ => .bad
theorem zipD_at : ∀ (xs ys : List D) (i : Nat) (d : D), (zipD xs ys)[i]? = some d → ∃ x y, xs[i]? = some x ∧ ys[i]? = some y ∧ d = .tup [x, y]
  | x :: xs, y :: ys, 0, d, h => by
    cases h
    exact ⟨x, y, rfl, rfl, rfl⟩
  | x :: xs, y :: ys, i + 1, d, h => by
    obtain ⟨a, b, h1, h2, h3⟩ := zipD_at xs ys i d (by simpa [zipD] using h)
    exact ⟨a, b, by simpa using h1, by simpa using h2, h3⟩
  | [], _, i, d, h => by simp [zipD] at h
  | _ :: _, [], i, d, h => by simp [zipD] at h
theorem zipD_min : ∀ (xs ys : List D), (zipD xs ys).length = min xs.length ys.length
  | x :: xs, y :: ys => by
    show (zipD xs ys).length + 1 = _
    rw [zipD_min xs ys, List.length_cons, List.length_cons]
    omega
  | [], ys => by simp [zipD]
  | _ :: _, [] => by simp [zipD]
theorem src_zip {a b : Addr} {vs us : List V} {xs ys : List D} (h1 : w.F a = some (.lst vs)) (h2 : w.F b = some (.lst us)) (r1 : Reps K T w.F vs xs) (r2 : Reps K T w.F us ys) : Src K T (Itz K a b) (zipD xs ys) w s H := fun w' s' H' k' n => by
  have q1 : SqL K H' a vs := .of (k'.fh.lst (n.F _ _ h1))
  have q2 : SqL K H' b us := .of (k'.fh.lst (n.F _ _ h2))
  refine ⟨fun i hi => ⟨vs, us, q1, q2, ?_⟩, fun i d hd => ?_⟩
  · rw [zipD_min] at hi
    rw [r1.length, r2.length]
    omega
  · obtain ⟨x, y, e1, e2, rfl⟩ := zipD_at xs ys i d hd
    obtain ⟨v, hv, rv⟩ := r1.get e1
    obtain ⟨u, hu, ru⟩ := r2.get e2
    refine ⟨⟨vs, us, v, u, q1, q2, hv, hu⟩, fun x2 H2 hy => ?_⟩
    obtain ⟨p, x', y', rfl, hn, rfl, hx, hy⟩ := hy
    have f1 := hx vs q1
    have f2 := hy us q2
    rw [hv] at f1
    rw [hu] at f2
    cases f1
    cases f2
    exact new_pair k' hn (rv.sub n.F) (ru.sub n.F)
theorem si_zip {e e2 : Expr} {p pos tpos : Pos} {elts : List Expr} {kk : Nat} {f g : ME} (hK : X.K = K) (hg : Gl X "zip") (hm : X.mg "zip" = none) (h : SE K T .tree X W e f) (h2 : SE K T .tree X W e2 g)
    (hs2 : starEach [e2] X.env = [(false, eval e2 X.env)]) (hs : starEach [e, e2] X.env = (false, eval e X.env) :: starEach [e2] X.env) (hpl : (backTo pos (starEach [e2] X.env)).any (·.1) = false) :
    SI K T X W (.Tuple elts kk tpos) (.Call (.Name "zip" p) [e, e2] [] pos) (iZipF f g) := .mk fun w env s σ H k eo RR q => by
  subst hK
  refine wpi_of (pi_zip hg hm (pa_cons pe_wp (pa_cons pe_wp pa_nil hs2) hs) hs hpl) (h w env s σ H k eo _ (PostI.bind q fun v d H1 w1 s1 a1 b1 c1 q1 => h2 w1 env s1 σ H1 a1 (eo.nxt b1) _ (Post.nxt (rel := fun w' _ v d => Rep X.K T w'.F v d ∧ Sub w1.F w'.F) (rel1 := fun w' _ => Rep X.K T w'.F) b1 (PostI.bind q1 fun v2 d2 H2 w2 s2 a2 b2 c2 q2 => ?_) fun _ _ _ _ _ n r => ⟨r, n.F⟩)))
  have c1 : Rep X.K T w1.F v d := c1
  obtain ⟨c2, sub⟩ := c2
  cases d with
  | lst xs =>
    cases d2 with
    | lst ys =>
      cases c1 with
      | lst f1 r1 z1 =>
        cases c2 with
        | lst f2 r2 z2 => exact ⟨_, _, _, _, rfl, .of (a2.fh.lst (sub _ _ f1)), .of (a2.fh.lst f2), PostI.give q2 a2 b2 (src_zip (sub _ _ f1) f2 (r1.sub sub) r2) lk_none⟩
    | _ => exact q2.elim
  | _ => exact q2.elim

/-! ### C.m(..), m a classmethod of an own class -/
def clsV (c : Nat) : D := .exn c [(0, .bl true)]
structure CalC (P : Program) (wo : World) (K : PySem.W.Frag) (mg : Str → Option Value) (base : Heap) (T : Tab) (k : Nat) (x : Str) (c : Nat) (m : Str) (fn : Fn) : Prop where
  ex : ∃ p g fd ps C, FnOk P wo K mg base (L2.CX P wo) k g fd ps (spOf K T fn) ∧ mg x = some (.ref C) ∧ T.cls c = some C ∧ ClX.CRead K C (.type "type") ∧ ClX.CMet K C (.type "type") m p g ∧ Binds K fd ps []
theorem CalC.mono {P : Program} {wo : World} {mg : Str → Option Value} {base : Heap} {j k c : Nat} {x m : Str} {fn : Fn} (cm : CalC P wo K mg base T j x c m fn) (h : j ≤ k) : CalC P wo K mg base T k x c m fn := by
  obtain ⟨p, g, fd, ps, C, a, b⟩ := cm.ex
  exact ⟨p, g, fd, ps, C, a.mono h, b⟩
def eCMeth (c : Nat) (fn : Fn) (a : MA) : ME := fun e s => (a e s).bind fun ds s => if ds.length + 1 = fn.np then fn.sem (clsV c :: ds) s else .bad
theorem se_cmeth {pl : Sem Bool} {k c : Nat} {x m : Str} {fn : Fn} {e : Expr} {es : List Expr} {p0 apos pos : Pos} {a : MA} (cm : CalC X.prog X.w X.K X.mg X.base T k x c m fn) (hr : Room k X.A) (tk : Takes X W) (hg : Gl X x) (hdb : (x == ("__debug__" : Str)) = false) (ha : SA X.K T true X W (e :: es) a)
    (hst : starEach (e :: es) X.env = (false, eval e X.env) :: starEach es X.env) (hpl : (backTo pos (starEach es X.env)).any (·.1) = false)
    (ht : eval (.Call (.Attribute (.Name x p0) m apos) (e :: es) [] pos) X.env = (do
      let ov ← eval (.Name x p0) X.env
      standAt apos.atName
      let (f, first) ← holding [ov] (getMethod ov m pl)
      callWith pos f first (backTo pos (starEach (e :: es) X.env)) (backToKw pos (keywordEach [] X.env)))) :
    SE X.K T (.own fn.ret) X W (.Call (.Attribute (.Name x p0) m apos) (e :: es) [] pos) (eCMeth c fn a) := .mk fun w env s σ H k1 eo Q q => by
  obtain ⟨p, g, fd, ps, C, F, hm, hC, rd, cmt, hb⟩ := cm.ex
  have arg : WPA X (e :: es) σ H fun vs H1 => spOf X.K T fn (.ref C :: vs) H1 Q (WE W σ) := ha w env s σ H k1 eo _ (Post.bind q fun vs ds H1 w1 s1 a1 b1 c1 q1 => by
    have c1 : RepSs X.K T w1 vs ds := c1
    split at q1
    · rename_i hl
      exact ⟨w1, s1, clsV c :: ds, a1, .cons (.of (.clsv hC)) c1, hl, post_at (Post.nxt (rel1 := fun w' H' => OwnV X.K T (.own fn.ret) w1 H1 w' H') b1 q1 fun _ _ _ _ _ _ z => z.nxt b1)⟩
    · exact q1.elim)
  intro pins sh I
  refine PySem.W.methodCall_KW (pl := pl) (ld_glob I hg hm ?_ hdb) ht
  refine ClX.getmethcm_ok I rd cmt fun s2 I2 => ?_
  refine ClX.callwith_cm I2 (ClX.base_none I (Nat.le_refl _)) cmt.fi (thn (arg pos _ s2 I2) fun us s3 ⟨vs, H2, I3, rv, q2⟩ => ⟨⟨ClX.pin_at I3, I3.kIn⟩, ?_⟩) hst hpl
  have both : Vals (V.ref C :: vs) (Value.ref C :: us) := .cons rfl rv
  have hlen : (Value.ref C :: us).length = ps.length := by
    rw [← both.length]
    exact F.len _ _ _ _ q2
  have bnd := hb s3 (Value.ref C :: us) I3.kIn (by rw [List.append_nil]; exact hlen)
  rw [List.append_nil] at bnd
  refine thn (wpAny_call (PySem.W.method_call (ClX.pin_at I3) (codeAny_mono (F.run X.A X.stack s3 H2 ⟨Value.ref C :: us, []⟩ (Value.ref C :: us) (V.ref C :: vs) Q (WE W σ) hr I3.env0 bnd both q2) fun res sx back => ?_))) fun _ _ y => ClX.unpinE (p := (sh.heap.objs.size, PySem.W.methodObj (.ref g) (.ref C))) y
  cases res with
  | error er => exact passAt tk σ _ H2 s3 er sx I3 back
  | ok fl =>
    cases fl with
    | ret u => exact I3.after back
    | next => exact back.elim
    | brk => exact back.elim
    | cont => exact back.elim
theorem w_cmeth {pl : Sem Bool} {k c : Nat} {x m : Str} {fn : Fn} {e : Expr} {es : List Expr} {p0 apos pos : Pos} {a : MA} (hK : X.K = K) (cm : CalC X.prog X.w K X.mg X.base T k x c m fn) (hr : Room k X.A) (tk : Takes X W) (hg : Gl X x) (hdb : (x == ("__debug__" : Str)) = false) (ha : SA K T true X W (e :: es) a)
    (hst : starEach (e :: es) X.env = (false, eval e X.env) :: starEach es X.env) (hpl : (backTo pos (starEach es X.env)).any (·.1) = false)
    (ht : eval (.Call (.Attribute (.Name x p0) m apos) (e :: es) [] pos) X.env = (do
      let ov ← eval (.Name x p0) X.env
      standAt apos.atName
      let (f, first) ← holding [ov] (getMethod ov m pl)
      callWith pos f first (backTo pos (starEach (e :: es) X.env)) (backToKw pos (keywordEach [] X.env)))) :
    SE K T (.own fn.ret) X W (.Call (.Attribute (.Name x p0) m apos) (e :: es) [] pos) (eCMeth c fn a) := by
  subst hK
  exact se_cmeth cm hr tk hg hdb ha hst hpl ht
/-! ### c(..), c a name that holds an own class -/
def eMakeL (i c : Nat) (fn : Fn) (a : MA) : ME := fun e s => match e[i]? with
  | some (some (.exn j [(0, .bl true)])) => if j = c then eMake c fn a e s else .bad
  | _ => .bad
theorem se_mkL {k i c : Nat} {x y : Str} {fn : Fn} {e : Expr} {es : List Expr} {p pos : Pos} {a : MA} (hv : PE X (.Name y p) (tVar i)) (cn : CalN X.prog X.w X.K X.mg X.base T k x c fn) (hr : Room (k + 1) X.A) (tk : Takes X W) (ha : SA X.K T true X W (e :: es) a)
    (he : starEach (e :: es) X.env = (false, eval e X.env) :: starEach es X.env) (hpl : (backTo pos (starEach es X.env)).any (·.1) = false) : SE X.K T .tree X W (.Call (.Name y p) (e :: es) [] pos) (eMakeL i c fn a) := .mk fun w env s σ H k1 eo Q q => by
  obtain ⟨f, fd, ps, C, F, hm, hC, mk, hb⟩ := cn.ex
  unfold eMakeL at q
  split at q
  · rename_i j hi
    split at q
    · rename_i hj
      subst hj
      obtain ⟨v, h1, h2⟩ := eo.get i _ hi
      have h2 : Rep X.K T w.F v (.exn j [(0, .bl true)]) := h2
      have hvC : v = .ref C := by
        cases h2 with
        | clsv h =>
          rw [hC] at h
          cases h
          rfl
      subst hvC
      intro pins sh I
      refine wpAny_Call_Name_kw (thn (hv.run pins sh σ H (fun v H1 => v = .ref C ∧ H1 = H) I ⟨_, h1, rfl, rfl⟩) fun u sh0 ⟨v, H0, I0, r0, e1, e2⟩ => ?_)
      subst e1 e2
      obtain rfl : u = Value.ref C := r0
      have arg : WPA X (e :: es) σ H0 fun vs H1 => ∀ x dx, H1 x = none → H1 dx = none → dx ≠ x → spOf X.K T fn (.ref x :: vs) (upd (upd H1 dx (.own x)) x (.ins C dx [])) (fun v H2 => v = .non ∧ Q (.ref x) H2) (WE W σ) := ha w env s σ H0 k1 eo _ (Post.bind q fun vs ds H1 w1 s1 a1 b1 c1 q1 => by
        have c1 : RepSs X.K T w1 vs ds := c1
        split at q1
        · rename_i hl
          exact fun x dx hx hdx hne => make_sp hC a1 c1 hl (Post.nxt (rel1 := fun w' _ => Rep X.K T w'.F) b1 q1 fun _ _ _ _ _ _ z => z) hx hdx hne
        · exact q1.elim)
      refine PySem.W.callWith_K (h₀ := X.base) I.ok.mod.kin mk.kp (thn (arg pos pins sh0 I0) fun us sh1 ⟨vs, H1, I1, rv, q1⟩ => ⟨I1.kIn, ?_⟩) he hpl
      exact run_makeS (E := WE W) mk F hr hb (passAt tk σ) I1 rv q1
    · exact q.elim
  · exact q.elim
theorem w_mkL {k i c : Nat} {x y : Str} {fn : Fn} {e : Expr} {es : List Expr} {p pos : Pos} {a : MA} (hK : X.K = K) (hv : PE X (.Name y p) (tVar i)) (cn : CalN X.prog X.w K X.mg X.base T k x c fn) (hr : Room (k + 1) X.A) (tk : Takes X W) (ha : SA K T true X W (e :: es) a)
    (he : starEach (e :: es) X.env = (false, eval e X.env) :: starEach es X.env) (hpl : (backTo pos (starEach es X.env)).any (·.1) = false) : SE K T .tree X W (.Call (.Name y p) (e :: es) [] pos) (eMakeL i c fn a) := by
  subst hK
  exact se_mkL hv cn hr tk ha he hpl
end
end VM

set_option Elab.async false
set_option linter.all false
set_option maxRecDepth 100000
set_option maxHeartbeats 2000000
/-! VM57: facts of classmethods; the Hook with them. -/
namespace VM
open PySem PySem.Spec PyProof PyProof.Rows L2 NdefX
def cmB (K : PySem.W.Frag) (x m : Str) : Bool := PySem.W.readsIn K (He.ga K x) (.type "type") && (eqOV (PySem.W.specialIn K (.ref (He.ga K x)) "__getattribute__") (some (some (.builtin "type.__getattribute__"))) &&
  (He5.wrapB K (He.ga K x) "classmethod" "classmethod.__get__" m && PySem.W.fnIn K (He5.wf K (He.ga K x) "classmethod" m)))
theorem cmB_ok {K : PySem.W.Frag} {x m : Str} (h : cmB K x m = true) : ClX.CRead K (He.ga K x) (.type "type") ∧ ClX.CMet K (He.ga K x) (.type "type") m (He.ma K (He.ga K x) m) (He5.wf K (He.ga K x) "classmethod" m) := by
  obtain ⟨h1, h⟩ := He.ba h
  obtain ⟨h2, h⟩ := He.ba h
  obtain ⟨h3, h4⟩ := He.ba h
  exact ⟨⟨h1, of_decide_eq_true h2⟩, He5.cmet_of h3 h4⟩
abbrev AlZ : Type := List He5.FnW × AlY
def obZ (more : PySem.W.Frag → Bool) (fa : List He.Fa) (dn : List He.DefD) (en : List DefE) (pn : List DefP) (an : List He5.DefA) (K : PySem.W.Frag) : AlZ := (an.map fun d => He5.fnA K (d.at_ K), obY more fa dn en pn K)
def vaZ (dn : List He.DefD) (en : List DefE) (pn : List DefP) (an : List He5.DefA) : AlZ := (an.map He5.DefA.val, vaY dn en pn)
structure SaysZ (more : PySem.W.Frag → Bool) (fa : List He.Fa) (dn : List He.DefD) (en : List DefE) (pn : List DefP) (an : List He5.DefA) (K : PySem.W.Frag) : Prop where
  ads : an.map (fun d => He5.fnA K (d.at_ K)) = an.map He5.DefA.val
  sy : SaysY more fa dn en pn K
def obZG (n : Nat) (more : PySem.W.Frag → Bool) (fa : List He.Fa) (dn : List He.DefD) (en : List DefE) (pn : List DefP) (an : List He5.DefA) (g : Addr → Option Obj) : AlZ := obZ more fa dn en pn an (He.frG g (cStatics :: He.asD g n))
theorem saysZ_of {more : PySem.W.Frag → Bool} {fa : List He.Fa} {dn : List He.DefD} {en : List DefE} {pn : List DefP} {an : List He5.DefA} {K : PySem.W.Frag} (e : obZ more fa dn en pn an K = vaZ dn en pn an) : SaysZ more fa dn en pn an K := ⟨congrArg Prod.fst e, saysY_of (congrArg Prod.snd e)⟩
def hookZ (n : Nat) (more : PySem.W.Frag → Bool) (fa : List He.Fa) (dn : List He.DefD) (en : List DefE) (pn : List DefP) (an : List He5.DefA) : PySem.W.Hook where
  α := AlZ
  obs := fun sh => obZG n more fa dn en pn an sh.heap.get?
  val := fun _ => vaZ dn en pn an
  says := fun _ h => ∃ K : PySem.W.Frag, K.In h ∧ SaysZ more fa dn en pn an K
  of := fun _ _ e => ⟨_, He.frG_in, saysZ_of e⟩
  keeps := fun _ _ _ ⟨K, hK, c⟩ k => ⟨K, PySem.W.Frag.In.keeps hK k, c⟩
theorem obZG_eq {n : Nat} {more : PySem.W.Frag → Bool} {fa : List He.Fa} {dn : List He.DefD} {en : List DefE} {pn : List DefP} {an : List He5.DefA} {g : Addr → Option Obj} {sh : Shared} (h : ∀ a, g a = sh.heap.get? a) : obZG n more fa dn en pn an g = (hookZ n more fa dn en pn an).obs sh := by
  have e : g = sh.heap.get? := funext h
  rw [e] <;> rfl
theorem ads_at {an : List He5.DefA} {K : PySem.W.Frag} (c : an.map (fun d => He5.fnA K (d.at_ K)) = an.map He5.DefA.val) (i : Nat) {d : He5.DefA} (h : an[i]? = some d) (ok : d.ok K = true) : ∃ fd, FunD K d.name d.qual d.params d.body d.scope (d.dvs K) (d.kws K) (d.at_ K) fd := by
  have e := congrArg (fun l => l[i]?) c
  simp only [List.getElem?_map, h, Option.map_some] at e
  exact He5.DefA.funD (Option.some.inj e) ok
end VM

set_option Elab.async false
set_option linter.all false
set_option maxRecDepth 100000
set_option maxHeartbeats 1000000
/-! VM58: d.update(d2), both dicts. -/
namespace VM
open PySem PySem.Spec PyProof PyProof.Rows L2
section
variable {K : PySem.W.Frag} {T : Tab} {w w' : Wd} {s s' : Store} {H H' : Hp} {X : Cx} {W : WX}
def rDUpd : V → List V → Hp → VK → Prop := fun x xs H Q => ∃ a b kvs more, x = .ref a ∧ xs = [.ref b] ∧ a ≠ b ∧ H a = some (.dK kvs) ∧ L2.Rd H b (.dK more) ∧ kvs.length + more.length ≤ sizeLine ∧ Q .non (upd H a (.dK (mergeK kvs more)))
theorem mt_dupd : MtR X "dict.update" rDUpd := fun pins s σ H x xs v us Q I rx rxs h => by
  obtain ⟨a, b, kvs, more, rfl, rfl, ne, ha, hb, hz, q⟩ := h
  obtain rfl : v = .ref a := rx
  cases rxs with
  | cons ry rt =>
    cases rt
    rename_i u
    obtain rfl : u = .ref b := ry
    obtain ⟨z1, lo1, vs1, rel1, dd1⟩ := dk_of I.hok ha
    obtain ⟨z2, lo2, vs2, rel2, dd2⟩ := dk_rd I.hok hb
    refine call_meetsIn PySem.F.slot_dict_update dd1.typeIs PySem.F.entry_dict_update (PySem.F.args_dict_update_2 _ _) (meets_dict_update (mixKind X.prog X.w) a b ne lo2) ⟨vs1, vs2, dd1, dd2, by rw [← rel1.length, ← rel2.length]; exact hz, fun h' dd' _ hs => ?_⟩
    have he : ∃ o, h'.get? a = some o := let ⟨o, _, _, ho, _⟩ := dd'; ⟨o, ho⟩
    have rel3 := KV.merge rel2 rel1
    have l3 : (mergeK kvs more).length ≤ sizeLine := by
      rw [rel3.length]
      have := merged_length_le vs1 vs2
      rw [← rel1.length, ← rel2.length] at this
      omega
    exact ⟨.non, _, d_write (t' := s.toks) I (by rw [ha]; exact True.intro) hs he (dk_new l3 lo1 rel3 dd'), rfl, q⟩
def RlN (K : PySem.W.Frag) (T : Tab) (r : V → List V → Hp → VK → Prop) (g : D → List D → Option (D × D)) : Prop :=
  ∀ F H a z vs ds res z', F a = none → FH F H → RepT K T F H (.ref a) z → Own K T F H 1 (.ref a) z [a] → Reps K T F vs ds → g z ds = some (res, z') → ∀ Q : VK, (∀ v o, Own K T F (upd H a o) 1 (.ref a) z' [a] → Rep K T F v res → Q v (upd H a o)) → r (.ref a) vs H Q
theorem se_mutN {E o : Expr} {es : List Expr} {r : V → List V → Hp → VK → Prop} {g : D → List D → Option (D × D)} {f : ME} {a : MA} {tn : String} {ty : D → Bool} (hE : ∀ {to : TE} {t : TA}, PE X o to → PA X es t → PE X E (tBM X.K tn r to t)) (rl : RlN X.K T r g)
    (hty : ∀ z (a : Addr) (H : Hp), ty z = true → PkOk H a z → tyV X.K tn (.ref a) H) (ho : SE X.K T .raw X W o f) (ha : SA X.K T false X W es a) : SE X.K T .tree X W E (eMut ty g f a) := .mk fun w env s σ H k eo Q p =>
  wpe_of (hE pe_wp pa_wp) (ho w env s σ H k eo _ (Post.bind p fun v d H1 w1 s1 a1 b1 c1 q => by
    have c1 : RepS X.K T w1 v d := c1
    cases hp : peek d s1 with
    | none =>
      rw [hp] at q
      exact q.elim
    | some z0 =>
      rw [hp] at q
      dsimp only [] at q
      split at q
      · rename_i ht
        obtain ⟨ad, rfl, hz⟩ := peek_ok a1 c1 hp
        refine ⟨hty z0 ad H1 ht hz, ?_⟩
        refine ha w1 env s1 σ H1 a1 (eo.nxt b1) _ (Post.bind (Post.nxt (rel1 := fun w' _ => Rep X.K T w'.F) b1 q fun _ _ _ _ _ _ z => z) fun vs ds H2 w2 s2 a2 b2 c2 q2 => ?_)
        have c2 : Reps X.K T w2.F vs ds := c2
        cases ht1 : take1 d s2 with
        | bad =>
          rw [ht1] at q2
          exact q2.elim
        | exc c fs s3 =>
          unfold take1 at ht1
          split at ht1
          · split at ht1 <;> cases ht1
          · cases ht1
        | ok hz2 s3 =>
          obtain ⟨h, z⟩ := hz2
          rw [ht1] at q2
          obtain ⟨w3, a3, e3, k3, n3, i3, P3, s3e, rt, ow, _⟩ := take1_ok a2 (RepS.nxt b2 c1) ht1
          cases e3
          have q2 : Post X.K T W w1 s1 σ H1 (fun w' _ => Rep X.K T w'.F) Q (match g z ds with
            | some (res, z') => .ok res (s3.set h ⟨false, 1, some z'⟩)
            | none => .bad) := q2
          cases hg : g z ds with
          | none =>
            rw [hg] at q2
            exact q2.elim
          | some rz =>
            obtain ⟨res, z'⟩ := rz
            rw [hg] at q2
            refine rl w3.F H2 ad z vs ds res z' (k3.out ad (mem_flat P3 List.mem_cons_self)) k3.fh rt ow (c2.sub n3.F) hg _ fun v o ow' rv => ?_
            obtain ⟨k4, n4⟩ := write_ok k3 i3 P3 s3e ow'
            exact q2.give k4 ((b2.trans n3).trans n4) rv
      · exact q.elim))
def gUpdD : D → List D → Option (D × D)
  | .dic kvs, [.dic more] => if kvs.length + more.length ≤ sizeMax then (mkDic kvs more).map fun d => (.non, .dic d) else none
  | _, _ => none
theorem rl_updD : RlN K T rDUpd gUpdD := fun F H a z vs ds res z' fa fh rt ow rs hg Q q => by
  unfold gUpdD at hg
  split at hg
  · rename_i kvs more
    split at hg
    · rename_i lz
      cases hm : mkDic kvs more with
      | none =>
        rw [hm] at hg
        cases hg
      | some d =>
        rw [hm] at hg
        cases hg
        cases rs with
        | cons r1 r2 =>
          cases r2
          cases r1 with
          | @dic b ks2 _ hb rb zb =>
            obtain ⟨a2, ks, e, h, r, zz⟩ := rt
            cases e
            cases ow with
            | @dic _ _ kz _ _ h0 r0 z0 =>
              have ek : L2.Rd H a (.dK ks) := h
              have e2 : ks = kz := by
                rcases h with h | ⟨o, h⟩
                · rw [h0] at h
                  cases h
                  rfl
                · rw [h0] at h
                  cases h
              subst e2
              obtain ⟨r3, z3⟩ := mkDic_rep hm rb r zz
              have ne : a ≠ b := fun z => by rw [z, hb] at fa; cases fa
              exact ⟨a, b, _, _, rfl, rfl, ne, h0, fh.rd hb, by rw [r.length, rb.length]; exact lz, q _ _ (.dic upd_same (ownk0 r3) z3) .non⟩
    · cases hg
  · cases hg
theorem w_updD {o e : Expr} {apos cpos : Pos} {f : ME} {a : MA} (hK : X.K = K) (ho : SE K T .raw X W o f) (ha : SA K T false X W [e] a) (hp : plain e = true) (hb : attributeBase o "update" X.env (eval o X.env) = eval o X.env) (hl : (apos.endLine == cpos.line) = true) : SE K T .tree X W (.Call (.Attribute o "update" apos) [e] [] cpos) (eMut isDic gUpdD f a) := by
  subst hK
  exact se_mutN (fun h1 h2 => pe_bm PySem.F.plainAttrs_dict PySem.F.slot_dict_update PySem.F.type_dict_update mt_dupd h1 h2 hb (by rw [star_plain hp]; rfl) hl (star_plain hp _ _) tail0) rl_updD ty_dic ho ha
end
end VM

set_option Elab.async false
set_option linter.all false
set_option maxRecDepth 100000
set_option maxHeartbeats 2000000
/-! VM59: C(k = v), C an own exception class with an own __init__: the machine's steps. -/
namespace PySem.XKw
open PySem PySem.Spec PyProof.Rows HandSPX
section
variable {M : Model} {A : Around} {E : Value → Shared → Prop} {h : Heap} {g : Array GenState} {d : Drawn} {t : Nat} {os : OsState}
variable {nm q kn : Str} {C N : Addr} {bs bm bmB : List Value} {hdct : Bool} {sn : List Str} {sub : List Value} {ab : Bool} {col : Option Bool} {dd : Option Addr} {k0 k1 k2 k3 k5 : Option Value} {B newId initId : String} {kv : Value}
theorem check_newK (F : ExcBaseFacts B newId initId bmB) (hT : ∀ X : String, bm.contains (.type X) = bmB.contains (.type X)) {Q : Unit → Shared → Prop}
    (cl : h.get? C = some (excClassObj nm q C N bs bm hdct sn sub ab col dd k0 k1 k2 k3 k5 newId)) (hq : Q () ⟨h, g, d, t, os⟩) : wpAny M A (checkBuiltinCall newId ⟨[.ref C], [(kn, kv)]⟩) Q E ⟨h, g, d, t, os⟩ := by
  have inB : (Value.ref C :: bm).contains (.type B) = true := by rw [List.contains_cons, hT, F.hasB, Bool.or_true]
  have nos := F.noStar
  simp only [checkBuiltinCall, F.newKind, F.newSplit, F.newRow]
  repeat (first | refine wpAny_loadPart_at cl ?_ | (refine wpAny_isSubtype_exc cl ?_; rw [inB]) | refine wpAny_staticBase_exc cl ?_ | refine wpAny_madeBy_exc cl ?_ | simp only [bne_self_eq_false, Bool.false_eq_true, if_false] | wp_step)
  exact hq
end
section
variable {prog : Program} {w : World} {A : Around} {E : Value → Shared → Prop} {R : Result → Shared → Prop} {h : Heap} {g : Array GenState} {d : Drawn} {t : Nat} {os : OsState}
variable {nm q kn : Str} {C N : Addr} {bs bm bmB : List Value} {hdct : Bool} {sn : List Str} {sub : List Value} {ab : Bool} {col : Option Bool} {dd : Option Addr} {k0 k1 k2 k3 k5 : Option Value} {B newId initId : String} {kv : Value}
theorem newK (F : ExcBaseFacts B newId initId bmB) (hT : ∀ X : String, bm.contains (.type X) = bmB.contains (.type X))
    (cl : h.get? C = some (excClassObj nm q C N bs bm hdct sn sub ab col dd k0 k1 k2 k3 k5 newId))
    (z : R (.ok (.ret (.ref (h.objs.size + 1)))) ⟨(h.push { cls := .type "tuple", data := .seq #[] }).push
      { cls := .ref C, data := .fields #[.ref h.objs.size, .none, .none, .none, .bool false, .none] }, g, d, t, os⟩) :
    codeAny (model prog w) A (.builtin newId ⟨[.ref C], [(kn, kv)]⟩) R ⟨h, g, d, t, os⟩ := by
  have fin := F.ends
  have inB : (Value.ref C :: bm).contains (.type B) = true := by rw [List.contains_cons, hT, F.hasB, Bool.or_true]
  have inA : (Value.ref C :: bm).contains (.type "AttributeError") = false := by rw [List.contains_cons, hT, F.noAttr]; rfl
  have inN : (Value.ref C :: bm).contains (.type "NameError") = false := by rw [List.contains_cons, hT, F.noName]; rfl
  refine codeAny_builtinAt F.entry ?_
  unfold Builtin.«BaseException.__new__»
  refine wpAt_bind ?_
  show wpAt _ _ _ (stack >>= _) _ _ _
  refine wpAt_bind (wpAt_stack fun p below => wpAt_of_wpAny ?_)
  wp_walk
  refine wpAt_of_wpAny ?_
  rw [F.owner]
  repeat (first | with_reducible refine wpAny_madeHere_exc F.canon cl ?_ | with_reducible refine wpAny_loadPart_at cl ?_ | (with_reducible refine wpAny_isSubtype_exc cl ?_; first | rw [inB] | rw [inA] | rw [inN]) | wp_step)
  show R _ _
  rw [Heap.size_push]
  exact z
theorem type_callK (F : ExcBaseFacts B newId initId bmB) (hT : ∀ X : String, bm.contains (.type X) = bmB.contains (.type X)) {fI : Addr} {Q : Fin → Shared → Prop}
    (cl : h.get? C = some (excClassObj nm q C N bs bm hdct sn sub ab col dd k0 k1 k2 k3 k5 newId))
    (ini : W.Looks (model prog w) h (typeLookup (.ref C) "__init__") (some (.ref fI))) (bnd : ∀ self, W.Looks (model prog w) h (bindSpecial (.ref fI) self) (.ref fI, [self]))
    (run : codeAny (model prog w) A (.call (.ref fI) ⟨[.ref (h.objs.size + 1)], [(kn, kv)]⟩)
      (fun r s' => match r with | .ok (.ret v) => v = .none ∧ Q (.done (.ret (.ref (h.objs.size + 1)))) s' | .ok _ => False | .error e => E e s')
      ⟨(h.push (W.kdv_tup [])).push (excO C h.objs.size), g, d, t, os⟩) :
    wpAny (model prog w) A (Builtin.«type.__call__» ⟨[.ref C], [(kn, kv)]⟩) Q E ⟨h, g, d, t, os⟩ := by
  repeat (first | with_reducible refine wpAny_loadPart_at cl ?_ | with_reducible refine wpAny_madeBy_exc cl ?_ | wp_step)
  refine codeAny_call_builtin_code (Code.quiet_builtin _ F.quiet) (check_newK F hT cl ?_)
  refine newK F hT cl ?_
  show wpAny _ _ _ _ _ _
  have up : ∀ b o, h.get? b = some o → ((h.push (W.kdv_tup [])).push (excO C h.objs.size)).get? b = some o := fun b o e => Heap.get?_push_of_some _ (Heap.get?_push_of_some _ e)
  have cl2 := up _ _ cl
  have got : ((h.push (W.kdv_tup [])).push (excO C h.objs.size)).get? (h.objs.size + 1) = some (excO C h.objs.size) := by heap_get
  have own : (Value.ref C :: bm).contains (.ref C) = true := by simp
  have l1 := ini.keeps up
  have l2 := (bnd (.ref (h.objs.size + 1))).keeps up
  unfold isInstance
  repeat (first | with_reducible refine wpAny_loadPart_at got ?_ | (with_reducible refine wpAny_isSubtype_exc cl2 ?_; rw [own]) | wp_step)
  show wpAny _ _ (typeLookup (.ref C) _) _ _ _
  refine l1.at ?_
  refine wpAny_holding (wpAny_bind (l2.at ?_))
  refine wpAny_bind (wpAny_call (codeAny_mono run fun r s' z => ?_))
  rcases r with e | (v | _ | _ | _) <;> first | exact z | exact z.elim | skip
  obtain ⟨rfl, z⟩ := z
  first
    | exact wpAny_pure (wpAny_pure z)
    | (wp_walk; exact z)
theorem callK (F : ExcBaseFacts B newId initId bmB) (hT : ∀ X : String, bm.contains (.type X) = bmB.contains (.type X)) {fI : Addr}
    (cl : h.get? C = some (excClassObj nm q C N bs bm hdct sn sub ab col dd k0 k1 k2 k3 k5 newId))
    (ini : W.Looks (model prog w) h (typeLookup (.ref C) "__init__") (some (.ref fI))) (bnd : ∀ self, W.Looks (model prog w) h (bindSpecial (.ref fI) self) (.ref fI, [self]))
    (run : codeAny (model prog w) (A.under (.builtin "type.__call__" ⟨[.ref C], [(kn, kv)]⟩)) (.call (.ref fI) ⟨[.ref (h.objs.size + 1)], [(kn, kv)]⟩) (W.InitBack (h.objs.size + 1) R)
      ⟨(h.push (W.kdv_tup [])).push (excO C h.objs.size), g, d, t, os⟩) :
    codeAny (model prog w) A (.call (.ref C) ⟨[], [(kn, kv)]⟩) R ⟨h, g, d, t, os⟩ := by
  have f1 := tc_lookup
  have f2 := tc_bind (.ref C)
  have isT : (⟨h, g, d, t, os⟩ : Shared).TypeIs (.ref C) "type" := ⟨_, cl, rfl⟩
  refine codeAny_of_tree ?_
  show wpAny _ _ (callAny (.ref C) _) _ _ _
  repeat (any_goals (first | assumption | with_reducible refine wpAny_loadPart_at cl ?_ | wp_step))
  refine ⟨rfl, ?_⟩
  refine codeAny_call_builtin_at (Code.quiet_builtin _ (by decide +kernel)) entry_typeCall (wpAny_check_type_call_sub cl (type_callK F hT cl ini bnd ?_))
  refine codeAny_mono run fun r s' z => ?_
  rcases r with e | (v | _ | _ | _) <;> exact z
end
end PySem.XKw

set_option Elab.async false
set_option linter.all false
set_option maxRecDepth 100000
set_option maxHeartbeats 2000000
/-! VM60: own exceptions as values: made, by position and by name; their fields; isinstance; great powers. -/
namespace VM
open PySem PySem.Spec PyProof PyProof.Rows L2 NdefX
/-! ### made -/
def tMkV (C : Addr) (sp : Sp) (ta : TA) : TE := fun σ H Q => ta σ H fun vs H1 => vs.length ≤ 1000 ∧ ∀ a, H1 a = none → sp (.ref a :: vs) (upd H1 a (exo a C none)) (fun v H2 => v = .non ∧ Q (.ref a) H2) (fun _ _ _ => False)
section
variable {X : Cx} {CX : CXT} {k : Nat} {C fI : Addr} {fd : FuncData} {ps : List Str} {sp : Sp} {x kn : Str} {e : Expr} {es : List Expr} {ta : TA} {te : TE} {p pos kpos : Pos}
theorem run_mkx {pins : List (Addr × Obj)} {σ : L2.St} {H : Hp} {s : Shared} {Q : VK} {us : List Value} {vs : List V} (T : OexC X.K C) (iC : PySem.W.findIn X.K (.ref C) "__init__" = some (some (.ref fI))) (tI : PySem.W.typeIn X.K (.ref fI) = some (.type "function"))
    (F1 : FnOk X.prog X.w X.K X.mg X.base CX k fI fd ps sp) (hr : Room (k + 1) X.A) (hb : Binds X.K fd ps []) (hx : Passes CX X (fun _ _ _ => False)) (I1 : Inv X pins σ H s) (r1 : Vals vs us) (hz : vs.length ≤ 1000)
    (q1 : ∀ a, H a = none → sp (.ref a :: vs) (upd H a (exo a C none)) (fun v H2 => v = .non ∧ Q (.ref a) H2) (fun _ _ _ => False)) : wpAny (model X.prog X.w) X.A (call (.ref C) us) (EP X pins σ Q) X.xe s := by
  obtain ⟨nm, q, N, bs, bm, sn, sub, ab, col, dd, k0, k1, k2, k3, k5, hC, hbm⟩ := T.cls
  obtain ⟨hp, g, dr, tk, os⟩ := s
  have le : hp.objs.size ≤ hp.objs.size + 1 := Nat.le_succ _
  have run := q1 (hp.objs.size + 1) (I1.hok.fresh le)
  have keep : ∀ b o, hp.get? b = some o → ((hp.push (PySem.W.kdv_tup us)).push (PySem.HandSPX.excO C hp.objs.size)).get? b = some o := fun b o e => Heap.get?_push_of_some _ (Heap.get?_push_of_some _ e)
  have here : ((hp.push (PySem.W.kdv_tup us)).push (PySem.HandSPX.excO C hp.objs.size)).get? (hp.objs.size + 1) = some (PySem.HandSPX.excO C hp.objs.size) := by heap_get
  have I2 : Inv X pins σ (upd H (hp.objs.size + 1) (exo (hp.objs.size + 1) C none)) ⟨(hp.push (PySem.W.kdv_tup us)).push (PySem.HandSPX.excO C hp.objs.size), g, dr, tk, os⟩ :=
    I1.laid (t' := tk) (a := hp.objs.size + 1) (o := exo (hp.objs.size + 1) C none) (h' := (hp.push (PySem.W.kdv_tup us)).push (PySem.HandSPX.excO C hp.objs.size)) keep le (exo_ok here)
  have both : Vals (V.ref (hp.objs.size + 1) :: vs) (Value.ref (hp.objs.size + 1) :: us) := .cons rfl r1
  have len : (Value.ref (hp.objs.size + 1) :: us).length = ps.length := by
    rw [← both.length]
    exact F1.len _ _ _ _ run
  have hus : us.length ≤ sizeLine := by
    rw [← Paired.length r1, sizeLine_eq]
    omega
  have bnd := hb _ (Value.ref (hp.objs.size + 1) :: us) I2.kIn (by rw [List.append_nil]; exact len)
  rw [List.append_nil] at bnd
  refine wpAny_call (PySem.HandSPX.call_own F.excBase_ValueError (fun Y => PySem.HandSPX.refsVE_contains Y bm hbm) (I1.kIn _ _ hC) (PySem.W.looks_findIn I1.kIn iC) (fun self => PySem.W.bind_fn I1.kIn self tI) hus
    (codeAny_mono (F1.run _ X.stack _ _ ⟨Value.ref (hp.objs.size + 1) :: us, []⟩ (Value.ref (hp.objs.size + 1) :: us) _ _ (fun _ _ _ => False) (hr.make C us []) (I2.env0.make C us []) bnd both run) fun r s' back => ?_))
  cases r with
  | error er => exact hx pins σ _ _ er s' I2 back
  | ok fl =>
    cases fl with
    | ret u =>
      obtain ⟨v, H2, I3, rv, ev, q3⟩ := I2.after back
      subst ev
      exact ⟨rv, ⟨V.ref (hp.objs.size + 1), H2, I3, rfl, q3⟩⟩
    | next => exact False.elim back
    | brk => exact False.elim back
    | cont => exact False.elim back
theorem pe_mkx (T : OexC X.K C) (iC : PySem.W.findIn X.K (.ref C) "__init__" = some (some (.ref fI))) (tI : PySem.W.typeIn X.K (.ref fI) = some (.type "function"))
    (F1 : FnOk X.prog X.w X.K X.mg X.base CX k fI fd ps sp) (hr : Room (k + 1) X.A) (hb : Binds X.K fd ps []) (hx : Passes CX X (fun _ _ _ => False)) (hg : Gl X x) (hm : X.mg x = some (.ref C)) (ha : PA X (e :: es) ta)
    (hdb : (x == ("__debug__" : Str)) = false) (he : starEach (e :: es) X.env = (false, eval e X.env) :: starEach es X.env) (hpl : (backTo pos (starEach es X.env)).any (·.1) = false) :
    PE X (.Call (.Name x p) (e :: es) [] pos) (tMkV C sp ta) := by
  refine ⟨fun pins s σ H Q I h => ?_⟩
  refine wpAny_Call_Name_kw (ld_glob I hg hm ?_ hdb)
  refine PySem.W.callWith_K (h₀ := X.base) I.ok.mod.kin T.kC (thn (ha.run pos pins s σ H _ I h) fun us s1 ⟨vs, H1, I1, r1, hz, q1⟩ => ⟨I1.kIn, ?_⟩) he hpl
  exact run_mkx T iC tI F1 hr hb hx I1 r1 hz q1
theorem pe_mkx0 (T : OexC X.K C) (iC : PySem.W.findIn X.K (.ref C) "__init__" = some (some (.ref fI))) (tI : PySem.W.typeIn X.K (.ref fI) = some (.type "function"))
    (F1 : FnOk X.prog X.w X.K X.mg X.base CX k fI fd ps sp) (hr : Room (k + 1) X.A) (hb : Binds X.K fd ps []) (hx : Passes CX X (fun _ _ _ => False)) (hg : Gl X x) (hm : X.mg x = some (.ref C)) (hdb : (x == ("__debug__" : Str)) = false) :
    PE X (.Call (.Name x p) [] [] pos) (tMkV C sp tNil) := by
  refine ⟨fun pins s σ H Q I h => ?_⟩
  refine wpAny_Call_Name_kw (ld_glob I hg hm ?_ hdb)
  obtain ⟨hz, q1⟩ := h
  exact PySem.W.callWith_K0 I.kIn T.kC (run_mkx (us := []) (vs := []) T iC tI F1 hr hb hx I .nil hz q1)
/-- C(k = v) -/
theorem pe_mkxK (T : OexC X.K C) (iC : PySem.W.findIn X.K (.ref C) "__init__" = some (some (.ref fI))) (tI : PySem.W.typeIn X.K (.ref fI) = some (.type "function"))
    (F1 : FnOk X.prog X.w X.K X.mg X.base CX k fI fd ps sp) (hr : Room (k + 1) X.A) (l2 : ps.length = 2) (hb : ∀ a u : Value, bindArgs fd ⟨[a], [(kn, u)]⟩ = pure (ps.zip [a, u])) (hx : Passes CX X (fun _ _ _ => False)) (hg : Gl X x) (hm : X.mg x = some (.ref C)) (he : PE X e te)
    (hdb : (x == ("__debug__" : Str)) = false) (hpl : ((backTo pos (starEach [] X.env)).any (·.1) || (backToKw pos (keywordEach [⟨some kn, e, kpos⟩] X.env)).any (·.1.isNone)) = false) (hall : (backToKw pos (keywordEach [⟨some kn, e, kpos⟩] X.env)).all (·.1.isSome) = true)
    (hks : (backToKw pos (keywordEach [⟨some kn, e, kpos⟩] X.env)).filterMap (·.1) = [kn]) :
    PE X (.Call (.Name x p) [] [⟨some kn, e, kpos⟩] pos) (tMkV C sp (tCons te tNil)) := by
  refine ⟨fun pins s σ H Q I h => ?_⟩
  refine wpAny_Call_Name_kw (ld_glob I hg hm ?_ hdb)
  refine PySem.W.callWith_KW0 (h₀ := X.base) I.ok.mod.kin T.kC hall ?_ hpl
  refine thn ((pk_cons he pk_nil).run pos pins s σ H _ I h) fun us s1 ⟨vs, H1, I1, r1, hz, q1⟩ => ⟨I1.kIn, ?_⟩
  rw [hks]
  obtain ⟨nm, q, N, bs, bm, sn, sub, ab, col, dd, k0, k1, k2, k3, k5, hC, hbm⟩ := T.cls
  obtain ⟨hp, g, dr, tk, os⟩ := s1
  have le : hp.objs.size ≤ hp.objs.size + 1 := Nat.le_succ _
  have run := q1 (hp.objs.size + 1) (I1.hok.fresh le)
  have lv : vs.length = 1 := by
    have := F1.len _ _ _ _ run
    rw [List.length_cons] at this
    omega
  cases r1 with
  | nil => cases lv
  | @cons v u vs us rv rr =>
    cases rr with
    | cons _ _ => simp at lv
    | nil =>
      have keep : ∀ b o, hp.get? b = some o → ((hp.push (PySem.W.kdv_tup [])).push (PySem.HandSPX.excO C hp.objs.size)).get? b = some o := fun b o e => Heap.get?_push_of_some _ (Heap.get?_push_of_some _ e)
      have here : ((hp.push (PySem.W.kdv_tup [])).push (PySem.HandSPX.excO C hp.objs.size)).get? (hp.objs.size + 1) = some (PySem.HandSPX.excO C hp.objs.size) := by heap_get
      have I2 : Inv X pins σ (upd H1 (hp.objs.size + 1) (exo (hp.objs.size + 1) C none)) ⟨(hp.push (PySem.W.kdv_tup [])).push (PySem.HandSPX.excO C hp.objs.size), g, dr, tk, os⟩ :=
        I1.laid (t' := tk) (a := hp.objs.size + 1) (o := exo (hp.objs.size + 1) C none) (h' := (hp.push (PySem.W.kdv_tup [])).push (PySem.HandSPX.excO C hp.objs.size)) keep le (exo_ok here)
      have both : Vals [V.ref (hp.objs.size + 1), v] [Value.ref (hp.objs.size + 1), u] := .cons rfl (.cons rv .nil)
      refine wpAny_call (PySem.XKw.callK F.excBase_ValueError (fun Y => PySem.HandSPX.refsVE_contains Y bm hbm) (I1.kIn _ _ hC) (PySem.W.looks_findIn I1.kIn iC) (fun self => PySem.W.bind_fn I1.kIn self tI)
        (codeAny_mono (F1.run _ X.stack _ _ ⟨[Value.ref (hp.objs.size + 1)], [(kn, u)]⟩ [Value.ref (hp.objs.size + 1), u] _ _ (fun _ _ _ => False) (hr.make C [] [(kn, u)]) (I2.env0.make C [] [(kn, u)]) (.of_eq (hb _ _)) both run) fun r s' back => ?_))
      cases r with
      | error er => exact hx pins σ _ _ er s' I2 back
      | ok fl =>
        cases fl with
        | ret u =>
          obtain ⟨v, H2, I3, rv, ev, q3⟩ := I2.after back
          subst ev
          exact ⟨rv, ⟨V.ref (hp.objs.size + 1), H2, I3, rfl, q3⟩⟩
        | next => exact False.elim back
        | brk => exact False.elim back
        | cont => exact False.elim back
end
end VM

set_option Elab.async false
set_option linter.all false
set_option maxRecDepth 100000
set_option maxHeartbeats 2000000
/-! VM61: exceptions as values: the meanings of C(e), C(k = e), C(), x.f, isinstance. -/
namespace VM
open PySem PySem.Spec PyProof PyProof.Rows L2 NdefX
section
variable {K : PySem.W.Frag} {T : Tab} {w w' : Wd} {s s' : Store} {H H' : Hp} {X : Cx} {W : WX}
/-! ### made -/
def eMkX (c n : Nat) (a : MA) : ME := fun e s => (a e s).bind fun ds s => match ds with
  | [d] => .ok (.exn c [(1000, .non), (n, d)]) s
  | _ => .bad
theorem mkx_heap {a dx C : Addr} {fs : List (Str × V)} (ha : H a = none) (hne : dx ≠ a) : upd (upd (upd H a (exo a C none)) dx (exd dx fs)) a (exo a C (some dx)) = upd (upd H dx (exd dx fs)) a (exo a C (some dx)) := by
  funext b
  by_cases hb : b = a
  · subst hb
    rw [upd_same, upd_same]
  · rw [upd_ne hb, upd_ne hb]
    by_cases hc : b = dx
    · subst hc
      rw [upd_same, upd_same]
    · rw [upd_ne hc, upd_ne hc, upd_ne hb]
theorem mkx_post {C a : Addr} {c n : Nat} {v : V} {d : D} {Q : VK} (hC : T.exc c = some C) (k : SOk K T w s H) (r : Rep K T w.F v d) (ha : H a = none)
    (q : ∀ v' H' w', SOk K T w' s H' → Nxt w s H w' s H' → Rep K T w'.F v' (.exn c [(1000, .non), (n, d)]) → Q v' H') :
    spIni C (T.fld n) [.ref a, v] (upd H a (exo a C none)) (fun u H2 => u = .non ∧ Q (.ref a) H2) (fun _ _ _ => False) := by
  refine ⟨a, v, rfl, upd_same, fun dx hdx hne => ⟨rfl, ?_⟩⟩
  rw [upd_ne hne] at hdx
  rw [mkx_heap ha hne]
  obtain ⟨w2, k2, n2, f2, _⟩ := k.new (o := exd dx [(T.fld n, v)]) hdx
  have ha2 : upd H dx (exd dx [(T.fld n, v)]) a = none := by rw [upd_ne (Ne.symm hne)]; exact ha
  obtain ⟨w3, k3, n3, f3, _⟩ := k2.new (o := exo a C (some dx)) ha2
  exact q _ _ w3 k3 (n2.trans n3) (.exi hC f3 (n3.F _ _ f2) (.cons ((r.sub n2.F).sub n3.F) .nil))
theorem se_mkx {c n : Nat} {x : Str} {e : Expr} {p pos : Pos} {f : ME} (hK : X.K = K) (cx : CalX X.prog X.w K X.mg X.base T x c n) (hr : Room 2 X.A) (hg : Gl X x) (hdb : (x == ("__debug__" : Str)) = false) (hp : plain e = true) (ha : SE K T .tree X W e f) :
    SE K T .tree X W (.Call (.Name x p) [e] [] pos) (eMkX c n (aCons f aNil)) := .mk fun w env s σ H k eo Q q => by
  subst hK
  obtain ⟨C, fI, fd, self, prm, F, O, h1, h2, hb, hm, hC⟩ := cx.ex
  have hsa : SA X.K T false X W [e] (aCons f aNil) := sa_cons hp ha sa_nil
  refine wpe_of (pe_mkx O h1 h2 F hr hb (fun _ _ _ _ _ _ _ z => (by obtain ⟨_, _, _, _, _, _, _, _, _, _, _, _, z⟩ := z; exact z.elim)) hg hm pa_wp hdb (star_plain hp _ _) rfl) ?_
  refine hsa w env s σ H k eo _ (Post.bind q fun vs ds H1 w1 s1 a1 b1 c1 q1 => ?_)
  have c1 : Reps X.K T w1.F vs ds := c1
  cases c1 with
  | nil => exact q1.elim
  | @cons v d vs ds r rs =>
    cases rs with
    | cons _ _ => exact q1.elim
    | nil => exact ⟨show 1 ≤ 1000 by decide, fun a hna => mkx_post hC a1 r hna fun v' H' w' k' n' r' => q1 v' H' w' k' (b1.trans n') r'⟩
/-- with the keyword of the one parameter -/
structure CalXK (P : Program) (wo : World) (K : PySem.W.Frag) (mg : Str → Option Value) (base : Heap) (T : Tab) (x : Str) (c n : Nat) (prm : Str) : Prop where
  ex : ∃ C fI fd self, FnOk P wo K mg base (L2.CX P wo) 1 fI fd [self, prm] (spIni C (T.fld n)) ∧ OexC K C ∧ PySem.W.findIn K (.ref C) "__init__" = some (some (.ref fI)) ∧ PySem.W.typeIn K (.ref fI) = some (.type "function") ∧ Binds K fd [self, prm] [] ∧ mg x = some (.ref C) ∧ T.exc c = some C ∧
    ∀ a u : Value, bindArgs fd ⟨[a], [(prm, u)]⟩ = pure ([self, prm].zip [a, u])
theorem CalXK.pos {P : Program} {wo : World} {mg : Str → Option Value} {base : Heap} {x prm : Str} {c n : Nat} (h : CalXK P wo K mg base T x c n prm) : CalX P wo K mg base T x c n := by
  obtain ⟨C, fI, fd, self, a, b, c, d, e, f, g, _⟩ := h.ex
  exact ⟨C, fI, fd, self, prm, a, b, c, d, e, f, g⟩
theorem se_mkxK {c n : Nat} {x prm : Str} {e : Expr} {p pos kpos : Pos} {f : ME} (hK : X.K = K) (cx : CalXK X.prog X.w K X.mg X.base T x c n prm) (hr : Room 2 X.A) (hg : Gl X x) (hdb : (x == ("__debug__" : Str)) = false) (hp : plain e = true)
    (hpl : ((backTo pos (starEach [] X.env)).any (·.1) || (backToKw pos (keywordEach [⟨some prm, e, kpos⟩] X.env)).any (·.1.isNone)) = false) (hall : (backToKw pos (keywordEach [⟨some prm, e, kpos⟩] X.env)).all (·.1.isSome) = true)
    (hks : (backToKw pos (keywordEach [⟨some prm, e, kpos⟩] X.env)).filterMap (·.1) = [prm]) (ha : SE K T .tree X W e f) :
    SE K T .tree X W (.Call (.Name x p) [] [⟨some prm, e, kpos⟩] pos) (eMkX c n (aCons f aNil)) := .mk fun w env s σ H k eo Q q => by
  subst hK
  obtain ⟨C, fI, fd, self, F, O, h1, h2, hb, hm, hC, hbk⟩ := cx.ex
  refine wpe_of (pe_mkxK O h1 h2 F hr rfl hbk (fun _ _ _ _ _ _ _ z => (by obtain ⟨_, _, _, _, _, _, _, _, _, _, _, _, z⟩ := z; exact z.elim)) hg hm pe_wp hdb hpl hall hks) ?_
  show WPE X e σ H _
  refine ha w env s σ H k eo _ ?_
  have q : Post X.K T W w s σ H (fun w' _ => Rep X.K T w'.F) Q ((aCons f aNil env s).bind fun ds s => match ds with
    | [d] => .ok (.exn c [(1000, .non), (n, d)]) s
    | _ => .bad) := q
  cases e1 : f env s with
  | ok d s1 =>
    have q : Post X.K T W w s σ H (fun w' _ => Rep X.K T w'.F) Q (.ok (.exn c [(1000, .non), (n, d)]) s1) := by
      unfold aCons at q
      rw [e1] at q
      exact q
    exact fun v H1 w1 a1 b1 c1 => ⟨show 1 ≤ 1000 by decide, fun a hna => mkx_post hC a1 c1 hna fun v' H' w' k' n' r' => q v' H' w' k' (b1.trans n') r'⟩
  | exc c' fs s1 =>
    unfold aCons at q
    rw [e1] at q
    exact q
  | bad =>
    unfold aCons at q
    rw [e1] at q
    exact q
/-! ### fields -/
def dXf (n : Nat) : D → Option D
  | .exn _ ((1000, .non) :: fs) => fs.lookup n
  | _ => none
/-- what is known of the exception classes -/
structure XfE (K : PySem.W.Frag) (T : Tab) (f : Str) (n : Nat) : Prop where
  name : T.fld n = f
  inj : ∀ m, T.fld m = f → m = n
  cls : ∀ c C, T.exc c = some C → XfC K C ∧ PySem.W.findIn K (.ref C) f = some none
def rXf (K : PySem.W.Frag) (f : Str) : V → Hp → VK → Prop := fun v H Q => ∃ (a C dx : Addr) (fv : List (Str × V)) (u : V), v = .ref a ∧ H a = some (exo a C (some dx)) ∧ H dx = some (exd dx fv) ∧ XfC K C ∧ PySem.W.findIn K (.ref C) f = some none ∧ fv.lookup f = some u ∧ Q u H
theorem pe_xfv {e : Expr} {te : TE} {pos : Pos} {n : Str} (he : PE X e te) (hb : attributeBase e n X.env (eval e X.env) = eval e X.env) : PE X (.Attribute e n pos) (tUn (rXf X.K n) te) := by
  refine ⟨fun pins s σ H Q I h => ?_⟩
  refine attr_of hb (thn (he.run pins s σ H _ I h) fun u s1 hh => ?_)
  obtain ⟨x, H1, I1, rx, a, C, dx, fv, v, rfl, ea, ed, T, hno, l, q⟩ := hh
  obtain rfl : u = Value.ref a := rx
  obtain ⟨t1, ho⟩ := exo_at I1.hok ea
  obtain ⟨mA, hns, hr⟩ := exd_at I1.hok ed
  obtain ⟨od, hod, hl⟩ := lookIn_ns hns
  obtain ⟨u, hu, ru⟩ := RelO.some_of (v := v) (o := mA n) (by rw [← l]; exact hr n)
  have J : PySem.W.InstAt s1.heap a _ C (some od) := ⟨ho, rfl, rfl, hod⟩
  exact HandSPX.exc_get I1.kIn J T.ga T.gg T.exC (PySem.W.findObj_own T.hdC hno rfl (by rw [hl, hu])) (handed_of ru) ⟨v, H1, I1.tok _, ru, q⟩
def Rl1T (K : PySem.W.Frag) (T : Tab) (r : V → Hp → VK → Prop) (g : D → Option D) : Prop :=
  ∀ w s H v x y, SOk K T w s H → RepT K T w.F H v x → g x = some y → ∀ Q : VK, (∀ v' H' w', SOk K T w' s H' → Nxt w s H w' s H' → Rep K T w'.F v' y → Q v' H') → r v H Q
theorem se_op1T {E a : Expr} {r : V → Hp → VK → Prop} {g : D → Option D} {f1 : ME} (hE : ∀ {ta : TE}, PE X a ta → PE X E (tUn r ta)) (rl : Rl1T K T r g) (h1 : SE K T .raw X W a f1) : SE K T .tree X W E (op1F g f1) := .mk fun w env s σ H k eo Q p =>
  wpe_of (hE pe_wp) (h1 w env s σ H k eo _ (Post.bind p fun v d H1 w1 s1 a b c q => by
    cases h1 : open1 d s1 with
    | bad =>
      rw [h1] at q
      exact q.elim
    | exc c fs s3 =>
      unfold open1 at h1
      cases d <;> simp at h1
      split at h1 <;> cases h1
    | ok x s3 =>
      rw [h1] at q
      obtain ⟨w3, k3, n3, r3, i3⟩ := open1_ok a c h1
      have q : Post K T W w s σ H (fun w' _ => Rep K T w'.F) Q (ofO s3 (g x)) := q
      cases hg : g x with
      | none =>
        rw [hg] at q
        exact q.elim
      | some z =>
        rw [hg] at q
        exact rl w3 s3 H1 v x z k3 r3 hg _ fun v' H' w' h1 h2 h3 => q.give h1 ((b.trans n3).trans h2) h3))
theorem fh_ext {F H : Hp} (f : FH F H) {a : Addr} {o : HO} (h : F a = some o) (hn : ∀ kvs, o ≠ .dK kvs) : H a = some o := (f a _ h).elim id fun ⟨⟨_, q⟩, _⟩ => absurd q (hn _)
theorem rl_xf {f : Str} {n : Nat} (T0 : XfE K T f n) : Rl1T K T (rXf K f) (dXf n) := fun w s H v x y k r hg Q q => by
  cases x with
  | exn c fs =>
    have r : Rep K T w.F v (.exn c fs) := r
    cases r with
    | szs h => cases hg
    | clsv h => cases hg
    | exb hc h => cases hg
    | @exi a C dx c fv fs hc h hd rf =>
      have hg : fs.lookup n = some y := hg
      obtain ⟨u, e, ru⟩ := lookup_rep T0.name T0.inj rf hg
      exact ⟨a, C, dx, fv, u, rfl, fh_ext k.fh h (fun _ z => nomatch z), fh_ext k.fh hd (fun _ z => nomatch z), (T0.cls _ _ hc).1, (T0.cls _ _ hc).2, e, q u H w k .refl ru⟩
  | _ => cases hg
theorem w_xf {e : Expr} {f : Str} {n : Nat} {pos : Pos} {g : ME} (hK : X.K = K) (cf : XfE K T f n) (he : SE K T .raw X W e g) (hb : attributeBase e f X.env (eval e X.env) = eval e X.env) : SE K T .tree X W (.Attribute e f pos) (op1F (dXf n) g) := by
  subst hK
  exact se_op1T (fun ha => pe_xfv ha hb) (rl_xf cf) he
end
end VM

set_option Elab.async false
set_option linter.all false
set_option maxRecDepth 100000
set_option maxHeartbeats 2000000
/-! VM62: an own exception class whose __init__ takes nothing; C("words"); isinstance of exceptions; great powers. -/
namespace VM
open PySem PySem.Spec PyProof PyProof.Rows L2 NdefX
section
variable {P : Program} {wo : World} {K : PySem.W.Frag} {mg : Str → Option Value} {base : Heap} {CX : CXT} {F : NF} {f : Addr}
/-- the promise of an __init__ that says super().__init__("..") alone -/
def spIni0 (C : Addr) : Sp := fun vs H Q _ => ∃ a, vs = [.ref a] ∧ H a = some (exo a C none) ∧ Q .non H
theorem ini0_ok {C cc : Addr} {doc pm ctv oc : Value} {od : Option Addr} {osl : Array (Option Value)} {self msg : Str} {ar : Arg} {p0 p1 p2 p3 p4 p5 : Pos} {j : Nat} {pl : Sem Bool} (T : ExF P K C cc F.c) (hcl : F.cl = [(("__class__" : Str), cc)]) (lk : K.lookup f = some ⟨oc, od, .func (F.fd doc pm ctv), osl⟩)
    (hcd : PySem.W.codeIn K (.ref F.c) F.qual = true) (S : NScope [self, "__class__"] [self] [(("__class__" : Str))] F.scope) (hp : (F.params.posonlyargs ++ F.params.args).head? = some ar) (har : ar.arg = self)
    (hb : F.body = [.Expr (.Call (.Attribute (.Call (.Name "super" p0) [] [] p1) "__init__" p2) [.Constant (.str msg) j p3] [] p4) p5])
    (hks : F.scope.names.lookup ("super" : Str) = some .globalImplicit) (hm : mg "super" = none)
    (hsw : ∀ L, swapsWith (.Call (.Attribute (.Call (.Name "super" p0) [] [] p1) "__init__" p2) [.Constant (.str msg) j p3] [] p4) none p5.line (envF F f L) = pure false)
    (hev : ∀ L, eval (.Call (.Attribute (.Call (.Name "super" p0) [] [] p1) "__init__" p2) [.Constant (.str msg) j p3] [] p4) (envF F f L) = (do
      let ov ← attributeBase (.Call (.Name "super" p0) [] [] p1) "__init__" (envF F f L) (eval (.Call (.Name "super" p0) [] [] p1) (envF F f L))
      standAt p2.atName
      let (g, first) ← holding [ov] (getMethod ov "__init__" pl)
      callWith p4 g first (backTo p4 (starEach [.Constant (.str msg) j p3] (envF F f L))) [])) :
    FnOk P wo K mg base CX 1 f (F.fd doc pm ctv) [self] (spIni0 C) := by
  refine ⟨fun vs H Q E h => ?_, fun A outer s H args us vs Q E hr e0 hbind r hsp => ?_⟩
  · obtain ⟨a, rfl, _⟩ := h
    rfl
  obtain ⟨a, rfl, ea, hq⟩ := hsp
  have KX : K.In s.heap := e0.mod.kin.keeps fun b o e => (e0.bs b o e).1
  have lim : s.heap.NoLimit := e0.mod.nolimit.keeps fun b o e => (e0.bs b o e).1
  obtain ⟨oc1, od1, sl1, hcell⟩ := T.cell
  have hkc : F.scope.names.lookup ("__class__" : Str) = some .free := S.frk _ (by simp)
  have hka : F.scope.names.lookup self = some .local := S.par _ (by simp)
  have CA : CellsAt F.cl [(("__class__" : Str))] [none] s.heap H := by
    rw [hcl]
    refine ⟨rfl, fun y c e => ?_, fun x y c e1 e2 => ?_, fun i y e => ?_⟩
    · obtain ⟨_, rfl⟩ := one_look e
      exact ⟨(e0.bs _ _ (e0.mod.kin _ _ hcell)).2, _, _, KX _ _ hcell, rfl⟩
    · exact (one_look e1).1.trans (one_look e2).1.symm
    · cases i with
      | zero =>
        cases e
        exact ⟨cc, by simp [List.lookup], fun v hv => by cases hv⟩
      | succ i => simp at e
  have hus : us.length = 1 := by
    rw [← r.length]
    rfl
  refine ks_codeAny_call_defAt (fd := F.fd doc pm ctv) (body := F.body) hr.depth (KX _ _ lk) rfl lim (PySem.W.codeRec_of KX hcd) rfl hbind S.nocell (fun ⟨n, _⟩ hy => S.par n (List.of_mem_zip hy).1) (fun h₁ hns kp => ?_) S.co S.gen S.kind
  have I : Inv (ncx CX P wo K mg base [self, "__class__"] F f A outer s H E) [] (startF [self, "__class__"] [.ref a] [none]) H { s with heap := h₁, toks := s.toks + ([self].zip us).length } := inv_startN S hr.hd e0 rfl r CA hns kp
  show PySem.wpAt _ (A.deeper (envF F f s.heap.objs.size)) (.func F.body (envF F f s.heap.objs.size)) (execs F.body (envF F f s.heap.objs.size)) _ _ _
  rw [hb]
  refine ks_wpAt_execs_cons (super_ini I T hcl lk hp ea (by rw [har]; rfl) rfl S.kind (by rw [har]; exact hka) hks hkc hm (hsw _) pl (hev _) fun sh' I' => ?_)
  refine wpAt_of_wpAny (wpAny_pure ?_)
  exact ⟨V.non, H, I'.os, I'.bare, I'.base, I'.hok, rfl, hq⟩
/-- such a class -/
structure CalX0 (P : Program) (wo : World) (K : PySem.W.Frag) (mg : Str → Option Value) (base : Heap) (T : Tab) (x : Str) (c : Nat) : Prop where
  ex : ∃ C fI fd self, FnOk P wo K mg base (L2.CX P wo) 1 fI fd [self] (spIni0 C) ∧ OexC K C ∧ PySem.W.findIn K (.ref C) "__init__" = some (some (.ref fI)) ∧ PySem.W.typeIn K (.ref fI) = some (.type "function") ∧ Binds K fd [self] [] ∧ mg x = some (.ref C) ∧ T.exc c = some C
end
section
variable {K : PySem.W.Frag} {T : Tab} {w w' : Wd} {s s' : Store} {H H' : Hp} {X : Cx} {W : WX}
theorem se_mkx0 {c : Nat} {x : Str} {p pos : Pos} (hK : X.K = K) (cx : CalX0 X.prog X.w K X.mg X.base T x c) (hr : Room 2 X.A) (hg : Gl X x) (hdb : (x == ("__debug__" : Str)) = false) :
    SE K T .tree X W (.Call (.Name x p) [] [] pos) (eC (.exn c [(1000, .bl true)])) := .mk fun w env s σ H k eo Q q => by
  subst hK
  obtain ⟨C, fI, fd, self, F, O, h1, h2, hb, hm, hC⟩ := cx.ex
  refine wpe_of (pe_mkx0 O h1 h2 F hr hb (fun _ _ _ _ _ _ _ z => (by obtain ⟨_, _, _, _, _, _, _, _, _, _, _, _, z⟩ := z; exact z.elim)) hg hm hdb) ?_
  refine ⟨show 0 ≤ 1000 by decide, fun a hna => ⟨a, rfl, upd_same, rfl, ?_⟩⟩
  obtain ⟨w2, k2, n2, f2, _⟩ := k.new (o := exo a C none) hna
  exact q _ _ w2 k2 n2 (.exb hC (.inl f2))
/-- C(e) of an own exception class without own __init__ -/
def eMkV (c : Nat) (f : ME) : ME := fun en s => (f en s).bind fun _ s => .ok (.exn c [(1000, .bl true)]) s
def exvB (K : PySem.W.Frag) (x : Str) : Bool := PySem.W.excIn K (He.ga K x) [.type "ValueError", .type "Exception", .type "BaseException", .type "object"] "ValueError.__new__" && PySem.W.keepIn K (.ref (He.ga K x))
theorem se_mkv {c : Nat} {x : Str} {e : Expr} {p pos : Pos} {f : ME} (hK : X.K = K) (h0 : exvB K x = true) (hC : T.exc c = some (He.ga K x)) (hm : X.mg x = some (.ref (He.ga K x))) (hg : Gl X x) (hdb : (x == ("__debug__" : Str)) = false) (hs : starEach [e] X.env = (false, eval e X.env) :: starEach [] X.env) (ha : SE K T .tree X W e f) :
    SE K T .tree X W (.Call (.Name x p) [e] [] pos) (eMkV c f) := .mk fun w env s σ H k eo Q q => by
  subst hK
  obtain ⟨q1, q2⟩ := He.ba h0
  refine wpe_of (pe_exc1 PySem.F.excBase_ValueError q1 hm q2 hg pe_wp hs hdb) ?_
  refine ha w env s σ H k eo _ (Post.bind q fun v d H1 w1 s1 a1 b1 c1 qq => fun a hna => ?_)
  obtain ⟨w2, k2, n2, f2, _⟩ := a1.new (o := ExO (.ref (He.ga X.K x)) a) hna
  exact qq _ _ w2 k2 (b1.trans n2) (.exb hC (.inr f2))
/-! ### isinstance -/
def dIsE (ks : List Nat) : D → Option D
  | .exn c ((1000, _) :: _) => some (.bl (ks.contains c))
  | _ => none
/-- the object at a is an instance of the class at C -/
def InsE (H : Hp) (a C : Addr) : Prop := (∃ d dx fv, d = some dx ∧ H a = some (exo a C d) ∧ H dx = some (exd dx fv)) ∨ H a = some (exo a C none) ∨ H a = some (ExO (.ref C) a)
def rIsX (K : PySem.W.Frag) (cv : V) (u : Value) : V → Hp → VK → Prop := fun x H Q => ∃ (a C : Addr) (b : Bool), x = .ref a ∧ InsE H a C ∧ ExcC K C ∧ PySem.W.kitOne K (.ref C) u = some b ∧ Q (.bl b) H
theorem insE_at {pins : List (Addr × Obj)} {σ : L2.St} {sh : Shared} {a C : Addr} (I : Inv X pins σ H sh) (h : InsE H a C) : ∃ ox od, PySem.W.InstAt sh.heap a ox C od := by
  rcases h with ⟨_, dx, fv, rfl, h1, h2⟩ | h1 | h1
  · obtain ⟨t1, ho⟩ := exo_at I.hok h1
    obtain ⟨mA, hns, hr⟩ := exd_at I.hok h2
    obtain ⟨od, hod, hl⟩ := lookIn_ns hns
    exact ⟨_, some od, ho, rfl, rfl, hod⟩
  · obtain ⟨t1, ho⟩ := exo_at I.hok h1
    exact ⟨_, none, ho, rfl, rfl, trivial⟩
  · obtain ⟨⟨oe, vs, ho, hz, hd, _⟩, _, _⟩ := I.hok a _ h1
    refine ⟨oe, none, ho, hz.1, ?_, ?_⟩
    · unfold PySem.W.notCls
      rw [hd]
    · rw [hz.2]
      trivial
theorem call_isX {cv : V} {u : Value} (hcv : ∀ y, RelV cv y → y = u) : CallR X (.builtin "isinstance") (fun xs H Q => ∃ x, xs = [x, cv] ∧ rIsX X.K cv u x H Q) := by
  intro pins s σ H xs us Q I r h
  obtain ⟨x, rfl, a, C, b, rfl, hi, EC, e, q⟩ := h
  obtain ⟨u1, u2, rfl, r1, r2⟩ := vals2 r
  have e2 := hcv _ r2
  subst e2
  obtain rfl : u1 = Value.ref a := r1
  obtain ⟨ox, od, J⟩ := insE_at I hi
  have hcl : (PySem.W.clsIn X.K C).isSome = true := by
    obtain ⟨cd, hc, _⟩ := PySem.W.any_some EC.hd
    rw [hc]
    rfl
  exact PySem.W.kia_one (PySem.W.kitx_exc hcl EC.hg EC.hk EC.hs EC.ha EC.hn EC.ht EC.hm) I.kIn J e (fun z => nomatch z) fun tk => ⟨.bl b, H, I.tok tk, rfl, q⟩
/-- isinstance(exception, u): of the classes ks -/
structure KitE (K : PySem.W.Frag) (T : Tab) (u : Value) (ks : List Nat) : Prop where
  all : ∀ c C, T.exc c = some C → ExcC K C ∧ PySem.W.kitOne K (.ref C) u = some (ks.contains c)
theorem rl_isX {cv : V} {u : Value} {ks : List Nat} (hk : KitE K T u ks) : Rl1 K T (rIsX K cv u) (dIsE ks) := fun w s H G v x y k fh sub r1 hg Q q => by
  cases x with
  | exn c fs =>
    cases r1 with
    | szs h => cases hg
    | clsv h => cases hg
    | @exb a C c hc h =>
      cases hg
      obtain ⟨e1, e2⟩ := hk.all _ _ hc
      refine ⟨_, C, _, rfl, .inr (h.imp (fun h => fh_ext fh h (fun _ z => nomatch z)) (fun h => fh_ext fh h (fun _ z => nomatch z))), e1, e2, q _ H w k .refl (.bl _)⟩
    | @exi a C dx c fv fs hc h hd rf =>
      cases hg
      obtain ⟨e1, e2⟩ := hk.all _ _ hc
      refine ⟨_, C, _, rfl, .inl ⟨_, dx, fv, rfl, fh_ext fh h (fun _ z => nomatch z), fh_ext fh hd (fun _ z => nomatch z)⟩, e1, e2, q _ H w k .refl (.bl _)⟩
  | _ => cases hg
theorem se_isX {cv : V} {u : Value} {ks : List Nat} {e ce : Expr} {p pos : Pos} {f : ME} (hk : KitE X.K T u ks) (hcv : ∀ y, RelV cv y → y = u) (hce : PE X ce (tC cv)) (hp : plain e = true) (hp2 : plain ce = true) (hg : Gl X "isinstance") (hm : X.mg "isinstance" = none) (h : SE X.K T .raw X W e f) :
    SE X.K T .tree X W (.Call (.Name "isinstance" p) [e, ce] [] pos) (op1 (dIsE ks) f) :=
  se_op1 (r := fun x H Q => ∃ x', [x, cv] = [x', cv] ∧ rIsX X.K cv u x' H Q) (fun ha => by
    refine pe_callB (call_isX hcv) hg hm (by decide +kernel) (pa_cons ha (pa_cons hce pa_nil (star_plain hp2 _ _)) (star_plain hp _ _)) (by decide) (by decide) (star_plain hp _ _) ?_
    rw [star_plain hp2]
    rfl) (fun w s H G v x y k fh sub r1 hg Q q => ⟨v, rfl, rl_isX hk w s H G v x y k fh sub r1 hg Q q⟩) h
theorem w_isX {n : Str} {C : Addr} {ks : List Nat} {e : Expr} {p q pos : Pos} {f : ME} (hK : X.K = K) (hk : KitE K T (.ref C) ks) (hm : X.mg "isinstance" = none) (hmn : X.mg n = some (.ref C)) (hg : Gl X "isinstance") (hgn : Gl X n) (hd : (n == ("__debug__" : Str)) = false) (hp : plain e = true) (h : SE K T .raw X W e f) :
    SE K T .tree X W (.Call (.Name "isinstance" p) [e, .Name n q] [] pos) (op1 (dIsE ks) f) := by
  subst hK
  exact se_isX (cv := .ref C) hk (fun _ h => h) (pe_glob (v := .ref C) hgn hmn rfl hd) hp rfl hg hm h
theorem w_isXT {n : Str} {ty : String} {ks : List Nat} {e : Expr} {p q pos : Pos} {f : ME} (hK : X.K = K) (hk : KitE K T (.type ty) ks) (hm : X.mg "isinstance" = none) (hmn : X.mg n = none) (hv : bootBuiltins n = some (.type ty)) (hg : Gl X "isinstance") (hgn : Gl X n) (hn : n ≠ "__name__") (hd : (n == ("__debug__" : Str)) = false) (hp : plain e = true) (h : SE K T .raw X W e f) :
    SE K T .tree X W (.Call (.Name "isinstance" p) [e, .Name n q] [] pos) (op1 (dIsE ks) f) := by
  subst hK
  exact se_isX (cv := .ty ty) hk (fun _ h => ClsV.eq (.ty ty) h) (pe_bltn (v := .ty ty) hgn hmn hv rfl hn hd) hp rfl hg hm h
/-! ### great powers -/
def dPowB : D → D → Option D
  | .int a, .int b => if 0 ≤ b ∧ (Builtin.Int.intBits a : Int) * b ≤ 2 ^ 27 then some (.int (a ^ b.toNat)) else none
  | _, _ => none
def CPowB (a b : Int) : Prop := 0 ≤ b ∧ (Builtin.Int.intBits a : Int) * b ≤ 2 ^ 27
theorem op_powB : OpR X (binaryOp .Pow) (rI CPowB fun i j => .int (i ^ j.toNat)) := opI fun _ _ _ _ _ _ _ hc q => pow_int hc.1 hc.2 q
theorem rl_powB : Rl2F K T (rI CPowB fun i j => .int (i ^ j.toNat)) dPowB := rl_int fun x y z h => by
  cases x <;> try (cases h; done)
  cases y <;> try (cases h; done)
  dsimp only [dPowB] at h
  split at h
  · rename_i q
    cases h
    exact ⟨_, _, rfl, rfl, q, rfl⟩
  · cases h
theorem w_powB {a b : Expr} {pos : Pos} {f1 f2 : ME} (h1 : SE K T .raw X W a f1) (h2 : SE K T .raw X W b f2) : SE K T (.own 1) X W (.BinOp a .Pow b pos) (op2F dPowB f1 f2) := se_op2F (fun h1 h2 => pe_op op_powB h1 h2) rl_powB h1 h2
end
/-! ### facts by names -/
def excCB (K : PySem.W.Frag) (D : Addr) : Bool := eqOV (PySem.W.findIn K (.ref D) "__getattribute__") (some (some (.builtin "BaseException.__getattribute__"))) && (eqOV (PySem.W.findIn K (.ref D) "__getattr__") (some none) && (decide (PySem.W.subIn K (.ref D) (.type "BaseException") = some true) && (PySem.W.hasDictIn K D &&
  (eqOV (PySem.W.findIn K (.ref D) "__class__") (some (some (.builtin "object.__class__"))) && (eqOV (PySem.W.specialIn K (.builtin "object.__class__") "__get__") (some (some (.builtin "getset_descriptor.__get__"))) && (decide (PySem.W.takesIn K (.builtin "object.__class__") = some true) && decide (PySem.W.mroIn K D (.type "object") = some true)))))))
theorem excCB_ok {K : PySem.W.Frag} {D : Addr} (h : excCB K D = true) : ExcC K D ∧ XfC K D := by
  obtain ⟨h1, h⟩ := He.ba h
  obtain ⟨h2, h⟩ := He.ba h
  obtain ⟨h3, h⟩ := He.ba h
  obtain ⟨h4, h⟩ := He.ba h
  obtain ⟨h5, h⟩ := He.ba h
  obtain ⟨h6, h⟩ := He.ba h
  obtain ⟨h7, h8⟩ := He.ba h
  exact ⟨⟨of_decide_eq_true h1, of_decide_eq_true h2, of_decide_eq_true h3, h4, of_decide_eq_true h5, of_decide_eq_true h6, of_decide_eq_true h7, of_decide_eq_true h8⟩, ⟨of_decide_eq_true h1, of_decide_eq_true h2, of_decide_eq_true h3, h4⟩⟩
/-- all of them -/
def excsB (K : PySem.W.Frag) (es : List (Nat × Str)) : Bool := es.all fun p => excCB K (He.ga K p.2)
def kitEB (K : PySem.W.Frag) (es : List (Nat × Str)) (u : Value) (ks : List Nat) : Bool := es.all fun p => decide (PySem.W.kitOne K (.ref (He.ga K p.2)) u = some (ks.contains p.1))
def noXB (K : PySem.W.Frag) (es : List (Nat × Str)) (f : Str) : Bool := es.all fun p => eqOV (PySem.W.findIn K (.ref (He.ga K p.2)) f) (some none)
theorem exc_mem {K : PySem.W.Frag} {cs : List (Nat × Str)} {fs : List Str} {es : List (Nat × Str)} {c : Nat} {C : Addr} (e : (tabOf K cs fs es).exc c = some C) : ∃ x, (c, x) ∈ es ∧ C = He.ga K x := by
  have e : (es.lookup c).map (He.ga K) = some C := e
  cases q : es.lookup c with
  | none =>
    rw [q] at e
    cases e
  | some y =>
    rw [q] at e
    cases e
    exact ⟨y, memL q, rfl⟩
theorem kitE_of {K : PySem.W.Frag} {cs : List (Nat × Str)} {fs : List Str} {es : List (Nat × Str)} {u : Value} {ks : List Nat} (h : excsB K es = true) (h2 : kitEB K es u ks = true) : KitE K (tabOf K cs fs es) u ks := ⟨fun c C e => by
  obtain ⟨x, m, rfl⟩ := exc_mem e
  exact ⟨(excCB_ok (List.all_eq_true.mp h _ m)).1, of_decide_eq_true (List.all_eq_true.mp h2 _ m)⟩⟩
theorem xfE_of {K : PySem.W.Frag} {cs : List (Nat × Str)} {fs : List Str} {es : List (Nat × Str)} {f : Str} {n : Nat} (cf : CFld K (tabOf K cs fs es) f n) (h : excsB K es = true) (h2 : noXB K es f = true) : XfE K (tabOf K cs fs es) f n :=
  ⟨cf.name, cf.inj, fun c C e => by
    obtain ⟨x, m, rfl⟩ := exc_mem e
    exact ⟨(excCB_ok (List.all_eq_true.mp h _ m)).2, of_decide_eq_true (List.all_eq_true.mp h2 _ m)⟩⟩
end VM

set_option Elab.async false
set_option linter.all false
set_option maxRecDepth 100000
set_option maxHeartbeats 4000000
namespace LawK17
open PySem PySem.Spec PyProof.Rows L2 VM
def top (i : Nat) : Stmt := PySem.Challenge.pw_coveredcells_k17_errors_made.main.body.getD i (.Pass ⟨0, 0, 0, 0⟩)
def mem (i j : Nat) : Stmt := match top i with
  | .ClassDef _ _ _ b _ _ _ _ _ _ _ => b.getD j (.Pass ⟨0, 0, 0, 0⟩)
  | s => s
def clsN : List (Nat × Str) := []
def fldN : List Str := ["own_rows", "own_cells", "own_programs", "row", "place", "name", "index", "count", "thread", "number", "steps", "line", "own_field", "moments", "at", "own_text", "me", "threads", "written_rows", "here", "outcome", "ahead"]
def excN : List (Nat × Str) := [(0, "CellError"), (1, "BadProgram"), (2, "NotOnce"), (3, "BadField"), (4, "BadCell"), (5, "BadRun"), (6, "BadCount"), (7, "BadThread"), (8, "Enough"), (9, "BadSteps"), (10, "BadSeen"), (11, "BadText"), (12, "NoDeed"), (13, "BadScript")]
def TT (K : PySem.W.Frag) : Tab := tabOf K clsN fldN excN
def e_NoDeed : DefE := ⟨"NoDeed", "NoDeed.__init__", defArgs (mem 13 0), defBody (mem 13 0), defScope (mem 13 0), "row"⟩
def e_BadScript : DefE := ⟨"BadScript", "BadScript.__init__", defArgs (mem 14 0), defBody (mem 14 0), defScope (mem 14 0), "line"⟩
def e_BadSeen : DefE := ⟨"BadSeen", "BadSeen.__init__", defArgs (mem 11 0), defBody (mem 11 0), defScope (mem 11 0), "index"⟩
def e_BadSteps : DefE := ⟨"BadSteps", "BadSteps.__init__", defArgs (mem 10 0), defBody (mem 10 0), defScope (mem 10 0), "steps"⟩
def e_Enough : DefE := ⟨"Enough", "Enough.__init__", defArgs (mem 9 0), defBody (mem 9 0), defScope (mem 9 0), "number"⟩
def e_BadText : DefE := ⟨"BadText", "BadText.__init__", defArgs (mem 12 0), defBody (mem 12 0), defScope (mem 12 0), "line"⟩
def e_BadThread : DefE := ⟨"BadThread", "BadThread.__init__", defArgs (mem 8 0), defBody (mem 8 0), defScope (mem 8 0), "thread"⟩
def e_BadCount : DefE := ⟨"BadCount", "BadCount.__init__", defArgs (mem 7 0), defBody (mem 7 0), defScope (mem 7 0), "count"⟩
def e_BadRun : DefE := ⟨"BadRun", "BadRun.__init__", defArgs (mem 6 0), defBody (mem 6 0), defScope (mem 6 0), "index"⟩
def e_BadCell : DefE := ⟨"BadCell", "BadCell.__init__", defArgs (mem 5 0), defBody (mem 5 0), defScope (mem 5 0), "name"⟩
def e_BadField : DefE := ⟨"BadField", "BadField.__init__", defArgs (mem 4 0), defBody (mem 4 0), defScope (mem 4 0), "place"⟩
def e_NotOnce : DefE := ⟨"NotOnce", "NotOnce.__init__", defArgs (mem 3 0), defBody (mem 3 0), defScope (mem 3 0), "row"⟩
def e_BadProgram : DefE := ⟨"BadProgram", "BadProgram.__init__", defArgs (mem 2 0), defBody (mem 2 0), defScope (mem 2 0), "row"⟩
def en : List DefE := [e_NoDeed, e_BadScript, e_BadSeen, e_BadSteps, e_Enough, e_BadText, e_BadThread, e_BadCount, e_BadRun, e_BadCell, e_BadField, e_NotOnce, e_BadProgram]

def pn : List DefP := []
def fa : List He.Fa := [.free "isinstance", .free "ValueError", .glo "NoDeed", .glo "BadScript", .glo "BadSeen", .glo "BadSteps", .glo "Enough", .glo "BadText", .glo "BadThread", .glo "BadCount", .glo "BadRun", .glo "BadCell", .glo "BadField", .glo "NotOnce", .glo "BadProgram", .glo "_law_kinds", .free "any", .glo "CellError", .free "len", .free "range", .free "int", .glo "_law_draw", .glo "_law_pick", .glo "_law_source", .glo "law", .free "super"]
/-! _law_kinds -/
abbrev st__law_kinds : Stmt := (top 19)
def m__law_kinds : MS := (sCons (sOwnV 1 1 (eLst (aCons (op1 (dIsE [1]) (eRaw 0)) (aCons (op1 (dIsE [2]) (eRaw 0)) (aCons (op1 (dIsE [3]) (eRaw 0)) (aCons (op1 (dIsE [4]) (eRaw 0)) aNil))))))
  (sCons (sOwnV 1 1 (op2F dAdd (eRaw 1) (eLst (aCons (op1 (dIsE [5]) (eRaw 0)) (aCons (op1 (dIsE [6]) (eRaw 0)) (aCons (op1 (dIsE [7]) (eRaw 0)) (aCons (op1 (dIsE [11]) (eRaw 0)) aNil)))))))
  (sCons (sOwnV 1 1 (op2F dAdd (eRaw 1) (eLst (aCons (op1 (dIsE [8]) (eRaw 0)) (aCons (op1 (dIsE [9]) (eRaw 0)) (aCons (op1 (dIsE [10]) (eRaw 0)) aNil))))))
  (sRet (op2F dAdd (eRaw 1) (eLst (aCons (op1 (dIsE [13]) (eRaw 0)) (aCons (op1 (dIsE [12]) (eRaw 0)) aNil))))))))
def fn__law_kinds : Fn := fnOf 1 1 0 m__law_kinds
def d__law_kinds : He.DefD := ⟨("_law_kinds", none), "_law_kinds", "_law_kinds", defArgs st__law_kinds, defBody st__law_kinds, defScope st__law_kinds, [], []⟩
/-! _law_draw -/
abbrev st__law_draw : Stmt := (top 17)
def m__law_draw : MS := (sCons (sSet (eRaw 0) (eC (.int 2)) (op2F dAdd (op2F dIx (eRaw 0) (eC (.int 2))) (eC (.int 1))))
  (sCons (sIf (tE (op2 dGt (op2F dIx (eRaw 0) (eC (.int 0))) (eC (.int 1)))) (sCons (sOwnV 1 2 (op2F dMod (op1F dIntA (op2F dIx (eRaw 0) (eC (.int 0)))) (eRaw 1)))
  (sCons (sSet (eRaw 0) (eC (.int 0)) (op2F dDiv (op2F dIx (eRaw 0) (eC (.int 0))) (eRaw 1)))
  (sRet (eGet 2)))) sNil)
  (sCons (sOwnV 1 3 (op2F dMod (op2F dPow (op2F dAdd (op2F dIx (eRaw 0) (eC (.int 1))) (op2F dMul (eC (.int 7919)) (op2F dIx (eRaw 0) (eC (.int 2))))) (eC (.int 5))) (eC (.int 2147483629))))
  (sRet (op2F dMod (op2F dMod (op2F dPow (op2F dAdd (op2F dAdd (op2F dMul (eRaw 3) (eC (.int 48271))) (op2F dMul (op2F dMul (eC (.int 16807)) (op2F dIx (eRaw 0) (eC (.int 2)))) (op2F dIx (eRaw 0) (eC (.int 2))))) (eC (.int 11))) (eC (.int 3))) (eC (.int 1000000007))) (eRaw 1))))))
def fn__law_draw : Fn := fnOf 2 2 0 m__law_draw
def d__law_draw : He.DefD := ⟨("_law_draw", none), "_law_draw", "_law_draw", defArgs st__law_draw, defBody st__law_draw, defScope st__law_draw, [], []⟩
/-! _law_pick -/
abbrev st__law_pick : Stmt := (top 18)
def m__law_pick : MS := (sRet (op2F dIx (eRaw 1) (eCall fn__law_draw (aCons (eRaw 0) (aCons (op1 dLen (eRaw 1)) aNil)))))
def fn__law_pick : Fn := fnOf 2 0 0 m__law_pick
def d__law_pick : He.DefD := ⟨("_law_pick", none), "_law_pick", "_law_pick", defArgs st__law_pick, defBody st__law_pick, defScope st__law_pick, [], []⟩
/-! _law_source -/
abbrev st__law_source : Stmt := (top 16)
def m__law_source : MS := (sCons (sAsg (gTupT [(gName 1), (gName 2)]) (eTup (aCons (eC (.int 0)) (aCons (eC (.int 17)) aNil))))
  (sCons (sFor (iSeqA (eRaw 0)) (gName 3) (sCons (sIf (tAnd (tE (op2 dEq (eRaw 1) (eC (.int 0)))) (tE (op2 dGe (eRaw 3) (op2F dPow (eC (.int 10)) (eC (.int 18)))))) (sAsg (gName 1) (eGet 3)) sNil)
  (sOwnV 1 2 (op2F dMod (op1F dIntA (op2F dAdd (op2F dAdd (op2F dMul (eRaw 2) (eC (.int 31))) (eRaw 3)) (eC (.int 7)))) (eC (.int 2147483647))))))
  (sRet (eLst (aCons (eGet 1) (aCons (eGet 2) (aCons (eC (.int 0)) aNil)))))))
def fn__law_source : Fn := fnOf 1 3 1 m__law_source
def d__law_source : He.DefD := ⟨("_law_source", none), "_law_source", "_law_source", defArgs st__law_source, defBody st__law_source, defScope st__law_source, [], []⟩
/-! law -/
abbrev st_law : Stmt := (top 20)
def m_law : MS := (sCons (sOwnV 1 1 (eCall fn__law_source (aCons (eRaw 0) aNil)))
  (sCons (sAsg (gName 2) (eCall fn__law_pick (aCons (eRaw 1) (aCons (eLst (aCons (eC .non) (aCons (eC (.int 5)) (aCons (eC (.str [97])) (aCons (eTup (aCons (eC (.str [97])) (aCons (eC (.int 1)) aNil))) (aCons (eLst (aCons (eC (.str [98])) aNil)) (aCons (eC (.dic [])) (aCons (op2F dPowB (op2F dPowB (op2F dPowB (eC (.int 10)) (eC (.int 60))) (eC (.int 64))) (eC (.int 2))) (aCons (eC (.bl true)) aNil))))))))) aNil))))
  (sCons (sOwnV 1 3 (eLst (aCons (eTup (aCons (op1F (dXf 3) (eMkX 1 3 (aCons (eGet 2) aNil))) (aCons (eMkX 1 3 (aCons (eGet 2) aNil)) aNil))) (aCons (eTup (aCons (op1F (dXf 3) (eMkX 2 3 (aCons (eGet 2) aNil))) (aCons (eMkX 2 3 (aCons (eGet 2) aNil)) aNil))) aNil))))
  (sCons (sOwnV 1 3 (op2F dAdd (eRaw 3) (eLst (aCons (eTup (aCons (op1F (dXf 4) (eMkX 3 4 (aCons (eGet 2) aNil))) (aCons (eMkX 3 4 (aCons (eGet 2) aNil)) aNil))) (aCons (eTup (aCons (op1F (dXf 5) (eMkX 4 5 (aCons (eGet 2) aNil))) (aCons (eMkX 4 5 (aCons (eGet 2) aNil)) aNil))) aNil)))))
  (sCons (sOwnV 1 3 (op2F dAdd (eRaw 3) (eLst (aCons (eTup (aCons (op1F (dXf 6) (eMkX 5 6 (aCons (eGet 2) aNil))) (aCons (eMkX 5 6 (aCons (eGet 2) aNil)) aNil))) (aCons (eTup (aCons (op1F (dXf 7) (eMkX 6 7 (aCons (eGet 2) aNil))) (aCons (eMkX 6 7 (aCons (eGet 2) aNil)) aNil))) aNil)))))
  (sCons (sOwnV 1 3 (op2F dAdd (eRaw 3) (eLst (aCons (eTup (aCons (op1F (dXf 8) (eMkX 7 8 (aCons (eGet 2) aNil))) (aCons (eMkX 7 8 (aCons (eGet 2) aNil)) aNil))) (aCons (eTup (aCons (op1F (dXf 11) (eMkX 11 11 (aCons (eGet 2) aNil))) (aCons (eMkX 11 11 (aCons (eGet 2) aNil)) aNil))) aNil)))))
  (sCons (sOwnV 1 3 (op2F dAdd (eRaw 3) (eLst (aCons (eTup (aCons (op1F (dXf 9) (eMkX 8 9 (aCons (eGet 2) aNil))) (aCons (eMkX 8 9 (aCons (eGet 2) aNil)) aNil))) (aCons (eTup (aCons (op1F (dXf 10) (eMkX 9 10 (aCons (eGet 2) aNil))) (aCons (eMkX 9 10 (aCons (eGet 2) aNil)) aNil))) aNil)))))
  (sCons (sOwnV 1 3 (op2F dAdd (eRaw 3) (eLst (aCons (eTup (aCons (op1F (dXf 6) (eMkX 10 6 (aCons (eGet 2) aNil))) (aCons (eMkX 10 6 (aCons (eGet 2) aNil)) aNil))) (aCons (eTup (aCons (op1F (dXf 11) (eMkX 13 11 (aCons (eGet 2) aNil))) (aCons (eMkX 13 11 (aCons (eGet 2) aNil)) aNil))) aNil)))))
  (sCons (sOwnV 1 4 (op2F dAdd (eLc [8] (iSeqA (eRaw 3)) (gName 8) VM.tYes (op2F dIx (eRaw 8) (eC (.int 1)))) (eLst (aCons (eC (.exn 12 [(1000, .bl true)])) aNil))))
  (sCons (sOwnV 1 5 (eLst (aCons (op1F (dXf 3) (op2F dIx (eRaw 4) (eC (.int 0)))) (aCons (op1F (dXf 3) (op2F dIx (eRaw 4) (eC (.int 1)))) (aCons (op1F (dXf 4) (op2F dIx (eRaw 4) (eC (.int 2)))) (aCons (op1F (dXf 5) (op2F dIx (eRaw 4) (eC (.int 3)))) (aCons (op1F (dXf 6) (op2F dIx (eRaw 4) (eC (.int 4)))) (aCons (op1F (dXf 7) (op2F dIx (eRaw 4) (eC (.int 5)))) aNil))))))))
  (sCons (sOwnV 1 5 (op2F dAdd (eRaw 5) (eLst (aCons (op1F (dXf 8) (op2F dIx (eRaw 4) (eC (.int 6)))) (aCons (op1F (dXf 11) (op2F dIx (eRaw 4) (eC (.int 7)))) (aCons (op1F (dXf 9) (op2F dIx (eRaw 4) (eC (.int 8)))) aNil))))))
  (sCons (sOwnV 1 5 (op2F dAdd (eRaw 5) (eLst (aCons (op1F (dXf 10) (op2F dIx (eRaw 4) (eC (.int 9)))) (aCons (op1F (dXf 6) (op2F dIx (eRaw 4) (eC (.int 10)))) (aCons (op1F (dXf 11) (op2F dIx (eRaw 4) (eC (.int 11)))) aNil))))))
  (sCons (sIf (tOr (tE (op2 dNe (eLc [8] (iSeqA (eRaw 3)) (gName 8) VM.tYes (op2F dIx (eRaw 8) (eC (.int 0)))) (op2F dMul (eLst (aCons (eGet 2) aNil)) (eC (.int 12))))) (tE (op2 dNe (eRaw 5) (op2F dMul (eLst (aCons (eGet 2) aNil)) (eC (.int 12)))))) (sRet (eC (.bl false))) sNil)
  (sCons (sFor (iRange1 (aCons (op1 dLen (eRaw 4)) aNil)) (gName 6) (sCons (sIf (tOr (tNot (tE (op1 (dIsE [0, 1, 2, 3, 4, 5, 6, 7, 8, 9, 10, 11, 12, 13]) (op2F dIx (eRaw 4) (eRaw 6))))) (tNot (tE (op1 (dIsE [0, 1, 2, 3, 4, 5, 6, 7, 8, 9, 10, 11, 12, 13]) (op2F dIx (eRaw 4) (eRaw 6)))))) (sRet (eC (.bl false))) sNil)
  (sIf (tE (op2 dNe (eCall fn__law_kinds (aCons (op2F dIx (eRaw 4) (eRaw 6)) aNil)) (eLc [9] (iRange1 (aCons (op1 dLen (eRaw 4)) aNil)) (gName 9) VM.tYes (op2 dEq (eRaw 6) (eRaw 9))))) (sRet (eC (.bl false))) sNil)))
  (sCons (sAsg (gName 7) (eMkV 0 (eC (.str [119, 111, 114, 100, 115]))))
  (sRet (eAnd (op1 (dIsE [0, 1, 2, 3, 4, 5, 6, 7, 8, 9, 10, 11, 12, 13]) (eRaw 7)) (eNot (op1F dAny (eCall fn__law_kinds (aCons (eRaw 7) aNil)))))))))))))))))))))
def fn_law : Fn := fnOf 1 9 0 m_law
def d_law : He.DefD := ⟨("law", none), "law", "law", defArgs st_law, defBody st_law, defScope st_law, [], []⟩
def s_law_0 : MS := (sOwnV 1 1 (eCall fn__law_source (aCons (eRaw 0) aNil)))
def s_law_1 : MS := (sAsg (gName 2) (eCall fn__law_pick (aCons (eRaw 1) (aCons (eLst (aCons (eC .non) (aCons (eC (.int 5)) (aCons (eC (.str [97])) (aCons (eTup (aCons (eC (.str [97])) (aCons (eC (.int 1)) aNil))) (aCons (eLst (aCons (eC (.str [98])) aNil)) (aCons (eC (.dic [])) (aCons (op2F dPowB (op2F dPowB (op2F dPowB (eC (.int 10)) (eC (.int 60))) (eC (.int 64))) (eC (.int 2))) (aCons (eC (.bl true)) aNil))))))))) aNil))))
def s_law_2 : MS := (sOwnV 1 3 (eLst (aCons (eTup (aCons (op1F (dXf 3) (eMkX 1 3 (aCons (eGet 2) aNil))) (aCons (eMkX 1 3 (aCons (eGet 2) aNil)) aNil))) (aCons (eTup (aCons (op1F (dXf 3) (eMkX 2 3 (aCons (eGet 2) aNil))) (aCons (eMkX 2 3 (aCons (eGet 2) aNil)) aNil))) aNil))))
def s_law_3 : MS := (sOwnV 1 3 (op2F dAdd (eRaw 3) (eLst (aCons (eTup (aCons (op1F (dXf 4) (eMkX 3 4 (aCons (eGet 2) aNil))) (aCons (eMkX 3 4 (aCons (eGet 2) aNil)) aNil))) (aCons (eTup (aCons (op1F (dXf 5) (eMkX 4 5 (aCons (eGet 2) aNil))) (aCons (eMkX 4 5 (aCons (eGet 2) aNil)) aNil))) aNil)))))
def s_law_4 : MS := (sOwnV 1 3 (op2F dAdd (eRaw 3) (eLst (aCons (eTup (aCons (op1F (dXf 6) (eMkX 5 6 (aCons (eGet 2) aNil))) (aCons (eMkX 5 6 (aCons (eGet 2) aNil)) aNil))) (aCons (eTup (aCons (op1F (dXf 7) (eMkX 6 7 (aCons (eGet 2) aNil))) (aCons (eMkX 6 7 (aCons (eGet 2) aNil)) aNil))) aNil)))))
def s_law_5 : MS := (sOwnV 1 3 (op2F dAdd (eRaw 3) (eLst (aCons (eTup (aCons (op1F (dXf 8) (eMkX 7 8 (aCons (eGet 2) aNil))) (aCons (eMkX 7 8 (aCons (eGet 2) aNil)) aNil))) (aCons (eTup (aCons (op1F (dXf 11) (eMkX 11 11 (aCons (eGet 2) aNil))) (aCons (eMkX 11 11 (aCons (eGet 2) aNil)) aNil))) aNil)))))
def s_law_6 : MS := (sOwnV 1 3 (op2F dAdd (eRaw 3) (eLst (aCons (eTup (aCons (op1F (dXf 9) (eMkX 8 9 (aCons (eGet 2) aNil))) (aCons (eMkX 8 9 (aCons (eGet 2) aNil)) aNil))) (aCons (eTup (aCons (op1F (dXf 10) (eMkX 9 10 (aCons (eGet 2) aNil))) (aCons (eMkX 9 10 (aCons (eGet 2) aNil)) aNil))) aNil)))))
def s_law_7 : MS := (sOwnV 1 3 (op2F dAdd (eRaw 3) (eLst (aCons (eTup (aCons (op1F (dXf 6) (eMkX 10 6 (aCons (eGet 2) aNil))) (aCons (eMkX 10 6 (aCons (eGet 2) aNil)) aNil))) (aCons (eTup (aCons (op1F (dXf 11) (eMkX 13 11 (aCons (eGet 2) aNil))) (aCons (eMkX 13 11 (aCons (eGet 2) aNil)) aNil))) aNil)))))
def s_law_8 : MS := (sOwnV 1 4 (op2F dAdd (eLc [8] (iSeqA (eRaw 3)) (gName 8) VM.tYes (op2F dIx (eRaw 8) (eC (.int 1)))) (eLst (aCons (eC (.exn 12 [(1000, .bl true)])) aNil))))
def s_law_9 : MS := (sOwnV 1 5 (eLst (aCons (op1F (dXf 3) (op2F dIx (eRaw 4) (eC (.int 0)))) (aCons (op1F (dXf 3) (op2F dIx (eRaw 4) (eC (.int 1)))) (aCons (op1F (dXf 4) (op2F dIx (eRaw 4) (eC (.int 2)))) (aCons (op1F (dXf 5) (op2F dIx (eRaw 4) (eC (.int 3)))) (aCons (op1F (dXf 6) (op2F dIx (eRaw 4) (eC (.int 4)))) (aCons (op1F (dXf 7) (op2F dIx (eRaw 4) (eC (.int 5)))) aNil))))))))
def s_law_10 : MS := (sOwnV 1 5 (op2F dAdd (eRaw 5) (eLst (aCons (op1F (dXf 8) (op2F dIx (eRaw 4) (eC (.int 6)))) (aCons (op1F (dXf 11) (op2F dIx (eRaw 4) (eC (.int 7)))) (aCons (op1F (dXf 9) (op2F dIx (eRaw 4) (eC (.int 8)))) aNil))))))
def s_law_11 : MS := (sOwnV 1 5 (op2F dAdd (eRaw 5) (eLst (aCons (op1F (dXf 10) (op2F dIx (eRaw 4) (eC (.int 9)))) (aCons (op1F (dXf 6) (op2F dIx (eRaw 4) (eC (.int 10)))) (aCons (op1F (dXf 11) (op2F dIx (eRaw 4) (eC (.int 11)))) aNil))))))
def s_law_12 : MS := (sIf (tOr (tE (op2 dNe (eLc [8] (iSeqA (eRaw 3)) (gName 8) VM.tYes (op2F dIx (eRaw 8) (eC (.int 0)))) (op2F dMul (eLst (aCons (eGet 2) aNil)) (eC (.int 12))))) (tE (op2 dNe (eRaw 5) (op2F dMul (eLst (aCons (eGet 2) aNil)) (eC (.int 12)))))) (sRet (eC (.bl false))) sNil)
def s_law_13 : MS := (sFor (iRange1 (aCons (op1 dLen (eRaw 4)) aNil)) (gName 6) (sCons (sIf (tOr (tNot (tE (op1 (dIsE [0, 1, 2, 3, 4, 5, 6, 7, 8, 9, 10, 11, 12, 13]) (op2F dIx (eRaw 4) (eRaw 6))))) (tNot (tE (op1 (dIsE [0, 1, 2, 3, 4, 5, 6, 7, 8, 9, 10, 11, 12, 13]) (op2F dIx (eRaw 4) (eRaw 6)))))) (sRet (eC (.bl false))) sNil)
  (sIf (tE (op2 dNe (eCall fn__law_kinds (aCons (op2F dIx (eRaw 4) (eRaw 6)) aNil)) (eLc [9] (iRange1 (aCons (op1 dLen (eRaw 4)) aNil)) (gName 9) VM.tYes (op2 dEq (eRaw 6) (eRaw 9))))) (sRet (eC (.bl false))) sNil)))
def s_law_14 : MS := (sAsg (gName 7) (eMkV 0 (eC (.str [119, 111, 114, 100, 115]))))
def s_law_15 : MS := (sRet (eAnd (op1 (dIsE [0, 1, 2, 3, 4, 5, 6, 7, 8, 9, 10, 11, 12, 13]) (eRaw 7)) (eNot (op1F dAny (eCall fn__law_kinds (aCons (eRaw 7) aNil))))))
def dn : List He.DefD := [d__law_kinds, d__law_draw, d__law_pick, d__law_source, d_law]
def moreL (K : PySem.W.Frag) : List Bool := [tabB K clsN fldN, excsB K excN, kitEB K excN (.type "ValueError") [0, 1, 2, 3, 4, 5, 6, 7, 8, 9, 10, 11, 12, 13], kitEB K excN (.ref (He.ga K "NoDeed")) [12], kitEB K excN (.ref (He.ga K "BadScript")) [13], kitEB K excN (.ref (He.ga K "BadSeen")) [10], kitEB K excN (.ref (He.ga K "BadSteps")) [9], kitEB K excN (.ref (He.ga K "Enough")) [8], kitEB K excN (.ref (He.ga K "BadText")) [11], kitEB K excN (.ref (He.ga K "BadThread")) [7], kitEB K excN (.ref (He.ga K "BadCount")) [6], kitEB K excN (.ref (He.ga K "BadRun")) [5], kitEB K excN (.ref (He.ga K "BadCell")) [4], kitEB K excN (.ref (He.ga K "BadField")) [3], kitEB K excN (.ref (He.ga K "NotOnce")) [2], kitEB K excN (.ref (He.ga K "BadProgram")) [1], exvB K "CellError", kitEB K excN (.ref (He.ga K "CellError")) [0, 1, 2, 3, 4, 5, 6, 7, 8, 9, 10, 11, 12, 13], noXB K excN "line", noXB K excN "index", noXB K excN "steps", noXB K excN "number", noXB K excN "thread", noXB K excN "count", noXB K excN "name", noXB K excN "place", noXB K excN "row", exnB K e_NoDeed, exnB K e_BadScript, exnB K e_BadSeen, exnB K e_BadSteps, exnB K e_Enough, exnB K e_BadText, exnB K e_BadThread, exnB K e_BadCount, exnB K e_BadRun, exnB K e_BadCell, exnB K e_BadField, exnB K e_NotOnce, exnB K e_BadProgram]
def more (K : PySem.W.Frag) : Bool := (moreL K).all id
end LawK17

set_option Elab.async false
set_option linter.all false
set_option maxRecDepth 100000
set_option maxHeartbeats 4000000
namespace LawK17
open PySem PySem.Spec PyProof.Rows L2 VM

structure BF (P : Program) (K : PySem.W.Frag) (mg : Str → Option Value) (base : Heap) : Prop where
  kin : K.In base
  ns : base.Ns mainGlobals mg
  sx : SaysY more fa dn en pn K
  prog : progB P = true

section
variable {P : Program} {wo : World} {K : PySem.W.Frag} {mg : Str → Option Value} {base : Heap}
theorem fac (B : BF P K mg base) (i : Nat) {f : He.Fa} (h : fa[i]? = some f) : f.ok K = true := B.sx.sx.m.says.fact i h
theorem glo (B : BF P K mg base) (i : Nat) {x : Str} (h : fa[i]? = some (.glo x)) : mg x = some (.ref (He.ga K x)) := He.glo_ok B.kin B.ns (fac B i h)
theorem fre (B : BF P K mg base) (i : Nat) {x : Str} (h : fa[i]? = some (.free x)) : mg x = none := He.free_ok B.kin B.ns (fac B i h)
theorem gint (B : BF P K mg base) (i : Nat) {x : Str} {v : Int} (h : fa[i]? = some (.int x v)) : ∃ t, mg x = some (.int v t) := He.int_ok B.kin B.ns (fac B i h)
theorem gstr (B : BF P K mg base) (i : Nat) {x y : Str} (h : fa[i]? = some (.str x y)) : ∃ t, mg x = some (.str y t) := He.str_ok B.kin B.ns (fac B i h)
theorem mo (B : BF P K mg base) (i : Nat) {b : Bool} (h : (moreL K)[i]? = some b) : b = true := List.all_eq_true.mp B.sx.sx.m.more b (List.mem_of_getElem? h)
theorem dfn (B : BF P K mg base) (i : Nat) {d : He.DefD} (h : dn[i]? = some d) : ∃ fd, FunD K d.name d.qual d.params d.body d.scope (d.dvs K) (d.kws K) (He.fAd K d.at_) fd := B.sx.sx.m.says.def_ i h
theorem isc (B : BF P K mg base) : IsC K (TT K) := isC_of (mo B 0 rfl)
theorem cf_row (B : BF P K mg base) : CFld K (TT K) "row" 3 := cfld_of (mo B 0 rfl) 3 "row" rfl (by decide +kernel) (by decide +kernel)
theorem cf_place (B : BF P K mg base) : CFld K (TT K) "place" 4 := cfld_of (mo B 0 rfl) 4 "place" rfl (by decide +kernel) (by decide +kernel)
theorem cf_name (B : BF P K mg base) : CFld K (TT K) "name" 5 := cfld_of (mo B 0 rfl) 5 "name" rfl (by decide +kernel) (by decide +kernel)
theorem cf_index (B : BF P K mg base) : CFld K (TT K) "index" 6 := cfld_of (mo B 0 rfl) 6 "index" rfl (by decide +kernel) (by decide +kernel)
theorem cf_count (B : BF P K mg base) : CFld K (TT K) "count" 7 := cfld_of (mo B 0 rfl) 7 "count" rfl (by decide +kernel) (by decide +kernel)
theorem cf_thread (B : BF P K mg base) : CFld K (TT K) "thread" 8 := cfld_of (mo B 0 rfl) 8 "thread" rfl (by decide +kernel) (by decide +kernel)
theorem cf_number (B : BF P K mg base) : CFld K (TT K) "number" 9 := cfld_of (mo B 0 rfl) 9 "number" rfl (by decide +kernel) (by decide +kernel)
theorem cf_steps (B : BF P K mg base) : CFld K (TT K) "steps" 10 := cfld_of (mo B 0 rfl) 10 "steps" rfl (by decide +kernel) (by decide +kernel)
theorem cf_line (B : BF P K mg base) : CFld K (TT K) "line" 11 := cfld_of (mo B 0 rfl) 11 "line" rfl (by decide +kernel) (by decide +kernel)

theorem xf_line (B : BF P K mg base) : XfE K (TT K) "line" 11 := xfE_of (cf_line B) (mo B 1 rfl) (mo B 18 rfl)
theorem xf_index (B : BF P K mg base) : XfE K (TT K) "index" 6 := xfE_of (cf_index B) (mo B 1 rfl) (mo B 19 rfl)
theorem xf_steps (B : BF P K mg base) : XfE K (TT K) "steps" 10 := xfE_of (cf_steps B) (mo B 1 rfl) (mo B 20 rfl)
theorem xf_number (B : BF P K mg base) : XfE K (TT K) "number" 9 := xfE_of (cf_number B) (mo B 1 rfl) (mo B 21 rfl)
theorem xf_thread (B : BF P K mg base) : XfE K (TT K) "thread" 8 := xfE_of (cf_thread B) (mo B 1 rfl) (mo B 22 rfl)
theorem xf_count (B : BF P K mg base) : XfE K (TT K) "count" 7 := xfE_of (cf_count B) (mo B 1 rfl) (mo B 23 rfl)
theorem xf_name (B : BF P K mg base) : XfE K (TT K) "name" 5 := xfE_of (cf_name B) (mo B 1 rfl) (mo B 24 rfl)
theorem xf_place (B : BF P K mg base) : XfE K (TT K) "place" 4 := xfE_of (cf_place B) (mo B 1 rfl) (mo B 25 rfl)
theorem xf_row (B : BF P K mg base) : XfE K (TT K) "row" 3 := xfE_of (cf_row B) (mo B 1 rfl) (mo B 26 rfl)
theorem es_NoDeed : NdefX.nscB ["self", "__class__"] ["self"] [(("__class__" : Str))] e_NoDeed.scope = true := by decide +kernel
theorem ek_NoDeed (B : BF P K mg base) : ExnK P K e_NoDeed := exnB_ok B.prog (B.sx.sx.at 0 rfl) (mo B 27 rfl)
theorem cx0_NoDeed (B : BF P K mg base) : CalX0 P wo K mg base (TT K) "NoDeed" 12 := by
  obtain ⟨cc, cda, oc, od, osl, doc, pm, ctv, lk, T, hcd⟩ := (ek_NoDeed B).ex
  exact ⟨_, _, _, "self", ini0_ok (pl := _) T rfl lk hcd (NdefX.nscope_by es_NoDeed) rfl rfl rfl rfl (fre B 25 rfl) (fun _ => rfl) (fun _ => rfl), T.oex, (ek_NoDeed B).ini, (ek_NoDeed B).typ, .all fun us hl => match us, hl with | [_], _ => rfl, (glo B 2 rfl), rfl⟩
theorem es_BadScript : NdefX.nscB ["self", "line", "__class__"] ["self", "line"] [(("__class__" : Str))] e_BadScript.scope = true := by decide +kernel
theorem ek_BadScript (B : BF P K mg base) : ExnK P K e_BadScript := exnB_ok B.prog (B.sx.sx.at 1 rfl) (mo B 28 rfl)
theorem cxk_BadScript (B : BF P K mg base) : CalXK P wo K mg base (TT K) "BadScript" 13 11 "line" := by
  obtain ⟨cc, cda, oc, od, osl, doc, pm, ctv, lk, T, hcd⟩ := (ek_BadScript B).ex
  exact ⟨_, _, _, "self", ini_ok (pl := _) T rfl lk hcd (NdefX.nscope_by es_BadScript) rfl rfl rfl rfl (fre B 25 rfl) (ek_BadScript B).no (fun _ => rfl) (fun _ => rfl) (fun _ => rfl) rfl rfl rfl rfl, T.oex, (ek_BadScript B).ini, (ek_BadScript B).typ, .all fun us hl => match us, hl with | [_, _], _ => rfl, (glo B 3 rfl), rfl, fun _ _ => rfl⟩
theorem es_BadSeen : NdefX.nscB ["self", "index", "__class__"] ["self", "index"] [(("__class__" : Str))] e_BadSeen.scope = true := by decide +kernel
theorem ek_BadSeen (B : BF P K mg base) : ExnK P K e_BadSeen := exnB_ok B.prog (B.sx.sx.at 2 rfl) (mo B 29 rfl)
theorem cxk_BadSeen (B : BF P K mg base) : CalXK P wo K mg base (TT K) "BadSeen" 10 6 "index" := by
  obtain ⟨cc, cda, oc, od, osl, doc, pm, ctv, lk, T, hcd⟩ := (ek_BadSeen B).ex
  exact ⟨_, _, _, "self", ini_ok (pl := _) T rfl lk hcd (NdefX.nscope_by es_BadSeen) rfl rfl rfl rfl (fre B 25 rfl) (ek_BadSeen B).no (fun _ => rfl) (fun _ => rfl) (fun _ => rfl) rfl rfl rfl rfl, T.oex, (ek_BadSeen B).ini, (ek_BadSeen B).typ, .all fun us hl => match us, hl with | [_, _], _ => rfl, (glo B 4 rfl), rfl, fun _ _ => rfl⟩
theorem es_BadSteps : NdefX.nscB ["self", "steps", "__class__"] ["self", "steps"] [(("__class__" : Str))] e_BadSteps.scope = true := by decide +kernel
theorem ek_BadSteps (B : BF P K mg base) : ExnK P K e_BadSteps := exnB_ok B.prog (B.sx.sx.at 3 rfl) (mo B 30 rfl)
theorem cxk_BadSteps (B : BF P K mg base) : CalXK P wo K mg base (TT K) "BadSteps" 9 10 "steps" := by
  obtain ⟨cc, cda, oc, od, osl, doc, pm, ctv, lk, T, hcd⟩ := (ek_BadSteps B).ex
  exact ⟨_, _, _, "self", ini_ok (pl := _) T rfl lk hcd (NdefX.nscope_by es_BadSteps) rfl rfl rfl rfl (fre B 25 rfl) (ek_BadSteps B).no (fun _ => rfl) (fun _ => rfl) (fun _ => rfl) rfl rfl rfl rfl, T.oex, (ek_BadSteps B).ini, (ek_BadSteps B).typ, .all fun us hl => match us, hl with | [_, _], _ => rfl, (glo B 5 rfl), rfl, fun _ _ => rfl⟩
theorem es_Enough : NdefX.nscB ["self", "number", "__class__"] ["self", "number"] [(("__class__" : Str))] e_Enough.scope = true := by decide +kernel
theorem ek_Enough (B : BF P K mg base) : ExnK P K e_Enough := exnB_ok B.prog (B.sx.sx.at 4 rfl) (mo B 31 rfl)
theorem cxk_Enough (B : BF P K mg base) : CalXK P wo K mg base (TT K) "Enough" 8 9 "number" := by
  obtain ⟨cc, cda, oc, od, osl, doc, pm, ctv, lk, T, hcd⟩ := (ek_Enough B).ex
  exact ⟨_, _, _, "self", ini_ok (pl := _) T rfl lk hcd (NdefX.nscope_by es_Enough) rfl rfl rfl rfl (fre B 25 rfl) (ek_Enough B).no (fun _ => rfl) (fun _ => rfl) (fun _ => rfl) rfl rfl rfl rfl, T.oex, (ek_Enough B).ini, (ek_Enough B).typ, .all fun us hl => match us, hl with | [_, _], _ => rfl, (glo B 6 rfl), rfl, fun _ _ => rfl⟩
theorem es_BadText : NdefX.nscB ["self", "line", "__class__"] ["self", "line"] [(("__class__" : Str))] e_BadText.scope = true := by decide +kernel
theorem ek_BadText (B : BF P K mg base) : ExnK P K e_BadText := exnB_ok B.prog (B.sx.sx.at 5 rfl) (mo B 32 rfl)
theorem cxk_BadText (B : BF P K mg base) : CalXK P wo K mg base (TT K) "BadText" 11 11 "line" := by
  obtain ⟨cc, cda, oc, od, osl, doc, pm, ctv, lk, T, hcd⟩ := (ek_BadText B).ex
  exact ⟨_, _, _, "self", ini_ok (pl := _) T rfl lk hcd (NdefX.nscope_by es_BadText) rfl rfl rfl rfl (fre B 25 rfl) (ek_BadText B).no (fun _ => rfl) (fun _ => rfl) (fun _ => rfl) rfl rfl rfl rfl, T.oex, (ek_BadText B).ini, (ek_BadText B).typ, .all fun us hl => match us, hl with | [_, _], _ => rfl, (glo B 7 rfl), rfl, fun _ _ => rfl⟩
theorem es_BadThread : NdefX.nscB ["self", "thread", "__class__"] ["self", "thread"] [(("__class__" : Str))] e_BadThread.scope = true := by decide +kernel
theorem ek_BadThread (B : BF P K mg base) : ExnK P K e_BadThread := exnB_ok B.prog (B.sx.sx.at 6 rfl) (mo B 33 rfl)
theorem cxk_BadThread (B : BF P K mg base) : CalXK P wo K mg base (TT K) "BadThread" 7 8 "thread" := by
  obtain ⟨cc, cda, oc, od, osl, doc, pm, ctv, lk, T, hcd⟩ := (ek_BadThread B).ex
  exact ⟨_, _, _, "self", ini_ok (pl := _) T rfl lk hcd (NdefX.nscope_by es_BadThread) rfl rfl rfl rfl (fre B 25 rfl) (ek_BadThread B).no (fun _ => rfl) (fun _ => rfl) (fun _ => rfl) rfl rfl rfl rfl, T.oex, (ek_BadThread B).ini, (ek_BadThread B).typ, .all fun us hl => match us, hl with | [_, _], _ => rfl, (glo B 8 rfl), rfl, fun _ _ => rfl⟩
theorem es_BadCount : NdefX.nscB ["self", "count", "__class__"] ["self", "count"] [(("__class__" : Str))] e_BadCount.scope = true := by decide +kernel
theorem ek_BadCount (B : BF P K mg base) : ExnK P K e_BadCount := exnB_ok B.prog (B.sx.sx.at 7 rfl) (mo B 34 rfl)
theorem cxk_BadCount (B : BF P K mg base) : CalXK P wo K mg base (TT K) "BadCount" 6 7 "count" := by
  obtain ⟨cc, cda, oc, od, osl, doc, pm, ctv, lk, T, hcd⟩ := (ek_BadCount B).ex
  exact ⟨_, _, _, "self", ini_ok (pl := _) T rfl lk hcd (NdefX.nscope_by es_BadCount) rfl rfl rfl rfl (fre B 25 rfl) (ek_BadCount B).no (fun _ => rfl) (fun _ => rfl) (fun _ => rfl) rfl rfl rfl rfl, T.oex, (ek_BadCount B).ini, (ek_BadCount B).typ, .all fun us hl => match us, hl with | [_, _], _ => rfl, (glo B 9 rfl), rfl, fun _ _ => rfl⟩
theorem es_BadRun : NdefX.nscB ["self", "index", "__class__"] ["self", "index"] [(("__class__" : Str))] e_BadRun.scope = true := by decide +kernel
theorem ek_BadRun (B : BF P K mg base) : ExnK P K e_BadRun := exnB_ok B.prog (B.sx.sx.at 8 rfl) (mo B 35 rfl)
theorem cxk_BadRun (B : BF P K mg base) : CalXK P wo K mg base (TT K) "BadRun" 5 6 "index" := by
  obtain ⟨cc, cda, oc, od, osl, doc, pm, ctv, lk, T, hcd⟩ := (ek_BadRun B).ex
  exact ⟨_, _, _, "self", ini_ok (pl := _) T rfl lk hcd (NdefX.nscope_by es_BadRun) rfl rfl rfl rfl (fre B 25 rfl) (ek_BadRun B).no (fun _ => rfl) (fun _ => rfl) (fun _ => rfl) rfl rfl rfl rfl, T.oex, (ek_BadRun B).ini, (ek_BadRun B).typ, .all fun us hl => match us, hl with | [_, _], _ => rfl, (glo B 10 rfl), rfl, fun _ _ => rfl⟩
theorem es_BadCell : NdefX.nscB ["self", "name", "__class__"] ["self", "name"] [(("__class__" : Str))] e_BadCell.scope = true := by decide +kernel
theorem ek_BadCell (B : BF P K mg base) : ExnK P K e_BadCell := exnB_ok B.prog (B.sx.sx.at 9 rfl) (mo B 36 rfl)
theorem cxk_BadCell (B : BF P K mg base) : CalXK P wo K mg base (TT K) "BadCell" 4 5 "name" := by
  obtain ⟨cc, cda, oc, od, osl, doc, pm, ctv, lk, T, hcd⟩ := (ek_BadCell B).ex
  exact ⟨_, _, _, "self", ini_ok (pl := _) T rfl lk hcd (NdefX.nscope_by es_BadCell) rfl rfl rfl rfl (fre B 25 rfl) (ek_BadCell B).no (fun _ => rfl) (fun _ => rfl) (fun _ => rfl) rfl rfl rfl rfl, T.oex, (ek_BadCell B).ini, (ek_BadCell B).typ, .all fun us hl => match us, hl with | [_, _], _ => rfl, (glo B 11 rfl), rfl, fun _ _ => rfl⟩
theorem es_BadField : NdefX.nscB ["self", "place", "__class__"] ["self", "place"] [(("__class__" : Str))] e_BadField.scope = true := by decide +kernel
theorem ek_BadField (B : BF P K mg base) : ExnK P K e_BadField := exnB_ok B.prog (B.sx.sx.at 10 rfl) (mo B 37 rfl)
theorem cxk_BadField (B : BF P K mg base) : CalXK P wo K mg base (TT K) "BadField" 3 4 "place" := by
  obtain ⟨cc, cda, oc, od, osl, doc, pm, ctv, lk, T, hcd⟩ := (ek_BadField B).ex
  exact ⟨_, _, _, "self", ini_ok (pl := _) T rfl lk hcd (NdefX.nscope_by es_BadField) rfl rfl rfl rfl (fre B 25 rfl) (ek_BadField B).no (fun _ => rfl) (fun _ => rfl) (fun _ => rfl) rfl rfl rfl rfl, T.oex, (ek_BadField B).ini, (ek_BadField B).typ, .all fun us hl => match us, hl with | [_, _], _ => rfl, (glo B 12 rfl), rfl, fun _ _ => rfl⟩
theorem es_NotOnce : NdefX.nscB ["self", "row", "__class__"] ["self", "row"] [(("__class__" : Str))] e_NotOnce.scope = true := by decide +kernel
theorem ek_NotOnce (B : BF P K mg base) : ExnK P K e_NotOnce := exnB_ok B.prog (B.sx.sx.at 11 rfl) (mo B 38 rfl)
theorem cxk_NotOnce (B : BF P K mg base) : CalXK P wo K mg base (TT K) "NotOnce" 2 3 "row" := by
  obtain ⟨cc, cda, oc, od, osl, doc, pm, ctv, lk, T, hcd⟩ := (ek_NotOnce B).ex
  exact ⟨_, _, _, "self", ini_ok (pl := _) T rfl lk hcd (NdefX.nscope_by es_NotOnce) rfl rfl rfl rfl (fre B 25 rfl) (ek_NotOnce B).no (fun _ => rfl) (fun _ => rfl) (fun _ => rfl) rfl rfl rfl rfl, T.oex, (ek_NotOnce B).ini, (ek_NotOnce B).typ, .all fun us hl => match us, hl with | [_, _], _ => rfl, (glo B 13 rfl), rfl, fun _ _ => rfl⟩
theorem es_BadProgram : NdefX.nscB ["self", "row", "__class__"] ["self", "row"] [(("__class__" : Str))] e_BadProgram.scope = true := by decide +kernel
theorem ek_BadProgram (B : BF P K mg base) : ExnK P K e_BadProgram := exnB_ok B.prog (B.sx.sx.at 12 rfl) (mo B 39 rfl)
theorem cxk_BadProgram (B : BF P K mg base) : CalXK P wo K mg base (TT K) "BadProgram" 1 3 "row" := by
  obtain ⟨cc, cda, oc, od, osl, doc, pm, ctv, lk, T, hcd⟩ := (ek_BadProgram B).ex
  exact ⟨_, _, _, "self", ini_ok (pl := _) T rfl lk hcd (NdefX.nscope_by es_BadProgram) rfl rfl rfl rfl (fre B 25 rfl) (ek_BadProgram B).no (fun _ => rfl) (fun _ => rfl) (fun _ => rfl) rfl rfl rfl rfl, T.oex, (ek_BadProgram B).ini, (ek_BadProgram B).typ, .all fun us hl => match us, hl with | [_, _], _ => rfl, (glo B 14 rfl), rfl, fun _ _ => rfl⟩
theorem sc__law_kinds : FnScope ["_law_e", "_law_found"] ["_law_e"] (defScope st__law_kinds) := ⟨rfl, rfl, rfl, by decide +kernel, rfl, by decide +kernel, by decide +kernel⟩
theorem ss__law_kinds (B : BF P K mg base) {f : Addr} {cdv : Value} {A : Around} {outer : List PySem.Env} {s : Shared} {H : Hp} {E : XK} (hr : Room 0 (A.deeper (envOfC "_law_kinds" (defScope st__law_kinds) s.heap.objs.size f cdv))) :
    SSs K (TT K) 0 (cxOf (L2.CX P wo) P wo K mg base ["_law_e", "_law_found"] "_law_kinds" (defScope st__law_kinds) f cdv A outer s H E) (fun c d _ H => E c d H) (defBody st__law_kinds) m__law_kinds :=
  have nd : ∀ {X : Cx}, X.N = (["_law_e", "_law_found"] : List Str) → X.N.Nodup := fun e => by rw [e]; decide +kernel
  (ss_cons (ss_own (j := 0) (i := 1) (se_lst (sa_cons rfl (w_isX rfl (kitE_of (mo B 1 rfl) (mo B 15 rfl)) (fre B 0 rfl) (glo B 14 rfl) rfl rfl (by decide) rfl (se_rawVar (pv 0))) (sa_cons rfl (w_isX rfl (kitE_of (mo B 1 rfl) (mo B 14 rfl)) (fre B 0 rfl) (glo B 13 rfl) rfl rfl (by decide) rfl (se_rawVar (pv 0))) (sa_cons rfl (w_isX rfl (kitE_of (mo B 1 rfl) (mo B 13 rfl)) (fre B 0 rfl) (glo B 12 rfl) rfl rfl (by decide) rfl (se_rawVar (pv 0))) (sa_cons rfl (w_isX rfl (kitE_of (mo B 1 rfl) (mo B 12 rfl)) (fre B 0 rfl) (glo B 11 rfl) rfl rfl (by decide) rfl (se_rawVar (pv 0))) sa_nil))))) (nd rfl) rfl (by first | exact Or.inl rfl | exact Or.inr rfl) (.inl rfl) rfl)
    (ss_cons (ss_own (j := 0) (i := 1) (w_add rfl (se_rawVar (pv 1)) (se_raw (se_tree (se_lst (sa_cons rfl (w_isX rfl (kitE_of (mo B 1 rfl) (mo B 11 rfl)) (fre B 0 rfl) (glo B 10 rfl) rfl rfl (by decide) rfl (se_rawVar (pv 0))) (sa_cons rfl (w_isX rfl (kitE_of (mo B 1 rfl) (mo B 10 rfl)) (fre B 0 rfl) (glo B 9 rfl) rfl rfl (by decide) rfl (se_rawVar (pv 0))) (sa_cons rfl (w_isX rfl (kitE_of (mo B 1 rfl) (mo B 9 rfl)) (fre B 0 rfl) (glo B 8 rfl) rfl rfl (by decide) rfl (se_rawVar (pv 0))) (sa_cons rfl (w_isX rfl (kitE_of (mo B 1 rfl) (mo B 8 rfl)) (fre B 0 rfl) (glo B 7 rfl) rfl rfl (by decide) rfl (se_rawVar (pv 0))) sa_nil)))))))) (nd rfl) rfl (by first | exact Or.inl rfl | exact Or.inr rfl) (.inl rfl) rfl)
    (ss_cons (ss_own (j := 0) (i := 1) (w_add rfl (se_rawVar (pv 1)) (se_raw (se_tree (se_lst (sa_cons rfl (w_isX rfl (kitE_of (mo B 1 rfl) (mo B 7 rfl)) (fre B 0 rfl) (glo B 6 rfl) rfl rfl (by decide) rfl (se_rawVar (pv 0))) (sa_cons rfl (w_isX rfl (kitE_of (mo B 1 rfl) (mo B 6 rfl)) (fre B 0 rfl) (glo B 5 rfl) rfl rfl (by decide) rfl (se_rawVar (pv 0))) (sa_cons rfl (w_isX rfl (kitE_of (mo B 1 rfl) (mo B 5 rfl)) (fre B 0 rfl) (glo B 4 rfl) rfl rfl (by decide) rfl (se_rawVar (pv 0))) sa_nil))))))) (nd rfl) rfl (by first | exact Or.inl rfl | exact Or.inr rfl) (.inl rfl) rfl)
    (ss_one (ss_ret (se_own0 (se_tree (w_add rfl (se_rawVar (pv 1)) (se_raw (se_tree (se_lst (sa_cons rfl (w_isX rfl (kitE_of (mo B 1 rfl) (mo B 4 rfl)) (fre B 0 rfl) (glo B 3 rfl) rfl rfl (by decide) rfl (se_rawVar (pv 0))) (sa_cons rfl (w_isX rfl (kitE_of (mo B 1 rfl) (mo B 3 rfl)) (fre B 0 rfl) (glo B 2 rfl) rfl rfl (by decide) rfl (se_rawVar (pv 0))) sa_nil)))))))))))))
theorem ok__law_kinds (B : BF P K mg base) : ∃ fd, FnOk P wo K mg base (L2.CX P wo) 1 (He.fAd K d__law_kinds.at_) fd ["_law_e"] (spOf K (TT K) fn__law_kinds) ∧ Binds K fd ["_law_e"] [] ∧ PySem.W.keepIn K (.ref (He.fAd K d__law_kinds.at_)) = true := by
  obtain ⟨fd, F⟩ := dfn B 0 (d := d__law_kinds) rfl
  exact ⟨fd, fn_snd (N := ["_law_e", "_law_found"]) (ps := ["_law_e"]) (m := m__law_kinds) F sc__law_kinds (by decide) fun cdv A outer s H E hr => ss__law_kinds B hr, F.bindsN (fun _ _ _ _ _ _ us hl => match us, hl with | [_], _ => rfl), F.kp⟩
theorem c__law_kinds (B : BF P K mg base) : Cal P wo K mg base (TT K) 1 "_law_kinds" fn__law_kinds := by
  obtain ⟨fd, a, b, c⟩ := ok__law_kinds (P := P) (wo := wo) B
  exact ⟨_, fd, _, a, (glo B 15 rfl), c, b⟩
theorem sc__law_draw : FnScope ["_law_source_here", "_law_many", "_law_digit", "_law_mixed"] ["_law_source_here", "_law_many"] (defScope st__law_draw) := ⟨rfl, rfl, rfl, by decide +kernel, rfl, by decide +kernel, by decide +kernel⟩
theorem ss__law_draw (B : BF P K mg base) {f : Addr} {cdv : Value} {A : Around} {outer : List PySem.Env} {s : Shared} {H : Hp} {E : XK} (hr : Room 0 (A.deeper (envOfC "_law_draw" (defScope st__law_draw) s.heap.objs.size f cdv))) :
    SSs K (TT K) 0 (cxOf (L2.CX P wo) P wo K mg base ["_law_source_here", "_law_many", "_law_digit", "_law_mixed"] "_law_draw" (defScope st__law_draw) f cdv A outer s H E) (fun c d _ H => E c d H) (defBody st__law_draw) m__law_draw :=
  have nd : ∀ {X : Cx}, X.N = (["_law_source_here", "_law_many", "_law_digit", "_law_mixed"] : List Str) → X.N.Nodup := fun e => by rw [e]; decide +kernel
  (ss_cons (ss_setIx (roomU hr) (se_tree (w_add rfl (se_raw (w_ix rfl hr (se_rawVar (pv 0)) (se_raw w_int) (fun _ _ => rfl))) (se_raw w_int))) (se_rawVar (pv 0)) w_int (fun _ => rfl) rfl rfl rfl)
    (ss_cons (ss_if (st_cmp (w_gt (se_raw (w_ix rfl hr (se_rawVar (pv 0)) (se_raw w_int) (fun _ _ => rfl))) (se_raw w_int))) (ss_cons (ss_own (j := 0) (i := 2) (w_mod (se_raw (se_tree (w_bint rfl (fre B 20 rfl) rfl rfl (se_raw (w_ix rfl hr (se_rawVar (pv 0)) (se_raw w_int) (fun _ _ => rfl)))))) (se_rawVar (pv 1))) (nd rfl) rfl (by first | exact Or.inl rfl | exact Or.inr rfl) (.inl rfl) rfl)
    (ss_cons (ss_setIx (roomU hr) (se_tree (w_div (se_raw (w_ix rfl hr (se_rawVar (pv 0)) (se_raw w_int) (fun _ _ => rfl))) (se_rawVar (pv 1)))) (se_rawVar (pv 0)) w_int (fun _ => rfl) rfl rfl rfl)
    (ss_one (ss_ret (se_own0 (se_get (pv 2))))))) ss_nil)
    (ss_cons (ss_own (j := 0) (i := 3) (w_mod (se_raw (se_tree (w_pow (se_raw (se_tree (w_add rfl (se_raw (w_ix rfl hr (se_rawVar (pv 0)) (se_raw w_int) (fun _ _ => rfl))) (se_raw (se_tree (w_mul (se_raw w_int) (se_raw (w_ix rfl hr (se_rawVar (pv 0)) (se_raw w_int) (fun _ _ => rfl))))))))) (se_raw w_int)))) (se_raw w_int)) (nd rfl) rfl (by first | exact Or.inl rfl | exact Or.inr rfl) (.inl rfl) rfl)
    (ss_one (ss_ret (se_own0 (se_tree (w_mod (se_raw (se_tree (w_mod (se_raw (se_tree (w_pow (se_raw (se_tree (w_add rfl (se_raw (se_tree (w_add rfl (se_raw (se_tree (w_mul (se_rawVar (pv 3)) (se_raw w_int)))) (se_raw (se_tree (w_mul (se_raw (se_tree (w_mul (se_raw w_int) (se_raw (w_ix rfl hr (se_rawVar (pv 0)) (se_raw w_int) (fun _ _ => rfl)))))) (se_raw (w_ix rfl hr (se_rawVar (pv 0)) (se_raw w_int) (fun _ _ => rfl))))))))) (se_raw w_int)))) (se_raw w_int)))) (se_raw w_int)))) (se_rawVar (pv 1))))))))))
theorem ok__law_draw (B : BF P K mg base) : ∃ fd, FnOk P wo K mg base (L2.CX P wo) 1 (He.fAd K d__law_draw.at_) fd ["_law_source_here", "_law_many"] (spOf K (TT K) fn__law_draw) ∧ Binds K fd ["_law_source_here", "_law_many"] [] ∧ PySem.W.keepIn K (.ref (He.fAd K d__law_draw.at_)) = true := by
  obtain ⟨fd, F⟩ := dfn B 1 (d := d__law_draw) rfl
  exact ⟨fd, fn_snd (N := ["_law_source_here", "_law_many", "_law_digit", "_law_mixed"]) (ps := ["_law_source_here", "_law_many"]) (m := m__law_draw) F sc__law_draw (by decide) fun cdv A outer s H E hr => ss__law_draw B hr, F.bindsN (fun _ _ _ _ _ _ us hl => match us, hl with | [_, _], _ => rfl), F.kp⟩
theorem c__law_draw (B : BF P K mg base) : Cal P wo K mg base (TT K) 1 "_law_draw" fn__law_draw := by
  obtain ⟨fd, a, b, c⟩ := ok__law_draw (P := P) (wo := wo) B
  exact ⟨_, fd, _, a, (glo B 21 rfl), c, b⟩
theorem sc__law_pick : FnScope ["_law_source_here", "_law_things"] ["_law_source_here", "_law_things"] (defScope st__law_pick) := ⟨rfl, rfl, rfl, by decide +kernel, rfl, by decide +kernel, by decide +kernel⟩
theorem ss__law_pick (B : BF P K mg base) {f : Addr} {cdv : Value} {A : Around} {outer : List PySem.Env} {s : Shared} {H : Hp} {E : XK} (hr : Room 1 (A.deeper (envOfC "_law_pick" (defScope st__law_pick) s.heap.objs.size f cdv))) :
    SSs K (TT K) 0 (cxOf (L2.CX P wo) P wo K mg base ["_law_source_here", "_law_things"] "_law_pick" (defScope st__law_pick) f cdv A outer s H E) (fun c d _ H => E c d H) (defBody st__law_pick) m__law_pick :=
  have nd : ∀ {X : Cx}, X.N = (["_law_source_here", "_law_things"] : List Str) → X.N.Nodup := fun e => by rw [e]; decide +kernel
  (ss_one (ss_ret (se_own0 (w_ix rfl hr (se_rawVar (pv 1)) (se_raw (se_tree (w_call (fn := fn__law_draw) rfl ((c__law_draw B).mono (show 1 ≤ 1 by decide)) hr takes_def rfl (sa_cons rfl (se_rawVar (pv 0)) (sa_cons rfl (se_raw (w_len rfl (fre B 18 rfl) rfl rfl (se_rawVar (pv 1)))) sa_nil)) (by decide) rfl rfl))) (fun _ _ => rfl)))))
theorem ok__law_pick (B : BF P K mg base) : ∃ fd, FnOk P wo K mg base (L2.CX P wo) 2 (He.fAd K d__law_pick.at_) fd ["_law_source_here", "_law_things"] (spOf K (TT K) fn__law_pick) ∧ Binds K fd ["_law_source_here", "_law_things"] [] ∧ PySem.W.keepIn K (.ref (He.fAd K d__law_pick.at_)) = true := by
  obtain ⟨fd, F⟩ := dfn B 2 (d := d__law_pick) rfl
  exact ⟨fd, fn_snd (N := ["_law_source_here", "_law_things"]) (ps := ["_law_source_here", "_law_things"]) (m := m__law_pick) F sc__law_pick (by decide) fun cdv A outer s H E hr => ss__law_pick B hr, F.bindsN (fun _ _ _ _ _ _ us hl => match us, hl with | [_, _], _ => rfl), F.kp⟩
theorem c__law_pick (B : BF P K mg base) : Cal P wo K mg base (TT K) 2 "_law_pick" fn__law_pick := by
  obtain ⟨fd, a, b, c⟩ := ok__law_pick (P := P) (wo := wo) B
  exact ⟨_, fd, _, a, (glo B 22 rfl), c, b⟩
theorem sc__law_source : FnScope ["_law_script", "_law_great", "_law_seed", "_law_cell"] ["_law_script"] (defScope st__law_source) := ⟨rfl, rfl, rfl, by decide +kernel, rfl, by decide +kernel, by decide +kernel⟩
theorem ss__law_source (B : BF P K mg base) {f : Addr} {cdv : Value} {A : Around} {outer : List PySem.Env} {s : Shared} {H : Hp} {E : XK} (hr : Room 0 (A.deeper (envOfC "_law_source" (defScope st__law_source) s.heap.objs.size f cdv))) :
    SSs K (TT K) 1 (cxOf (L2.CX P wo) P wo K mg base ["_law_script", "_law_great", "_law_seed", "_law_cell"] "_law_source" (defScope st__law_source) f cdv A outer s H E) (fun c d _ H => E c d H) (defBody st__law_source) m__law_source :=
  have nd : ∀ {X : Cx}, X.N = (["_law_script", "_law_great", "_law_seed", "_law_cell"] : List Str) → X.N.Nodup := fun e => by rw [e]; decide +kernel
  (ss_cons (ss_asg (se_tup (sa_cons rfl w_int (sa_cons rfl w_int sa_nil))) (pg_tup rfl (pgs_cons (pg_name (i := 1) (nd rfl) rfl (by first | exact Or.inl rfl | exact Or.inr rfl) (.inl rfl)) (pgs_cons (pg_name (i := 2) (nd rfl) rfl (by first | exact Or.inl rfl | exact Or.inr rfl) (.inl rfl)) pgs_nil rfl) rfl) rfl rfl) (sg_tup (sgs_cons sg_name (sgs_cons sg_name sgs_nil))) rfl rfl rfl)
    (ss_cons (ss_for passes_def rfl (si_all (se_rawVar (pv 0)) rfl) (pg_name (i := 3) (nd rfl) rfl (by first | exact Or.inl rfl | exact Or.inr rfl) (.inl rfl)) sg_name (ss_cons (ss_if (st_pw (sw_and (st_cmp (w_eq rfl hr (se_rawVar (pv 1)) (se_raw w_int))) (sw_and1 (st_cmp (w_ge (se_rawVar (pv 3)) (se_raw (se_tree (w_pow (se_raw w_int) (se_raw w_int))))))))) (ss_one (ss_set (i := 1) (se_get (pv 3)) (nd rfl) rfl (by first | exact Or.inl rfl | exact Or.inr rfl) (.inl rfl) rfl)) ss_nil)
    (ss_one (ss_own (j := 0) (i := 2) (w_mod (se_raw (se_tree (w_bint rfl (fre B 20 rfl) rfl rfl (se_raw (se_tree (w_add rfl (se_raw (se_tree (w_add rfl (se_raw (se_tree (w_mul (se_rawVar (pv 2)) (se_raw w_int)))) (se_rawVar (pv 3))))) (se_raw w_int))))))) (se_raw w_int)) (nd rfl) rfl (by first | exact Or.inl rfl | exact Or.inr rfl) (.inl rfl) rfl))) (fun _ => rfl))
    (ss_one (ss_ret (se_lst (sa_cons rfl (se_get (pv 1)) (sa_cons rfl (se_get (pv 2)) (sa_cons rfl w_int sa_nil))))))))
theorem ok__law_source (B : BF P K mg base) : ∃ fd, FnOk P wo K mg base (L2.CX P wo) 1 (He.fAd K d__law_source.at_) fd ["_law_script"] (spOf K (TT K) fn__law_source) ∧ Binds K fd ["_law_script"] [] ∧ PySem.W.keepIn K (.ref (He.fAd K d__law_source.at_)) = true := by
  obtain ⟨fd, F⟩ := dfn B 3 (d := d__law_source) rfl
  exact ⟨fd, fn_snd (N := ["_law_script", "_law_great", "_law_seed", "_law_cell"]) (ps := ["_law_script"]) (m := m__law_source) F sc__law_source (by decide) fun cdv A outer s H E hr => ss__law_source B hr, F.bindsN (fun _ _ _ _ _ _ us hl => match us, hl with | [_], _ => rfl), F.kp⟩
theorem c__law_source (B : BF P K mg base) : Cal P wo K mg base (TT K) 1 "_law_source" fn__law_source := by
  obtain ⟨fd, a, b, c⟩ := ok__law_source (P := P) (wo := wo) B
  exact ⟨_, fd, _, a, (glo B 23 rfl), c, b⟩
theorem sc_law : FnScope ["_law_script", "_law_source_here", "_law_x", "_law_pairs", "_law_errors", "_law_fields", "_law_k", "_law_base", "_law_pair", "_law_j"] ["_law_script"] (defScope st_law) := ⟨rfl, rfl, rfl, by decide +kernel, rfl, by decide +kernel, by decide +kernel⟩
theorem ss_law (B : BF P K mg base) {f : Addr} {cdv : Value} {A : Around} {outer : List PySem.Env} {s : Shared} {H : Hp} {E : XK} (hr : Room 2 (A.deeper (envOfC "law" (defScope st_law) s.heap.objs.size f cdv))) :
    SSs K (TT K) 0 (cxOf (L2.CX P wo) P wo K mg base ["_law_script", "_law_source_here", "_law_x", "_law_pairs", "_law_errors", "_law_fields", "_law_k", "_law_base", "_law_pair", "_law_j"] "law" (defScope st_law) f cdv A outer s H E) (fun c d _ H => E c d H) (defBody st_law) m_law :=
  have nd : ∀ {X : Cx}, X.N = (["_law_script", "_law_source_here", "_law_x", "_law_pairs", "_law_errors", "_law_fields", "_law_k", "_law_base", "_law_pair", "_law_j"] : List Str) → X.N.Nodup := fun e => by rw [e]; decide +kernel
  (ss_cons (ss_own (j := 0) (i := 1) (w_call (fn := fn__law_source) rfl ((c__law_source B).mono (show 1 ≤ 2 by decide)) hr takes_def rfl (sa_cons rfl (se_rawVar (pv 0)) sa_nil) (by decide) rfl rfl) (nd rfl) rfl (by first | exact Or.inl rfl | exact Or.inr rfl) (.inl rfl) rfl)
    (ss_cons (ss_set (i := 2) (se_tree (w_call (fn := fn__law_pick) rfl ((c__law_pick B).mono (show 2 ≤ 2 by decide)) hr takes_def rfl (sa_cons rfl (se_rawVar (pv 1)) (sa_cons rfl (se_raw (se_tree (se_lst (sa_cons rfl w_non (sa_cons rfl w_int (sa_cons rfl (w_str [97] (by decide +kernel) (by decide)) (sa_cons rfl (se_tup (sa_cons rfl (w_str [97] (by decide +kernel) (by decide)) (sa_cons rfl w_int sa_nil))) (sa_cons rfl (se_tree (se_lst (sa_cons rfl (w_str [98] (by decide +kernel) (by decide)) sa_nil))) (sa_cons rfl (se_tree (se_dict0 (j := 0))) (sa_cons rfl (se_tree (w_powB (se_raw (se_tree (w_powB (se_raw (se_tree (w_powB (se_raw w_int) (se_raw w_int)))) (se_raw w_int)))) (se_raw w_int))) (sa_cons rfl w_bl sa_nil))))))))))) sa_nil)) (by decide) rfl rfl)) (nd rfl) rfl (by first | exact Or.inl rfl | exact Or.inr rfl) (.inl rfl) rfl)
    (ss_cons (ss_own (j := 0) (i := 3) (se_lst (sa_cons rfl (se_tup (sa_cons rfl (w_xf rfl (xf_row B) (se_raw (se_mkx rfl (cxk_BadProgram B).pos (Room.mono hr (show 2 ≤ 2 by decide)) rfl rfl rfl (se_get (pv 2)))) rfl) (sa_cons rfl (se_mkxK rfl (cxk_BadProgram B) (Room.mono hr (show 2 ≤ 2 by decide)) rfl rfl rfl rfl rfl rfl (se_get (pv 2))) sa_nil))) (sa_cons rfl (se_tup (sa_cons rfl (w_xf rfl (xf_row B) (se_raw (se_mkx rfl (cxk_NotOnce B).pos (Room.mono hr (show 2 ≤ 2 by decide)) rfl rfl rfl (se_get (pv 2)))) rfl) (sa_cons rfl (se_mkxK rfl (cxk_NotOnce B) (Room.mono hr (show 2 ≤ 2 by decide)) rfl rfl rfl rfl rfl rfl (se_get (pv 2))) sa_nil))) sa_nil))) (nd rfl) rfl (by first | exact Or.inl rfl | exact Or.inr rfl) (.inl rfl) rfl)
    (ss_cons (ss_own (j := 0) (i := 3) (w_add rfl (se_rawVar (pv 3)) (se_raw (se_tree (se_lst (sa_cons rfl (se_tup (sa_cons rfl (w_xf rfl (xf_place B) (se_raw (se_mkx rfl (cxk_BadField B).pos (Room.mono hr (show 2 ≤ 2 by decide)) rfl rfl rfl (se_get (pv 2)))) rfl) (sa_cons rfl (se_mkxK rfl (cxk_BadField B) (Room.mono hr (show 2 ≤ 2 by decide)) rfl rfl rfl rfl rfl rfl (se_get (pv 2))) sa_nil))) (sa_cons rfl (se_tup (sa_cons rfl (w_xf rfl (xf_name B) (se_raw (se_mkx rfl (cxk_BadCell B).pos (Room.mono hr (show 2 ≤ 2 by decide)) rfl rfl rfl (se_get (pv 2)))) rfl) (sa_cons rfl (se_mkxK rfl (cxk_BadCell B) (Room.mono hr (show 2 ≤ 2 by decide)) rfl rfl rfl rfl rfl rfl (se_get (pv 2))) sa_nil))) sa_nil)))))) (nd rfl) rfl (by first | exact Or.inl rfl | exact Or.inr rfl) (.inl rfl) rfl)
    (ss_cons (ss_own (j := 0) (i := 3) (w_add rfl (se_rawVar (pv 3)) (se_raw (se_tree (se_lst (sa_cons rfl (se_tup (sa_cons rfl (w_xf rfl (xf_index B) (se_raw (se_mkx rfl (cxk_BadRun B).pos (Room.mono hr (show 2 ≤ 2 by decide)) rfl rfl rfl (se_get (pv 2)))) rfl) (sa_cons rfl (se_mkxK rfl (cxk_BadRun B) (Room.mono hr (show 2 ≤ 2 by decide)) rfl rfl rfl rfl rfl rfl (se_get (pv 2))) sa_nil))) (sa_cons rfl (se_tup (sa_cons rfl (w_xf rfl (xf_count B) (se_raw (se_mkx rfl (cxk_BadCount B).pos (Room.mono hr (show 2 ≤ 2 by decide)) rfl rfl rfl (se_get (pv 2)))) rfl) (sa_cons rfl (se_mkxK rfl (cxk_BadCount B) (Room.mono hr (show 2 ≤ 2 by decide)) rfl rfl rfl rfl rfl rfl (se_get (pv 2))) sa_nil))) sa_nil)))))) (nd rfl) rfl (by first | exact Or.inl rfl | exact Or.inr rfl) (.inl rfl) rfl)
    (ss_cons (ss_own (j := 0) (i := 3) (w_add rfl (se_rawVar (pv 3)) (se_raw (se_tree (se_lst (sa_cons rfl (se_tup (sa_cons rfl (w_xf rfl (xf_thread B) (se_raw (se_mkx rfl (cxk_BadThread B).pos (Room.mono hr (show 2 ≤ 2 by decide)) rfl rfl rfl (se_get (pv 2)))) rfl) (sa_cons rfl (se_mkxK rfl (cxk_BadThread B) (Room.mono hr (show 2 ≤ 2 by decide)) rfl rfl rfl rfl rfl rfl (se_get (pv 2))) sa_nil))) (sa_cons rfl (se_tup (sa_cons rfl (w_xf rfl (xf_line B) (se_raw (se_mkx rfl (cxk_BadText B).pos (Room.mono hr (show 2 ≤ 2 by decide)) rfl rfl rfl (se_get (pv 2)))) rfl) (sa_cons rfl (se_mkxK rfl (cxk_BadText B) (Room.mono hr (show 2 ≤ 2 by decide)) rfl rfl rfl rfl rfl rfl (se_get (pv 2))) sa_nil))) sa_nil)))))) (nd rfl) rfl (by first | exact Or.inl rfl | exact Or.inr rfl) (.inl rfl) rfl)
    (ss_cons (ss_own (j := 0) (i := 3) (w_add rfl (se_rawVar (pv 3)) (se_raw (se_tree (se_lst (sa_cons rfl (se_tup (sa_cons rfl (w_xf rfl (xf_number B) (se_raw (se_mkx rfl (cxk_Enough B).pos (Room.mono hr (show 2 ≤ 2 by decide)) rfl rfl rfl (se_get (pv 2)))) rfl) (sa_cons rfl (se_mkxK rfl (cxk_Enough B) (Room.mono hr (show 2 ≤ 2 by decide)) rfl rfl rfl rfl rfl rfl (se_get (pv 2))) sa_nil))) (sa_cons rfl (se_tup (sa_cons rfl (w_xf rfl (xf_steps B) (se_raw (se_mkx rfl (cxk_BadSteps B).pos (Room.mono hr (show 2 ≤ 2 by decide)) rfl rfl rfl (se_get (pv 2)))) rfl) (sa_cons rfl (se_mkxK rfl (cxk_BadSteps B) (Room.mono hr (show 2 ≤ 2 by decide)) rfl rfl rfl rfl rfl rfl (se_get (pv 2))) sa_nil))) sa_nil)))))) (nd rfl) rfl (by first | exact Or.inl rfl | exact Or.inr rfl) (.inl rfl) rfl)
    (ss_cons (ss_own (j := 0) (i := 3) (w_add rfl (se_rawVar (pv 3)) (se_raw (se_tree (se_lst (sa_cons rfl (se_tup (sa_cons rfl (w_xf rfl (xf_index B) (se_raw (se_mkx rfl (cxk_BadSeen B).pos (Room.mono hr (show 2 ≤ 2 by decide)) rfl rfl rfl (se_get (pv 2)))) rfl) (sa_cons rfl (se_mkxK rfl (cxk_BadSeen B) (Room.mono hr (show 2 ≤ 2 by decide)) rfl rfl rfl rfl rfl rfl (se_get (pv 2))) sa_nil))) (sa_cons rfl (se_tup (sa_cons rfl (w_xf rfl (xf_line B) (se_raw (se_mkx rfl (cxk_BadScript B).pos (Room.mono hr (show 2 ≤ 2 by decide)) rfl rfl rfl (se_get (pv 2)))) rfl) (sa_cons rfl (se_mkxK rfl (cxk_BadScript B) (Room.mono hr (show 2 ≤ 2 by decide)) rfl rfl rfl rfl rfl rfl (se_get (pv 2))) sa_nil))) sa_nil)))))) (nd rfl) rfl (by first | exact Or.inl rfl | exact Or.inr rfl) (.inl rfl) rfl)
    (ss_cons (ss_own (j := 0) (i := 4) (w_add rfl (se_raw (se_tree (se_lc (own := [("_law_pair", 8)]) rfl (nd rfl) (si_all (se_rawVar (pv 3)) rfl) (blkB_ok (by kernel_rfl)) (fun _ _ _ _ _ => (pg_name (i := 8) (nd rfl) rfl (by first | exact Or.inl rfl | exact Or.inr rfl) (.inr rfl))) sg_name (by decide) (fun _ _ _ _ _ => sts_nil) (fun _ _ _ _ _ => (w_ix rfl hr (se_rawVar (pv 8)) (se_raw w_int) (fun _ _ => rfl))) (fun _ => rfl)))) (se_raw (se_tree (se_lst (sa_cons rfl (se_mkx0 rfl (cx0_NoDeed B) (Room.mono hr (show 2 ≤ 2 by decide)) rfl rfl) sa_nil))))) (nd rfl) rfl (by first | exact Or.inl rfl | exact Or.inr rfl) (.inl rfl) rfl)
    (ss_cons (ss_own (j := 0) (i := 5) (se_lst (sa_cons rfl (w_xf rfl (xf_row B) (se_raw (w_ix rfl hr (se_rawVar (pv 4)) (se_raw w_int) (fun _ _ => rfl))) rfl) (sa_cons rfl (w_xf rfl (xf_row B) (se_raw (w_ix rfl hr (se_rawVar (pv 4)) (se_raw w_int) (fun _ _ => rfl))) rfl) (sa_cons rfl (w_xf rfl (xf_place B) (se_raw (w_ix rfl hr (se_rawVar (pv 4)) (se_raw w_int) (fun _ _ => rfl))) rfl) (sa_cons rfl (w_xf rfl (xf_name B) (se_raw (w_ix rfl hr (se_rawVar (pv 4)) (se_raw w_int) (fun _ _ => rfl))) rfl) (sa_cons rfl (w_xf rfl (xf_index B) (se_raw (w_ix rfl hr (se_rawVar (pv 4)) (se_raw w_int) (fun _ _ => rfl))) rfl) (sa_cons rfl (w_xf rfl (xf_count B) (se_raw (w_ix rfl hr (se_rawVar (pv 4)) (se_raw w_int) (fun _ _ => rfl))) rfl) sa_nil))))))) (nd rfl) rfl (by first | exact Or.inl rfl | exact Or.inr rfl) (.inl rfl) rfl)
    (ss_cons (ss_own (j := 0) (i := 5) (w_add rfl (se_rawVar (pv 5)) (se_raw (se_tree (se_lst (sa_cons rfl (w_xf rfl (xf_thread B) (se_raw (w_ix rfl hr (se_rawVar (pv 4)) (se_raw w_int) (fun _ _ => rfl))) rfl) (sa_cons rfl (w_xf rfl (xf_line B) (se_raw (w_ix rfl hr (se_rawVar (pv 4)) (se_raw w_int) (fun _ _ => rfl))) rfl) (sa_cons rfl (w_xf rfl (xf_number B) (se_raw (w_ix rfl hr (se_rawVar (pv 4)) (se_raw w_int) (fun _ _ => rfl))) rfl) sa_nil))))))) (nd rfl) rfl (by first | exact Or.inl rfl | exact Or.inr rfl) (.inl rfl) rfl)
    (ss_cons (ss_own (j := 0) (i := 5) (w_add rfl (se_rawVar (pv 5)) (se_raw (se_tree (se_lst (sa_cons rfl (w_xf rfl (xf_steps B) (se_raw (w_ix rfl hr (se_rawVar (pv 4)) (se_raw w_int) (fun _ _ => rfl))) rfl) (sa_cons rfl (w_xf rfl (xf_index B) (se_raw (w_ix rfl hr (se_rawVar (pv 4)) (se_raw w_int) (fun _ _ => rfl))) rfl) (sa_cons rfl (w_xf rfl (xf_line B) (se_raw (w_ix rfl hr (se_rawVar (pv 4)) (se_raw w_int) (fun _ _ => rfl))) rfl) sa_nil))))))) (nd rfl) rfl (by first | exact Or.inl rfl | exact Or.inr rfl) (.inl rfl) rfl)
    (ss_cons (ss_if (st_pw (sw_or (st_cmp (w_ne rfl hr (se_raw (se_tree (se_lc (own := [("_law_pair", 8)]) rfl (nd rfl) (si_all (se_rawVar (pv 3)) rfl) (blkB_ok (by kernel_rfl)) (fun _ _ _ _ _ => (pg_name (i := 8) (nd rfl) rfl (by first | exact Or.inl rfl | exact Or.inr rfl) (.inr rfl))) sg_name (by decide) (fun _ _ _ _ _ => sts_nil) (fun _ _ _ _ _ => (w_ix rfl hr (se_rawVar (pv 8)) (se_raw w_int) (fun _ _ => rfl))) (fun _ => rfl)))) (se_raw (se_tree (w_mul (se_raw (se_tree (se_lst (sa_cons rfl (se_get (pv 2)) sa_nil)))) (se_raw w_int)))))) (sw_or1 (st_cmp (w_ne rfl hr (se_rawVar (pv 5)) (se_raw (se_tree (w_mul (se_raw (se_tree (se_lst (sa_cons rfl (se_get (pv 2)) sa_nil)))) (se_raw w_int))))))))) (ss_one (ss_ret (se_own0 w_bl))) ss_nil)
    (ss_cons (ss_for passes_def rfl (si_range1 rfl (fre B 19 rfl) (sa_cons rfl (w_len rfl (fre B 18 rfl) rfl rfl (se_rawVar (pv 4))) sa_nil) rfl) (pg_name (i := 6) (nd rfl) rfl (by first | exact Or.inl rfl | exact Or.inr rfl) (.inl rfl)) sg_name (ss_cons (ss_if (st_pw (sw_or (st_not (w_t (w_isX rfl (kitE_of (mo B 1 rfl) (mo B 17 rfl)) (fre B 0 rfl) (glo B 17 rfl) rfl rfl (by decide) rfl (se_raw (w_ix rfl hr (se_rawVar (pv 4)) (se_rawVar (pv 6)) (fun _ _ => rfl)))) (fun _ => rfl))) (sw_or1 (st_not (w_t (w_isXT rfl (kitE_of (mo B 1 rfl) (mo B 2 rfl)) (fre B 0 rfl) (fre B 1 rfl) (by decide +kernel) rfl rfl (by decide) (by decide) rfl (se_raw (w_ix rfl hr (se_rawVar (pv 4)) (se_rawVar (pv 6)) (fun _ _ => rfl)))) (fun _ => rfl)))))) (ss_one (ss_ret (se_own0 w_bl))) ss_nil)
    (ss_one (ss_if (st_cmp (w_ne rfl hr (se_raw (se_tree (w_call (fn := fn__law_kinds) rfl ((c__law_kinds B).mono (show 1 ≤ 2 by decide)) hr takes_def rfl (sa_cons rfl (se_raw (w_ix rfl hr (se_rawVar (pv 4)) (se_rawVar (pv 6)) (fun _ _ => rfl))) sa_nil) (by decide) rfl rfl))) (se_raw (se_tree (se_lc (own := [("_law_j", 9)]) rfl (nd rfl) (si_range1 rfl (fre B 19 rfl) (sa_cons rfl (w_len rfl (fre B 18 rfl) rfl rfl (se_rawVar (pv 4))) sa_nil) rfl) (blkB_ok (by kernel_rfl)) (fun _ _ _ _ _ => (pg_name (i := 9) (nd rfl) rfl (by first | exact Or.inl rfl | exact Or.inr rfl) (.inr rfl))) sg_name (by decide) (fun _ _ _ _ _ => sts_nil) (fun _ _ _ _ _ => (w_eq rfl hr (se_rawVar (pv 6)) (se_rawVar (pv 9)))) (fun _ => rfl)))))) (ss_one (ss_ret (se_own0 w_bl))) ss_nil))) (fun _ => rfl))
    (ss_cons (ss_set (i := 7) (se_mkv (c := 0) rfl (mo B 16 rfl) rfl (glo B 17 rfl) rfl rfl rfl (w_str [119, 111, 114, 100, 115] (by decide +kernel) (by decide))) (nd rfl) rfl (by first | exact Or.inl rfl | exact Or.inr rfl) (.inl rfl) rfl)
    (ss_one (ss_ret (se_own0 (se_and (w_isXT rfl (kitE_of (mo B 1 rfl) (mo B 2 rfl)) (fre B 0 rfl) (fre B 1 rfl) (by decide +kernel) rfl rfl (by decide) (by decide) rfl (se_rawVar (pv 7))) (se_one (se_not (se_tree (w_bany rfl rfl (fre B 16 rfl) rfl rfl (se_raw (se_tree (w_call (fn := fn__law_kinds) rfl ((c__law_kinds B).mono (show 1 ≤ 2 by decide)) hr takes_def rfl (sa_cons rfl (se_rawVar (pv 7)) sa_nil) (by decide) rfl rfl))))))))))))))))))))))))))
theorem ok_law (B : BF P K mg base) : ∃ fd, FnOk P wo K mg base (L2.CX P wo) 3 (He.fAd K d_law.at_) fd ["_law_script"] (spOf K (TT K) fn_law) ∧ Binds K fd ["_law_script"] [] ∧ PySem.W.keepIn K (.ref (He.fAd K d_law.at_)) = true := by
  obtain ⟨fd, F⟩ := dfn B 4 (d := d_law) rfl
  exact ⟨fd, fn_snd (N := ["_law_script", "_law_source_here", "_law_x", "_law_pairs", "_law_errors", "_law_fields", "_law_k", "_law_base", "_law_pair", "_law_j"]) (ps := ["_law_script"]) (m := m_law) F sc_law (by decide) fun cdv A outer s H E hr => ss_law B hr, F.bindsN (fun _ _ _ _ _ _ us hl => match us, hl with | [_], _ => rfl), F.kp⟩
theorem c_law (B : BF P K mg base) : Cal P wo K mg base (TT K) 3 "law" fn_law := by
  obtain ⟨fd, a, b, c⟩ := ok_law (P := P) (wo := wo) B
  exact ⟨_, fd, _, a, (glo B 24 rfl), c, b⟩
end
end LawK17

set_option Elab.async false
set_option linter.all false
set_option maxRecDepth 100000
set_option maxHeartbeats 4000000
namespace LawK17
open PySem PySem.Spec PyProof.Rows L2 VM
def loose0 : List PySem.Str := [("CellError" : PySem.Str), ("BadProgram" : PySem.Str), ("NotOnce" : PySem.Str), ("BadField" : PySem.Str), ("BadCell" : PySem.Str), ("BadRun" : PySem.Str), ("BadCount" : PySem.Str), ("BadThread" : PySem.Str), ("Enough" : PySem.Str), ("BadSteps" : PySem.Str), ("BadSeen" : PySem.Str), ("BadText" : PySem.Str), ("NoDeed" : PySem.Str), ("BadScript" : PySem.Str), ("_law_source" : PySem.Str), ("_law_draw" : PySem.Str), ("_law_pick" : PySem.Str), ("_law_kinds" : PySem.Str)]
def loose : List PySem.Str := loose0
abbrev RR : PySem.W.OpenRow := PySem.W.OpenLaw.row PySem.Challenge.rw_coveredcells_k17_errors_made
abbrev hk : PySem.W.Hook := hookY 5 more fa dn en pn
def ob (s : PySem.W.SharedT) : AlY := obYG 5 more fa dn en pn (HandSHeadRun.getT s)
theorem ob_eq (s : PySem.W.SharedT) : ob s = hk.obs s.abs := obYG_eq (HandSHeadRun.getT_eq s)
set_option maxHeartbeats 0 in
theorem run (w : World) : HandSHeadRun.RunEq RR (PySem.W.view RR.prog [20]) hk ob 20000 loose w := by
  intro os
  kernel_rfl
end LawK17

set_option Elab.async false
set_option linter.all false
set_option maxRecDepth 100000
set_option maxHeartbeats 1000000
namespace LawK17
open VM
section
variable {e e' : VM.Env} {s s1 : Store} {f : ME} {d : D}
theorem sCons_at {a b : MS} {r : RS} (h : a e s = .nx e' s1) (q : b e' s1 = r) : sCons a b e s = r := (sCons_nx h).trans q
theorem sAsg_at {g : MG} (h : f e s = .ok d s1) (hg : g e d = some e') : sAsg g f e s = .nx e' s1 := by
  unfold sAsg RSb
  rw [h]
  dsimp only []
  rw [hg]
end
theorem pick_ok {xs : List D} {s : Store} {n : Nat} (h : Drw s n) (hn : n < 14000000) (h1 : 0 < xs.length) (h2 : xs.length < 1000) : ∃ x t, fn__law_pick.sem [.ref 0, .lst xs] s = .ok x t ∧ x ∈ xs ∧ Sm s t ∧ Drw t (n + 1) := by
  obtain ⟨m, t, q, m1, sm, dt⟩ := dr_at (e := [some (.ref 0), some (.lst xs)]) (i := 0) (f := op1 dLen (eRaw 1)) (many := xs.length) (s := s) rfl rfl h (by omega) h1 (by omega)
  have e : xs[m]? = some xs[m] := List.getElem?_eq_getElem m1
  refine ⟨xs[m], t, ?_, List.getElem_mem m1, sm, dt⟩
  refine (runFn_ret (np := 2) (nl := 0) (m := m__law_pick) (ds := [.ref 0, .lst xs]) rfl rfl (sRet_at (op2F_at (x := .lst xs) (eRaw_at rfl) q open_lst open_int (?_ : _ = some xs[m])))).trans ?_
  · show ixO xs (m : Int) = _
    unfold ixO
    rw [if_pos (by omega), Int.toNat_natCast, e]
  · rw [List.take_of_length_le (by rw [sm.len]; exact Nat.le_refl _)]
def thE : ME := (eLst (aCons (eC .non) (aCons (eC (.int 5)) (aCons (eC (.str [97])) (aCons (eTup (aCons (eC (.str [97])) (aCons (eC (.int 1)) aNil))) (aCons (eLst (aCons (eC (.str [98])) aNil)) (aCons (eC (.dic [])) (aCons (op2F dPowB (op2F dPowB (op2F dPowB (eC (.int 10)) (eC (.int 60))) (eC (.int 64))) (eC (.int 2))) (aCons (eC (.bl true)) aNil)))))))))
def restL : MS := sCons s_law_2 (sCons s_law_3 (sCons s_law_4 (sCons s_law_5 (sCons s_law_6 (sCons s_law_7 (sCons s_law_8 (sCons s_law_9 (sCons s_law_10 (sCons s_law_11 (sCons s_law_12 (sCons s_law_13 (sCons s_law_14 s_law_15))))))))))))
theorem law_is : m_law = sCons s_law_0 (sCons s_law_1 restL) := rfl
def okS : RS → Bool
  | .ret (.bl true) _ => true
  | _ => false
theorem okS_ok {r : RS} (h : okS r = true) : ∃ t, r = .ret (.bl true) t := by
  cases r with
  | ret d t =>
    cases d with
    | bl b =>
      cases b
      · cases h
      · exact ⟨t, rfl⟩
    | _ => cases h
  | _ => cases h
def env2 (a : D) (x : D) : VM.Env := [some a, some (.ref 0), some x, none, none, none, none, none, none, none]
def gd (r : VM.R D) : D := match r with
  | .ok d _ => d
  | _ => .non
def bigD : D := gd (op2F dPowB (op2F dPowB (op2F dPowB (eC (.int 10)) (eC (.int 60))) (eC (.int 64))) (eC (.int 2)) [] [])
theorem bigE (e : VM.Env) (s : Store) : op2F dPowB (op2F dPowB (op2F dPowB (eC (.int 10)) (eC (.int 60))) (eC (.int 64))) (eC (.int 2)) e s = .ok bigD s := by kernel_rfl
def things : List D := [.non, .int 5, .str [97], .tup [.str [97], .int 1], .lst [.str [98]], .dic [], bigD, .bl true]
theorem t0 (a : D) (E : Ent) : okS (restL (env2 a .non) [E]) = true := by kernel_rfl
theorem t1 (a : D) (E : Ent) : okS (restL (env2 a (.int 5)) [E]) = true := by kernel_rfl
theorem t2 (a : D) (E : Ent) : okS (restL (env2 a (.str [97])) [E]) = true := by kernel_rfl
theorem t3 (a : D) (E : Ent) : okS (restL (env2 a (.tup [.str [97], .int 1])) [E]) = true := by kernel_rfl
theorem t4 (a : D) (E : Ent) : okS (restL (env2 a (.lst [.str [98]])) [E]) = true := by kernel_rfl
theorem t5 (a : D) (E : Ent) : okS (restL (env2 a (.dic [])) [E]) = true := by kernel_rfl
theorem t6 (a : D) (E : Ent) : okS (restL (env2 a bigD) [E]) = true := by kernel_rfl
theorem t7 (a : D) (E : Ent) : okS (restL (env2 a (.bl true)) [E]) = true := by kernel_rfl
theorem thE_ok (e : VM.Env) (s : Store) : thE e s = .ok (.lst things) s := by
  have q := bigE e s
  have h : aCons (op2F dPowB (op2F dPowB (op2F dPowB (eC (.int 10)) (eC (.int 60))) (eC (.int 64))) (eC (.int 2))) (aCons (eC (.bl true)) aNil) e s = .ok [bigD, .bl true] s := aCons_at q rfl
  have l : eLst (aCons (eC (.str [98])) aNil) e s = .ok (.lst [.str [98]]) s := rfl
  have tp : eTup (aCons (eC (.str [97])) (aCons (eC (.int 1)) aNil)) e s = .ok (.tup [.str [97], .int 1]) s := rfl
  exact eLst_at (ds := things) (aCons_at (d := .non) rfl (aCons_at (d := .int 5) rfl (aCons_at (d := .str [97]) rfl (aCons_at tp (aCons_at l (aCons_at (d := .dic []) rfl h)))))) (by decide)
theorem plain : ∀ zs : List Int, zs.length ≤ 63 → ∃ s', fn_law.sem [.fl (zs.map .int)] [] = .ok (.bl true) s' := by
  intro zs _
  obtain ⟨g, sd, b1, b2, e⟩ := src_ok zs []
  have c0 : s_law_0 [some (.fl (zs.map .int)), none, none, none, none, none, none, none, none, none] [] = .nx [some (.fl (zs.map .int)), some (.ref 0), none, none, none, none, none, none, none, none] [srcE g sd 0] := by
    show RSb (fnSrc.sem [.fl (zs.map .int)] []) _ _ = _
    rw [e]
    rfl
  have hd : Drw [srcE g sd 0] 0 := ⟨g, sd, 0, rfl, b1, b2, Nat.le_refl _⟩
  obtain ⟨x, t, q, xm, sm, dt⟩ := pick_ok (xs := things) hd (by decide) (by decide) (by decide)
  have c1 : s_law_1 [some (.fl (zs.map .int)), some (.ref 0), none, none, none, none, none, none, none, none] [srcE g sd 0] = .nx (env2 (.fl (zs.map .int)) x) t :=
    sAsg_at ((eCall_at (aCons_at (eRaw_at rfl) (aCons_at (thE_ok _ _) rfl)) rfl).trans q) rfl
  have len : t.length = 1 := sm.len
  obtain ⟨E, rfl⟩ : ∃ E, t = [E] := by
    match t, len with
    | [E], _ => exact ⟨E, rfl⟩
  have fin : okS (restL (env2 (.fl (zs.map .int)) x) [E]) = true := by
    unfold things at xm
    simp only [List.mem_cons, List.mem_nil_iff, or_false] at xm
    rcases xm with h | h | h | h | h | h | h | h <;> rw [h]
    · exact t0 _ _
    · exact t1 _ _
    · exact t2 _ _
    · exact t3 _ _
    · exact t4 _ _
    · exact t5 _ _
    · exact t6 _ _
    · exact t7 _ _
  obtain ⟨u, c2⟩ := okS_ok fin
  have r := runFn_ret (np := 1) (nl := 9) (m := m_law) (ds := [.fl (zs.map .int)]) (e := [some (.fl (zs.map .int)), none, none, none, none, none, none, none, none, none]) rfl rfl (at_eq law_is (sCons_at c0 (sCons_at c1 c2)))
  have f : fn_law.sem = runFn 1 9 m_law := rfl
  rw [← f] at r
  exact ⟨_, r⟩
end LawK17

set_option Elab.async false
set_option linter.all false
set_option maxRecDepth 100000
set_option maxHeartbeats 4000000

open PySem PySem.W PySem.Calls PyProof.Rows
set_option maxRecDepth 100000 in
set_option maxHeartbeats 0 in
theorem PySem.Challenge.cw_coveredcells_k17_errors_made_holds : PySem.Challenge.rw_coveredcells_k17_errors_made.Holds := by
  w_on; o_law
  refine HandSHeadRun.head_any (r := OpenLaw.row PySem.Challenge.rw_coveredcells_k17_errors_made) (q := view (OpenLaw.row PySem.Challenge.rw_coveredcells_k17_errors_made).prog [20]) (H := LawK17.hk) (ob := LawK17.ob) (M := 20000) (loose := LawK17.loose) (d := HandSHeadRun.topDef (OpenLaw.row PySem.Challenge.rw_coveredcells_k17_errors_made).prog 20) (kwd := []) LawK17.ob_eq
    (by kernel_rfl) (fun s => by kernel_rfl) LawK17.run (by kernel_rfl) (by kernel_rfl) (by kernel_rfl) (by rfl) (by first | assumption | decide +kernel) (by decide +kernel) ⟨rfl, rfl, rfl, rfl, rfl, by decide +kernel⟩ ?hw ?hc
  case hw => w_witness2
  case hc =>
    refine VM.walk_ofW (l := PySem.Challenge.rw_coveredcells_k17_errors_made) (m := 63) (j := 3) (y := "_law_script") (C0 := fun wo => L2.CX (PySem.Challenge.rw_coveredcells_k17_errors_made).prog wo) rfl (by decide) (by kernel_rfl) ⟨rfl, by decide, by decide⟩ ?F (fun wo H sh e sh' h => VM.cx_never _ wo H sh e sh' h)
    intro wo mg fa h Y G hmg0
    obtain ⟨K, KX, c⟩ := Y
    have hmg : mg ("law" : PySem.Str) = some (.ref fa) := by
      have e : (HandSHeadRun.topDef (OpenLaw.row PySem.Challenge.rw_coveredcells_k17_errors_made).prog 20).name = ("law" : PySem.Str) := by kernel_rfl
      rw [← e]
      exact hmg0
    have B0 : LawK17.BF (PySem.Challenge.rw_coveredcells_k17_errors_made).prog K mg h := ⟨KX, G, c, by kernel_rfl⟩
    obtain ⟨fd, F⟩ := LawK17.dfn B0 4 (d := LawK17.d_law) rfl
    have e1 : (Value.ref fa) = .ref (He.fAd K LawK17.d_law.at_) := Option.some.inj (hmg.symm.trans (LawK17.glo B0 24 rfl))
    cases e1
    have b := L2.FunD.bindsA (ps := ["_law_script"]) F fun _ _ _ _ _ _ us hl => match us, hl with | [_], _ => rfl
    exact ⟨K, fd, VM.spOf K (LawK17.TT K) LawK17.fn_law, KX, fun s v => b s [v] rfl, fun H a zs hl _ hS => VM.law_end (by decide) rfl LawK17.plain H a zs hl hS,
      fun base X1 G1 => VM.fn_snd F LawK17.sc_law (by decide) fun cdv A outer s H E hr => LawK17.ss_law ⟨X1, G1, c, by kernel_rfl⟩ hr⟩
