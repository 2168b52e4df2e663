import PyProof.Rows.All
import Wide.All
import OpenK.AllK
import Wide.FinOn
import HandS.Base
import HandS.Call
import HandS.List
import HandS.Comp
import HandS.Iter
import HandS.Exc
import HandS.CallSlots
import HandS.Ends
import HandS.Words
import HandS.WordsExc
import HandS.Defaults
import HandS.More
import KE.KDictKeyed
import HandS.Lambda
import HandS.Nested
import HandS.Text
import HandS.TupAny
import HandS.TupMul
import HandS.Style
import HandS.Codes
import KE.KRevSl
import HandS.Deep
import KE.LtData
import KE.SortData
import PyProof.NeData
import PyProof.P3In
import KE.DataCmp
import PyProof.StrLawsIn
import HandS.IsInst
import HandS.ExcIs
import HandS.ExcField
import KE.KExcIs
import PyProof.ReprRoads
import PyProof.CallFns
import PyProof.Rows.ListStrD
import HandS.Replace
import HandS.Strs
import HandS.SetFor
import HandS.ExcOwn
import PyProof.InstNe
import KE.GoesNew
import KE.GoesMore
import KE.GoesEnum
import HandS.Dict
import HandS.ExcInit
import HandS.HeadWalk
import HandS.EndTab
import KE.KExcInit
import KE.KIsAll
import HandS.HeadHook4
import HandS.HeadEnd
import HandS.Head0
import HandS.Head1
import HandS.Head2
import KE.KStateDown
import PyProof.StrLawsRepr
import PySem.Challenge.RW_wordreaders_k36_whole_words_pumped
set_option linter.all false
namespace Pyd
inductive Val where
  | non | bl (b : Bool) | int (i : Int) | str (s : List Nat) | tup (xs : List Val) | loc (n : Nat) | glo (g : Nat)
  deriving Inhabited
inductive Ob where
  | lst (xs : List Val)
  | rol (xs : List Val)
  | dic (lk : Bool) (kvs : List (Val × Val))
  | set (xs : List Val)
  | ins (c : Nat) (fs : List (Nat × Val))
  | dead
  | clo (f : Nat) (vs : List Val)
  | exc (c : Nat) (fs : List Val)
  deriving Inhabited
abbrev Store := List Ob
abbrev Env := List (Option Val)
inductive Res (α : Type) where
  | ok (a : α) (S : Store)
  | ex (c : Nat) (fs : List Val) (S : Store)
  | no
@[reducible] def M (α : Type) := Store → Res α
@[inline] def M.pure {α : Type} (a : α) : M α := fun S => .ok a S
@[inline] def M.bind {α β : Type} (x : M α) (f : α → M β) : M β := fun S => match x S with
  | .ok a S' => f a S'
  | .ex c fs S' => .ex c fs S'
  | .no => .no
instance : Monad M where
  pure := M.pure
  bind := M.bind
def fail {α : Type} : M α := fun _ => .no
def throwX {α : Type} (c : Nat) (fs : List Val) : M α := fun S => .ex c fs S
def alloc (o : Ob) : M Val := fun S => .ok (.loc S.length) (S ++ [o])
def look (n : Nat) : M Ob := fun S => match S[n]? with
  | some o => .ok o S
  | none => .no
def put (n : Nat) (o : Ob) : M Unit := fun S => .ok () (S.set n o)
def need (b : Bool) : M Unit := fun S => if b = true then .ok () S else .no
def get? {α : Type} (o : Option α) : M α := fun S => match o with
  | some a => .ok a S
  | none => .no
abbrev LINE : Nat := 16777216
mutual
def Val.eqv : Val → Val → Bool
  | .non, .non => true
  | .bl a, .bl b => a == b
  | .bl a, .int j => (if a then 1 else 0) == j
  | .int i, .bl b => i == (if b then 1 else 0)
  | .int i, .int j => i == j
  | .str x, .str y => x == y
  | .tup xs, .tup ys => Val.eqvs xs ys
  | _, _ => false
def Val.eqvs : List Val → List Val → Bool
  | [], [] => true
  | x :: xs, y :: ys => Val.eqv x y && Val.eqvs xs ys
  | _, _ => false
end
mutual
def Val.flat : Val → Bool
  | .loc _ => false
  | .glo _ => false
  | .tup xs => Val.flats xs
  | _ => true
def Val.flats : List Val → Bool
  | [] => true
  | x :: xs => Val.flat x && Val.flats xs
end
mutual
def Val.depth : Val → Nat
  | .tup xs => Val.depths xs + 1
  | _ => 0
def Val.depths : List Val → Nat
  | [] => 0
  | x :: xs => max (Val.depth x) (Val.depths xs)
end
def Val.key (v : Val) : Bool := v.flat && decide (v.depth ≤ 8)
mutual
def Val.alike : Val → Val → Bool
  | .bl _, .bl _ => true
  | .int _, .int _ => true
  | .str _, .str _ => true
  | .tup xs, .tup ys => Val.alikes xs ys
  | _, _ => false
def Val.alikes : List Val → List Val → Bool
  | x :: xs, y :: ys => Val.alike x y && Val.alikes xs ys
  | [], _ => true
  | _ :: _, [] => true
end
mutual
def Val.lt : Val → Val → Bool
  | .bl a, .bl b => !a && b
  | .int i, .int j => decide (i < j)
  | .str x, .str y => decide (x < y)
  | .tup xs, .tup ys => Val.lts xs ys
  | _, _ => false
def Val.lts : List Val → List Val → Bool
  | [], [] => false
  | [], _ :: _ => true
  | _ :: _, [] => false
  | x :: xs, y :: ys => if Val.eqv x y then Val.lts xs ys else Val.lt x y
end
def insertBy (lt : Val → Val → Bool) (x : Val) : List Val → List Val
  | [] => [x]
  | y :: r => if lt y x then y :: insertBy lt x r else x :: y :: r
def sortBy (lt : Val → Val → Bool) : List Val → List Val
  | [] => []
  | x :: r => insertBy lt x (sortBy lt r)
def allAlike (xs : List Val) : Bool := xs.all fun x => x.key && xs.all fun y => Val.alike x y
inductive Bop where
  | add | sub | mul | fdiv | mod | pow
  deriving DecidableEq
inductive Cop where
  | eq | ne | lt | le | gt | ge | is | isN | mem | nmem
  deriving DecidableEq
inductive Ty where
  | int | bool | str | tuple | list | dict | valueError | cls (c : Nat)
  deriving DecidableEq
inductive Bi where
  | abs | all | any | int | len | max1 | min1 | max2 | min2 | max3 | min3 | repr | str | sum | set0 | list0 | dict0
  deriving DecidableEq
inductive Mk where
  | list | tuple | sorted | set | dict | sum | max | min | all | any
  deriving DecidableEq
inductive Me where
  | append | clear | count | endswith | extend | get | index | insert | join | lstrip | pop0 | pop1 | pop2 | remove | replace | setdefault | split | update
  deriving DecidableEq
mutual
inductive E where
  | v (i : Nat)
  | cst (c : Val)
  | glo (g : Nat)
  | tup (es : Es)
  | lst (es : Es)
  | dic (kvs : Ks)
  | bin (op : Bop) (a b : E)
  | cmp (op : Cop) (a b : E)
  | cmp2 (op op' : Cop) (a b c : E)
  | and (a b : E)
  | or (a b : E)
  | not (a : E)
  | neg (a : E)
  | ife (c a b : E)
  | idx (a b : E)
  | sl (a : E) (lo hi : Eo)
  | rev (a : E)
  | attr (a : E) (f : Nat)
  | call (f : Nat) (es : Es)
  | new (c : Nat) (es : Es)
  | callv (a : E) (es : Es)
  | mcall (a : E) (m : Nat) (es : Es)
  | isi (a : E) (t : Ty)
  | b1 (b : Bi) (a : E)
  | b2 (b : Bi) (a c : E)
  | mk (k : Mk) (a : E)
  | mki (k : Mk) (it : It)
  | sortk (it : It) (f : E)
  | me1 (m : Me) (a b : E)
  | me0 (m : Me) (a : E)
  | comp (own : List Nat) (elt : E) (t : Tg) (it : It) (cd : Eo)
  | comp2 (own own2 : List Nat) (elt : E) (t : Tg) (it : It) (t2 : Tg) (it2 : It) (cd : Eo)
  | dcomp (own : List Nat) (k x : E) (t : Tg) (it : It) (cd : Eo)
  | dcomp2 (own own2 : List Nat) (k x : E) (t : Tg) (it : It) (t2 : Tg) (it2 : It)
  | drp (e : E)
  | lam (f : Nat) (js : List Nat)
inductive Es where
  | nil | cons (e : E) (es : Es)
inductive Ks where
  | nil | cons (k v : E) (r : Ks)
inductive Eo where
  | none | some (e : E)
inductive It where
  | e (a : E)
  | r1 (a : E) | r2 (a b : E) | r3 (a b c : E)
  | en (a : E) | z2 (a b : E) | z3 (a b c : E)
  | items (a : E) | vals (a : E)
inductive Tg where
  | v (i : Nat)
  | cv (i : Nat)
  | tup (ts : Tgs)
  | sub (a i : E)
  | attr (a : E) (f : Nat)
inductive Tgs where
  | nil | cons (t : Tg) (ts : Tgs)
end
inductive TK where
  | ex | ret | asg (i : Nat)
mutual
inductive St where
  | pass | brk | cont
  | ex (e : E)
  | asg (t : Tg) (e : E)
  | asga (a : E) (f : Nat) (e : E)
  | par (is : List Nat) (es : Es)
  | augv (i : Nat) (op : Bop) (e : E)
  | augs (a i : E) (op : Bop) (e : E)
  | auga (a : E) (f : Nat) (op : Bop) (e : E)
  | ret (e : E)
  | retN
  | ifs (c : E) (a b : Sts)
  | for_ (t : Tg) (it : It) (b : Sts)
  | while_ (c : E) (b : Sts)
  | raise (c : Nat) (e : Eo)
  | try_ (k : TK) (e : E) (c : Nat) (i : Nat) (b : Sts)
  | fn (t : Tg) (f : Nat) (js : List Nat)
inductive Sts where
  | nil | cons (s : St) (r : Sts)
end
inductive Dt where
  | non | bl (b : Bool) | int (i : Int) | str (s : List Nat) | lst (xs : List Dt) | tup (xs : List Dt)
  deriving Inhabited
mutual
def Dt.eqv : Dt → Dt → Bool
  | .non, .non => true
  | .bl a, .bl b => a == b
  | .bl a, .int j => (if a then 1 else 0) == j
  | .int i, .bl b => i == (if b then 1 else 0)
  | .int i, .int j => i == j
  | .str x, .str y => x == y
  | .lst xs, .lst ys => Dt.eqvs xs ys
  | .tup xs, .tup ys => Dt.eqvs xs ys
  | _, _ => false
def Dt.eqvs : List Dt → List Dt → Bool
  | [], [] => true
  | x :: xs, y :: ys => Dt.eqv x y && Dt.eqvs xs ys
  | _, _ => false
end
def mapO {α β : Type} (f : α → Option β) : List α → Option (List β)
  | [] => some []
  | x :: xs => match f x, mapO f xs with
    | some y, some ys => some (y :: ys)
    | _, _ => none
structure Fn where
  arity : Nat
  slots : Nat
  cells : List Nat
  free : List Nat
  body : Sts
structure Cl where
  init : Option Nat
  eq : Option Nat
  meths : List (Nat × Nat)
  up : List Nat
  exc : Bool
  fields : List Nat
structure Prog where
  fn : Nat → Option Fn
  cl : Nat → Option Cl
  val : Nat → Option Val
  rp : Dt → Option (List Nat)
def toD : Nat → Store → Val → Option Dt
  | 0, _, _ => none
  | _ + 1, _, .non => some .non
  | _ + 1, _, .bl b => some (.bl b)
  | _ + 1, _, .int i => some (.int i)
  | _ + 1, _, .str s => some (.str s)
  | n + 1, S, .tup xs => (mapO (toD n S) xs).map .tup
  | n + 1, S, .loc a => match S[a]? with
    | some (.lst xs) => (mapO (toD n S) xs).map .lst
    | some (.rol xs) => (mapO (toD n S) xs).map .lst
    | _ => none
  | _ + 1, _, .glo _ => none
def eqD (n : Nat) (S : Store) (x y : Val) : Option Bool := match toD n S x, toD n S y with
  | some a, some b => some (Dt.eqv a b)
  | _, _ => none
def isSmall (i : Int) : Bool := decide (-(2 ^ 64) < i) && decide (i < 2 ^ 64)
def rep {α : Type} (xs : List α) (n : Nat) : List α := (List.replicate n xs).flatten
def binop (op : Bop) (a b : Val) : M Val :=
  match op, a, b with
  | .add, .int i, .int j => pure (.int (i + j))
  | .add, .str x, .str y => do need (decide (x.length + y.length ≤ LINE)); pure (.str (x ++ y))
  | .add, .tup x, .tup y => do need (decide (x.length + y.length ≤ LINE)); pure (.tup (x ++ y))
  | .add, .loc m, .loc n => do
    match ← look m, ← look n with
    | .lst x, .lst y => do need (decide (x.length + y.length ≤ LINE)); alloc (.lst (x ++ y))
    | _, _ => fail
  | .sub, .int i, .int j => pure (.int (i - j))
  | .mul, .int i, .int j => do need (isSmall i || isSmall j); pure (.int (i * j))
  | .mul, .loc m, .int j => do
    match ← look m with
    | .lst x => do need (decide (j < 2 ^ 60) && decide (-(2 ^ 60) < j) && decide (x.length * j.toNat ≤ LINE)); alloc (.lst (rep x j.toNat))
    | _ => fail
  | .mul, .tup x, .int j => do need (decide (1 ≤ j) && decide (j ≤ 1000) && decide (0 < x.length) && decide (x.length ≤ 1000)); pure (.tup (rep x j.toNat))
  | .mul, .str x, .int j => do need (decide (j < 2 ^ 60) && decide (-(2 ^ 60) < j) && decide (x.length * j.toNat ≤ LINE)); pure (.str (rep x j.toNat))
  | .fdiv, .int i, .int j => do need (decide (j ≠ 0) && decide (j.natAbs < 1073741824)); pure (.int (i.fdiv j))
  | .mod, .int i, .int j => do need (decide (j ≠ 0)); pure (.int (i.fmod j))
  | .pow, .int i, .int j => do need (decide (0 ≤ j) && decide (j ≤ 1000) && isSmall i); pure (.int (i ^ j.toNat))
  | _, _, _ => fail
def subList (x : List Nat) : List Nat → Bool
  | [] => x.isEmpty
  | c :: r => x.isPrefixOf (c :: r) || subList x r
def keyAt (k : Val) : List (Val × Val) → Option Val
  | [] => none
  | (j, v) :: r => if Val.eqv j k then some v else keyAt k r
def keyPut (k v : Val) : List (Val × Val) → List (Val × Val)
  | [] => [(k, v)]
  | (j, u) :: r => if Val.eqv j k then (j, v) :: r else (j, u) :: keyPut k v r
def keyDel (k : Val) : List (Val × Val) → List (Val × Val)
  | [] => []
  | (j, u) :: r => if Val.eqv j k then r else (j, u) :: keyDel k r
def isTup : Val → Bool
  | .tup _ => true
  | _ => false
def kindOk (k : Val) (kvs : List (Val × Val)) : Bool := k.key && kvs.all fun p => isTup p.1 == isTup k
def eqAll (S : Store) (x : Val) (xs : List Val) : Option (List Bool) := match toD 60 S x, mapO (toD 60 S) xs with
  | some d, some ds => some (ds.map fun z => Dt.eqv z d)
  | _, _ => none
def eqAllM (x : Val) (xs : List Val) : M (List Bool) := fun S => match eqAll S x xs with
  | some bs => .ok bs S
  | none => .no
def memV (x y : Val) : M Bool :=
  match y with
  | .str t => match x with
    | .str u => pure (subList u t)
    | _ => fail
  | .tup ys => do
    let bs ← eqAllM x ys
    pure (bs.any id)
  | .loc n => do
    match ← look n with
    | .lst ys | .rol ys => do
      let bs ← eqAllM x ys
      pure (bs.any id)
    | _ => fail
  | _ => fail
def isV (x y : Val) : M Bool :=
  match y with
  | .non => match x with
    | .non => pure true
    | _ => pure false
  | .bl b => match x with
    | .bl a => pure (a == b)
    | _ => fail
  | _ => fail
def notM (x : M Bool) : M Bool := do return !(← x)
def vbl (x : M Bool) : M Val := do return .bl (← x)
inductive Kd where
  | non | bl | int | str | tup | lst | dic | ins (c : Nat) | exc (c : Nat)
  deriving DecidableEq
def kindV (x : Val) : M Kd :=
  match x with
  | .non => pure .non
  | .bl _ => pure .bl
  | .int _ => pure .int
  | .str _ => pure .str
  | .tup _ => pure .tup
  | .loc n => do
    match ← look n with
    | .lst _ => pure .lst
    | .rol _ => pure .lst
    | .dic _ _ => pure .dic
    | .ins c _ => pure (.ins c)
    | .exc c _ => pure (.exc c)
    | _ => fail
  | .glo _ => fail
abbrev Orc := Nat → List Val → List Val → Store → Res Val
variable (P : Prog)
def eqV (C : Orc) (x y : Val) : M Bool := fun S =>
  match eqD 60 S x y with
  | some b => .ok b S
  | none => match x with
    | .loc n => match S[n]? with
      | some (.ins c _) => match P.cl c with
        | some ⟨_, some f, _, _, _, _⟩ => match kindV y S with
          | .ok _ _ => (match C f [x, y] [] S with
            | .ok (.bl b) S' => .ok b S'
            | _ => .no)
          | _ => .no
        | _ => .no
      | _ => .no
    | _ => .no
def ordV (x y : Val) (r : Bool) : M Bool := do need ((Val.alike x y && Val.alike y x) && (x.key && y.key)); pure r
def cmpV (C : Orc) (op : Cop) (x y : Val) : M Bool :=
  match op with
  | .eq => eqV P C x y
  | .ne => notM (eqV P C x y)
  | .lt => ordV x y (Val.lt x y)
  | .gt => ordV x y (Val.lt y x)
  | .le => ordV x y (!Val.lt y x)
  | .ge => ordV x y (!Val.lt x y)
  | .is => isV x y
  | .isN => notM (isV x y)
  | .mem => memV x y
  | .nmem => notM (memV x y)
def truth (x : Val) : M Bool :=
  match x with
  | .non => pure false
  | .bl b => pure b
  | .int i => pure (i != 0)
  | .str s => pure (!s.isEmpty)
  | .tup xs => pure (!xs.isEmpty)
  | .loc n => do
    match ← look n with
    | .lst xs | .rol xs => pure (!xs.isEmpty)
    | _ => fail
  | _ => fail
def ixOf (i : Int) (n : Nat) : Option Nat := if 0 ≤ i then (if i < n then some i.toNat else none) else if -(n : Int) ≤ i then some (i + n).toNat else none
def itemAt (xs : List Val) (k : Val) : M Val :=
  match k with
  | .int i => do let k ← get? (ixOf i xs.length); get? xs[k]?
  | _ => fail
def ixV (a b : Val) : M Val :=
  match a with
  | .tup xs => itemAt xs b
  | .str s => match b with
    | .int i => do let k ← get? (ixOf i s.length); let c ← get? s[k]?; pure (.str [c])
    | _ => fail
  | .loc n => do
    match ← look n with
    | .lst xs => itemAt xs b
    | .rol xs => itemAt xs b
    | _ => fail
  | _ => fail
def sIx (n d : Nat) : Option Int → Nat
  | none => d
  | some i => if i < 0 then (i + (n : Int)).toNat else min i.toNat n
def cut {α : Type} (xs : List α) (lo hi : Option Int) : List α :=
  (xs.drop (sIx xs.length 0 lo)).take (sIx xs.length xs.length hi - sIx xs.length 0 lo)
def slV (a : Val) (lo hi : Option Int) : M Val :=
  match a with
  | .tup xs => pure (.tup (cut xs lo hi))
  | .str s => pure (.str (cut s lo hi))
  | .loc n => do
    match ← look n with
    | .lst xs => alloc (.lst (cut xs lo hi))
    | .rol xs => alloc (.lst (cut xs lo hi))
    | _ => fail
  | _ => fail
def revV (a : Val) : M Val :=
  match a with
  | .tup xs => pure (.tup xs.reverse)
  | .str s => pure (.str s.reverse)
  | .loc n => do
    match ← look n with
    | .lst xs => alloc (.lst xs.reverse)
    | _ => fail
  | _ => fail
def idxIn (f : Nat) : List Nat → List Val → Option Val
  | g :: gs, v :: vs => if g = f then some v else idxIn f gs vs
  | _, _ => none
def attrO (f : Nat) (o : Ob) : M Val :=
  match o with
  | .ins _ fs => get? (fs.lookup f)
  | .exc c fs => do
    let k ← get? (P.cl c)
    get? ((k.fields.zip fs).lookup f)
  | _ => fail
def attrV (a : Val) (f : Nat) : M Val :=
  match a with
  | .loc n => look n >>= fun o => attrO P f o
  | _ => fail
def putF (f : Nat) (v : Val) : List (Nat × Val) → List (Nat × Val)
  | [] => [(f, v)]
  | (g, u) :: r => if g = f then (g, v) :: r else (g, u) :: putF f v r
def attrPutO (n f : Nat) (v : Val) (o : Ob) : M Unit :=
  match o with
  | .ins c fs => do
    let d ← get? (P.cl c)
    need (decide (fs.length < 40) && d.fields.contains f)
    put n (.ins c (putF f v fs))
  | _ => fail
def attrPut (a : Val) (f : Nat) (v : Val) : M Unit :=
  match a with
  | .loc n => look n >>= fun o => attrPutO P n f v o
  | _ => fail
def ixPut (a i v : Val) : M Unit :=
  match a with
  | .loc n => do
    match ← look n with
    | .lst xs => match i with
      | .int i => do let k ← get? (ixOf i xs.length); put n (.lst (xs.set k v))
      | _ => fail
    | _ => fail
  | _ => fail
def isaK (k : Kd) (t : Ty) : Option Bool :=
  match t with
  | .int => some (match k with | .int => true | .bl => true | _ => false)
  | .bool => some (match k with | .bl => true | _ => false)
  | .str => some (match k with | .str => true | _ => false)
  | .tuple => some (match k with | .tup => true | _ => false)
  | .list => some (match k with | .lst => true | _ => false)
  | .dict => some (match k with | .dic => true | _ => false)
  | .valueError => some (match k with | .exc _ => true | _ => false)
  | .cls c => match k with
    | .ins d => (P.cl d).map fun d => d.up.contains c
    | .exc d => (P.cl d).map fun d => d.up.contains c
    | _ => some false
def isaV (t : Ty) (x : Val) : M Bool := do
  let k ← kindV x
  get? (isaK P k t)
def isaAny (ts : List Ty) (x : Val) : M Bool :=
  match ts with
  | [] => pure false
  | t :: r => do
    if ← isaV P t x then pure true else isaAny r x
inductive Sb where
  | tup (xs : List Val)
  | str (s : List Nat)
  | lst (n : Nat)
inductive Src where
  | one (b : Sb)
  | rng (lo step : Int) (cnt : Nat)
  | enm (b : Sb)
  | zip2 (b c : Sb)
  | zip3 (b c d : Sb)
def atL (xs : List Val) (i : Nat) : Option (Option Val) := if i ≤ xs.length then some xs[i]? else none
def Sb.at (S : Store) (i : Nat) : Sb → Option (Option Val)
  | .tup xs => atL xs i
  | .str s => atL (s.map fun c => .str [c]) i
  | .lst n => match S[n]? with
    | some (.lst xs) => atL xs i
    | some (.rol xs) => atL xs i
    | _ => none
def Src.at (S : Store) (i : Nat) : Src → Option (Option Val)
  | .one b => b.at S i
  | .rng lo st cnt => some (if i < cnt then some (.int (lo + i * st)) else none)
  | .enm b => match b.at S i with
    | some (some v) => some (some (.tup [.int i, v]))
    | r => r
  | .zip2 b c => match b.at S i, c.at S i with
    | some (some x), some (some y) => some (some (.tup [x, y]))
    | some _, some _ => some none
    | _, _ => none
  | .zip3 b c d => match b.at S i, c.at S i, d.at S i with
    | some (some x), some (some y), some (some z) => some (some (.tup [x, y, z]))
    | some _, some _, some _ => some none
    | _, _, _ => none
def Sb.len (S : Store) : Sb → Nat
  | .tup xs => xs.length
  | .str s => s.length
  | .lst n => match S[n]? with
    | some (.lst xs) => xs.length
    | some (.rol xs) => xs.length
    | _ => 0
def Src.len (S : Store) : Src → Nat
  | .one b => b.len S
  | .rng _ _ cnt => cnt
  | .enm b => b.len S
  | .zip2 b c => min (b.len S) (c.len S)
  | .zip3 b c d => min (b.len S) (min (c.len S) (d.len S))
def sbOf (v : Val) : M Sb :=
  match v with
  | .tup xs => pure (.tup xs)
  | .str s => pure (.str s)
  | .loc n => do
    match ← look n with
    | .lst _ => pure (.lst n)
    | .rol _ => pure (.lst n)
    | _ => fail
  | _ => fail
def rngCnt (lo hi st : Int) : Nat :=
  if 0 < st then ((hi - lo + st - 1) / st).toNat else ((lo - hi - st - 1) / (-st)).toNat
@[irreducible] def small62 (i : Int) : Bool := decide (-(2 ^ 62) ≤ i) && decide (i < 2 ^ 62)
inductive Fl where
  | nx (e : Env) | rt (v : Val) | bk (e : Env) | ct (e : Env)
  deriving Inhabited
def Fl.unset (i : Nat) : Fl → Fl
  | .nx env => .nx (env.set i none)
  | .bk env => .bk (env.set i none)
  | .ct env => .ct (env.set i none)
  | .rt v => .rt v
def forL (s : Src) (body : Val → Env → M Fl) : Nat → Nat → Env → M Fl
  | 0, i, env => fun S => match s.at S i with
    | some none => .ok (.nx env) S
    | _ => .no
  | f + 1, i, env => fun S => match s.at S i with
    | some none => .ok (.nx env) S
    | some (some v) => match body v env S with
      | .ok (.nx e) S' => forL s body f (i + 1) e S'
      | .ok (.ct e) S' => forL s body f (i + 1) e S'
      | .ok (.bk e) S' => .ok (.nx e) S'
      | r => r
    | none => .no
def compL (s : Src) (turn : Val → M Unit) : Nat → Nat → M Unit
  | 0, i => fun S => match s.at S i with
    | some none => .ok () S
    | _ => .no
  | f + 1, i => fun S => match s.at S i with
    | some none => .ok () S
    | some (some v) => match turn v S with
      | .ok _ S' => compL s turn f (i + 1) S'
      | .ex _ _ _ => .no
      | .no => .no
    | none => .no
def compS (s : Src) (turn : Val → M Unit) : M Unit := fun S => compL s turn (s.len S) 0 S
def whileN (cond : Env → M Bool) (body : Env → M Fl) : Nat → Env → M Fl
  | 0, _ => fun _ => .no
  | n + 1, env => fun S => match cond env S with
    | .ok false S' => .ok (.nx env) S'
    | .ok true S' => (match body env S' with
      | .ok (.nx e) S'' => whileN cond body n e S''
      | .ok (.ct e) S'' => whileN cond body n e S''
      | .ok (.bk e) S'' => .ok (.nx e) S''
      | r => r)
    | .ex c fs S' => .ex c fs S'
    | .no => .no
open Classical in
noncomputable def whileP (cond : Env → M Bool) (body : Env → M Fl) (env : Env) : M Fl := fun S =>
  if h : ∃ n r, whileN cond body n env S = r ∧ (match r with | .no => False | _ => True) then whileN cond body h.choose env S else .no
def wipe (vs : List Nat) (env : Env) : Env := vs.foldl (fun e i => e.set i none) env
def locOf (v : Val) : M Nat :=
  match v with
  | .loc n => pure n
  | _ => fail
def pushL (n : Nat) (v : Val) : M Unit := do
  match ← look n with
  | .lst xs => do need (decide (xs.length < LINE)); put n (.lst (xs ++ [v]))
  | _ => fail
def pairsOf : List Val → Option (List (Val × Val))
  | [] => some []
  | .tup [k, v] :: r => (pairsOf r).map fun l => (k, v) :: l
  | _ => none
def putAll : List (Val × Val) → List (Val × Val) → M (List (Val × Val))
  | [], kvs => pure kvs
  | (k, v) :: r, kvs => do need (kindOk k kvs); putAll r (keyPut k v kvs)
def setAdd (x : Val) (xs : List Val) : List Val := if xs.any fun p => Val.eqv p x then xs else xs ++ [x]
def asInts : List Val → Option (List Int)
  | [] => some []
  | .int i :: r => (asInts r).map fun l => i :: l
  | _ => none
def asBls : List Val → Option (List Bool)
  | [] => some []
  | .bl i :: r => (asBls r).map fun l => i :: l
  | _ => none
def asStrs : List Val → Option (List (List Nat))
  | [] => some []
  | .str i :: r => (asStrs r).map fun l => i :: l
  | _ => none
def leastBy (lt : Val → Val → Bool) (x : Val) : List Val → Val
  | [] => x
  | y :: r => leastBy lt (if lt y x then y else x) r
def joinN (sep : List Nat) : List (List Nat) → List Nat
  | [] => []
  | [x] => x
  | x :: r => x ++ sep ++ joinN sep r
def itemsE (v : Val) : M (List Val) :=
  match v with
  | .tup xs => pure xs
  | .str s => pure (s.map fun c => .str [c])
  | .loc n => do
    match ← look n with
    | .lst xs => pure xs
    | .rol xs => pure xs
    | _ => fail
  | _ => fail
def lstE (v : Val) : M (List Val) :=
  match v with
  | .loc n => do
    match ← look n with
    | .lst xs => pure xs
    | _ => fail
  | _ => fail
def maxI : Int → List Int → Int
  | x, [] => x
  | x, y :: r => maxI (max x y) r
def minI : Int → List Int → Int
  | x, [] => x
  | x, y :: r => minI (min x y) r
def mkE (k : Mk) (v : Val) : M Val :=
  match k with
  | .list => do let xs ← itemsE v; need (decide (xs.length ≤ LINE)); alloc (.lst xs)
  | .tuple => do
    match v with
    | .tup xs => pure (.tup xs)
    | _ => do let xs ← lstE v; pure (.tup xs)
  | .sum => do let xs ← lstE v; let is ← get? (asInts xs); pure (.int is.sum)
  | .max => do
    let xs ← lstE v
    match asInts xs with
    | some (i :: is) => pure (.int (maxI i is))
    | _ => fail
  | .min => do
    let xs ← lstE v
    match asInts xs with
    | some (i :: is) => pure (.int (minI i is))
    | _ => fail
  | .all => do let xs ← lstE v; let bs ← get? (asBls xs); pure (.bl (bs.all id))
  | .any => do let xs ← lstE v; let bs ← get? (asBls xs); pure (.bl (bs.any id))
  | _ => fail
def lenV (v : Val) : M Val :=
  match v with
  | .str s => pure (.int s.length)
  | .tup xs => pure (.int xs.length)
  | .loc n => do
    match ← look n with
    | .lst xs => pure (.int xs.length)
    | .rol xs => pure (.int xs.length)
    | _ => fail
  | _ => fail
def absV (v : Val) : M Val :=
  match v with
  | .int i => pure (.int (if i < 0 then -i else i))
  | _ => fail
def intV (v : Val) : M Val :=
  match v with
  | .int i => pure (.int i)
  | .bl k => pure (.int (if k = true then 1 else 0))
  | _ => fail
def reprV (v : Val) : M Val := fun S =>
  match toD 50 S v with
  | some d => match P.rp d with
    | some s => .ok (.str s) S
    | none => .no
  | none => .no
def max2V (x y : Val) : M Val :=
  match x, y with
  | .int i, .int j => pure (.int (if j > i then j else i))
  | _, _ => fail
def min2V (x y : Val) : M Val :=
  match x, y with
  | .int i, .int j => pure (.int (if j < i then j else i))
  | _, _ => fail
def bi1 (b : Bi) (x : Val) : M Val :=
  match b with
  | .abs => absV x
  | .int => intV x
  | .len => lenV x
  | .repr => reprV P x
  | _ => fail
def bi2 (b : Bi) (x y : Val) : M Val :=
  match b with
  | .max2 => max2V x y
  | .min2 => min2V x y
  | _ => fail
def biOf (b : Bi) (vs : List Val) : M Val :=
  match vs with
  | [x] => bi1 P b x
  | [x, y] => bi2 b x y
  | _ => fail
def placeN (x : List Nat) : List Nat → Nat → Option Nat
  | [], i => if x.isEmpty then some i else none
  | c :: r, i => if x.isPrefixOf (c :: r) then some i else placeN x r (i + 1)
def isLstV (a : Val) : M Unit :=
  match a with
  | .loc n => do
    match ← look n with
    | .lst _ => pure ()
    | _ => fail
  | _ => fail
def isStrV (a : Val) : M Unit :=
  match a with
  | .str _ => pure ()
  | _ => fail
def isIdxV (a : Val) : M Unit :=
  match a with
  | .str _ => pure ()
  | .loc n => do
    match ← look n with
    | .lst _ => pure ()
    | _ => fail
  | _ => fail
def meTy (m : Me) (a : Val) : M Unit :=
  match m with
  | .append => isLstV a
  | .extend => isLstV a
  | .index => isIdxV a
  | .count => isLstV a
  | .pop0 => isLstV a
  | .pop1 => isLstV a
  | .join => isStrV a
  | _ => fail
def appendV (a v : Val) : M Val :=
  match a with
  | .loc n => do
    match ← look n with
    | .lst xs => do need (decide (xs.length < LINE)); put n (.lst (xs ++ [v])); pure .non
    | _ => fail
  | _ => fail
def extendV (a v : Val) : M Val :=
  match a with
  | .loc n => do
    match ← look n with
    | .lst xs => do
      let ys ← lstE v
      need (decide (xs.length + ys.length ≤ LINE))
      put n (.lst (xs ++ ys))
      pure .non
    | _ => fail
  | _ => fail
def sindexV (a v : Val) : M Val :=
  match a, v with
  | .str s, .str x => do let k ← get? (placeN x s 0); pure (.int k)
  | _, _ => fail
def firstT : List Bool → Nat → Option Nat
  | [], _ => none
  | b :: r, i => if b = true then some i else firstT r (i + 1)
def tindexV (a v : Val) : M Val :=
  match a with
  | .tup xs => eqAllM v xs >>= fun bs => get? (firstT bs 0) >>= fun k => pure (.int k)
  | _ => fail
def lindexV (a v : Val) : M Val :=
  match a with
  | .loc n => look n >>= fun o => (match o with
    | .lst xs => eqAllM v xs >>= fun bs => get? (firstT bs 0) >>= fun k => pure (.int k)
    | _ => fail)
  | _ => fail
def indexV (a v : Val) : M Val :=
  match a with
  | .str _ => sindexV a v
  | _ => lindexV a v
def tcountV (a v : Val) : M Val :=
  match a with
  | .tup xs => eqAllM v xs >>= fun bs => pure (.int (bs.countP id : Nat))
  | _ => fail
def lcountV (a v : Val) : M Val :=
  match a with
  | .loc n => look n >>= fun o => (match o with
    | .lst xs => eqAllM v xs >>= fun bs => pure (.int (bs.countP id : Nat))
    | _ => fail)
  | _ => fail
def popV (a v : Val) : M Val :=
  match a with
  | .loc n => look n >>= fun o => (match o with
    | .lst xs => (match v with
      | .int i => need (small62 i) >>= fun _ => get? (ixOf i xs.length) >>= fun k => get? xs[k]? >>= fun x => put n (.lst (xs.eraseIdx k)) >>= fun _ => pure x
      | _ => fail)
    | _ => fail)
  | _ => fail
def pop0V (a : Val) : M Val :=
  match a with
  | .loc n => look n >>= fun o => (match o with
    | .lst xs => get? xs[xs.length - 1]? >>= fun x => put n (.lst xs.dropLast) >>= fun _ => pure x
    | _ => fail)
  | _ => fail
def joinV (a v : Val) : M Val :=
  match a with
  | .str s => do
    let ys ← (match v with | .tup xs => pure xs | _ => lstE v)
    let ts ← get? (asStrs ys)
    need (decide ((ts.map List.length).sum + ts.length * s.length ≤ LINE))
    pure (.str (joinN s ts))
  | _ => fail
def meOf (m : Me) (a : Val) (vs : List Val) : M Val :=
  match vs with
  | [v] => match m with
    | .append => appendV a v
    | .extend => extendV a v
    | .index => indexV a v
    | .count => lcountV a v
    | .pop1 => popV a v
    | .join => joinV a v
    | _ => fail
  | [] => match m with
    | .pop0 => pop0V a
    | _ => fail
  | _ => fail
def onlyM {α : Type} (x : M α) : M α := fun S => match x S with
  | .ok a S' => .ok a S'
  | _ => .no
variable (C : Orc)
def callV (a : Val) (vs : List Val) : M Val :=
  match a with
  | .loc n => fun S => match S[n]? with
    | some (.clo f cs) => C f vs cs S
    | _ => .no
  | _ => fail
def isClo (x : Val) : M Unit :=
  match x with
  | .loc n => fun S => match S[n]? with
    | some (.clo _ _) => .ok () S
    | _ => .no
  | _ => fail
def newV (c : Nat) (vs : List Val) : M Val := fun S =>
  match P.cl c with
  | some d => if d.exc then (if vs.length = d.fields.length then .ok (.loc S.length) (S ++ [.exc c vs]) else .no) else match d.init with
    | some f => match C f (.loc S.length :: vs) [] (S ++ [.ins c []]) with
      | .ok .non S' => .ok (.loc S.length) S'
      | .ok _ _ => .no
      | .ex k fs S' => .ex k fs S'
      | .no => .no
    | none => .no
  | none => .no
def methOf (a : Val) (m : Nat) : M Nat :=
  match a with
  | .loc n => fun S => match S[n]? with
    | some (.ins c _) => (match P.cl c with
      | some d => (match d.meths.lookup m with
        | some f => .ok f S
        | none => .no)
      | none => .no)
    | _ => .no
  | _ => fail
def mcallV (a : Val) (m : Nat) (vs : List Val) : M Val :=
  match a with
  | .loc n => do
    match ← look n with
    | .ins c fs => do
      let d ← get? (P.cl c)
      let f ← get? (d.meths.lookup m)
      fun S => C f (a :: vs) [] S
    | _ => fail
  | _ => fail
def slotV (env : Env) (i : Nat) : Option Val := match env[i]? with
  | some (some v) => some v
  | _ => none
def Ob.drop : Ob → Ob
  | .clo _ _ => .dead
  | o => o
def dropC (S : Store) : Store := S.map Ob.drop
def dropM (b : Bool) : M Unit := fun S => .ok () (if b = true then dropC S else S)
def augI (op : Bop) (x y : Val) : M Val :=
  match op, x, y with
  | .add, .int i, .int j => pure (.int (i + j))
  | .sub, .int i, .int j => pure (.int (i - j))
  | _, _, _ => fail
def tupTo (v : Val) (n : Nat) : M (List Val) :=
  match v with
  | .tup xs => if xs.length = n then pure xs else fail
  | _ => fail
def slM (x : Val) (l h : Option Val) : M Val :=
  match l, h with
  | none, none => slV x none none
  | some (.int i), none => slV x (some i) none
  | none, some (.int j) => slV x none (some j)
  | some (.int i), some (.int j) => slV x (some i) (some j)
  | _, _ => fail
def partI : Option Val → M (Option Val)
  | none => pure none
  | some (.int i) => pure (some (.int i))
  | _ => fail
def notV (x : Val) : M Val :=
  match x with
  | .bl k => pure (.bl (!k))
  | _ => fail
def negV (x : Val) : M Val :=
  match x with
  | .int i => pure (.int (-i))
  | _ => fail
def tru (p : Env → M Val) : Env → M Bool := fun env => p env >>= fun x => truth x
def andM (x : Val) (y : M Val) : M Val :=
  match x with
  | .bl true => y
  | .bl false => pure (.bl false)
  | _ => fail
def orM (x : Val) (y : M Val) : M Val :=
  match x with
  | .bl true => pure (.bl true)
  | .bl false => y
  | _ => fail
def chM (k : Bool) (z : M Val) : M Val := if k = true then z else pure (.bl false)
def r1M (x : Val) : M Src :=
  match x with
  | .int j => need (small62 j) >>= fun _ => pure (.rng 0 1 j.toNat)
  | _ => fail
def r2M (x y : Val) : M Src :=
  match x, y with
  | .int i, .int j => need (small62 i && small62 j) >>= fun _ => pure (.rng i 1 (j - i).toNat)
  | _, _ => fail
def turnM (f : Val → Env → M Env) (pc : Env → M Bool) (pe : Env → M Val) (n : Nat) (env : Env) (x : Val) : M Unit :=
  f x env >>= fun env => pc env >>= fun b => if b = true then pe env >>= fun y => pushL n y else pure ()
def compM (vs : List Nat) (ps : Env → M Src) (f : Val → Env → M Env) (pc : Env → M Bool) (pe : Env → M Val) (env : Env) : M Val :=
  ps env >>= fun s => alloc (.lst []) >>= fun D => locOf D >>= fun n => compS s (turnM f pc pe n (Pyd.wipe vs env)) >>= fun _ => pure D
def turn2 (f : Val → Env → M Env) (ps : Env → M Src) (f2 : Val → Env → M Env) (pc : Env → M Bool) (pe : Env → M Val) (n : Nat) (own2 : List Nat) (env : Env) (x : Val) : M Unit :=
  f x env >>= fun env => ps env >>= fun s2 => compS s2 (turnM f2 pc pe n (Pyd.wipe own2 env))
def compM2 (vs own2 : List Nat) (ps : Env → M Src) (f : Val → Env → M Env) (ps1 : Env → M Src) (f1 : Val → Env → M Env) (pc : Env → M Bool) (pe : Env → M Val) (env : Env) : M Val :=
  ps env >>= fun s => alloc (.lst []) >>= fun D => locOf D >>= fun n => compS s (turn2 f ps1 f1 pc pe n own2 (Pyd.wipe vs env)) >>= fun _ => pure D
def nilT (xs : List Val) (env : Env) : M Env :=
  match xs with
  | [] => pure env
  | _ => fail
def consT (f : Val → Env → M Env) (fs : List Val → Env → M Env) (xs : List Val) (env : Env) : M Env :=
  match xs with
  | x :: xs => f x env >>= fun env => fs xs env
  | _ => fail
def seqM (f g : Env → M Fl) (env : Env) : M Fl := fun S => match f env S with
  | .ok (.nx e) S' => g e S'
  | x => x
def tgsLen : Tgs → Nat
  | .nil => 0
  | .cons _ ts => tgsLen ts + 1
def newE (c : Nat) (vs : List Val) : M Val := newV P C c vs
def callE (f : Nat) (vs : List Val) : M Val := fun S => C f vs [] S
def forM (s : Src) (f : Val → Env → M Env) (b : Env → M Fl) (env : Env) : M Fl := fun S => forL s (fun x env => f x env >>= fun env => b env) (s.len S) 0 env S
mutual
def evE : E → Env → M Val
  | .v i => fun env => get? (slotV env i)
  | .cst c => fun _ => pure c
  | .glo g => fun _ => get? (P.val g)
  | .tup es => fun env => evEs es env >>= fun vs => need (decide (vs.length ≤ 1000)) >>= fun _ => pure (.tup vs)
  | .lst es => fun env => evEs es env >>= fun vs => need (decide (vs.length ≤ 1000)) >>= fun _ => alloc (.lst vs)
  | .dic .nil => fun _ => alloc (.dic false [])
  | .dic (.cons _ _ _) => fun _ => fail
  | .bin op a b => fun env => evE a env >>= fun x => evE b env >>= fun y => binop op x y
  | .cmp op a b => fun env => evE a env >>= fun x => evE b env >>= fun y => vbl (cmpV P C op x y)
  | .cmp2 op op' a b c => fun env => evE a env >>= fun x => evE b env >>= fun y => cmpV P C op x y >>= fun k => chM k (evE c env >>= fun z => vbl (cmpV P C op' y z))
  | .and a b => fun env => evE a env >>= fun x => andM x (evE b env)
  | .or a b => fun env => evE a env >>= fun x => orM x (evE b env)
  | .not a => fun env => evE a env >>= fun x => notV x
  | .neg a => fun env => evE a env >>= fun x => negV x
  | .ife c a b => fun env => tru (evE c) env >>= fun k => if k = true then evE a env else evE b env
  | .idx a b => fun env => evE a env >>= fun x => evE b env >>= fun y => ixV x y
  | .sl a lo hi => fun env => evE a env >>= fun x => evO lo env >>= fun l => evO hi env >>= fun h => slM x l h
  | .rev a => fun env => evE a env >>= fun x => revV x
  | .attr a f => fun env => evE a env >>= fun x => attrV P x f
  | .call f es => fun env => evEs es env >>= fun vs => callE C f vs
  | .new c es => fun env => evEs es env >>= fun vs => newV P C c vs
  | .callv a es => fun env => evE a env >>= fun x => isClo x >>= fun _ => evEs es env >>= fun vs => callV C x vs
  | .mcall a m es => fun env => evE a env >>= fun x => methOf P x m >>= fun f => evEs es env >>= fun vs => callE C f (x :: vs)
  | .isi a t => fun env => evE a env >>= fun x => vbl (isaV P t x)
  | .b1 b a => fun env => evE a env >>= fun x => bi1 P b x
  | .b2 b a c => fun env => evE a env >>= fun x => evE c env >>= fun y => bi2 b x y
  | .mk k a => fun env => evE a env >>= fun x => mkE k x
  | .mki _ _ => fun _ => fail
  | .sortk _ _ => fun _ => fail
  | .me1 m a b => fun env => evE a env >>= fun x => meTy m x >>= fun _ => evE b env >>= fun y => meOf m x [y]
  | .me0 m a => fun env => evE a env >>= fun x => meTy m x >>= fun _ => meOf m x []
  | .comp own elt t it cd => compM own (evI it) (evT t) (evB cd) (evE elt)
  | .comp2 own own2 elt t it t2 it2 cd => compM2 own own2 (evI it) (evT t) (evI it2) (evT t2) (evB cd) (evE elt)
  | .dcomp _ _ _ _ _ _ => fun _ => fail
  | .dcomp2 _ _ _ _ _ _ _ _ => fun _ => fail
  | .drp e => fun env => dropM true >>= fun _ => evE e env
  | .lam f js => fun env => get? (mapO (slotV env) js) >>= fun vs => alloc (.clo f vs)
def evEs : Es → Env → M (List Val)
  | .nil => fun _ => pure []
  | .cons e es => fun env => evE e env >>= fun v => evEs es env >>= fun vs => pure (v :: vs)
def evO : Eo → Env → M (Option Val)
  | .none => fun _ => pure none
  | .some e => fun env => evE e env >>= fun v => partI (some v)
def evB : Eo → Env → M Bool
  | .none => fun _ => pure true
  | .some e => tru (evE e)
def evI : It → Env → M Src
  | .e a => fun env => evE a env >>= fun x => sbOf x >>= fun b => pure (.one b)
  | .r1 a => fun env => evE a env >>= fun x => r1M x
  | .r2 a b => fun env => evE a env >>= fun x => evE b env >>= fun y => r2M x y
  | .r3 _ _ _ => fun _ => fail
  | .en a => fun env => evE a env >>= fun x => sbOf x >>= fun b => pure (.enm b)
  | .z2 a b => fun env => evE a env >>= fun x => evE b env >>= fun y => sbOf x >>= fun s => sbOf y >>= fun t => pure (.zip2 s t)
  | .z3 _ _ _ => fun _ => fail
  | .items _ => fun _ => fail
  | .vals _ => fun _ => fail
def evT : Tg → Val → Env → M Env
  | .v i => fun x env => need (decide (i < env.length)) >>= fun _ => pure (env.set i (some x))
  | .cv i => fun x env => need (decide (i < env.length)) >>= fun _ => dropM (slotV env i).isSome >>= fun _ => pure (env.set i (some x))
  | .tup ts => fun x env => tupTo x (tgsLen ts) >>= fun xs => evTs ts xs env
  | .sub a i => fun x env => evE a env >>= fun o => evE i env >>= fun k => ixPut o k x >>= fun _ => pure env
  | .attr _ _ => fun _ _ => fail
def evTs : Tgs → List Val → Env → M Env
  | .nil => nilT
  | .cons t ts => consT (evT t) (evTs ts)
end
def setAll : List Nat → List Val → Env → Option Env
  | [], [], env => some env
  | i :: is, v :: vs, env => setAll is vs (env.set i (some v))
  | _, _, _ => none
def tryEnd (tk : TK) (x : Val) (env : Env) : M Fl :=
  match tk with
  | .ex => pure (.nx env)
  | .ret => pure (.rt x)
  | .asg j => need (decide (j < env.length)) >>= fun _ => pure (.nx (env.set j (some x)))
def tryM (tk : TK) (pe : Env → M Val) (c i : Nat) (suite : Env → M Fl) (env : Env) : M Fl := fun S => match pe env S with
  | .ok x S' => tryEnd tk x env S'
  | .ex k fs S' => match P.cl k with
    | some d => if d.up.contains c = true then (match suite (env.set i (some (.loc S'.length))) (S' ++ [.exc k fs]) with
      | .ok f S2 => .ok (f.unset i) S2
      | _ => .no) else .ex k fs S'
    | none => .no
  | .no => .no
def noC : Orc := fun _ _ _ _ => .no
mutual
noncomputable def exS : St → Orc → Env → M Fl
  | .pass => fun _ env => pure (.nx env)
  | .brk => fun _ env => pure (.bk env)
  | .cont => fun _ env => pure (.ct env)
  | .ex e => fun C env => evE P C e env >>= fun _ => pure (.nx env)
  | .asg t e => fun C env => evE P C e env >>= fun x => evT P C t x env >>= fun env => pure (.nx env)
  | .par is es => fun C env => evEs P C es env >>= fun vs => need (is.all fun i => decide (i < env.length)) >>= fun _ => get? (setAll is vs env) >>= fun env => pure (.nx env)
  | .augv i op e => fun C env => get? (slotV env i) >>= fun x => evE P C e env >>= fun y => augI op x y >>= fun z => need (decide (i < env.length)) >>= fun _ => pure (.nx (env.set i (some z)))
  | .augs _ _ _ _ => fun _ _ => fail
  | .auga _ _ _ _ => fun _ _ => fail
  | .asga a f e => fun C env => evE P C e env >>= fun x => evE P C a env >>= fun o => attrPut P o f x >>= fun _ => pure (.nx env)
  | .ret e => fun C env => evE P C e env >>= fun x => pure (.rt x)
  | .retN => fun _ _ => pure (.rt .non)
  | .ifs c a b => fun C env => tru (evE P C c) env >>= fun k => if k = true then exSs a C env else exSs b C env
  | .for_ t it b => fun C env => evI P C it env >>= fun s => forM s (evT P C t) (exSs b C) env
  | .while_ c b => fun C env => whileP (tru (evE P C c)) (exSs b C) env
  | .raise c .none => fun _ _ => throwX c []
  | .raise c (.some e) => fun C env => evE P C e env >>= fun x => throwX c [x]
  | .try_ tk e c i b => fun C => tryM P tk (evE P C e) c i (exSs b noC)
  | .fn t f js => fun C env => evE P C (.lam f js) env >>= fun x => evT P C t x env >>= fun env => pure (.nx env)
noncomputable def exSs : Sts → Orc → Env → M Fl
  | .nil => fun _ env => pure (.nx env)
  | .cons s r => fun C => seqM (exS s C) (exSs r C)
end
def Ob.back : Option Ob → Ob → Ob
  | some (.clo f vs), _ => .clo f vs
  | _, o => o
def restC : Store → Store → Store
  | _, [] => []
  | [], T => T
  | o :: S, p :: T => Ob.back (some o) p :: restC S T
def dropR (S : Store) (r : Res Val) : Res Val := match r with
  | .ok v S' => .ok v (restC S (dropC S'))
  | .ex c fs S' => .ex c fs (restC S (dropC S'))
  | .no => .no
def env0 (d : Fn) (vs : List Val) : Env := vs.map some ++ List.replicate (d.slots - vs.length) none
def retM (r : Fl) : M Val :=
  match r with
  | .rt v => pure v
  | .nx _ => pure .non
  | _ => fail
noncomputable def callP (d : Fn) (C : Orc) (vs : List Val) : M Val := exSs P d.body C (env0 d vs) >>= fun r => retM r
noncomputable def callD (d : Fn) (C : Orc) (vs cs : List Val) : M Val :=
  need (decide (vs.length = d.arity) && decide (cs.length = d.free.length)) >>= fun _ => if (d.cells.isEmpty && d.free.isEmpty) = true then callP P d C (vs ++ cs) else fun S => dropR S (callP P d C (vs ++ cs) S)
noncomputable def callN : Nat → Orc
  | 0, _, _, _, _ => .no
  | n + 1, f, vs, cs, S => match P.fn f with
    | some d => callD P d (callN n) vs cs S
    | none => .no
end Pyd
set_option Elab.async false
set_option linter.all false
set_option maxRecDepth 100000
set_option maxHeartbeats 1000000
namespace Pyd
open PySem PySem.Spec PyProof.Rows L2
structure Nms where
  gn : Nat → Str
  cn : Nat → Str
  an : Nat → Str
  mn : Nat → Str
structure InnF where
  name : Str
  qual : Str
  params : Arguments
  body : FuncBody
  scope : Scope
  ps : List Str
  fr : List Str
structure Wd where
  K : PySem.W.Frag
  mg : Str → Option Value
  P : Prog
  nm : Nms
  fa : Nat → Addr
  T : List (Addr × (Nat → Nat → Str))
  inn : Nat → InnF → Prop
  md : Nat → Bool
abbrev tx (s : List Nat) : Str := ⟨s.toArray⟩
theorem tx_inj {a b : List Nat} (h : tx a = tx b) : a = b := congrArg (fun x : Str => x.cps.toList) h
theorem tx_len (a : List Nat) : (tx a).length = a.length := by simp [tx, Str.length]
section
variable (W : Wd) (ι : Nat → Addr) (N : Nat) (H : Hp)
mutual
def RV : Val → V → Prop
  | .non, x => x = .non
  | .bl b, x => x = .bl b
  | .int i, x => x = .int i
  | .str s, x => (s.length ≤ LINE ∧ s.all (· < 128) = true) ∧ x = .str (tx s)
  | .tup xs, x => ∃ a ys, x = .ref a ∧ SqT W.K H a ys ∧ RVs xs ys
  | .loc n, x => n < N ∧ x = .ref (ι n)
  | .glo g, x => ∃ a, x = .ref a ∧ W.mg (W.nm.gn g) = some (.ref a)
def RVs : List Val → List V → Prop
  | [], ys => ys = []
  | x :: xs, ys => ∃ y zs, ys = y :: zs ∧ RV x y ∧ RVs xs zs
end
def RFs : List (Nat × Val) → List (Str × V) → Prop
  | [], gs => gs = []
  | (f, x) :: fs, gs => ∃ y hs, gs = (W.nm.an f, y) :: hs ∧ RV W ι N H x y ∧ RFs fs hs
end
def FixO (a : Addr) (o : Obj) : HO := .ext fun h => h.get? a = some o
def InnF.fd (I : InnF) (cl : List (Str × Addr)) (c : Addr) (doc pm ctv : Value) : FuncData :=
  { name := I.name, qualname := I.qual, params := I.params, body := I.body, scope := I.scope, globals := mainGlobals, closure := cl, defaults := .none, kwdefaults := .none, doc, pyModule := pm, annotations := none, code := .ref c, closureTuple := ctv, builtins := builtinsNs }
def FnH (H : Hp) (f : Addr) (I : InnF) (cl : List (Str × Addr)) (c : Addr) : Prop := ∃ (o : Obj) (od : Option Addr) (sl : Array (Option Value)) (doc pm ctv : Value), H f = some (.frz o (FixO f o)) ∧ o = ⟨.type "function", od, .func (I.fd cl c doc pm ctv), sl⟩
def CodeH (H : Hp) (c : Addr) (q : Str) : Prop := ∃ (o : Obj) (vs : Array Value) (t : Tok), H c = some (.frz o (FixO c o)) ∧ o.data = .fields vs ∧ vs[1]? = some (.str q t)
def TabH (H : Hp) (P : Addr) (nm : Nat → Nat → Str) : Prop := ∃ ps : Array Value, H P = some (.tbl ps) ∧ TriplesOk ps.toList ∧ ∀ (pos : Pos) (cv : Value), codeAmong pos ps.toList = some cv → ∃ c, cv = .ref c ∧ CodeH H c (nm pos.line pos.col)
def TabsH (T : List (Addr × (Nat → Nat → Str))) (H : Hp) : Prop := ∀ p ∈ T, TabH H p.1 p.2
abbrev Vw := Addr → V → Prop
abbrev noV : Vw := fun _ _ => False
def CellAt (W : Wd) (vw : Vw) (ι : Nat → Addr) (N : Nat) (H : Hp) (a : Addr) (v : Val) : Prop := ∃ y, RV W ι N H v y ∧ (vw a y ∨ ∃ o z, H a = some (.frz o (FixO a o)) ∧ o.data = .cell (some z) ∧ RelV y z)
structure CloC (W : Wd) (vw : Vw) (ι : Nat → Addr) (N : Nat) (H : Hp) (fr : List Str) (vs : List Val) (cl : List (Str × Addr)) : Prop where
  len : vs.length = fr.length
  has : ∀ (j : Nat) (y : Str) (v : Val), fr[j]? = some y → vs[j]? = some v → ∃ a, cl.lookup y = some a ∧ CellAt W vw ι N H a v
  sub : ∀ y a, cl.lookup y = some a → y ∈ fr
  inj : ∀ x y a, cl.lookup x = some a → cl.lookup y = some a → x = y
mutual
def keyH : Val → NestedKey
  | .non => .none
  | .bl b => .num (if b = true then 1 else 0)
  | .int i => .num i
  | .str s => .text (tx s)
  | .tup xs => .tup (keysH xs)
  | .loc _ => .none
  | .glo _ => .none
def keysH : List Val → List NestedKey
  | [] => []
  | x :: xs => keyH x :: keysH xs
end
section
variable (W : Wd) (w : World) (ι : Nat → Addr) (N : Nat) (H : Hp)
def EntR (p : Val × Val) (e : DictEntry) : Prop :=
  p.1.key = true ∧ e.hash = (keyH p.1).hash w ∧ (∃ y, RelV y e.key ∧ RV W ι N H p.1 y) ∧ ∃ z, RelV z e.val ∧ RV W ι N H p.2 z
def DicR (a : Addr) (o : Obj) (kvs : List (Val × Val)) : Prop :=
  (a == sysModules) = false ∧ kvs.length ≤ sizeLine ∧ (kvs.map fun p => keyH p.1).Nodup ∧ (∀ p ∈ kvs, ∀ q ∈ kvs, isTup p.1 = isTup q.1) ∧
    o.ExactDict ∧ ∃ es ep, o.data = .dict es ep ∧ Paired (EntR W w ι N H) kvs es.toList
def RO (vw : Vw) (n : Nat) : Ob → Prop
  | .lst xs => ∃ ys, H (ι n) = some (.lst ys) ∧ RVs W ι N H xs ys
  | .rol xs => ∃ ys, ((∃ o, H (ι n) = some (.frz o (.lst ys))) ∨ SqL W.K (fun _ => none) (ι n) ys) ∧ RVs W ι N H xs ys
  | .dic lk kvs => ∃ o, H (ι n) = some (if lk = true then .frz o (FixO (ι n) o) else FixO (ι n) o) ∧ DicR W w ι N H (ι n) o kvs
  | .set _ => False
  | .ins c fs => ∃ k C dx gs, W.P.cl c = some k ∧ k.exc = false ∧ (∀ p ∈ fs, p.1 ∈ k.fields) ∧ H (ι n) = some (.ins C dx gs) ∧ H dx = some (.own (ι n)) ∧ W.mg (W.nm.cn c) = some (.ref C) ∧ RFs W ι N H fs gs
  | .dead => True
  | .clo f vs => ∃ I cl c, W.inn f I ∧ FnH H (ι n) I cl c ∧ CodeH H c I.qual ∧ CloC W vw ι N H I.fr vs cl
  | .exc c fs => ∃ k C oe, W.P.cl c = some k ∧ k.exc = true ∧ W.mg (W.nm.cn c) = some (.ref C) ∧ H (ι n) = some (.frz oe (FixO (ι n) oe)) ∧ oe.cls = .ref C ∧ (∃ vs, oe.data = .fields vs) ∧ match oe.dict with
    | none => k.fields = [] ∧ fs = []
    | some dx => ∃ od ys, H dx = some (.frz od (.xd ((k.fields.map W.nm.an).zip ys))) ∧ RVs W ι N H fs ys ∧ fs.length = k.fields.length
end
structure Kp (H H' : Hp) : Prop where
  tup : ∀ b xs, H b = some (.tup xs) → H' b = some (.tup xs)
  frz : ∀ b o u, H b = some (.frz o u) → H' b = some (.frz o u)
theorem Kp.refl (H : Hp) : Kp H H := ⟨fun _ _ h => h, fun _ _ _ h => h⟩
theorem Kp.trans {H H1 H2 : Hp} (a : Kp H H1) (b : Kp H1 H2) : Kp H H2 := ⟨fun c xs h => b.tup c xs (a.tup c xs h), fun c o u h => b.frz c o u (a.frz c o u h)⟩
theorem Kp.new {H : Hp} {p : Addr} {o : HO} (h : H p = none) : Kp H (upd H p o) :=
  ⟨fun b xs e => by rw [upd_ne (ne_of_none e h)]; exact e, fun b o u e => by rw [upd_ne (ne_of_none e h)]; exact e⟩
theorem Kp.sqT {K : PySem.W.Frag} {H H' : Hp} (k : Kp H H') {a : Addr} {xs : List V} (h : SqT K H a xs) : SqT K H' a xs := by
  rcases h with (h | ⟨o, h⟩) | h
  · exact .inl (.inl (k.tup _ _ h))
  · exact .inl (.inr ⟨o, k.frz _ _ _ h⟩)
  · exact .inr h
structure KpW (H H' : Hp) : Prop where
  tup : ∀ b xs, H b = some (.tup xs) → H' b = some (.tup xs)
  frz : ∀ b o u, H b = some (.frz o u) → (u = FixO b o → ∀ v, o.data ≠ .cell v) → H' b = some (.frz o u)
theorem Kp.weak {H H' : Hp} (k : Kp H H') : KpW H H' := ⟨k.tup, fun b o u h _ => k.frz b o u h⟩
theorem KpW.sqT {K : PySem.W.Frag} {H H' : Hp} (k : KpW H H') {a : Addr} {xs : List V} (h : SqT K H a xs) : SqT K H' a xs := by
  rcases h with (h | ⟨o, h⟩) | h
  · exact .inl (.inl (k.tup _ _ h))
  · exact .inl (.inr ⟨o, k.frz _ _ _ h fun z => nomatch z⟩)
  · exact .inr h
theorem FnH.kpw {H H' : Hp} {f : Addr} {I : InnF} {cl : List (Str × Addr)} {c : Addr} (h : FnH H f I cl c) (k : KpW H H') : FnH H' f I cl c := let ⟨o, od, sl, doc, pm, ctv, a, b⟩ := h; ⟨o, od, sl, doc, pm, ctv, k.frz _ _ _ a (fun _ v z => by rw [b] at z; cases z), b⟩
theorem CodeH.kpw {H H' : Hp} {c : Addr} {q : Str} (h : CodeH H c q) (k : KpW H H') : CodeH H' c q := let ⟨o, vs, t, a, b, d⟩ := h; ⟨o, vs, t, k.frz _ _ _ a (fun _ v z => by rw [b] at z; cases z), b, d⟩
theorem TabsH.kpw {T : List (Addr × (Nat → Nat → Str))} {H H' : Hp} (h : TabsH T H) (k : KpW H H') (g : ∀ P ps, H P = some (.tbl ps) → H' P = some (.tbl ps)) : TabsH T H' := fun p hp => let ⟨ps, a, b, c⟩ := h p hp; ⟨ps, g _ _ a, b, fun pos cv q => let ⟨x, y, z⟩ := c pos cv q; ⟨x, y, z.kpw k⟩⟩
theorem FnH.kp {H H' : Hp} {f : Addr} {I : InnF} {cl : List (Str × Addr)} {c : Addr} (h : FnH H f I cl c) (k : Kp H H') : FnH H' f I cl c := let ⟨o, od, sl, doc, pm, ctv, a, b⟩ := h; ⟨o, od, sl, doc, pm, ctv, k.frz _ _ _ a, b⟩
theorem CodeH.kp {H H' : Hp} {c : Addr} {q : Str} (h : CodeH H c q) (k : Kp H H') : CodeH H' c q := let ⟨o, vs, t, a, b⟩ := h; ⟨o, vs, t, k.frz _ _ _ a, b⟩
theorem TabsH.kp {T : List (Addr × (Nat → Nat → Str))} {H H' : Hp} (h : TabsH T H) (k : Kp H H') (g : ∀ P ps, H P = some (.tbl ps) → H' P = some (.tbl ps)) : TabsH T H' := fun p hp => let ⟨ps, a, b, c⟩ := h p hp; ⟨ps, g _ _ a, b, fun pos cv q => let ⟨x, y, z⟩ := c pos cv q; ⟨x, y, z.kp k⟩⟩
section
variable {W : Wd} {w : World} {ι ι' : Nat → Addr} {N N' : Nat} {H H' : Hp}
mutual
theorem RV.monoW (hN : N ≤ N') (hι : ∀ n, n < N → ι' n = ι n) (k : KpW H H') : ∀ (v : Val) (x : V), RV W ι N H v x → RV W ι' N' H' v x
  | .non, _, h => h
  | .bl _, _, h => h
  | .int _, _, h => h
  | .str _, _, h => h
  | .tup xs, _, ⟨a, ys, e, t, r⟩ => ⟨a, ys, e, k.sqT t, RVs.monoW hN hι k xs ys r⟩
  | .loc n, _, ⟨h, e⟩ => ⟨Nat.lt_of_lt_of_le h hN, by rw [hι n h]; exact e⟩
  | .glo _, _, h => h
theorem RVs.monoW (hN : N ≤ N') (hι : ∀ n, n < N → ι' n = ι n) (k : KpW H H') : ∀ (vs : List Val) (xs : List V), RVs W ι N H vs xs → RVs W ι' N' H' vs xs
  | [], _, h => h
  | v :: vs, _, ⟨y, zs, e, r, rs⟩ => ⟨y, zs, e, RV.monoW hN hι k v y r, RVs.monoW hN hι k vs zs rs⟩
end
theorem RFs.monoW (hN : N ≤ N') (hι : ∀ n, n < N → ι' n = ι n) (k : KpW H H') : ∀ (fs : List (Nat × Val)) (gs : List (Str × V)), RFs W ι N H fs gs → RFs W ι' N' H' fs gs
  | [], _, h => h
  | (f, v) :: fs, _, ⟨y, hs, e, r, rs⟩ => ⟨y, hs, e, RV.monoW hN hι k v y r, RFs.monoW hN hι k fs hs rs⟩
theorem RV.mono (hN : N ≤ N') (hι : ∀ n, n < N → ι' n = ι n) (k : Kp H H') (v : Val) (x : V) (h : RV W ι N H v x) : RV W ι' N' H' v x := RV.monoW hN hι k.weak v x h
theorem RVs.mono (hN : N ≤ N') (hι : ∀ n, n < N → ι' n = ι n) (k : Kp H H') (v : List Val) (x : List V) (h : RVs W ι N H v x) : RVs W ι' N' H' v x := RVs.monoW hN hι k.weak v x h
theorem RFs.mono (hN : N ≤ N') (hι : ∀ n, n < N → ι' n = ι n) (k : Kp H H') (v : List (Nat × Val)) (x : List (Str × V)) (h : RFs W ι N H v x) : RFs W ι' N' H' v x := RFs.monoW hN hι k.weak v x h
theorem CellAt.mono {vw vw' : Vw} (hN : N ≤ N') (hι : ∀ n, n < N → ι' n = ι n) (k : Kp H H') (hv : ∀ a y, vw a y → vw' a y) {a : Addr} {v : Val} (h : CellAt W vw ι N H a v) : CellAt W vw' ι' N' H' a v :=
  let ⟨y, r, q⟩ := h
  ⟨y, r.mono hN hι k, q.imp (hv a y) fun ⟨o, z, a, b⟩ => ⟨o, z, k.frz _ _ _ a, b⟩⟩
theorem CloC.mono {vw vw' : Vw} (hN : N ≤ N') (hι : ∀ n, n < N → ι' n = ι n) (k : Kp H H') (hv : ∀ a y, vw a y → vw' a y) {fr : List Str} {vs : List Val} {cl : List (Str × Addr)} (h : CloC W vw ι N H fr vs cl) : CloC W vw' ι' N' H' fr vs cl :=
  ⟨h.len, fun j y v e e' => let ⟨a, b, c⟩ := h.has j y v e e'; ⟨a, b, c.mono hN hι k hv⟩, h.sub, h.inj⟩
theorem RVs.length : ∀ {vs : List Val} {xs : List V}, RVs W ι N H vs xs → xs.length = vs.length
  | [], _, h => by cases h; rfl
  | v :: vs, _, ⟨y, zs, e, r, rs⟩ => by subst e; rw [List.length_cons, List.length_cons, RVs.length rs]
theorem RVs.get : ∀ {vs : List Val} {xs : List V} {i : Nat} {v : Val}, RVs W ι N H vs xs → vs[i]? = some v → ∃ x, xs[i]? = some x ∧ RV W ι N H v x
  | [], _, _, _, _, e => by simp at e
  | a :: vs, _, 0, v, ⟨y, zs, e, r, rs⟩, h => by subst e; simp at h; subst h; exact ⟨y, rfl, r⟩
  | a :: vs, _, i + 1, v, ⟨y, zs, e, r, rs⟩, h => by
    subst e
    obtain ⟨x, h1, h2⟩ := RVs.get (i := i) rs (by simpa using h)
    exact ⟨x, by simpa using h1, h2⟩
theorem RVs.append : ∀ {vs us : List Val} {xs ys : List V}, RVs W ι N H vs xs → RVs W ι N H us ys → RVs W ι N H (vs ++ us) (xs ++ ys)
  | [], _, _, _, h, g => by cases h; exact g
  | v :: vs, _, _, _, ⟨y, zs, e, r, rs⟩, g => by subst e; exact ⟨y, _, rfl, r, RVs.append rs g⟩
theorem RVs.snoc {vs : List Val} {xs : List V} {v : Val} {x : V} (h : RVs W ι N H vs xs) (g : RV W ι N H v x) : RVs W ι N H (vs ++ [v]) (xs ++ [x]) := RVs.append h ⟨x, [], rfl, g, rfl⟩
theorem RVs.set {v : Val} {x : V} (g : RV W ι N H v x) : ∀ {vs : List Val} {xs : List V} (i : Nat), RVs W ι N H vs xs → RVs W ι N H (vs.set i v) (xs.set i x)
  | [], _, _, h => by cases h; exact (rfl : _ = _)
  | a :: vs, _, 0, ⟨y, zs, e, r, rs⟩ => by subst e; exact ⟨x, zs, rfl, g, rs⟩
  | a :: vs, _, i + 1, ⟨y, zs, e, r, rs⟩ => by subst e; exact ⟨y, _, rfl, r, RVs.set g i rs⟩
theorem RVs.take : ∀ {vs : List Val} {xs : List V} (n : Nat), RVs W ι N H vs xs → RVs W ι N H (vs.take n) (xs.take n)
  | [], _, _, h => by cases h; simp [RVs]
  | _, _, 0, _ => by simp [RVs]
  | a :: vs, _, n + 1, ⟨y, zs, e, r, rs⟩ => by subst e; exact ⟨y, _, rfl, r, RVs.take n rs⟩
theorem RVs.drop : ∀ {vs : List Val} {xs : List V} (n : Nat), RVs W ι N H vs xs → RVs W ι N H (vs.drop n) (xs.drop n)
  | [], _, _, h => by cases h; simp [RVs]
  | _, _, 0, h => by simpa using h
  | a :: vs, _, n + 1, ⟨y, zs, e, r, rs⟩ => by subst e; simpa using RVs.drop n rs
theorem RVs.reverse : ∀ {vs : List Val} {xs : List V}, RVs W ι N H vs xs → RVs W ι N H vs.reverse xs.reverse
  | [], _, h => by cases h; simp [RVs]
  | a :: vs, _, ⟨y, zs, e, r, rs⟩ => by subst e; rw [List.reverse_cons, List.reverse_cons]; exact RVs.snoc (RVs.reverse rs) r
theorem RVs.eraseIdx : ∀ {vs : List Val} {xs : List V} (i : Nat), RVs W ι N H vs xs → RVs W ι N H (vs.eraseIdx i) (xs.eraseIdx i)
  | [], _, _, h => by cases h; simp [RVs]
  | a :: vs, _, 0, ⟨y, zs, e, r, rs⟩ => by subst e; simpa using rs
  | a :: vs, _, i + 1, ⟨y, zs, e, r, rs⟩ => by subst e; exact ⟨y, _, rfl, r, RVs.eraseIdx i rs⟩
end
def Trk : Ob → Prop
  | .rol _ => False
  | .dead => False
  | .clo _ _ => False
  | _ => True
structure FC where
  own : Nat → Option Addr
  cap : Addr → Option Obj
def vwOf (cl : FC) (σ : L2.St) : Vw := fun a y => (∃ i, cl.own i = some a ∧ σ[i]? = some (some y)) ∨ ∃ o z, cl.cap a = some o ∧ o.data = .cell (some z) ∧ RelV y z
section
variable (W : Wd) (w : World) (cl : FC)
structure Rl (ι : Nat → Addr) (env : Env) (S : Store) (σ : L2.St) (H : Hp) : Prop where
  len : σ.length ≤ env.length
  slot : ∀ i v, i < σ.length → env[i]? = some (some v) → ∃ y, σ[i]? = some (some y) ∧ RV W ι S.length H v y
  cs : ∀ i a y, cl.own i = some a → σ[i]? = some (some y) → ∃ v, env[i]? = some (some v)
  ob : ∀ n o, S[n]? = some o → RO W w ι S.length H (vwOf cl σ) n o
  inj : ∀ m n o o', S[m]? = some o → S[n]? = some o' → Trk o → Trk o' → ι m = ι n → m = n
  tab : TabsH W.T H
end
section
variable {W : Wd} {w : World} {X : Cx} {cl : FC} {vw vw' : Vw} {ι ι' : Nat → Addr} {N N' : Nat} {H H' : Hp} {env : Env} {S : Store} {σ : L2.St}
theorem paired_imp {α β : Type} {F G : α → β → Prop} : ∀ {l₁ : List α} {l₂ : List β}, Paired F l₁ l₂ → (∀ a b, F a b → G a b) → Paired G l₁ l₂
  | _, _, .nil, _ => .nil
  | _, _, .cons r t, f => .cons (f _ _ r) (paired_imp t f)
theorem DicR.monoW (hN : N ≤ N') (hι : ∀ n, n < N → ι' n = ι n) (k : KpW H H') {a : Addr} {o : Obj} {kvs : List (Val × Val)} (h : DicR W w ι N H a o kvs) : DicR W w ι' N' H' a o kvs := by
  obtain ⟨h1, h2, h3, h4, h5, es, ep, h6, h7⟩ := h
  refine ⟨h1, h2, h3, h4, h5, es, ep, h6, paired_imp h7 fun p e ⟨a1, a2, ⟨y, a3, a4⟩, z, a5, a6⟩ => ⟨a1, a2, ⟨y, a3, a4.monoW hN hι k⟩, z, a5, a6.monoW hN hι k⟩⟩
theorem DicR.mono (hN : N ≤ N') (hι : ∀ n, n < N → ι' n = ι n) (k : Kp H H') {a : Addr} {o : Obj} {kvs : List (Val × Val)} (h : DicR W w ι N H a o kvs) : DicR W w ι' N' H' a o kvs := h.monoW hN hι k.weak
def Fine (a : Addr) (u : HO) : Prop := (∀ o, u = .frz o (FixO a o) → ∀ v, o.data ≠ .cell v) ∧ ∀ ps, u ≠ .tbl ps
theorem RO.stayW (hN : N ≤ N') (hι : ∀ n, n < N → ι' n = ι n) (k : KpW H H') {n : Nat} (hn : n < N) (h1 : ∀ u, H (ι n) = some u → Fine (ι n) u → H' (ι n) = some u) (h2 : ∀ dx, H dx = some (.own (ι n)) → H' dx = some (.own (ι n))) (hv : ∀ a v, CellAt W vw ι N H a v → CellAt W vw' ι' N' H' a v) :
    ∀ o : Ob, RO W w ι N H vw n o → RO W w ι' N' H' vw' n o := by
  intro o h
  have e := hι n hn
  cases o with
  | lst xs => obtain ⟨ys, a, b⟩ := h; exact ⟨ys, by rw [e]; exact h1 _ a ⟨fun o z => (nomatch z), fun ps z => (nomatch z)⟩, b.monoW hN hι k⟩
  | rol xs =>
    obtain ⟨ys, a, b⟩ := h
    refine ⟨ys, ?_, b.monoW hN hι k⟩
    rw [e]
    exact a.imp (fun ⟨o, q⟩ => ⟨o, h1 _ q ⟨fun o z => (nomatch (HO.frz.inj z).2), fun ps z => (nomatch z)⟩⟩) id
  | dic lk kvs =>
    obtain ⟨o, a, b⟩ := h
    have nc : ∀ o', (if lk = true then HO.frz o (FixO (ι n) o) else FixO (ι n) o) = .frz o' (FixO (ι n) o') → ∀ v, o'.data ≠ .cell v := fun o' z v hv => by
      obtain ⟨_, _, _, _, _, es, ep, hd, _⟩ := b
      cases lk with
      | false => exact nomatch z
      | true =>
        have z : HO.frz o (FixO (ι n) o) = .frz o' (FixO (ι n) o') := z
        injection z with z1 _
        rw [← z1, hd] at hv; cases hv
    have nt : ∀ ps, (if lk = true then HO.frz o (FixO (ι n) o) else FixO (ι n) o) ≠ .tbl ps := fun ps z => by cases lk <;> exact nomatch z
    exact ⟨o, by rw [e]; exact h1 _ a ⟨nc, nt⟩, by rw [e]; exact b.monoW hN hι k⟩
  | set xs => exact h
  | ins c fs => obtain ⟨q, C, dx, gs, q1, q2, q3, a, b, d, f⟩ := h; exact ⟨q, C, dx, gs, q1, q2, q3, by rw [e]; exact h1 _ a ⟨fun o z => (nomatch z), fun ps z => (nomatch z)⟩, by rw [e]; exact h2 _ b, d, f.monoW hN hι k⟩
  | dead => trivial
  | clo f cs =>
    obtain ⟨I, cl, c, a1, a2, a3, a4⟩ := h
    exact ⟨I, cl, c, a1, by rw [e]; exact a2.kpw k, a3.kpw k, ⟨a4.len, fun j y v e e' => let ⟨a, b, c⟩ := a4.has j y v e e'; ⟨a, b, hv a v c⟩, a4.sub, a4.inj⟩⟩
  | exc c vs =>
    obtain ⟨q, C, oe, a1, a2, a3, a4, a5, a6, a7⟩ := h
    have nc : ∀ oe : Obj, (∃ vs, oe.data = .fields vs) → ∀ o, HO.frz oe (FixO (ι n) oe) = .frz o (FixO (ι n) o) → ∀ v, o.data ≠ .cell v := fun oe ⟨vs, h6⟩ o z v hv => by
      injection z with z1 _
      rw [← z1, h6] at hv; cases hv
    refine ⟨q, C, oe, a1, a2, a3, by rw [e]; exact h1 _ a4 ⟨nc oe a6, fun ps z => (nomatch z)⟩, a5, a6, ?_⟩
    cases hd : oe.dict with
    | none => rw [hd] at a7; exact a7
    | some dx => rw [hd] at a7; obtain ⟨od, ys, b1, b2, b3⟩ := a7; exact ⟨od, ys, k.frz _ _ _ b1 (fun z => nomatch z), b2.monoW hN hι k, b3⟩
theorem RO.stay (hN : N ≤ N') (hι : ∀ n, n < N → ι' n = ι n) (k : Kp H H') {n : Nat} (hn : n < N) (h1 : ∀ u, H (ι n) = some u → H' (ι n) = some u) (h2 : ∀ dx, H dx = some (.own (ι n)) → H' dx = some (.own (ι n))) (hv : ∀ a y, vw a y → vw' a y)
    (o : Ob) (h : RO W w ι N H vw n o) : RO W w ι' N' H' vw' n o := h.stayW hN hι k.weak hn (fun u e _ => h1 u e) h2 fun _ _ c => c.mono hN hι k hv
theorem RO.some {n : Nat} {o : Ob} (h : RO W w ι N H vw n o) (t : Trk o) : ∃ u, H (ι n) = some u := by
  cases o with
  | lst xs => obtain ⟨ys, a, _⟩ := h; exact ⟨_, a⟩
  | rol xs => exact absurd t (by simp [Trk])
  | dic lk kvs => obtain ⟨o, a, _⟩ := h; exact ⟨_, a⟩
  | set xs => exact h.elim
  | ins c fs => obtain ⟨_, C, dx, gs, _, _, _, a, _⟩ := h; exact ⟨_, a⟩
  | dead => exact absurd t (by simp [Trk])
  | clo f cs => exact absurd t (by simp [Trk])
  | exc c vs => obtain ⟨_, _, _, _, _, _, a, _⟩ := h; exact ⟨_, a⟩
theorem RO.nxd {n : Nat} {o : Ob} {fs : List (Str × V)} (h : RO W w ι N H vw n o) (z : H (ι n) = Option.some (HO.xd fs)) : ¬ Trk o := by
  intro t
  cases o with
  | lst xs => obtain ⟨ys, a, _⟩ := h; rw [z] at a; cases a
  | rol xs => exact t
  | dic lk kvs =>
    obtain ⟨o, a, _⟩ := h
    rw [z] at a
    cases lk <;> cases a
  | set xs => exact h
  | ins c fs => obtain ⟨_, C, dx, gs, _, _, _, a, _⟩ := h; rw [z] at a; cases a
  | dead => exact t
  | clo f cs => exact t
  | exc c vs => obtain ⟨_, _, _, _, _, _, a, _⟩ := h; rw [z] at a; cases a
theorem RO.stayU (hN : N ≤ N') (hι : ∀ n, n < N → ι' n = ι n) (k : Kp H H') (hv : ∀ a y, vw a y → vw' a y) {n : Nat} (hn : n < N) {o : Ob} (t : ¬ Trk o) (h : RO W w ι N H vw n o) : RO W w ι' N' H' vw' n o := by
  cases o with
  | rol xs =>
    obtain ⟨ys, a, b⟩ := h
    refine ⟨ys, ?_, b.mono hN hι k⟩
    rw [hι n hn]
    exact a.imp (fun ⟨o1, a⟩ => ⟨o1, k.frz _ _ _ a⟩) id
  | dead => trivial
  | clo f cs =>
    obtain ⟨I, cl, c, a1, a2, a3, a4⟩ := h
    exact ⟨I, cl, c, a1, by rw [hι n hn]; exact a2.kp k, a3.kp k, a4.mono hN hι k hv⟩
  | _ => exact absurd trivial t
theorem Rl.hold (R : Rl W w cl ι env S σ H) {dx : Addr} {fs : List (Str × V)} {u : HO} (hd : H dx = some (.xd fs)) : Rl W w cl ι env S σ (upd H dx u) ∧ Kp H (upd H dx u) := by
  have k : Kp H (upd H dx u) := ⟨fun b xs h => by rw [upd_ne (fun z => by rw [z, hd] at h; cases h)]; exact h, fun b o u h => by rw [upd_ne (fun z => by rw [z, hd] at h; cases h)]; exact h⟩
  have lt : ∀ {n : Nat} {q : Ob}, S[n]? = some q → n < S.length := fun e => (List.getElem?_eq_some_iff.mp e).1
  refine ⟨⟨R.len, fun i v hi e => let ⟨y, a, b⟩ := R.slot i v hi e; ⟨y, a, b.mono (Nat.le_refl _) (fun _ _ => rfl) k⟩, R.cs, fun n o e => ?_, R.inj, R.tab.kp k fun P ps z => by rw [upd_ne (fun q => by rw [q, hd] at z; cases z)]; exact z⟩, k⟩
  have ho := R.ob n o e
  by_cases t : Trk o
  · have hne : ι n ≠ dx := fun z => ho.nxd (by rw [z]; exact hd) t
    exact ho.stay (Nat.le_refl _) (fun _ _ => rfl) k (lt e) (fun v hv => by rw [upd_ne hne]; exact hv) (fun d hv => by rw [upd_ne (fun z => by rw [z, hd] at hv; cases hv)]; exact hv) (fun _ _ h => h)
  · exact ho.stayU (Nat.le_refl _) (fun _ _ => rfl) k (fun _ _ h => h) (lt e) t
theorem Rl.grow (R : Rl W w cl ι env S σ H) (k : Kp H H') (g : ∀ b u, H b = some u → H' b = some u) : Rl W w cl ι env S σ H' where
  len := R.len
  slot := fun i v hi e => let ⟨y, a, b⟩ := R.slot i v hi e; ⟨y, a, b.mono (Nat.le_refl _) (fun _ _ => rfl) k⟩
  cs := R.cs
  ob := fun n o e => (R.ob n o e).stay (Nat.le_refl _) (fun _ _ => rfl) k (by
    have := List.getElem?_eq_some_iff.mp e; exact this.1) (fun u => g _ u) (fun dx => g dx _) (fun _ _ h => h)
  inj := R.inj
  tab := R.tab.kp k fun P ps z => g _ _ z
def newι (ι : Nat → Addr) (N : Nat) (p : Addr) : Nat → Addr := fun n => if n = N then p else ι n
theorem newι_old {n : Nat} {p : Addr} (h : n < N) : newι ι N p n = ι n := if_neg (Nat.ne_of_lt h)
theorem newι_new {p : Addr} : newι ι N p N = p := if_pos rfl
theorem Rl.alloc (R : Rl W w cl ι env S σ H) {p : Addr} {o : Ob} (k : Kp H H') (g : ∀ b u, H b = some u → H' b = some u) (hp : H p = none)
    (new : RO W w (newι ι S.length p) (S.length + 1) H' (vwOf cl σ) S.length o) : Rl W w cl (newι ι S.length p) env (S ++ [o]) σ H' := by
  have hl : (S ++ [o]).length = S.length + 1 := by simp
  have ho : ∀ n, n < S.length → newι ι S.length p n = ι n := fun n h => newι_old h
  have lt : ∀ {n : Nat} {q : Ob}, S[n]? = some q → n < S.length := fun e => (List.getElem?_eq_some_iff.mp e).1
  have at_ : ∀ {n : Nat} {q : Ob}, (S ++ [o])[n]? = some q → (S[n]? = some q ∧ n < S.length) ∨ (n = S.length ∧ q = o) := fun {n q} e => by
    by_cases h : n < S.length
    · rw [List.getElem?_append_left h] at e; exact .inl ⟨e, h⟩
    · rw [List.getElem?_append_right (Nat.le_of_not_lt h)] at e
      have h0 : n - S.length = 0 := by
        cases q' : n - S.length with
        | zero => rfl
        | succ m => rw [q'] at e; simp at e
      rw [h0] at e
      exact .inr ⟨by omega, by simpa using e.symm⟩
  refine ⟨R.len, fun i v hi e => ?_, R.cs, fun n q e => ?_, fun m n q q' e e' t t' he => ?_, R.tab.kp k fun P ps z => g _ _ z⟩
  · obtain ⟨y, a, b⟩ := R.slot i v hi e
    exact ⟨y, a, by rw [hl]; exact b.mono (Nat.le_succ _) ho k⟩
  · rw [hl]
    rcases at_ e with ⟨e, h⟩ | ⟨rfl, rfl⟩
    · exact (R.ob n q e).stay (Nat.le_succ _) ho k h (fun u => g _ u) (fun dx => g dx _) (fun _ _ h => h)
    · exact new
  · rcases at_ e with ⟨e, h⟩ | ⟨h, _⟩
    · rcases at_ e' with ⟨e', h'⟩ | ⟨h', _⟩
      · rw [ho m h, ho n h'] at he
        exact R.inj m n q q' e e' t t' he
      · rw [ho m h, h', newι_new] at he
        obtain ⟨u, hu⟩ := (R.ob m q e).some t
        rw [he, hp] at hu; cases hu
    · rcases at_ e' with ⟨e', h'⟩ | ⟨h', _⟩
      · rw [ho n h', h, newι_new] at he
        obtain ⟨u, hu⟩ := (R.ob n q' e').some t'
        rw [← he, hp] at hu; cases hu
      · rw [h, h']
theorem Rl.write (R : Rl W w cl ι env S σ H) {n : Nat} {o o' : Ob} {u : HO} (e : S[n]? = some o) (t : Trk o) (t' : Trk o') (hm : Mut (H (ι n)))
    (new : RO W w ι S.length (upd H (ι n) u) (vwOf cl σ) n o') : Rl W w cl ι env (S.set n o') σ (upd H (ι n) u) := by
  have nt : ∀ b xs, H b = some (.tup xs) → b ≠ ι n := fun b xs h z => by rw [← z, h] at hm; exact hm
  have nf : ∀ b o u, H b = some (.frz o u) → b ≠ ι n := fun b o u h z => by rw [← z, h] at hm; exact hm
  have no : ∀ b x, H b = some (.own x) → b ≠ ι n := fun b x h z => by rw [← z, h] at hm; exact hm
  have k : Kp H (upd H (ι n) u) := ⟨fun b xs h => by rw [upd_ne (nt b xs h)]; exact h, fun b o u h => by rw [upd_ne (nf b o u h)]; exact h⟩
  have hl : (S.set n o').length = S.length := by simp
  have lt : ∀ {n : Nat} {q : Ob}, S[n]? = some q → n < S.length := fun e => (List.getElem?_eq_some_iff.mp e).1
  have at_ : ∀ {m : Nat} {q : Ob}, (S.set n o')[m]? = some q → (m ≠ n ∧ S[m]? = some q) ∨ (m = n ∧ q = o') := fun {m q} h => by
    by_cases hmn : m = n
    · subst hmn
      rw [List.getElem?_set_self (lt e)] at h
      exact .inr ⟨rfl, (Option.some.inj h).symm⟩
    · rw [List.getElem?_set_ne (Ne.symm hmn)] at h
      exact .inl ⟨hmn, h⟩
  have ne : ∀ {m : Nat} {q : Ob}, m ≠ n → S[m]? = some q → Trk q → ι m ≠ ι n := fun h1 h2 h4 z => h1 (R.inj _ _ _ _ h2 e h4 t z)
  refine ⟨R.len, fun i v hi h => ?_, R.cs, fun m q h => ?_, fun m n' q q' h h' tq tq' he => ?_, R.tab.kp k fun P ps z => by rw [upd_ne (fun q => by rw [← q, z] at hm; exact hm)]; exact z⟩
  · obtain ⟨y, a, b⟩ := R.slot i v hi h
    exact ⟨y, a, by rw [hl]; exact b.mono (Nat.le_refl _) (fun _ _ => rfl) k⟩
  · rw [hl]
    rcases at_ h with ⟨hmn, h⟩ | ⟨rfl, rfl⟩
    · have ho := R.ob m q h
      by_cases tq : Trk q
      · exact ho.stay (Nat.le_refl _) (fun _ _ => rfl) k (lt h) (fun v hv => by rw [upd_ne (ne hmn h tq)]; exact hv) (fun dx hd => by rw [upd_ne (no _ _ hd)]; exact hd) (fun _ _ h => h)
      · exact ho.stayU (Nat.le_refl _) (fun _ _ => rfl) k (fun _ _ h => h) (lt h) tq
    · exact new
  · rcases at_ h with ⟨hmn, h⟩ | ⟨hz, _⟩
    · rcases at_ h' with ⟨hmn', h'⟩ | ⟨hz', _⟩
      · exact R.inj m n' q q' h h' tq tq' he
      · rw [hz'] at he ⊢
        exact R.inj m n q o h e tq t he
    · rcases at_ h' with ⟨hmn', h'⟩ | ⟨hz', _⟩
      · rw [hz] at he ⊢
        exact R.inj n n' o q' e h' t tq' he
      · rw [hz, hz']
end
end Pyd
set_option Elab.async false
set_option linter.all false
set_option maxRecDepth 100000
set_option maxHeartbeats 1000000
namespace Pyd
open PySem PySem.Spec PyProof.Rows L2
structure Fw (ι : Nat → Addr) (S : Store) (H : Hp) (ι' : Nat → Addr) (S' : Store) (H' : Hp) : Prop where
  le : S.length ≤ S'.length
  ag : ∀ n, n < S.length → ι' n = ι n
  kp : Kp H H'
theorem Fw.refl (ι : Nat → Addr) (S : Store) (H : Hp) : Fw ι S H ι S H := ⟨Nat.le_refl _, fun _ _ => rfl, Kp.refl H⟩
theorem Fw.trans {ι ι1 ι2 : Nat → Addr} {S S1 S2 : Store} {H H1 H2 : Hp} (a : Fw ι S H ι1 S1 H1) (b : Fw ι1 S1 H1 ι2 S2 H2) : Fw ι S H ι2 S2 H2 :=
  ⟨Nat.le_trans a.le b.le, fun n h => (b.ag n (Nat.lt_of_lt_of_le h a.le)).trans (a.ag n h), a.kp.trans b.kp⟩
abbrev Rf (α β : Type) := (Nat → Addr) → Nat → Hp → α → β → Prop
def RX (W : Wd) (ι : Nat → Addr) (N : Nat) (H : Hp) (c : Nat) (fs : List Val) (cls : Value) (d : Option Addr) : Prop :=
  ∃ C, cls = .ref C ∧ W.mg (W.nm.cn c) = some (.ref C) ∧ ∃ k, W.P.cl c = some k ∧ k.exc = true ∧ match d with
    | none => k.fields = [] ∧ fs = []
    | some d => ∃ ys, RVs W ι N H fs ys ∧ fs.length = k.fields.length ∧ H d = some (.xd ((k.fields.map W.nm.an).zip ys))
section
variable (W : Wd) (w : World) (cl : FC) (EX : WX)
def Gs {α β : Type} (RA : Rf α β) (ι : Nat → Addr) (env : Env) (S : Store) (σ : L2.St) (H : Hp) (r : Res α) (Q : β → Hp → Prop) : Prop :=
  match r with
  | .ok a S' => ∀ ι' H' y, Fw ι S H ι' S' H' → Rl W w cl ι' env S' σ H' → RA ι' S'.length H' a y → Q y H'
  | .ex c fs S' => ∀ ι' H' cls d, Fw ι S H ι' S' H' → Rl W w cl ι' env S' σ H' → RX W ι' S'.length H' c fs cls d → EX cls d σ H'
  | .no => False
def tG {α β : Type} (RA : Rf α β) (f : Env → M α) : L2.St → Hp → (β → Hp → Prop) → Prop := fun σ H Q =>
  ∃ ι env S, Rl W w cl ι env S σ H ∧ Gs W w cl EX RA ι env S σ H (f env S) Q
end
section
variable {W : Wd} {w : World} {X : Cx} {cl : FC} {EX : WX} {α β γ δ : Type} {RA : Rf α β} {RB : Rf γ δ} {ι ι1 : Nat → Addr} {env : Env} {S S1 : Store} {σ : L2.St} {H H1 : Hp} {Q Q' : β → Hp → Prop}
theorem Gs.mono {r : Res α} (g : Gs W w cl EX RA ι env S σ H r Q) (h : ∀ y H', Q y H' → Q' y H') : Gs W w cl EX RA ι env S σ H r Q' := by
  cases r with
  | ok a S' => exact fun ι' H' y f R r => h _ _ (g ι' H' y f R r)
  | ex c fs S' => exact g
  | no => exact g
theorem Gs.fw {r : Res α} (g : Gs W w cl EX RA ι env S σ H r Q) (f : Fw ι S H ι1 S1 H1) : Gs W w cl EX RA ι1 env S1 σ H1 r Q := by
  cases r with
  | ok a S' => exact fun ι' H' y f' R r => g ι' H' y (f.trans f') R r
  | ex c fs S' => exact fun ι' H' cls d f' R r => g ι' H' cls d (f.trans f') R r
  | no => exact g
theorem Gs.bind {x : M α} {k : α → M γ} {Q : δ → Hp → Prop} (g : Gs W w cl EX RB ι env S σ H ((x >>= k) S) Q) :
    Gs W w cl EX RA ι env S σ H (x S) (fun y H1 => ∃ ι1 S1 a, Fw ι S H ι1 S1 H1 ∧ Rl W w cl ι1 env S1 σ H1 ∧ RA ι1 S1.length H1 a y ∧ Gs W w cl EX RB ι1 env S1 σ H1 (k a S1) Q) := by
  have e : (x >>= k) S = (match x S with
    | .ok a S' => k a S'
    | .ex c fs S' => .ex c fs S'
    | .no => .no) := rfl
  rw [e] at g
  cases hx : x S with
  | ok a S1 =>
    rw [hx] at g
    exact fun ι' H' y f R r => ⟨ι', S1, a, f, R, r, g.fw f⟩
  | ex c fs S1 => rw [hx] at g; exact g
  | no => rw [hx] at g; exact g
theorem tG.bind {x : Env → M α} {k : α → Env → M γ} {Q : δ → Hp → Prop} (h : tG W w cl EX RB (fun env => x env >>= fun a => k a env) σ H Q) :
    ∃ ι env S, Rl W w cl ι env S σ H ∧ Gs W w cl EX RA ι env S σ H (x env S) (fun y H1 => ∃ ι1 S1 a, Fw ι S H ι1 S1 H1 ∧ Rl W w cl ι1 env S1 σ H1 ∧ RA ι1 S1.length H1 a y ∧ Gs W w cl EX RB ι1 env S1 σ H1 (k a env S1) Q) := by
  obtain ⟨ι, env, S, R, g⟩ := h
  exact ⟨ι, env, S, R, g.bind⟩
theorem tG.mono {f : Env → M α} (h : tG W w cl EX RA f σ H Q) (k : ∀ y H', Q y H' → Q' y H') : tG W w cl EX RA f σ H Q' := by
  obtain ⟨ι, env, S, R, g⟩ := h
  exact ⟨ι, env, S, R, g.mono k⟩
end
theorem PE_imp {X : Cx} {e : Expr} {t t' : TE} (h : PE X e t) (i : ∀ σ H Q, t' σ H Q → t σ H Q) : PE X e t' := ⟨fun pins s σ H Q I hw => h.run pins s σ H Q I (i σ H Q hw)⟩
theorem PT_imp {X : Cx} {e : Expr} {t t' : TT} (h : PT X e t) (i : ∀ σ H Q, t' σ H Q → t σ H Q) : PT X e t' := ⟨fun pins s σ H Q I hw => h.run pins s σ H Q I (i σ H Q hw)⟩
theorem PW_imp {X : Cx} {e : Expr} {t t' : TT} (h : PW X e t) (i : ∀ σ H Q, t' σ H Q → t σ H Q) : PW X e t' := ⟨fun wh pins s σ H Q I hw => h.run wh pins s σ H Q I (i σ H Q hw)⟩
theorem PA_imp {X : Cx} {e : List Expr} {t t' : TA} (h : PA X e t) (i : ∀ σ H Q, t' σ H Q → t σ H Q) : PA X e t' := ⟨fun pos pins s σ H Q I hw => h.run pos pins s σ H Q I (i σ H Q hw)⟩
theorem PS_imp {X : Cx} {e : Stmt} {t t' : TS} (h : PS X e t) (i : ∀ D σ H, t' D σ H → t D σ H) : PS X e t' := ⟨fun pins s σ H D I hw => h.run pins s σ H D I (i D σ H hw)⟩
theorem PS_impL {X : Cx} {e : Stmt} {t t' : TS} (h : PS X e t) (i : ∀ D (σ : L2.St) H, σ.length = X.N.length → t' D σ H → t D σ H) : PS X e t' := ⟨fun pins s σ H D I hw => h.run pins s σ H D I (i D σ H I.len hw)⟩
theorem PSs_imp {X : Cx} {e : List Stmt} {t t' : TS} (h : PSs X e t) (i : ∀ D σ H, t' D σ H → t D σ H) : PSs X e t' := ⟨fun pins s σ H D I hw => h.run pins s σ H D I (i D σ H hw)⟩
section
variable (W : Wd) (w : World) (cl : FC) (EX : WX)
abbrev rv : Rf Val V := fun ι N H v x => RV W ι N H v x
abbrev rvs : Rf (List Val) (List V) := fun ι N H v x => RVs W ι N H v x
abbrev rbl : Rf Bool Bool := fun _ _ _ a b => a = b
def rV2 (f : Val → Val → M Val) : R2 := fun x y H Q => ∃ ι env S σ a b, Rl W w cl ι env S σ H ∧ RV W ι S.length H a x ∧ RV W ι S.length H b y ∧ Gs W w cl EX (rv W) ι env S σ H (f a b S) Q
def rS2 (f : Val → Val → M Val) (σ : L2.St) : R2 := fun x y H Q => ∃ ι env S a b, Rl W w cl ι env S σ H ∧ RV W ι S.length H a x ∧ RV W ι S.length H b y ∧ Gs W w cl EX (rv W) ι env S σ H (f a b S) Q
def rV1 (f : Val → M Val) : V → Hp → VK → Prop := fun x H Q => ∃ ι env S σ a, Rl W w cl ι env S σ H ∧ RV W ι S.length H a x ∧ Gs W w cl EX (rv W) ι env S σ H (f a S) Q
def rVs (f : List Val → M Val) : List V → Hp → VK → Prop := fun xs H Q => ∃ ι env S σ as, Rl W w cl ι env S σ H ∧ RVs W ι S.length H as xs ∧ Gs W w cl EX (rv W) ι env S σ H (f as S) Q
def rVT (f : Val → M Bool) : V → Hp → (Bool → Hp → Prop) → Prop := fun x H Q => ∃ ι env S σ a, Rl W w cl ι env S σ H ∧ RV W ι S.length H a x ∧ Gs W w cl EX rbl ι env S σ H (f a S) Q
end
def OpS (X : Cx) (f : Value → Value → Sem Value) (r : L2.St → R2) : Prop := ∀ (pins : List (Addr × Obj)) (s : Shared) (σ : L2.St) (H : Hp) (x y : V) (v u : Value) (Q : VK), L2.Inv X pins σ H s → L2.RelV x v → L2.RelV y u → r σ x y H Q → wpAny (model X.prog X.w) X.A (f v u) (EP X pins σ Q) X.xe s
theorem toS {W : Wd} {w : World} {X : Cx} {cl : FC} {EX : WX} {op : Value → Value → Sem Value} {f : Val → Val → M Val} (h : OpR X op (rV2 W w cl EX f)) : OpS X op (rS2 W w cl EX f) :=
  fun pins s σ H x y v u Q I rx ry ⟨ι, env, S, a, b, R, ra, rb, g⟩ => h pins s σ H x y v u Q I rx ry ⟨ι, env, S, σ, a, b, R, ra, rb, g⟩
end Pyd
set_option Elab.async false
set_option linter.all false
set_option maxRecDepth 100000
set_option maxHeartbeats 1000000
namespace Pyd
open PySem PySem.Spec PyProof.Rows L2
set_option maxHeartbeats 4000000 in
theorem tuple_mul1 (l : Addr) (items : Array Value) (n : Nat) (dd : Option Addr) (sl : Array (Option Value)) (u : Tok) :
    Meets (Builtin.«tuple.__mul__» ⟨[.ref l, .int 1 u], []⟩) (fun _ R s => s.heap.get? l = some { cls := .type "tuple", dict := dd, data := .seq items n, slots := sl } ∧ R (.ok (.ret (Value.ref l))) s) :=
  .of_wp fun prog w A R s h => by
    obtain ⟨hp, g, d, tk, os⟩ := s
    obtain ⟨hl, h⟩ := h
    have f1 := AutoSeq1.idx_int
    wp_walk using wpAny_loadPart' hl
    repeat (first
      | (refine wpAny_ite_false (by decide) ?_; wp_walk using wpAny_loadPart' hl)
      | (refine wpAny_ite_true (by simp) ?_; wp_walk using wpAny_loadPart' hl))
    exact ⟨_, rfl, h⟩
structure Good (W : Wd) (w : World) (X : Cx) : Prop where
  K : X.K = W.K
  mg : X.mg = W.mg
  w : X.w = w
  gd : X.A.guards = some []
  hu : X.A.units + 100 < cLine
theorem LINE_eq : sizeLine = LINE := sizeLine_eq
section
variable {W : Wd} {w : World} {X : Cx} {cl : FC} {EX : WX} {ι : Nat → Addr} {env : Env} {S : Store} {σ : L2.St} {H : Hp} {N : Nat}
theorem RV.int_inv {v : Val} {i : Int} (h : RV W ι N H v (.int i)) : v = .int i := by
  cases v with
  | int j => have e : V.int i = V.int j := h; cases e; rfl
  | non => exact nomatch (show V.int i = V.non from h)
  | bl b => exact nomatch (show V.int i = V.bl b from h)
  | str s => exact nomatch h.2
  | tup xs => obtain ⟨a, ys, e, _⟩ := h; cases e
  | loc n => exact nomatch h.2
  | glo g => obtain ⟨a, e, _⟩ := h; cases e
theorem Gs.here {α β : Type} {RA : Rf α β} {a : α} {y : β} {Q : β → Hp → Prop} (R : Rl W w cl ι env S σ H) (g : Gs W w cl EX RA ι env S σ H (.ok a S) Q) (r : RA ι S.length H a y) : Q y H := g ι H y (Fw.refl _ _ _) R r
theorem Gs.newTup {xs : List Val} {ys : List V} {Q : VK} (R : Rl W w cl ι env S σ H) (g : Gs W w cl EX (rv W) ι env S σ H (.ok (.tup xs) S) Q) (r : RVs W ι S.length H xs ys) : ∀ p, H p = none → Q (.ref p) (upd H p (.tup ys)) := fun p hp =>
  g ι _ _ ⟨Nat.le_refl _, fun _ _ => rfl, Kp.new hp⟩ (R.grow (Kp.new hp) (fun b u e => by rw [upd_ne (ne_of_none e hp)]; exact e)) ⟨p, ys, rfl, .of upd_same, r.mono (Nat.le_refl _) (fun _ _ => rfl) (Kp.new hp)⟩
theorem Gs.newLst {xs : List Val} {ys : List V} {Q : VK} (R : Rl W w cl ι env S σ H) (g : Gs W w cl EX (rv W) ι env S σ H (.ok (.loc S.length) (S ++ [.lst xs])) Q) (r : RVs W ι S.length H xs ys) : ∀ p, H p = none → Q (.ref p) (upd H p (.lst ys)) := fun p hp => by
  have k : Kp H (upd H p (.lst ys)) := Kp.new hp
  have hl : (S ++ [Ob.lst xs]).length = S.length + 1 := by simp
  have ag : ∀ n, n < S.length → newι ι S.length p n = ι n := fun n h => newι_old h
  refine g (newι ι S.length p) _ _ ⟨by rw [hl]; exact Nat.le_succ _, ag, k⟩ (R.alloc k (fun b u e => by rw [upd_ne (ne_of_none e hp)]; exact e) hp ⟨ys, by rw [newι_new]; exact upd_same, ?_⟩) ?_
  · exact r.mono (Nat.le_succ _) ag k
  · exact ⟨by rw [hl]; exact Nat.lt_succ_self _, by rw [newι_new]⟩
theorem Rl.lst (R : Rl W w cl ι env S σ H) {n : Nat} {xs : List Val} (e : S[n]? = some (.lst xs)) : ∃ ys, H (ι n) = some (.lst ys) ∧ RVs W ι S.length H xs ys := R.ob _ _ e
theorem Rl.seq (R : Rl W w cl ι env S σ H) {n : Nat} {xs : List Val} (e : S[n]? = some (.lst xs) ∨ S[n]? = some (.rol xs)) : ∃ ys, SqL W.K H (ι n) ys ∧ RVs W ι S.length H xs ys := by
  rcases e with e | e
  · obtain ⟨ys, a, b⟩ := R.lst e
    exact ⟨ys, .of a, b⟩
  · obtain ⟨ys, a, b⟩ := R.ob _ _ e
    exact ⟨ys, a.elim (fun ⟨o, a⟩ => .inl (.inr ⟨o, a⟩)) (fun a => a.elim (fun a => a.elim (fun a => nomatch a) (fun ⟨_, a⟩ => nomatch a)) .inr), b⟩
end
theorem tx_cat (a b : List Nat) : tx a ++ tx b = tx (a ++ b) := SX.S_cat a b
theorem need_bind {α : Type} {b : Bool} {k : M α} {S : Store} : (need b >>= fun _ => k) S = if b = true then k S else .no := by
  show M.bind (need b) (fun _ => k) S = _
  unfold M.bind need
  cases b <;> rfl
theorem look_bind {α : Type} {n : Nat} {k : Ob → M α} {S : Store} : (look n >>= k) S = match S[n]? with | some o => k o S | none => .no := by
  show M.bind (look n) k S = _
  unfold M.bind look
  cases S[n]? <;> rfl
theorem get_bind {α β : Type} {o : Option β} {k : β → M α} {S : Store} : (get? o >>= k) S = match o with | some a => k a S | none => .no := by
  show M.bind (get? o) k S = _
  unfold M.bind get?
  cases o <;> rfl
theorem alloc_ap {o : Ob} {S : Store} : alloc o S = .ok (.loc S.length) (S ++ [o]) := rfl
theorem pure_ap {α : Type} {a : α} {S : Store} : (pure a : M α) S = .ok a S := rfl
theorem fail_ap {α : Type} {S : Store} : (fail : M α) S = .no := rfl
theorem Gs.need {W : Wd} {w : World} {cl : FC} {EX : WX} {α β : Type} {RA : Rf α β} {ι : Nat → Addr} {env : Env} {S S' : Store} {σ : L2.St} {H : Hp} {Q : β → Hp → Prop} {b : Bool} {k : M α}
    (g : Gs W w cl EX RA ι env S σ H ((Pyd.need b >>= fun _ => k) S') Q) : b = true ∧ Gs W w cl EX RA ι env S σ H (k S') Q := by
  rw [need_bind] at g
  by_cases h : b = true
  · rw [if_pos h] at g; exact ⟨h, g⟩
  · rw [if_neg h] at g; exact g.elim
theorem Gs.look {W : Wd} {w : World} {cl : FC} {EX : WX} {α β : Type} {RA : Rf α β} {ι : Nat → Addr} {env : Env} {S S' : Store} {σ : L2.St} {H : Hp} {Q : β → Hp → Prop} {n : Nat} {k : Ob → M α}
    (g : Gs W w cl EX RA ι env S σ H ((Pyd.look n >>= k) S') Q) : ∃ o, S'[n]? = some o ∧ Gs W w cl EX RA ι env S σ H (k o S') Q := by
  rw [look_bind] at g
  cases h : S'[n]? with
  | some o => rw [h] at g; exact ⟨o, rfl, g⟩
  | none => rw [h] at g; exact g.elim
theorem Gs.get {W : Wd} {w : World} {cl : FC} {EX : WX} {α β γ : Type} {RA : Rf α β} {ι : Nat → Addr} {env : Env} {S S' : Store} {σ : L2.St} {H : Hp} {Q : β → Hp → Prop} {o : Option γ} {k : γ → M α}
    (g : Gs W w cl EX RA ι env S σ H ((Pyd.get? o >>= k) S') Q) : ∃ a, o = some a ∧ Gs W w cl EX RA ι env S σ H (k a S') Q := by
  rw [get_bind] at g
  cases o with
  | some a => exact ⟨a, rfl, g⟩
  | none => exact g.elim
section
variable {W : Wd} {w : World} {X : Cx} {cl : FC} {EX : WX}
theorem rep_len {α : Type} (xs : List α) (n : Nat) : (rep xs n).length = xs.length * n := by
  unfold rep
  induction n with
  | zero => simp
  | succ n ih => rw [List.replicate_succ, List.flatten_cons, List.length_append, ih, Nat.mul_succ, Nat.add_comm]
theorem rep_all {α : Type} (p : α → Bool) (xs : List α) (n : Nat) (h : xs.all p = true) : (rep xs n).all p = true := by
  unfold rep
  induction n with
  | zero => rfl
  | succ n ih => rw [List.replicate_succ, List.flatten_cons, List.all_append, h, ih]; rfl
theorem arr_rep0 (xs : List Nat) : ∀ (n : Nat) (acc : List Nat), (List.replicate n (tx xs).cps).foldl (· ++ ·) acc.toArray = (acc ++ rep xs n).toArray
  | 0, acc => by simp [rep]
  | n + 1, acc => by
    rw [List.replicate_succ, List.foldl_cons]
    have e : acc.toArray ++ (tx xs).cps = (acc ++ xs).toArray := by simp [tx]
    rw [e, arr_rep0 xs n (acc ++ xs)]
    simp [rep, List.replicate_succ]
theorem arr_rep (xs : List Nat) (n : Nat) : (⟨(List.replicate n (tx xs).cps).foldl (· ++ ·) #[]⟩ : Str) = tx (rep xs n) := by
  have h := arr_rep0 xs n []
  rw [List.nil_append] at h
  show Str.mk _ = Str.mk _
  rw [← h]
theorem smallB {i : Int} (h : isSmall i = true) : -(2 ^ 64) < i ∧ i < 2 ^ 64 := by
  unfold isSmall at h
  simpa using h
theorem o_add (G : Good W w X) : OpR X (binaryOp .Add) (rV2 W w cl EX (binop .add)) := by
  intro pins s σ H x y v u Q I rx ry ⟨ι, env, S, σ', a, b, R, ra, rb, g⟩
  cases a <;> cases b <;> first | exact g.elim | skip
  · rename_i i j
    cases (show x = .int i from ra); cases (show y = .int j from rb)
    exact op_add pins s σ H _ _ v u Q I rx ry ⟨i, j, rfl, rfl, g.here R rfl⟩
  · rename_i i j
    obtain ⟨⟨li, ai⟩, e1⟩ := (show (i.length ≤ LINE ∧ i.all (· < 128) = true) ∧ x = .str (tx i) from ra)
    obtain ⟨⟨lj, aj⟩, e2⟩ := (show (j.length ≤ LINE ∧ j.all (· < 128) = true) ∧ y = .str (tx j) from rb)
    subst e1 e2
    obtain ⟨h, g⟩ := Gs.need g
    have hz := of_decide_eq_true h
    exact op_add_str pins s σ H _ _ v u Q I rx ry ⟨tx i, tx j, rfl, rfl, by rw [tx_len, tx_len, LINE_eq]; exact hz, by
      rw [tx_cat]; exact g.here R ⟨⟨by simpa using hz, by rw [List.all_append, ai, aj]; rfl⟩, rfl⟩⟩
  · rename_i xs ys
    obtain ⟨a, us, e1, t1, r1⟩ := ra
    obtain ⟨b, vs, e2, t2, r2⟩ := rb
    subst e1 e2
    obtain ⟨h, g⟩ := Gs.need g
    have hz := of_decide_eq_true h
    rw [← G.K] at t1 t2
    refine op_catA pins s σ H _ _ v u Q I rx ry ⟨a, b, us, vs, rfl, rfl, t1, t2, by rw [r1.length, r2.length, LINE_eq]; exact hz, fun z => ?_, fun _ z => ?_, fun _ _ => g.newTup R (r1.append r2)⟩
    · exact g.here R ⟨b, vs, rfl, G.K ▸ t2, by
        have : us ++ vs = vs := by rw [z]; rfl
        rw [← this]; exact r1.append r2⟩
    · exact g.here R ⟨a, us, rfl, G.K ▸ t1, by
        have : us ++ vs = us := by rw [z]; simp
        rw [← this]; exact r1.append r2⟩
  · rename_i m n
    obtain ⟨lm, e1⟩ := ra
    obtain ⟨ln, e2⟩ := rb
    subst e1 e2
    obtain ⟨o, ho, g⟩ := Gs.look g
    obtain ⟨o', ho', g⟩ := Gs.look g
    cases o <;> cases o' <;> first | exact g.elim | skip
    rename_i xs ys
    obtain ⟨h, g⟩ := Gs.need g
    have hz := of_decide_eq_true h
    obtain ⟨us, h1, r1⟩ := R.lst ho
    obtain ⟨vs, h2, r2⟩ := R.lst ho'
    exact op_cat pins s σ H _ _ v u Q I rx ry ⟨_, _, us, vs, rfl, rfl, h1, h2, by rw [r1.length, r2.length, LINE_eq]; exact hz, g.newLst R (r1.append r2)⟩
theorem o_sub : OpR X (binaryOp .Sub) (rV2 W w cl EX (binop .sub)) := by
  intro pins s σ H x y v u Q I rx ry ⟨ι, env, S, σ', a, b, R, ra, rb, g⟩
  cases a <;> cases b <;> first | exact g.elim | skip
  rename_i i j
  cases (show x = .int i from ra); cases (show y = .int j from rb)
  exact op_sub pins s σ H _ _ v u Q I rx ry ⟨i, j, rfl, rfl, g.here R rfl⟩
theorem o_mod : OpR X (binaryOp .Mod) (rV2 W w cl EX (binop .mod)) := by
  intro pins s σ H x y v u Q I rx ry ⟨ι, env, S, σ', a, b, R, ra, rb, g⟩
  cases a <;> cases b <;> first | exact g.elim | skip
  rename_i i j
  cases (show x = .int i from ra); cases (show y = .int j from rb)
  obtain ⟨h, g⟩ := Gs.need g
  exact op_modN pins s σ H _ _ v u Q I rx ry ⟨i, j, rfl, rfl, of_decide_eq_true h, g.here R rfl⟩
theorem o_fdiv : OpR X (binaryOp .FloorDiv) (rV2 W w cl EX (binop .fdiv)) := by
  intro pins s σ H x y v u Q I rx ry ⟨ι, env, S, σ', a, b, R, ra, rb, g⟩
  cases a <;> cases b <;> first | exact g.elim | skip
  rename_i i j
  cases (show x = .int i from ra); cases (show y = .int j from rb)
  obtain ⟨h, g⟩ := Gs.need g
  obtain ⟨h1, h2⟩ := Bool.and_eq_true_iff.mp h
  exact op_fdivN pins s σ H _ _ v u Q I rx ry ⟨i, j, rfl, rfl, ⟨of_decide_eq_true h1, of_decide_eq_true h2⟩, g.here R rfl⟩
theorem o_pow : OpR X (binaryOp .Pow) (rV2 W w cl EX (binop .pow)) := by
  intro pins s σ H x y v u Q I rx ry ⟨ι, env, S, σ', a, b, R, ra, rb, g⟩
  cases a <;> cases b <;> first | exact g.elim | skip
  rename_i i j
  cases (show x = .int i from ra); cases (show y = .int j from rb)
  obtain ⟨h, g⟩ := Gs.need g
  obtain ⟨h1, h2⟩ := Bool.and_eq_true_iff.mp h
  obtain ⟨h3, h4⟩ := Bool.and_eq_true_iff.mp h1
  have q1 := of_decide_eq_true h3
  have q2 := of_decide_eq_true h4
  have q3 := smallB h2
  exact op_pow pins s σ H _ _ v u Q I rx ry ⟨i, j, rfl, rfl, ⟨q1, by omega, by omega⟩, g.here R rfl⟩
theorem RVs.flatten (n : Nat) {ι : Nat → Addr} {N : Nat} {H : Hp} {xs : List Val} {ys : List V} (r : RVs W ι N H xs ys) : RVs W ι N H (rep xs n) (List.replicate n ys).flatten := by
  induction n with
  | zero => exact rfl
  | succ n ih =>
    unfold rep at ih ⊢
    rw [List.replicate_succ, List.replicate_succ, List.flatten_cons, List.flatten_cons]
    exact r.append ih
theorem op_rep1 {X : Cx} {pins : List (Addr × Obj)} {s : Shared} {σ : L2.St} {H : Hp} {l : Addr} {xs : List V} {u v : Value} {Q : VK} (I : L2.Inv X pins σ H s) (rx : RelV (.ref l) u) (ry : RelV (.int 1) v) (hT : SqT X.K H l xs) (q : Q (.ref l) H) :
    wpAny (model X.prog X.w) X.A (binaryOp .Mult u v) (EP X pins σ Q) X.xe s := by
  cases rx
  obtain ⟨t, rfl⟩ := ry
  obtain ⟨its, r, ⟨⟨cls, dd, data, sl⟩, ho, hc, n, hd⟩, hs⟩ := I.tuple hT
  simp only at hc hd
  subst hc hd
  refine wpAny_binaryOp_repeat_ref (T := "tuple") (U := "int") (by decide) ⟨_, ho, rfl⟩ (fun s' => typeIs_int s' 1 t) noFill_tuple_mul F.fills_int_mul F.slot_int_rmul repeat_tuple F.slot_int_index.lookup
    (call_meets F.slot_int_rmul (typeIs_int s 1 t) F.entry_int_rmul (F.args_int_rmul_2 _ _) (int_rmul_tuple 1 t l its.toArray n dd sl)
      ⟨ho, rfl, ⟨_, ho, rfl⟩, call_meets F.slot_tuple_mul ⟨_, ho, rfl⟩ F.entry_tuple_mul (F.args_tuple_mul_2 _ _) (tuple_mul1 l its.toArray n dd sl t) ⟨ho, ?_⟩⟩)
  exact ⟨.ref l, H, I, rfl, q⟩
theorem o_mul (G : Good W w X) : OpR X (binaryOp .Mult) (rV2 W w cl EX (binop .mul)) := by
  intro pins s σ H x y v u Q I rx ry ⟨ι, env, S, σ', a, b, R, ra, rb, g⟩
  cases a <;> cases b <;> first | exact g.elim | skip
  · rename_i i j
    cases (show x = .int i from ra); cases (show y = .int j from rb)
    obtain ⟨h, g⟩ := Gs.need g
    refine op_mul pins s σ H _ _ v u Q I rx ry ⟨i, j, rfl, rfl, ?_, g.here R rfl⟩
    rcases Bool.or_eq_true_iff.mp h with h | h
    · exact .inl (smallB h)
    · exact .inr (smallB h)
  · rename_i xs j
    obtain ⟨⟨lx, ax⟩, e1⟩ := (show (xs.length ≤ LINE ∧ xs.all (· < 128) = true) ∧ x = .str (tx xs) from ra)
    subst e1
    cases (show y = .int j from rb)
    obtain ⟨h, g⟩ := Gs.need g
    obtain ⟨h1, h2⟩ := Bool.and_eq_true_iff.mp h
    obtain ⟨h3, h4⟩ := Bool.and_eq_true_iff.mp h1
    have q1 := of_decide_eq_true h3
    have q2 := of_decide_eq_true h4
    have q3 := of_decide_eq_true h2
    obtain ⟨t, rfl⟩ := rx
    obtain ⟨t', rfl⟩ := ry
    have lx' : (tx xs).length = xs.length := tx_len xs
    have hL : xs.length * j.toNat ≤ 16777216 := q3
    have hlen : (rep xs j.toNat).length = xs.length * j.toNat := rep_len xs j.toNat
    have done : ∀ s', L2.Inv X pins σ H s' → ∀ t, EP X pins σ Q (.str (tx (rep xs j.toNat)) t) s' := fun s' I' t => ⟨.str (tx (rep xs j.toNat)), H, I', ⟨t, rfl⟩, g.here R ⟨⟨by rw [hlen]; exact q3, rep_all _ _ _ ax⟩, rfl⟩⟩
    refine PySem.P.mul_str ?_ (fun h1 h2 => ?_) (fun h1 h2 => ?_) ?_
    · rw [decide_eq_false (by omega), decide_eq_false (by omega)]; rfl
    · rw [lx']
      have hj : (0 : Int) < j := by omega
      intro hgt
      have h5 : (xs.length : Int) * j ≤ 16777216 := by
        have h7 : ((xs.length * j.toNat : Nat) : Int) ≤ ((16777216 : Nat) : Int) := Int.ofNat_le.mpr hL
        rw [Int.natCast_mul, Int.toNat_of_nonneg (by omega)] at h7
        exact h7
      have h6 : (xs.length : Int) ≤ (2 ^ 63 - 1) / j := by
        rw [Int.le_ediv_iff_mul_le hj]
        omega
      omega
    · rw [lx']
      show decide (xs.length * j.toNat > sizeLine) = false
      rw [sizeLine_eq]
      exact decide_eq_false (by omega)
    · by_cases h1 : j < 1
      · rw [if_pos h1]
        have : rep xs j.toNat = [] := by
          rw [show j.toNat = 0 by omega]; rfl
        rw [this] at done
        exact ⟨by decide, done _ (I.tok _) _⟩
      · rw [if_neg h1]
        by_cases h2 : (j == 1 || (tx xs).length == 0) = true
        · rw [if_pos h2]
          have : rep xs j.toNat = xs := by
            rcases Bool.or_eq_true_iff.mp h2 with h2 | h2
            · have : j = 1 := by simpa using h2
              subst this
              simp [rep]
            · have h3 : xs = [] := by
                have : xs.length = 0 := by rw [lx'] at h2; simpa using h2
                exact List.eq_nil_of_length_eq_zero this
              subst h3
              have := rep_len ([] : List Nat) j.toNat
              exact List.eq_nil_of_length_eq_zero (by rw [this]; simp)
          rw [this] at done
          exact done _ I _
        · rw [if_neg h2]
          have e : (⟨(List.replicate j.toNat (tx xs).cps).foldl (· ++ ·) #[]⟩ : Str) = tx (rep xs j.toNat) := arr_rep xs j.toNat
          rw [e]
          exact ⟨by rw [tx_len, hlen, sizeLine_eq]; exact hL, done _ (I.tok _) _⟩
  · rename_i xs j
    obtain ⟨a, us, e1, t1, r1⟩ := ra
    subst e1
    cases (show y = .int j from rb)
    obtain ⟨h, g⟩ := Gs.need g
    obtain ⟨h1, h2⟩ := Bool.and_eq_true_iff.mp h
    obtain ⟨h3, h4⟩ := Bool.and_eq_true_iff.mp h1
    obtain ⟨h5, h6⟩ := Bool.and_eq_true_iff.mp h3
    have q1 := of_decide_eq_true h2
    have q2 := of_decide_eq_true h4
    have q3 := of_decide_eq_true h5
    have q4 := of_decide_eq_true h6
    rw [← G.K] at t1
    by_cases hj : j = 1
    · subst hj
      refine op_rep1 I rx ry t1 (g.here R ⟨a, us, rfl, by rw [← G.K]; exact t1, ?_⟩)
      have e : rep xs (1 : Int).toNat = xs := by simp [rep]
      rw [e]
      exact r1
    refine op_repT pins s σ H _ _ v u Q I rx ry ⟨a, j, us, rfl, rfl, t1, ?_, by omega, q4, by rw [r1.length]; exact q1, g.newTup R (r1.flatten _)⟩
    intro z
    have := r1.length
    rw [z] at this
    simp at this
    omega
  · rename_i n j
    obtain ⟨lm, e1⟩ := ra
    subst e1
    cases (show y = .int j from rb)
    obtain ⟨o, ho, g⟩ := Gs.look g
    cases o <;> first | exact g.elim | skip
    rename_i xs
    obtain ⟨h, g⟩ := Gs.need g
    obtain ⟨h1, h2⟩ := Bool.and_eq_true_iff.mp h
    obtain ⟨h3, h4⟩ := Bool.and_eq_true_iff.mp h1
    have q1 := of_decide_eq_true h3
    have q2 := of_decide_eq_true h4
    have q3 := of_decide_eq_true h2
    obtain ⟨us, h1, r1⟩ := R.lst ho
    exact op_rep pins s σ H _ _ v u Q I rx ry ⟨_, j, us, rfl, rfl, h1, by omega, by omega, by rw [r1.length, LINE_eq]; exact q3, g.newLst R (r1.flatten _)⟩
end
end Pyd
set_option Elab.async false
set_option linter.all false
set_option maxRecDepth 100000
set_option maxHeartbeats 1000000
namespace Pyd
open PySem PySem.Spec PyProof.Rows L2
mutual
def Dt.pd : Dt → PyData
  | .non => .none
  | .bl b => .bool b
  | .int i => .int i
  | .str s => .str (tx s)
  | .lst xs => .list (Dt.pds xs)
  | .tup xs => .tuple (Dt.pds xs)
def Dt.pds : List Dt → List PyData
  | [] => []
  | x :: xs => Dt.pd x :: Dt.pds xs
end
theorem tx_beq (a b : List Nat) : (tx a == tx b) = (a == b) := SX.S_beq a b
mutual
theorem pd_eqv : ∀ a b : Dt, PyData.eqv a.pd b.pd = Dt.eqv a b
  | .non, b => by cases b <;> simp [Dt.pd, PyData.eqv, Dt.eqv]
  | .bl x, b => by cases b <;> simp [Dt.pd, PyData.eqv, Dt.eqv]
  | .int i, b => by cases b <;> simp [Dt.pd, PyData.eqv, Dt.eqv]
  | .str s, b => by
    cases b with
    | str t => show (tx s == tx t) = (s == t); exact tx_beq s t
    | _ => simp [Dt.pd, PyData.eqv, Dt.eqv]
  | .lst xs, b => by
    cases b with
    | lst ys => show PyData.eqvAll (Dt.pds xs) (Dt.pds ys) = Dt.eqvs xs ys; exact pd_eqvs xs ys
    | _ => simp [Dt.pd, PyData.eqv, Dt.eqv]
  | .tup xs, b => by
    cases b with
    | tup ys => show PyData.eqvAll (Dt.pds xs) (Dt.pds ys) = Dt.eqvs xs ys; exact pd_eqvs xs ys
    | _ => simp [Dt.pd, PyData.eqv, Dt.eqv]
theorem pd_eqvs : ∀ a b : List Dt, PyData.eqvAll (Dt.pds a) (Dt.pds b) = Dt.eqvs a b
  | [], [] => rfl
  | [], _ :: _ => rfl
  | _ :: _, [] => rfl
  | x :: xs, y :: ys => by
    show (PyData.eqv x.pd y.pd && PyData.eqvAll (Dt.pds xs) (Dt.pds ys)) = (Dt.eqv x y && Dt.eqvs xs ys)
    rw [pd_eqv x y, pd_eqvs xs ys]
end
theorem strOk_tx {s : List Nat} (h : s.all (· < 128) = true) : PyData.strOk (tx s) = true := by
  unfold PyData.strOk
  show Array.all s.toArray (· < 0x110000) = true
  simp only [List.all_toArray]
  rw [List.all_eq_true] at h ⊢
  intro x hx
  have := of_decide_eq_true (h x hx)
  exact decide_eq_true (by omega)
section
variable {W : Wd} {w : World} {X : Cx} {cl : FC} {ι : Nat → Addr} {env : Env} {S : Store} {σ σ0 : L2.St} {H : Hp} {s : Shared} {pins : List (Addr × Obj)}
theorem canLay_pds {ds : List Dt} (h : ∀ d ∈ ds, d.pd.canLay0 = true) : PyData.canLayAll0 (Dt.pds ds) = true := by
  induction ds with
  | nil => rfl
  | cons d ds ih =>
    show (d.pd.canLay0 && PyData.canLayAll0 (Dt.pds ds)) = true
    rw [h d (List.mem_cons_self ..), ih fun e he => h e (List.mem_cons_of_mem _ he)]
    rfl
theorem depth_pds {ds : List Dt} {n : Nat} (h : ∀ d ∈ ds, d.pd.depth ≤ n) : PyData.depthAll (Dt.pds ds) ≤ n := by
  induction ds with
  | nil => exact Nat.zero_le _
  | cons d ds ih =>
    show max d.pd.depth (PyData.depthAll (Dt.pds ds)) ≤ n
    exact Nat.max_le.mpr ⟨h d (List.mem_cons_self ..), ih fun e he => h e (List.mem_cons_of_mem _ he)⟩
theorem reads_of (R : Rl W w cl ι env S σ0 H) (I : Inv X pins σ H s) (hK : X.K = W.K) : ∀ (n : Nat) (v : Val) (x : V) (u : Value) (d : Dt), toD n S v = some d → RV W ι S.length H v x → RelV x u →
    (∃ as, Reads s.heap u d.pd as) ∧ d.pd.canLay0 = true ∧ d.pd.depth ≤ n := by
  intro n
  induction n with
  | zero => intro v x u d h; exact nomatch h
  | succ n ih =>
    have all : ∀ (xs : List Val) (ys : List V) (us : List Value) (ds : List Dt), mapO (toD n S) xs = some ds → RVs W ι S.length H xs ys → Vals ys us →
        (∃ as, ReadsAll s.heap us (Dt.pds ds) as) ∧ (∀ d ∈ ds, d.pd.canLay0 = true) ∧ (∀ d ∈ ds, d.pd.depth ≤ n) := by
      intro xs
      induction xs with
      | nil =>
        intro ys us ds h r v
        cases h
        have e : ys = [] := r
        subst e
        cases v
        exact ⟨⟨[], .nil⟩, fun d h => absurd h (by simp), fun d h => absurd h (by simp)⟩
      | cons a xs ihx =>
        intro ys us ds h r v
        obtain ⟨y, zs, e, r1, r2⟩ := r
        subst e
        cases v with
        | cons v1 v2 =>
          unfold mapO at h
          cases h1 : toD n S a with
          | none => rw [h1] at h; cases h
          | some d =>
            cases h2 : mapO (toD n S) xs with
            | none => rw [h1, h2] at h; cases h
            | some ds' =>
              rw [h1, h2] at h
              cases h
              obtain ⟨⟨as, q1⟩, q2, q3⟩ := ih a y _ d h1 r1 v1
              obtain ⟨⟨bs, p1⟩, p2, p3⟩ := ihx zs _ ds' h2 r2 v2
              refine ⟨⟨as ++ bs, .cons q1 p1⟩, fun e he => ?_, fun e he => ?_⟩
              · rcases List.mem_cons.mp he with rfl | he
                · exact q2
                · exact p2 e he
              · rcases List.mem_cons.mp he with rfl | he
                · exact q3
                · exact p3 e he
    intro v x u d h r ru
    cases v with
    | non =>
      cases h
      have e : x = .non := r
      subst e
      cases ru
      exact ⟨⟨[], .none⟩, rfl, Nat.zero_le _⟩
    | bl b =>
      cases h
      have e : x = .bl b := r
      subst e
      cases ru
      exact ⟨⟨[], .bool b⟩, rfl, Nat.zero_le _⟩
    | int i =>
      cases h
      have e : x = .int i := r
      subst e
      obtain ⟨t, rfl⟩ := ru
      exact ⟨⟨[], .int i t⟩, rfl, Nat.zero_le _⟩
    | str z =>
      cases h
      obtain ⟨⟨_, ha⟩, e⟩ := r
      subst e
      obtain ⟨t, rfl⟩ := ru
      exact ⟨⟨[], .str _ t⟩, by show PyData.canLay0 (.str (tx z)) = true; unfold PyData.canLay0; exact strOk_tx ha, Nat.zero_le _⟩
    | tup xs =>
      obtain ⟨a, ys, e, t, rs⟩ := r
      subst e
      cases ru
      have h' : (mapO (toD n S) xs).map Dt.tup = some d := h
      cases hm : mapO (toD n S) xs with
      | none => rw [hm] at h'; cases h'
      | some ds =>
        rw [hm] at h'
        cases h'
        rw [← hK] at t
        obtain ⟨its, vr, ⟨o, ho, hc, k, hd⟩, _⟩ := I.tuple t
        obtain ⟨⟨as, q1⟩, q2, q3⟩ := all xs ys its ds hm rs vr
        refine ⟨⟨as, .tuple ho hc hd q1⟩, ?_, ?_⟩
        · show PyData.canLay0 (.tuple (Dt.pds ds)) = true
          unfold PyData.canLay0
          exact canLay_pds q2
        · show PyData.depthAll (Dt.pds ds) + 1 ≤ n + 1
          exact Nat.succ_le_succ (depth_pds q3)
    | loc a =>
      have h' : (match S[a]? with
        | some (.lst xs) => (mapO (toD n S) xs).map Dt.lst
        | some (.rol xs) => (mapO (toD n S) xs).map Dt.lst
        | _ => none) = some d := h
      obtain ⟨_, e⟩ := r
      subst e
      cases ru
      have main : ∀ xs, (S[a]? = some (.lst xs) ∨ S[a]? = some (.rol xs)) → (mapO (toD n S) xs).map Dt.lst = some d → (∃ as, Reads s.heap (.ref (ι a)) d.pd as) ∧ d.pd.canLay0 = true ∧ d.pd.depth ≤ n + 1 := by
        intro xs ho h''
        cases hm : mapO (toD n S) xs with
        | none => rw [hm] at h''; cases h''
        | some ds =>
          rw [hm] at h''
          cases h''
          obtain ⟨ys, hH, rs⟩ := R.seq ho
          rw [← hK] at hH
          obtain ⟨its, vr, ⟨o, k, e, ec, _, ed⟩, _⟩ := I.list hH
          obtain ⟨⟨as, q1⟩, q2, q3⟩ := all xs ys its ds hm rs vr
          refine ⟨⟨_, .list e ec ed q1⟩, ?_, ?_⟩
          · show PyData.canLay0 (.list (Dt.pds ds)) = true
            unfold PyData.canLay0
            exact canLay_pds q2
          · show PyData.depthAll (Dt.pds ds) + 1 ≤ n + 1
            exact Nat.succ_le_succ (depth_pds q3)
      cases ho : S[a]? with
      | none => rw [ho] at h'; cases h'
      | some o =>
        rw [ho] at h'
        cases o with
        | lst xs => exact main xs (.inl ho) h'
        | rol xs => exact main xs (.inr ho) h'
        | _ => cases h'
    | glo g => cases h
end
mutual
def Val.dt : Val → Dt
  | .non => .non
  | .bl b => .bl b
  | .int i => .int i
  | .str s => .str s
  | .tup xs => .tup (Val.dts xs)
  | .loc _ => .non
  | .glo _ => .non
def Val.dts : List Val → List Dt
  | [] => []
  | x :: xs => Val.dt x :: Val.dts xs
end
theorem dts_map : ∀ xs : List Val, Val.dts xs = xs.map Val.dt
  | [] => rfl
  | x :: xs => by show Val.dt x :: Val.dts xs = _; rw [dts_map xs]; rfl
mutual
theorem toD_flat (S : Store) : ∀ (n : Nat) (v : Val), v.flat = true → v.depth < n → toD n S v = some v.dt
  | 0, _, _, h => absurd h (Nat.not_lt_zero _)
  | n + 1, .non, _, _ => rfl
  | n + 1, .bl _, _, _ => rfl
  | n + 1, .int _, _, _ => rfl
  | n + 1, .str _, _, _ => rfl
  | n + 1, .tup xs, f, h => by
    show (mapO (toD n S) xs).map Dt.tup = some (.tup (Val.dts xs))
    rw [toDs_flat S n xs f (Nat.lt_of_succ_lt_succ (show Val.depths xs + 1 < n + 1 from h))]
    rfl
  | n + 1, .loc _, f, _ => nomatch f
  | n + 1, .glo _, f, _ => nomatch f
theorem toDs_flat (S : Store) : ∀ (n : Nat) (vs : List Val), Val.flats vs = true → Val.depths vs < n → mapO (toD n S) vs = some (Val.dts vs)
  | n, [], _, _ => rfl
  | n, x :: xs, f, h => by
    obtain ⟨f1, f2⟩ := Bool.and_eq_true_iff.mp (show (x.flat && Val.flats xs) = true from f)
    have h' : max x.depth (Val.depths xs) < n := h
    unfold mapO
    rw [toD_flat S n x f1 (by omega), toDs_flat S n xs f2 (by omega)]
    rfl
end
mutual
theorem dt_eqv : ∀ a b : Val, a.flat = true → b.flat = true → Dt.eqv a.dt b.dt = Val.eqv a b
  | .non, b, _, f => by cases b <;> first | rfl | exact nomatch f
  | .bl _, b, _, f => by cases b <;> first | rfl | exact nomatch f
  | .int _, b, _, f => by cases b <;> first | rfl | exact nomatch f
  | .str _, b, _, f => by cases b <;> first | rfl | exact nomatch f
  | .tup xs, b, g, f => by
    cases b with
    | tup ys => exact dts_eqv xs ys g f
    | loc _ => exact nomatch f
    | glo _ => exact nomatch f
    | _ => rfl
  | .loc _, _, g, _ => nomatch g
  | .glo _, _, g, _ => nomatch g
theorem dts_eqv : ∀ a b : List Val, Val.flats a = true → Val.flats b = true → Dt.eqvs (Val.dts a) (Val.dts b) = Val.eqvs a b
  | [], [], _, _ => rfl
  | [], _ :: _, _, _ => rfl
  | _ :: _, [], _, _ => rfl
  | x :: xs, y :: ys, g, f => by
    obtain ⟨g1, g2⟩ := Bool.and_eq_true_iff.mp (show (x.flat && Val.flats xs) = true from g)
    obtain ⟨f1, f2⟩ := Bool.and_eq_true_iff.mp (show (y.flat && Val.flats ys) = true from f)
    show (Dt.eqv x.dt y.dt && Dt.eqvs (Val.dts xs) (Val.dts ys)) = (Val.eqv x y && Val.eqvs xs ys)
    rw [dt_eqv x y g1 f1, dts_eqv xs ys g2 f2]
end
theorem pd_eqvV {a b : Val} (ha : a.flat = true) (hb : b.flat = true) : PyData.eqv a.dt.pd b.dt.pd = Val.eqv a b := by rw [pd_eqv, dt_eqv a b ha hb]
mutual
theorem alike_pd : ∀ a b : Val, Val.alike a b = true → PySem.W.alike a.dt.pd b.dt.pd = true
  | .non, b, h => by cases b <;> exact nomatch h
  | .bl _, b, h => by cases b <;> first | rfl | exact nomatch h
  | .int _, b, h => by cases b <;> first | rfl | exact nomatch h
  | .str _, b, h => by cases b <;> first | rfl | exact nomatch h
  | .tup xs, b, h => by
    cases b with
    | tup ys =>
      show PySem.W.alike (.tuple (Dt.pds (Val.dts xs))) (.tuple (Dt.pds (Val.dts ys))) = true
      unfold PySem.W.alike
      exact alikes_pd xs ys h
    | _ => exact nomatch h
  | .loc _, b, h => by cases b <;> exact nomatch h
  | .glo _, b, h => by cases b <;> exact nomatch h
theorem alikes_pd : ∀ a b : List Val, Val.alikes a b = true → PySem.W.alikeAll (Dt.pds (Val.dts a)) (Dt.pds (Val.dts b)) = true
  | [], [], _ => by simp [Val.dts, Dt.pds, PySem.W.alikeAll]
  | [], _ :: _, _ => by simp [Val.dts, Dt.pds, PySem.W.alikeAll]
  | _ :: _, [], _ => by simp [Val.dts, Dt.pds, PySem.W.alikeAll]
  | x :: xs, y :: ys, h => by
    obtain ⟨h1, h2⟩ := Bool.and_eq_true_iff.mp (show (Val.alike x y && Val.alikes xs ys) = true from h)
    show PySem.W.alikeAll (x.dt.pd :: Dt.pds (Val.dts xs)) (y.dt.pd :: Dt.pds (Val.dts ys)) = true
    unfold PySem.W.alikeAll
    rw [alike_pd x y h1, alikes_pd xs ys h2]
    rfl
end
mutual
theorem lt_pd : ∀ a b : Val, Val.alike a b = true → a.flat = true → b.flat = true → PySem.W.dataLt a.dt.pd b.dt.pd = Val.lt a b
  | .non, b, h, _, _ => by cases b <;> exact nomatch h
  | .bl x, b, h, _, _ => by
    cases b with
    | bl y => cases x <;> cases y <;> decide
    | _ => exact nomatch h
  | .int i, b, h, _, _ => by
    cases b with
    | int j => exact PySem.W.dataLt_int i j
    | _ => exact nomatch h
  | .str x, b, h, _, _ => by
    cases b with
    | str y => exact PySem.W.dataLt_str (tx x) (tx y)
    | _ => exact nomatch h
  | .tup xs, b, h, f, g => by
    cases b with
    | tup ys =>
      show PySem.W.dataLt (.tuple (Dt.pds (Val.dts xs))) (.tuple (Dt.pds (Val.dts ys))) = Val.lts xs ys
      rw [PySem.W.dataLt_tuple]
      exact lts_pd xs ys h f g
    | _ => exact nomatch h
  | .loc _, b, h, _, _ => by cases b <;> exact nomatch h
  | .glo _, b, h, _, _ => by cases b <;> exact nomatch h
theorem lts_pd : ∀ a b : List Val, Val.alikes a b = true → Val.flats a = true → Val.flats b = true →
    PySem.W.rowLt (Dt.pds (Val.dts a)) (Dt.pds (Val.dts b)) = Val.lts a b
  | [], [], _, _, _ => by
    show PySem.W.rowLt [] [] = false
    exact lex_irrefl _
  | [], y :: ys, _, _, _ => by
    show PySem.W.rowLt [] (y.dt.pd :: Dt.pds (Val.dts ys)) = true
    unfold PySem.W.rowLt PySem.W.keyToksAll
    rw [lex_cons]
    rfl
  | x :: xs, [], _, _, _ => by
    show PySem.W.rowLt (x.dt.pd :: Dt.pds (Val.dts xs)) [] = false
    unfold PySem.W.rowLt PySem.W.keyToksAll
    rw [lex_cons]
    rfl
  | x :: xs, y :: ys, h, f, g => by
    obtain ⟨h1, h2⟩ := Bool.and_eq_true_iff.mp (show (Val.alike x y && Val.alikes xs ys) = true from h)
    obtain ⟨f1, f2⟩ := Bool.and_eq_true_iff.mp (show (x.flat && Val.flats xs) = true from f)
    obtain ⟨g1, g2⟩ := Bool.and_eq_true_iff.mp (show (y.flat && Val.flats ys) = true from g)
    show PySem.W.rowLt (x.dt.pd :: Dt.pds (Val.dts xs)) (y.dt.pd :: Dt.pds (Val.dts ys)) = (if Val.eqv x y then Val.lts xs ys else Val.lt x y)
    have := lts_pd xs ys h2 f2 g2
    unfold PySem.W.rowLt at this ⊢
    rw [PySem.W.dataLt_cons (alike_pd x y h1), pd_eqvV f1 g1, this, lt_pd x y h1 f1 g1]
end
section
variable {W : Wd} {w : World} {X : Cx} {cl : FC} {EX : WX}
theorem reads_flat {ι : Nat → Addr} {env : Env} {S : Store} {σ σ0 : L2.St} {H : Hp} {s : Shared} {pins : List (Addr × Obj)} (R : Rl W w cl ι env S σ0 H) (I : Inv X pins σ H s) (hK : X.K = W.K) {v : Val} {x : V} {u : Value} (hv : v.key = true) (r : RV W ι S.length H v x) (ru : RelV x u) :
    (∃ as, Reads s.heap u v.dt.pd as) ∧ v.dt.pd.canLay0 = true ∧ v.dt.pd.depth ≤ 9 := by
  obtain ⟨h1, h2⟩ := Bool.and_eq_true_iff.mp (show (v.flat && decide (v.depth ≤ 8)) = true from hv)
  have h3 := of_decide_eq_true h2
  exact reads_of R I hK 9 v x u _ (toD_flat S 9 v h1 (by omega)) r ru
theorem key_flat {v : Val} (h : v.key = true) : v.flat = true := (Bool.and_eq_true_iff.mp (show (v.flat && decide (v.depth ≤ 8)) = true from h)).1
theorem eqD_some {n : Nat} {S : Store} {a b : Val} {k : Bool} (h : eqD n S a b = some k) : ∃ x y, toD n S a = some x ∧ toD n S b = some y ∧ Dt.eqv x y = k := by
  unfold eqD at h
  cases h1 : toD n S a with
  | none => rw [h1] at h; cases h
  | some x =>
    cases h2 : toD n S b with
    | none => rw [h1, h2] at h; cases h
    | some y => rw [h1, h2] at h; exact ⟨x, y, rfl, rfl, Option.some.inj h⟩
theorem run_eq (G : Good W w X) {ι : Nat → Addr} {env : Env} {S : Store} {σ σ0 : L2.St} {H : Hp} {s : Shared} {pins : List (Addr × Obj)} {a b : Val} {x y : V} {v u : Value} {Q : VK} {k : Bool} (ne : Bool) (R : Rl W w cl ι env S σ0 H) (I : Inv X pins σ H s)
    (e : eqD 60 S a b = some k) (ra : RV W ι S.length H a x) (rb : RV W ι S.length H b y) (rx : RelV x v) (ry : RelV y u) (q : Q (.bl (if ne = true then !k else k)) H) :
    wpAny (model X.prog X.w) X.A (compareOp (if ne = true then .NotEq else .Eq) v u) (EP X pins σ Q) X.xe s := by
  obtain ⟨d1, d2, h1, h2, e⟩ := eqD_some e
  obtain ⟨⟨as, r1⟩, c1, l1⟩ := reads_of R I G.K 60 a x v d1 h1 ra rx
  obtain ⟨⟨bs, r2⟩, c2, l2⟩ := reads_of R I G.K 60 b y u d2 h2 rb ry
  have hu : X.A.units + min d1.pd.depth d2.pd.depth < cLine := by
    have := G.hu
    have : min d1.pd.depth d2.pd.depth ≤ 60 := Nat.le_trans (Nat.min_le_left _ _) l1
    omega
  cases ne with
  | false => exact SeqAt.compareEq_reads r1 r2 c1 c2 hu ⟨.bl k, H, I, by rw [pd_eqv, e]; rfl, q⟩
  | true => exact SeqAt.compareNe_reads r1 r2 c1 c2 hu ⟨.bl (!k), H, I, by rw [pd_eqv, e]; rfl, q⟩
def InstEq (W : Wd) (w : World) (X : Cx) (cl : FC) (EX : WX) (C : Orc) : Prop :=
  ∀ (ne : Bool) (pins : List (Addr × Obj)) (s : Shared) (σ : L2.St) (H : Hp) (x y : V) (v u : Value) (Q : VK) (ι : Nat → Addr) (env : Env) (S : Store) (σ' : L2.St) (n c f : Nat) (fs : List (Nat × Val)) (b : Val) (k : Cl) (kd : Kd) (S2 : Store), σ' = σ → kindV b S = .ok kd S2 →
    Inv X pins σ H s → RelV x v → RelV y u → Rl W w cl ι env S σ' H → RV W ι S.length H (.loc n) x → RV W ι S.length H b y → S[n]? = some (.ins c fs) → W.P.cl c = some k → k.eq = some f →
    Gs W w cl EX (rv W) ι env S σ' H (match C f [.loc n, b] [] S with | .ok (.bl r) S' => .ok (.bl (if ne = true then !r else r)) S' | _ => .no) Q →
    wpAny (model X.prog X.w) X.A (compareOp (if ne = true then .NotEq else .Eq) v u) (EP X pins σ Q) X.xe s
theorem vbl_ap {x : M Bool} {S : Store} : vbl x S = (match x S with | .ok b S' => .ok (.bl b) S' | .ex c fs S' => .ex c fs S' | .no => .no) := by
  show M.bind x (fun b => M.pure (Val.bl b)) S = _
  unfold M.bind
  cases x S <;> rfl
theorem notM_ap {x : M Bool} {S : Store} : notM x S = (match x S with | .ok b S' => .ok (!b) S' | .ex c fs S' => .ex c fs S' | .no => .no) := by
  show M.bind x (fun b => M.pure (!b)) S = _
  unfold M.bind
  cases x S <;> rfl
theorem o_eqne (G : Good W w X) (C : Orc) (hI : InstEq W w X cl EX C) (ne : Bool) : OpS X (compareOp (if ne = true then .NotEq else .Eq)) (rS2 W w cl EX (fun a b => vbl (cmpV W.P C (if ne = true then .ne else .eq) a b))) := by
  intro pins s σ H x y v u Q I rx ry ⟨ι, env, S, a, b, R, ra, rb, g⟩
  have g' : Gs W w cl EX (rv W) ι env S σ H (match eqV W.P C a b S with | .ok r S' => .ok (.bl (if ne = true then !r else r)) S' | .ex c fs S' => .ex c fs S' | .no => .no) Q := by
    cases ne with
    | false =>
      have g : Gs W w cl EX (rv W) ι env S σ H (vbl (cmpV W.P C .eq a b) S) Q := g
      rw [vbl_ap] at g
      exact g
    | true =>
      have g : Gs W w cl EX (rv W) ι env S σ H (vbl (notM (eqV W.P C a b)) S) Q := g
      rw [vbl_ap, notM_ap] at g
      show Gs W w cl EX (rv W) ι env S σ H (match eqV W.P C a b S with | .ok r S' => .ok (.bl (!r)) S' | .ex c fs S' => .ex c fs S' | .no => .no) Q
      cases h3 : eqV W.P C a b S with
      | ok r S' => rw [h3] at g; exact g
      | ex c fs S' => rw [h3] at g; exact g
      | no => rw [h3] at g; exact g
  unfold eqV at g'
  cases he : eqD 60 S a b with
  | some k =>
    rw [he] at g'
    exact run_eq G ne R I he ra rb rx ry (g'.here R rfl)
  | none =>
    rw [he] at g'
    cases a with
    | loc n =>
      cases hn : S[n]? with
      | none => simp only [hn] at g'; exact g'.elim
      | some o =>
        simp only [hn] at g'
        cases o with
        | ins c fs =>
          dsimp only at g'
          cases hc : W.P.cl c with
          | none => simp only [hc] at g'; exact g'.elim
          | some k =>
            obtain ⟨k1, k2, k3, k4, k5, k6⟩ := k
            cases k2 with
            | none => simp only [hc] at g'; exact g'.elim
            | some f =>
              simp only [hc] at g'
              cases hk : kindV b S with
              | ok kd S2 =>
                simp only [hk] at g'
                refine hI ne pins s σ H x y v u Q ι env S σ n c f fs b _ kd S2 rfl hk I rx ry R ra rb hn hc rfl ?_
                cases h4 : C f [.loc n, b] [] S with
                | ok r S' =>
                  simp only [h4] at g'
                  cases r <;> first | exact g'.elim | exact g'
                | ex c fs S' => simp only [h4] at g'; exact g'.elim
                | no => simp only [h4] at g'; exact g'.elim
              | ex c fs S' => simp only [hk] at g'; exact g'.elim
              | no => simp only [hk] at g'; exact g'.elim
        | _ => exact g'.elim
    | _ => exact g'.elim
end
end Pyd
set_option Elab.async false
set_option linter.all false
set_option maxRecDepth 100000
set_option maxHeartbeats 1000000
namespace Pyd
open PySem PySem.Spec PyProof.Rows L2
section
variable {W : Wd} {w : World} {X : Cx} {cl : FC} {EX : WX}
theorem ordV_ap {x y : Val} {r : Bool} {S : Store} : vbl (ordV x y r) S = if ((Val.alike x y && Val.alike y x) && (x.key && y.key)) = true then .ok (.bl r) S else .no := by
  rw [vbl_ap]
  have e : ordV x y r S = if ((Val.alike x y && Val.alike y x) && (x.key && y.key)) = true then .ok r S else .no := need_bind
  rw [e]
  by_cases h : ((Val.alike x y && Val.alike y x) && (x.key && y.key)) = true
  · rw [if_pos h, if_pos h]
  · rw [if_neg h, if_neg h]
theorem alike_nn {x y : Val} (h : Val.alike x y = true) : x.dt.pd ≠ .none := by
  cases x with
  | non => cases y <;> exact nomatch h
  | loc _ => cases y <;> exact nomatch h
  | glo _ => cases y <;> exact nomatch h
  | _ => intro z; simp [Val.dt, Dt.pd] at z
theorem o_ord (G : Good W w X) (op : CmpOp) (r : Val → Val → Bool)
    (rule : ∀ (a b : Val) (as bs : List Addr) (u v : Value) (s : Shared) (Q : Value → Shared → Prop), a.flat = true → b.flat = true → Reads s.heap u a.dt.pd as → Reads s.heap v b.dt.pd bs → Val.alike a b = true → Val.alike b a = true → X.A.units + min a.dt.pd.depth b.dt.pd.depth < cLine → Q (.bool (r a b)) s →
      wpAny (model X.prog X.w) X.A (compareOp op u v) Q X.xe s) :
    OpR X (compareOp op) (rV2 W w cl EX (fun a b => vbl (ordV a b (r a b)))) := by
  intro pins s σ H x y v u Q I rx ry ⟨ι, env, S, σ', a, b, R, ra, rb, g⟩
  have g : Gs W w cl EX (rv W) ι env S σ' H (vbl (ordV a b (r a b)) S) Q := g
  rw [ordV_ap] at g
  by_cases h : ((Val.alike a b && Val.alike b a) && (a.key && b.key)) = true
  · rw [if_pos h] at g
    obtain ⟨h1, h2⟩ := Bool.and_eq_true_iff.mp h
    obtain ⟨k1, k2⟩ := Bool.and_eq_true_iff.mp h1
    obtain ⟨k3, k4⟩ := Bool.and_eq_true_iff.mp h2
    obtain ⟨⟨as, r1⟩, c1, l1⟩ := reads_flat R I G.K k3 ra rx
    obtain ⟨⟨bs, r2⟩, c2, l2⟩ := reads_flat R I G.K k4 rb ry
    have hu : X.A.units + min a.dt.pd.depth b.dt.pd.depth < cLine := by
      have := G.hu
      have : min a.dt.pd.depth b.dt.pd.depth ≤ 9 := Nat.le_trans (Nat.min_le_left _ _) l1
      omega
    exact rule a b as bs v u s _ (key_flat k3) (key_flat k4) r1 r2 k1 k2 hu ⟨.bl (r a b), H, I, rfl, g.here R rfl⟩
  · rw [if_neg h] at g; exact g.elim
theorem o_lt (G : Good W w X) (C : Orc) : OpR X (compareOp .Lt) (rV2 W w cl EX (fun a b => vbl (cmpV W.P C .lt a b))) :=
  o_ord G .Lt (fun a b => Val.lt a b) fun a b as bs u v s Q f1 f2 r1 r2 h1 h2 hu q => PySem.W.lt_data r1 r2 (alike_pd a b h1) (alike_nn h1) hu (by rw [lt_pd a b h1 f1 f2]; exact q)
theorem o_gt (G : Good W w X) (C : Orc) : OpR X (compareOp .Gt) (rV2 W w cl EX (fun a b => vbl (cmpV W.P C .gt a b))) :=
  o_ord G .Gt (fun a b => Val.lt b a) fun a b as bs u v s Q f1 f2 r1 r2 h1 h2 hu q => PySem.W.gt_data r1 r2 (alike_pd a b h1) (alike_nn h1) hu (by rw [lt_pd b a h2 f2 f1]; exact q)
theorem o_le (G : Good W w X) (C : Orc) : OpR X (compareOp .LtE) (rV2 W w cl EX (fun a b => vbl (cmpV W.P C .le a b))) :=
  o_ord G .LtE (fun a b => !Val.lt b a) fun a b as bs u v s Q f1 f2 r1 r2 h1 h2 hu q => PySem.W.le_data r1 r2 (alike_pd a b h1) (alike_nn h1) hu (by rw [lt_pd b a h2 f2 f1]; exact q)
theorem o_ge (G : Good W w X) (C : Orc) : OpR X (compareOp .GtE) (rV2 W w cl EX (fun a b => vbl (cmpV W.P C .ge a b))) :=
  o_ord G .GtE (fun a b => !Val.lt a b) fun a b as bs u v s Q f1 f2 r1 r2 h1 h2 hu q => PySem.W.ge_data r1 r2 (alike_pd a b h1) (alike_nn h1) hu (by rw [lt_pd a b h1 f1 f2]; exact q)
def isNon : Val → Bool
  | .non => true
  | _ => false
theorem RV.non_iff {ι : Nat → Addr} {N : Nat} {H : Hp} {a : Val} {x : V} (h : RV W ι N H a x) : (decide (x = .non)) = isNon a := by
  cases a with
  | non => cases (show x = .non from h); rfl
  | bl b => cases (show x = .bl b from h); rfl
  | int b => cases (show x = .int b from h); rfl
  | str b => obtain ⟨_, e⟩ := h; subst e; rfl
  | tup xs => obtain ⟨p, ys, e, _⟩ := h; subst e; rfl
  | loc n => obtain ⟨_, e⟩ := h; subst e; rfl
  | glo g => obtain ⟨p, e, _⟩ := h; subst e; rfl
theorem o_is (C : Orc) : OpR X (compareOp .Is) (rV2 W w cl EX (fun a b => vbl (cmpV W.P C .is a b))) := by
  intro pins s σ H x y v u Q I rx ry ⟨ι, env, S, σ', a, b, R, ra, rb, g⟩
  cases b with
  | non =>
    cases (show y = .non from rb)
    refine op_isN pins s σ H _ _ v u Q I rx ry ⟨rfl, ?_⟩
    rw [ra.non_iff]
    cases a <;> exact g.here R rfl
  | bl b =>
    cases (show y = .bl b from rb)
    cases a with
    | bl a =>
      cases (show x = .bl a from ra)
      refine op_isBl pins s σ H _ _ v u Q I rx ry ⟨a, b, rfl, rfl, ?_⟩
      have : (decide (a = b)) = (a == b) := by cases a <;> cases b <;> rfl
      rw [this]
      exact g.here R rfl
    | _ => exact g.elim
  | _ => exact g.elim
theorem o_isN (C : Orc) : OpR X (compareOp .IsNot) (rV2 W w cl EX (fun a b => vbl (cmpV W.P C .isN a b))) := by
  intro pins s σ H x y v u Q I rx ry ⟨ι, env, S, σ', a, b, R, ra, rb, g⟩
  cases b with
  | non =>
    cases (show y = .non from rb)
    refine op_notN pins s σ H _ _ v u Q I rx ry ⟨rfl, ?_⟩
    rw [ra.non_iff]
    cases a <;> exact g.here R rfl
  | bl b =>
    cases (show y = .bl b from rb)
    cases a with
    | bl a =>
      cases (show x = .bl a from ra)
      refine op_notBl pins s σ H _ _ v u Q I rx ry ⟨a, b, rfl, rfl, ?_⟩
      have : (!decide (a = b)) = !(a == b) := by cases a <;> cases b <;> rfl
      rw [this]
      exact g.here R rfl
    | _ => exact g.elim
  | _ => exact g.elim
theorem isPre_iff (x y : List Nat) : x.isPrefixOf y = true ↔ y.take x.length = x := by
  rw [List.isPrefixOf_iff_prefix, List.prefix_iff_eq_take]
  exact ⟨fun h => h.symm, fun h => h.symm⟩
theorem subList_iff (x : List Nat) : ∀ y : List Nat, subList x y = true ↔ ∃ i, i + x.length ≤ y.length ∧ (y.drop i).take x.length = x
  | [] => by
    unfold subList
    constructor
    · intro h
      have : x = [] := by simpa using h
      subst this
      exact ⟨0, by simp, by simp⟩
    · rintro ⟨i, h1, h2⟩
      have : x.length = 0 := by have h1 : i + x.length ≤ 0 := h1; omega
      simp [List.eq_nil_of_length_eq_zero this]
  | c :: r => by
    unfold subList
    rw [Bool.or_eq_true, isPre_iff, subList_iff x r]
    constructor
    · rintro (h | ⟨i, h1, h2⟩)
      · refine ⟨0, ?_, by simpa using h⟩
        have := congrArg List.length h
        rw [List.length_take] at this
        simp only [Nat.zero_add]
        omega
      · exact ⟨i + 1, by simp; omega, by simpa using h2⟩
    · rintro ⟨i, h1, h2⟩
      cases i with
      | zero => exact .inl (by simpa using h2)
      | succ i => exact .inr ⟨i, by simp at h1; omega, by simpa using h2⟩
theorem found_sub (x y : List Nat) : (!(Builtin.Str.occurrences (tx y) (tx x) 0 (tx y).length 1).isEmpty) = subList x y := by
  rw [Bool.eq_iff_iff, StrLaws.found_iff, subList_iff, tx_len, tx_len]
  constructor
  · rintro ⟨i, h1, h2⟩
    refine ⟨i, h1, ?_⟩
    rw [StrLaws.subAt_eq] at h2
    have := of_decide_eq_true (by simpa [tx_len] using h2)
    simpa [tx, List.take_drop] using this
  · rintro ⟨i, h1, h2⟩
    refine ⟨i, h1, ?_⟩
    rw [StrLaws.subAt_eq]
    simpa [tx_len, tx] using h2
theorem toD_tup {n : Nat} {S : Store} {xs : List Val} {ds : List Dt} (h : mapO (toD n S) xs = some ds) : toD (n + 1) S (.tup xs) = some (.tup ds) := by
  show (mapO (toD n S) xs).map Dt.tup = _
  rw [h]; rfl
theorem toD_seq {n a : Nat} {S : Store} {xs : List Val} {ds : List Dt} (ho : S[a]? = some (.lst xs) ∨ S[a]? = some (.rol xs)) (h : mapO (toD n S) xs = some ds) : toD (n + 1) S (.loc a) = some (.lst ds) := by
  show (match S[a]? with
        | some (.lst xs) => (mapO (toD n S) xs).map Dt.lst
        | some (.rol xs) => (mapO (toD n S) xs).map Dt.lst
        | _ => none) = some (.lst ds)
  rcases ho with ho | ho <;> (rw [ho]; dsimp only; rw [h]; rfl)
theorem any_pd (d : Dt) : ∀ ds : List Dt, ((Dt.pds ds).any fun y => PyData.eqv y d.pd) = (ds.map fun z => Dt.eqv z d).any id
  | [] => rfl
  | z :: ds => by
    show (PyData.eqv z.pd d.pd || (Dt.pds ds).any fun y => PyData.eqv y d.pd) = (Dt.eqv z d || (ds.map fun z => Dt.eqv z d).any id)
    rw [any_pd d ds, pd_eqv]
theorem eqAll_some {S : Store} {x : Val} {xs : List Val} {bs : List Bool} (h : eqAll S x xs = some bs) : ∃ d ds, toD 60 S x = some d ∧ mapO (toD 60 S) xs = some ds ∧ bs = ds.map fun z => Dt.eqv z d := by
  unfold eqAll at h
  cases h1 : toD 60 S x with
  | none => rw [h1] at h; cases h
  | some d =>
    cases h2 : mapO (toD 60 S) xs with
    | none => rw [h1, h2] at h; cases h
    | some ds => rw [h1, h2] at h; exact ⟨d, ds, rfl, rfl, (Option.some.inj h).symm⟩
theorem eqAllM_bind {α : Type} {x : Val} {xs : List Val} {k : List Bool → M α} {S : Store} : (eqAllM x xs >>= k) S = match eqAll S x xs with | some bs => k bs S | none => .no := by
  show M.bind (eqAllM x xs) k S = _
  unfold M.bind eqAllM
  cases eqAll S x xs <;> rfl
theorem bind_ap {α β : Type} {x : M α} {k : α → M β} {S : Store} : (x >>= k) S = (match x S with | .ok a S' => k a S' | .ex c fs S' => .ex c fs S' | .no => .no) := rfl
theorem run_mem (G : Good W w X) {ι : Nat → Addr} {env : Env} {S : Store} {σ σ0 : L2.St} {H : Hp} {s : Shared} {pins : List (Addr × Obj)} {a b : Val} {x y : V} {v u : Value} {Q : VK} (ng : Bool) (R : Rl W w cl ι env S σ0 H) (I : Inv X pins σ H s)
    (ra : RV W ι S.length H a x) (rb : RV W ι S.length H b y) (rx : RelV x v) (ry : RelV y u)
    (g : Gs W w cl EX (rv W) ι env S σ0 H (match memV a b S with | .ok r S' => .ok (.bl (if ng = true then !r else r)) S' | .ex c fs S' => .ex c fs S' | .no => .no) Q) :
    wpAny (model X.prog X.w) X.A (compareOp (if ng = true then .NotIn else .In) v u) (EP X pins σ Q) X.xe s := by
  have hu : ∀ {ds : List Dt} {d : Dt}, d.pd.depth ≤ 60 → X.A.units + 1 + min (PyData.depthAll (Dt.pds ds)) d.pd.depth < cLine := fun {ds d} h => by
    have := G.hu
    have : min (PyData.depthAll (Dt.pds ds)) d.pd.depth ≤ 60 := Nat.le_trans (Nat.min_le_right _ _) h
    omega
  cases b with
  | str t =>
    cases a with
    | str z =>
      obtain ⟨_, e1⟩ := ra
      obtain ⟨_, e2⟩ := rb
      subst e1 e2
      have g : Gs W w cl EX (rv W) ι env S σ0 H (.ok (.bl (if ng = true then !subList z t else subList z t)) S) Q := g
      cases ng with
      | false => exact op_in_str pins s σ H _ _ v u Q I rx ry ⟨tx z, tx t, rfl, rfl, by rw [found_sub]; exact g.here R rfl⟩
      | true => exact op_notin_str pins s σ H _ _ v u Q I rx ry ⟨tx z, tx t, rfl, rfl, by rw [found_sub]; exact g.here R rfl⟩
    | _ => exact g.elim
  | tup ys =>
    have e : memV a (.tup ys) S = (match eqAll S a ys with | some bs => .ok (bs.any id) S | none => .no) := eqAllM_bind
    rw [e] at g
    cases h : eqAll S a ys with
    | none => rw [h] at g; exact g.elim
    | some bs =>
      rw [h] at g
      obtain ⟨d, ds, h1, h2, h3⟩ := eqAll_some h
      obtain ⟨⟨as, r1⟩, c1, l1⟩ := reads_of R I G.K 60 a x v d h1 ra rx
      obtain ⟨⟨bs', r2⟩, c2, _⟩ := reads_of R I G.K 61 (.tup ys) y u _ (toD_tup h2) rb ry
      have r2 : Reads s.heap u (.tuple (Dt.pds ds)) bs' := r2
      have c2 : PyData.canLayAll0 (Dt.pds ds) = true := by
        have c2 : PyData.canLay0 (.tuple (Dt.pds ds)) = true := c2
        unfold PyData.canLay0 at c2; exact c2
      cases ng with
      | false => exact SeqAt.in_tuple_reads r2 r1 c2 c1 (hu l1) ⟨.bl (bs.any id), H, I, by rw [any_pd, h3]; rfl, g.here R rfl⟩
      | true => exact SeqAt.notIn_tuple_reads r2 r1 c2 c1 (hu l1) ⟨.bl (!bs.any id), H, I, by rw [any_pd, h3]; rfl, g.here R rfl⟩
  | loc n =>
    have e : memV a (.loc n) S = (match S[n]? with | some (.lst ys) | some (.rol ys) => (match eqAll S a ys with | some bs => .ok (bs.any id) S | none => .no) | _ => .no) := by
      show (look n >>= _) S = _
      rw [look_bind]
      cases S[n]? with
      | none => rfl
      | some o => cases o <;> first | rfl | exact eqAllM_bind
    rw [e] at g
    have main : ∀ ys, (S[n]? = some (.lst ys) ∨ S[n]? = some (.rol ys)) → Gs W w cl EX (rv W) ι env S σ0 H (match (match eqAll S a ys with | some bs => .ok (bs.any id) S | none => .no : Res Bool) with | .ok r S' => .ok (.bl (if ng = true then !r else r)) S' | .ex c fs S' => .ex c fs S' | .no => .no) Q →
        wpAny (model X.prog X.w) X.A (compareOp (if ng = true then .NotIn else .In) v u) (EP X pins σ Q) X.xe s := by
      intro ys ho g
      cases h : eqAll S a ys with
      | none => rw [h] at g; exact g.elim
      | some bs =>
        rw [h] at g
        obtain ⟨d, ds, h1, h2, h3⟩ := eqAll_some h
        obtain ⟨⟨as, r1⟩, c1, l1⟩ := reads_of R I G.K 60 a x v d h1 ra rx
        obtain ⟨_, e1⟩ := rb
        subst e1
        cases ry
        obtain ⟨⟨bs', r2⟩, c2, _⟩ := reads_of R I G.K 61 (.loc n) (.ref (ι n)) _ (.lst ds) (toD_seq ho h2) ⟨ho.elim (fun e => (List.getElem?_eq_some_iff.mp e).1) (fun e => (List.getElem?_eq_some_iff.mp e).1), rfl⟩ rfl
        have r2 : Reads s.heap (.ref (ι n)) (.list (Dt.pds ds)) bs' := r2
        have c2 : PyData.canLayAll0 (Dt.pds ds) = true := by
          have c2 : PyData.canLay0 (.list (Dt.pds ds)) = true := c2
          unfold PyData.canLay0 at c2; exact c2
        cases ng with
        | false => exact SeqAt.in_list_reads r2 r1 c2 c1 (hu l1) ⟨.bl (bs.any id), H, I, by rw [any_pd, h3]; rfl, g.here R rfl⟩
        | true => exact SeqAt.notIn_list_reads r2 r1 c2 c1 (hu l1) ⟨.bl (!bs.any id), H, I, by rw [any_pd, h3]; rfl, g.here R rfl⟩
    cases ho : S[n]? with
    | none => rw [ho] at g; exact g.elim
    | some o =>
      rw [ho] at g
      cases o with
      | lst ys => exact main ys (.inl ho) g
      | rol ys => exact main ys (.inr ho) g
      | _ => exact g.elim
  | _ => exact g.elim
theorem o_mem (G : Good W w X) (C : Orc) : OpR X (compareOp .In) (rV2 W w cl EX (fun a b => vbl (cmpV W.P C .mem a b))) := by
  intro pins s σ H x y v u Q I rx ry ⟨ι, env, S, σ', a, b, R, ra, rb, g⟩
  have g : Gs W w cl EX (rv W) ι env S σ' H (vbl (memV a b) S) Q := g
  rw [vbl_ap] at g
  exact run_mem G false R I ra rb rx ry g
theorem o_nmem (G : Good W w X) (C : Orc) : OpR X (compareOp .NotIn) (rV2 W w cl EX (fun a b => vbl (cmpV W.P C .nmem a b))) := by
  intro pins s σ H x y v u Q I rx ry ⟨ι, env, S, σ', a, b, R, ra, rb, g⟩
  have g : Gs W w cl EX (rv W) ι env S σ' H (vbl (notM (memV a b)) S) Q := g
  rw [vbl_ap, notM_ap] at g
  refine run_mem (EX := EX) G true R I ra rb rx ry ?_
  cases h : memV a b S with
  | ok r S' => rw [h] at g; exact g
  | ex c fs S' => rw [h] at g; exact g
  | no => rw [h] at g; exact g
theorem truth_ok {ι : Nat → Addr} {env : Env} {S : Store} {σ : L2.St} {H : Hp} {a : Val} {x : V} {Q : Bool → Hp → Prop} (hK : X.K = W.K) (R : Rl W w cl ι env S σ H) (ra : RV W ι S.length H a x) (g : Gs W w cl EX rbl ι env S σ H (truth a S) Q) :
    ∃ k, TruV X.K x H k ∧ Q k H := by
  cases a with
  | non => cases (show x = .non from ra); exact ⟨false, rfl, g.here R rfl⟩
  | bl b => cases (show x = .bl b from ra); exact ⟨b, rfl, g.here R rfl⟩
  | int i => cases (show x = .int i from ra); exact ⟨i != 0, rfl, g.here R rfl⟩
  | str z =>
    obtain ⟨⟨h1, _⟩, e⟩ := ra
    subst e
    refine ⟨!z.isEmpty, ⟨by rw [tx_len, LINE_eq]; exact h1, ?_⟩, g.here R rfl⟩
    rw [tx_len]
    cases z with
    | nil => rfl
    | cons c z => simp; omega
  | tup xs =>
    obtain ⟨p, ys, e, t, r⟩ := ra
    subst e
    refine ⟨!xs.isEmpty, .inr (.inl ⟨ys, by rw [hK]; exact t, ?_⟩), g.here R rfl⟩
    have := r.length
    cases xs <;> cases ys <;> simp_all
  | loc n =>
    obtain ⟨h, e⟩ := ra
    subst e
    have main : ∀ xs, (S[n]? = some (.lst xs) ∨ S[n]? = some (.rol xs)) → Gs W w cl EX rbl ι env S σ H (.ok (!xs.isEmpty) S) Q → ∃ k, TruV X.K (.ref (ι n)) H k ∧ Q k H := by
      intro xs ho g
      obtain ⟨ys, t, r⟩ := R.seq ho
      refine ⟨!xs.isEmpty, .inl ⟨ys, by rw [hK]; exact t, ?_⟩, g.here R rfl⟩
      have := r.length
      cases xs <;> cases ys <;> simp_all
    have g : Gs W w cl EX rbl ι env S σ H ((look n >>= _) S) Q := g
    obtain ⟨o, ho, g⟩ := Gs.look g
    cases o with
    | lst xs => exact main xs (.inl ho) g
    | rol xs => exact main xs (.inr ho) g
    | _ => exact g.elim
  | glo g' => exact g.elim
theorem t_truth (hK : X.K = W.K) : TruR X (rVT W w cl EX truth) := by
  intro pins s σ H x v Q I rx ⟨ι, env, S, σ', a, R, ra, g⟩
  exact tru_ok pins s σ H x v Q I rx (truth_ok hK R ra g)
end
end Pyd
set_option Elab.async false
set_option linter.all false
set_option maxRecDepth 100000
set_option maxHeartbeats 1000000
namespace Pyd
open PySem PySem.Spec PyProof.Rows L2
section
variable {W : Wd} {w : World} {X : Cx} {cl : FC} {EX : WX}
theorem atI_of {α : Type} {xs : List α} {i : Int} {k : Nat} {v : α} (h : ixOf i xs.length = some k) (e : xs[k]? = some v) : atI xs i = some v := by
  show (ixN xs.length i).bind _ = _
  rw [show ixN xs.length i = some k from h]
  exact e
theorem tx_get {z : List Nat} : (tx z).cps.toList = z := by simp [tx]
theorem i_ix (hK : X.K = W.K) : IxR X (rV2 W w cl EX ixV) := by
  intro value slice pins s σ H x y v u Q I rx ry ⟨ι, env, S, σ', a, b, R, ra, rb, g⟩ hs
  have run : (rIx X.K x y H Q) → wpAny (model X.prog X.w) X.A (subscriptTail value slice v u) (EP X pins σ Q) X.xe s := fun h => ix_seq value slice pins s σ H x y v u Q I rx ry h hs
  have item : ∀ {xs : List Val} {ys : List V}, RVs W ι S.length H xs ys → Gs W w cl EX (rv W) ι env S σ' H (itemAt xs b S) Q → ∃ i z, y = .int i ∧ atI ys i = some z ∧ Q z H := by
    intro xs ys r g
    cases b with
    | int i =>
      cases (show y = .int i from rb)
      obtain ⟨k, hk, g⟩ := Gs.get g
      have g : Gs W w cl EX (rv W) ι env S σ' H (get? xs[k]? S) Q := g
      unfold get? at g
      cases hx : xs[k]? with
      | none => rw [hx] at g; exact g.elim
      | some x0 =>
        rw [hx] at g
        obtain ⟨z, hz, rz⟩ := r.get hx
        exact ⟨i, z, rfl, atI_of (k := k) (by rw [r.length]; exact hk) hz, g.here R rz⟩
    | _ => exact g.elim
  cases a with
  | tup xs =>
    obtain ⟨p, ys, e, t, r⟩ := ra
    subst e
    obtain ⟨i, z, e, h1, q⟩ := item r g
    exact run (.inr (.inl ⟨p, ys, i, z, rfl, e, by rw [hK]; exact t, h1, q⟩))
  | str z =>
    cases b with
    | int i =>
      cases (show y = .int i from rb)
      obtain ⟨⟨hl, ha⟩, e⟩ := ra
      subst e
      obtain ⟨k, hk, g⟩ := Gs.get g
      obtain ⟨c, hc, g⟩ := Gs.get g
      have hin : c ∈ z := List.mem_of_getElem? hc
      have hc' : (c < 128) := by simpa using List.all_eq_true.mp ha c hin
      exact run (.inr (.inr ⟨tx z, i, c, rfl, rfl, by rw [tx_len, LINE_eq]; exact hl, by rw [tx_get]; exact atI_of hk hc, g.here (y := V.str (tx [c])) R ⟨⟨by show 1 ≤ 16777216; decide, by simpa using hc'⟩, rfl⟩⟩))
    | _ => exact g.elim
  | loc n =>
    obtain ⟨hn, e⟩ := ra
    subst e
    obtain ⟨o, ho, g⟩ := Gs.look g
    have main : ∀ xs, (S[n]? = some (.lst xs) ∨ S[n]? = some (.rol xs)) → Gs W w cl EX (rv W) ι env S σ' H (itemAt xs b S) Q → wpAny (model X.prog X.w) X.A (subscriptTail value slice v u) (EP X pins σ Q) X.xe s := by
      intro xs ho g
      obtain ⟨ys, t, r⟩ := R.seq ho
      obtain ⟨i, z, e, h1, q⟩ := item r g
      exact run (.inl ⟨_, ys, i, z, rfl, e, by rw [hK]; exact t, h1, q⟩)
    cases o with
    | lst xs => exact main xs (.inl ho) g
    | rol xs => exact main xs (.inr ho) g
    | _ => exact g.elim
  | _ => exact g.elim
theorem sIx_eq (n d : Nat) (o : Option Int) : sIx n d o = HT.sIx n d o := by cases o <;> rfl
theorem RVs.cut {ι : Nat → Addr} {N : Nat} {H : Hp} {xs : List Val} {ys : List V} (r : RVs W ι N H xs ys) (lo hi : Option Int) : RVs W ι N H (cut xs lo hi) (cutV ys lo hi) := by
  unfold Pyd.cut cutV
  rw [sIx_eq, sIx_eq, r.length]
  exact (r.drop _).take _
def rSl (W : Wd) (w : World) (cl : FC) (EX : WX) : V → Option Int → Option Int → Hp → VK → Prop := fun x lo hi H Q => ∃ ι env S σ a, Rl W w cl ι env S σ H ∧ RV W ι S.length H a x ∧ Gs W w cl EX (rv W) ι env S σ H (slV a lo hi S) Q
theorem s_sl (hK : X.K = W.K) : SlR X (rSl W w cl EX) := by
  intro pins s σ H x v vl vu lo hi sl Q I rx hs pl pu ⟨ι, env, S, σ', a, R, ra, g⟩
  cases a with
  | tup xs =>
    obtain ⟨p, ys, e, t, r⟩ := ra
    subst e
    have g : Gs W w cl EX (rv W) ι env S σ' H (.ok (.tup (cut xs lo hi)) S) Q := g
    refine sl_tupA pins s σ H _ v vl vu lo hi sl Q I rx hs pl pu ⟨p, ys, rfl, by rw [hK]; exact t, fun hw => ?_, fun hw => g.newTup R (r.cut lo hi)⟩
    have e : cut xs lo hi = xs := by
      unfold Pyd.cut
      rw [sIx_eq, sIx_eq, ← r.length, hw.1, hw.2, r.length]
      simp
    rw [e] at g
    exact g.here R ⟨p, ys, rfl, t, r⟩
  | str z =>
    obtain ⟨⟨hl, ha⟩, e⟩ := ra
    subst e
    refine sl_str pins s σ H _ v vl vu lo hi sl Q I rx hs pl pu ⟨tx z, rfl, by rw [tx_len, LINE_eq]; exact hl, ?_⟩
    have g : Gs W w cl EX (rv W) ι env S σ' H (.ok (.str (cut z lo hi)) S) Q := g
    have e : cutS (tx z) lo hi = tx (cut z lo hi) := by
      unfold cutS Pyd.cut tx
      rw [sIx_eq, sIx_eq]
      simp [Str.length]
    rw [e]
    refine g.here R ⟨⟨Nat.le_trans ?_ hl, ?_⟩, rfl⟩
    · unfold Pyd.cut
      rw [List.length_take, List.length_drop]; omega
    · rw [List.all_eq_true] at ha ⊢
      intro c hc
      exact ha c (List.mem_of_mem_drop (List.mem_of_mem_take hc))
  | loc n =>
    obtain ⟨hn, e⟩ := ra
    subst e
    obtain ⟨o, ho, g⟩ := Gs.look g
    have main : ∀ xs, (S[n]? = some (.lst xs) ∨ S[n]? = some (.rol xs)) → Gs W w cl EX (rv W) ι env S σ' H (alloc (.lst (cut xs lo hi)) S) Q → ∃ T id, typeLookup (.type T) "__getitem__" = pure (some (.builtin id)) ∧ s.TypeIs v T ∧ wpAny (model X.prog X.w) X.A (getItem v (.ref sl)) (EP X pins σ Q) X.xe s := by
      intro xs ho g
      obtain ⟨ys, t, r⟩ := R.seq ho
      exact sl_list pins s σ H _ v vl vu lo hi sl Q I rx hs pl pu ⟨_, ys, rfl, by rw [hK]; exact t, g.newLst R (r.cut lo hi)⟩
    cases o with
    | lst xs => exact main xs (.inl ho) g
    | rol xs => exact main xs (.inr ho) g
    | _ => exact g.elim
  | _ => exact g.elim
theorem sliceApplied_rev {prog : Program} {w : World} {A : Around} {E : Value → Shared → Prop} {s : Shared} {sl : Addr} {vl vu vs : Value} {n : Nat} {Q : Int × Int × Nat → Shared → Prop} (hs : s.heap.IsSliceOf sl vl vu vs) (pl : IsPart vl none) (pu : IsPart vu none) (ps : IsPart vs (some (-1)))
    (h : Q ((n : Int) - 1, -1, n) s) : wpAny (model prog w) A (Builtin.Slice.sliceApplied (.ref sl) (pure (n : Int))) Q E s := by
  obtain ⟨os, hos, hcs, hds⟩ := id hs
  unfold Builtin.Slice.sliceApplied Builtin.Slice.sliceFields
  refine wpAny_bind (wpAny_bind (wpAny_field hos hds (x := vl) rfl (wpAny_bind (wpAny_field hos hds (x := vu) rfl (wpAny_bind (wpAny_field hos hds (x := vs) rfl (wpAny_pure ?_)))))))
  refine wpAny_bind (HT.slicePart_ ps ?_)
  show wpAny _ _ (if ((-1 : Int) == 0) = true then _ else _) _ _ s
  rw [if_neg (by decide)]
  refine wpAny_bind (HT.slicePart_ pl (wpAny_bind (HT.slicePart_ pu (wpAny_bind (wpAny_pure ?_)))))
  have e : Builtin.Slice.sliceAdjust none none (-1) (n : Int) = ((n : Int) - 1, -1) := by
    unfold Builtin.Slice.sliceAdjust
    simp
  show wpAny _ _ (match Builtin.Slice.sliceAdjust none none (-1) (n : Int) with | (lo, hi) => pure (lo, (-1 : Int), Builtin.Slice.slicePlaces lo hi (-1))) _ _ s
  rw [e]
  show wpAny _ _ (pure ((n : Int) - 1, (-1 : Int), Builtin.Slice.slicePlaces ((n : Int) - 1) (-1) (-1))) _ _ s
  have e2 : Builtin.Slice.slicePlaces ((n : Int) - 1) (-1) (-1) = n := by
    unfold Builtin.Slice.slicePlaces
    simp
    omega
  rw [e2]
  exact wpAny_pure h
theorem pick_rev (xs : Array Value) : ((List.range xs.size).filterMap fun (m : Nat) => xs[(((xs.size : Int) - 1) + (m : Int) * -1).toNat]?).toArray = xs.toList.reverse.toArray := by
  congr 1
  apply List.ext_getElem?
  intro i
  have e : ∀ n, n ≤ xs.size → ((List.range n).filterMap fun (m : Nat) => xs[(((xs.size : Int) - 1) + (m : Int) * -1).toNat]?) = (xs.toList.reverse).take n := by
    intro n hn
    induction n with
    | zero => simp
    | succ n ih =>
      rw [List.range_succ, List.filterMap_append, ih (by omega), List.take_add_one]
      congr 1
      have : (((xs.size : Int) - 1) + (n : Int) * -1).toNat = xs.size - 1 - n := by omega
      simp only [List.filterMap_cons, List.filterMap_nil, this]
      have h2 : xs.toList.reverse[n]? = xs[xs.size - 1 - n]? := by
        rw [List.getElem?_reverse (by rw [Array.length_toList]; exact hn)]
        simp
      rw [h2]
      cases xs[xs.size - 1 - n]? <;> rfl
  rw [e _ (Nat.le_refl _)]
  rw [List.take_of_length_le (by simp)]
theorem getItem_tuple_rev {prog : Program} {w : World} {A : Around} {E : Value → Shared → Prop} {s : Shared} {t sl : Addr} {items : Array Value} {vl vu vs : Value} {Q : Value → Shared → Prop} (ht : IsTup s.heap t items) (hs : s.heap.IsSliceOf sl vl vu vs) (pl : IsPart vl none) (pu : IsPart vu none) (ps : IsPart vs (some (-1)))
    (h : Q (.ref s.heap.objs.size) { s with heap := s.heap.push { cls := .type "tuple", data := .seq items.toList.reverse.toArray } })
    (hsz : items.size ≤ sizeLine) : wpAny (model prog w) A (getItem (.ref t) (.ref sl)) Q E s := by
  have htake : sizeOk (.seq items.toList.reverse.toArray) := by
    show items.toList.reverse.toArray.size ≤ sizeLine
    rw [List.size_toArray, List.length_reverse, Array.length_toList]
    exact hsz
  obtain ⟨os, hos, hcs, hds⟩ := id hs
  have hTs : s.TypeIs (.ref sl) "slice" := ⟨os, hos, hcs⟩
  unfold getItem
  try with_reducible refine wpAny_holding ?_
  first | refine wpAny_bind (wpAny_pure ?_) | skip
  refine wpAny_bind (wpAny_sequenceKey ht.typeIs (by decide) ?_)
  refine wpAny_bind (wpAny_callSpecial?_slot (name := Str.ofString "__getitem__") ht.typeIs PyProof.Rows.slot_tuple_getitem
    (wpAny_call_entry PyProof.Rows.slot_tuple_getitem ht.typeIs entry_tuple_getitem ?_ (args_tuple_getitem _ _)))
  show wpAny _ _ (Builtin.Tuple.tupleItemsOf (.ref t) >>= _) _ _ s
  refine wpAny_bind (tupleItemsOf_ ht ?_)
  refine wpAny_bind (wpAny_typeOf hTs ?_)
  rw [if_pos (by decide)]
  refine wpAny_bind (sliceApplied_rev hs pl pu ps ?_)
  have hno : ¬ ((((items.size : Int) - 1) == 0 && (-1 : Int) == 1 && items.size == items.size) = true) := by
    intro q
    rw [Bool.and_eq_true, Bool.and_eq_true] at q
    exact absurd q.1.2 (by decide)
  show wpAny _ _ (if (((items.size : Int) - 1) == 0 && (-1 : Int) == 1 && items.size == items.size) = true then _ else _) _ _ s
  rw [if_neg hno, pick_rev]
  first
    | exact wpAny_bind (m := Builtin.Tuple.tupleExact _) (wpAny_newObj_type (wpAny_pure ⟨_, rfl, wpAny_pure h⟩) htake)
    | exact wpAny_bind (m := Builtin.Tuple.tupleExact _) (wpAny_newObj_type (wpAny_bind (wpAny_pure (wpAny_pure ⟨_, rfl, wpAny_pure h⟩))) htake)
    | exact wpAny_bind (wpAny_bind (m := Builtin.Tuple.tupleExact _) (wpAny_newObj_type (wpAny_pure (wpAny_pure ⟨_, rfl, wpAny_pure h⟩)) htake))
    | exact wpAny_bind (wpAny_bind (m := Builtin.Tuple.tupleExact _) (wpAny_newObj_type (wpAny_pure ⟨_, rfl, wpAny_pure h⟩) htake))
def rRev (W : Wd) (w : World) (cl : FC) (EX : WX) : V → Hp → VK → Prop := rV1 W w cl EX revV
theorem mod_str_rev {prog : Program} {w : World} {A : Around} {E : Value → Shared → Prop} {s : Shared} {z : List Nat} {t : Tok} {sl : Addr} {l u st : Option (Int × Tok)} {Q : Value → Shared → Prop} (hs : s.heap.IsSlice sl l u st) (hl : l = none) (hu : u = none) (hst : st.map (·.1) = some (-1)) (hz : z.length ≤ sizeLine)
    (h : Q (.str (tx z.reverse) s.toks) { s with toks := s.toks + 1 }) : wpAny (model prog w) A (getItem (.str (tx z) t) (.ref sl)) Q E s := by
  subst hl hu
  refine wpAny_getItem_str_slice hs (by rw [hst]; decide) ?_
  have e1 : ((st.map (·.1)).getD 1 == 1 && (slicePicked (tx z) none none st).length == (tx z).length) = false := by rw [hst]; rfl
  unfold sliceMade
  rw [e1]
  have e2 : (slicePicked (tx z) none none st) = (List.range z.length).reverse := by
    have : slicePicked (tx z) none none st = Builtin.Str.strSliceIndices none none (-1) (tx z).length := by
      unfold slicePicked
      rw [hst]; rfl
    rw [this, tx_len]
    unfold Builtin.Str.strSliceIndices
    show sliceRange ((z.length : Int) - 1) (-1) (-1) = _
    rw [PySem.W.krv_sliceRange, PySem.W.krv_range]
  have e3 : (⟨((slicePicked (tx z) none none st).filterMap ((tx z).cps[·]?)).toArray⟩ : Str) = tx z.reverse := by
    rw [e2]
    have e4 : (List.range z.length).reverse.filterMap ((tx z).cps[·]?) = z.reverse := by
      rw [List.filterMap_reverse]
      congr 1
      have := PySem.W.krv_all (tx z).cps
      simpa [tx] using this
    rw [e4]
  show Made.post (if false = true then _ else Made.str _) Q s
  rw [if_neg (by decide), e3]
  exact ⟨by rw [tx_len, List.length_reverse]; exact hz, h⟩
theorem pe_rev (hK : X.K = W.K) {e : Expr} {te : TE} {k : Nat} {p1 p2 p3 pos : Pos} (he : PE X e te) : PE X (.Subscript e (.Slice none none (some (.UnaryOp .USub (.Constant (.int 1) k p1) p2)) p3) pos) (tUn (rRev W w cl EX) te) := by
  refine ⟨fun pins s σ H Q I h => ?_⟩
  refine Subscript_ (thn (he.run pins s σ H _ I h) fun v s1 ⟨x, H1, I1, r1, q1⟩ => ?_)
  obtain ⟨ι, env, S, σ', a, R, ra, g⟩ := q1
  have hst : PO X (some (.UnaryOp .USub (.Constant (.int 1) k p1) p2)) (tPart (tUn (rU fun i => .int (-i)) (tC (.int 1)))) := po_some (pe_un un_neg pe_int)
  refine wpAny_Slice (thn (po_none.run pins s1 σ H1 (fun o H2 => o = none ∧ H2 = H1) I1 ⟨rfl, rfl⟩) fun vl s2 ⟨l, H2, I2, pl, el, e2⟩ => ?_)
  subst el e2
  refine thn (po_none.run pins s2 σ H2 (fun o H3 => o = none ∧ H3 = H2) I2 ⟨rfl, rfl⟩) fun vu s3 ⟨u, H3, I3, pu, eu, e3⟩ => ?_
  subst eu e3
  refine thn (hst.run pins s3 σ H3 (fun o H4 => o = some (-1) ∧ H4 = H3) I3 ⟨1, rfl, -1, rfl, rfl, rfl⟩) fun vs s4 ⟨o, H4, I4, ps, eo, e4⟩ => ?_
  subst eo e4
  have I5 : Inv X pins σ H4 { s4 with heap := s4.heap.push { cls := .type "slice", data := .fields #[vl, vu, vs] } } := I4.kept (t' := s4.toks) fun b ob q => Heap.get?_push_of_some _ q
  cases a with
  | tup xs =>
    obtain ⟨p, ys, e0, t, r⟩ := ra
    subst e0
    cases r1
    rw [← hK] at t
    obtain ⟨its, vr, ht, hz⟩ := I5.tuple t
    have hlen := vr.length
    have g : Gs W w cl EX (rv W) ι env S σ' H4 (.ok (.tup xs.reverse) S) Q := g
    show wpAny (model X.prog X.w) X.A (subscriptTail e (.Slice none none (some (.UnaryOp .USub (.Constant (.int 1) k p1) p2)) p3) (.ref p) (.ref s4.heap.objs.size)) (EP X pins σ Q) X.xe { s4 with heap := s4.heap.push { cls := .type "slice", data := .fields #[vl, vu, vs] } }
    refine tail_any (ops := [.ref p, .ref s4.heap.objs.size]) ht.typeIs (PyProof.Rows.slot_tuple_getitem.lookup) ?_ (by with_unfolding_all rfl)
    refine getItem_tuple_rev ht (Heap.IsSliceOf.new _ vl vu vs) pl pu ps ?_ (by rw [List.size_toArray]; omega)
    refine ⟨.ref _, _, I5.laid (t' := s4.toks) (o := .tup ys.reverse) (fun b ob q => Heap.get?_push_of_some _ q) (Nat.le_refl _) ?_, rfl, g.newTup R r.reverse _ (I5.hok.fresh (Nat.le_refl _))⟩
    exact ⟨by rw [List.length_reverse]; exact hz, _, vr.reverse, IsTup.new _ _⟩
  | str z =>
    obtain ⟨⟨hl, ha⟩, e0⟩ := ra
    subst e0
    obtain ⟨t, rfl⟩ := r1
    obtain ⟨l, rfl, hl1⟩ := IsPart.raw pl
    obtain ⟨u, rfl, hu1⟩ := IsPart.raw pu
    obtain ⟨st, rfl, hs1⟩ := IsPart.raw ps
    have g : Gs W w cl EX (rv W) ι env S σ' H4 (.ok (.str z.reverse) S) Q := g
    show wpAny (model X.prog X.w) X.A (subscriptTail e (.Slice none none (some (.UnaryOp .USub (.Constant (.int 1) k p1) p2)) p3) (.str (tx z) t) (.ref s4.heap.objs.size)) (EP X pins σ Q) X.xe { s4 with heap := s4.heap.push { cls := .type "slice", data := .fields #[_, _, _] } }
    refine tail_any (ops := [.str (tx z) t, .ref s4.heap.objs.size]) (typeIs_str _ _ _) (F.slot_str_getitem.lookup) ?_ (by with_unfolding_all rfl)
    have ln : l = none := by cases l <;> first | rfl | simp at hl1
    have un : u = none := by cases u <;> first | rfl | simp at hu1
    obtain ⟨os, hos, hcs, hds⟩ := Heap.IsSliceOf.new s4.heap (partValue l) (partValue u) (partValue st)
    refine mod_str_rev (l := l) (u := u) (st := st) ⟨os, hos, hcs, hds⟩ ln un hs1 (by rw [LINE_eq]; exact hl) ?_
    refine ⟨.str (tx z.reverse), H4, I5.tok _, ⟨_, rfl⟩, g.here R ⟨⟨by rw [List.length_reverse]; exact hl, by rw [List.all_reverse]; exact ha⟩, rfl⟩⟩
  | loc n =>
    obtain ⟨hn, e0⟩ := ra
    subst e0
    cases r1
    obtain ⟨o, ho, g⟩ := Gs.look g
    cases o with
    | lst xs =>
      obtain ⟨ys, hH, r⟩ := R.lst ho
      have hx : SqL X.K H4 (ι n) ys := .of hH
      obtain ⟨its, vr, ht, hz⟩ := I5.list hx
      have hlen := vr.length
      have g : Gs W w cl EX (rv W) ι env S σ' H4 (.ok (.loc S.length) (S ++ [.lst xs.reverse])) Q := g
      show wpAny (model X.prog X.w) X.A (subscriptTail e (.Slice none none (some (.UnaryOp .USub (.Constant (.int 1) k p1) p2)) p3) (.ref (ι n)) (.ref s4.heap.objs.size)) (EP X pins σ Q) X.xe { s4 with heap := s4.heap.push { cls := .type "slice", data := .fields #[vl, vu, vs] } }
      refine tail_any (ops := [.ref (ι n), .ref s4.heap.objs.size]) ht.isList.typeIs (PySem.slot_list_getitem.lookup) ?_ (by with_unfolding_all rfl)
      refine wpAny_getItem_list_slice ht.isList (Heap.IsSliceOf.new _ vl vu vs) pl pu ps (by decide) ?_ (by rw [List.size_toArray]; omega)
      rw [PySem.W.krv_pick]
      refine ⟨.ref _, _, I5.laid (t' := s4.toks) (o := .lst ys.reverse) (fun b ob q => Heap.get?_push_of_some _ q) (Nat.le_refl _) ?_, rfl, g.newLst R r.reverse _ (I5.hok.fresh (Nat.le_refl _))⟩
      exact ⟨by rw [List.length_reverse]; exact hz, _, 0, vr.reverse, Heap.get?_push_size _ rfl⟩
    | _ => exact g.elim
  | _ => exact g.elim
end
end Pyd
set_option Elab.async false
set_option linter.all false
set_option maxRecDepth 100000
set_option maxHeartbeats 1000000
namespace Pyd
open PySem PySem.Spec PyProof.Rows L2
def kdV (W : Wd) : Kd → Option Value
  | .non => some (.type "NoneType")
  | .bl => some (.type "bool")
  | .int => some (.type "int")
  | .str => some (.type "str")
  | .tup => some (.type "tuple")
  | .lst => some (.type "list")
  | .dic => some (.type "dict")
  | .ins c => W.mg (W.nm.cn c)
  | .exc c => W.mg (W.nm.cn c)
def tyV (W : Wd) : Ty → Option Value
  | .int => some (.type "int")
  | .bool => some (.type "bool")
  | .str => some (.type "str")
  | .tuple => some (.type "tuple")
  | .list => some (.type "list")
  | .dict => some (.type "dict")
  | .valueError => some (.type "ValueError")
  | .cls c => W.mg (W.nm.cn c)
structure ClsF (W : Wd) (k : Cl) (C : Addr) : Prop where
  cls : Cls W.K C
  no : ∀ f ∈ k.fields, NoAttr W.K C (W.nm.an f)
  ha : PySem.W.findIn W.K (.ref C) "__class__" = some (some (.builtin "object.__class__"))
  hn : PySem.W.specialIn W.K (.builtin "object.__class__") "__get__" = some (some (.builtin "getset_descriptor.__get__"))
  ht : PySem.W.takesIn W.K (.builtin "object.__class__") = some true
  hm : PySem.W.mroIn W.K C (.type "object") = some true
structure ExcF (W : Wd) (k : Cl) (C : Addr) : Prop where
  hc : (PySem.W.clsIn W.K C).isSome = true
  ga : PySem.W.findIn W.K (.ref C) "__getattribute__" = some (some (.builtin "BaseException.__getattribute__"))
  gg : PySem.W.findIn W.K (.ref C) "__getattr__" = some none
  su : PySem.W.subIn W.K (.ref C) (.type "BaseException") = some true
  hd : PySem.W.hasDictIn W.K C = true
  ha : PySem.W.findIn W.K (.ref C) "__class__" = some (some (.builtin "object.__class__"))
  hn : PySem.W.specialIn W.K (.builtin "object.__class__") "__get__" = some (some (.builtin "getset_descriptor.__get__"))
  ht : PySem.W.takesIn W.K (.builtin "object.__class__") = some true
  hm : PySem.W.mroIn W.K C (.type "object") = some true
  no : ∀ f ∈ k.fields, PySem.W.findIn W.K (.ref C) (W.nm.an f) = some none
def KdFit (P : Prog) : Kd → Prop
  | .ins c => ∃ q, P.cl c = some q ∧ q.exc = false
  | .exc c => ∃ q, P.cl c = some q ∧ q.exc = true
  | _ => True
def TyFit (P : Prog) : Ty → Prop
  | .cls c => ∃ q, P.cl c = some q
  | _ => True
structure WOk (W : Wd) : Prop where
  exc : ∀ c k C, W.P.cl c = some k → k.exc = true → W.mg (W.nm.cn c) = some (.ref C) → ExcF W k C
  an : ∀ f g, W.nm.an f = W.nm.an g → f = g
  cls : ∀ c k C, W.P.cl c = some k → k.exc = false → W.mg (W.nm.cn c) = some (.ref C) → ClsF W k C
  rp : ∀ d s, W.P.rp d = some s → (d.pd.shown = tx s ∧ d.pd.showable = true) ∧ s.length ≤ LINE ∧ s.all (· < 128) = true
  kit : ∀ k t b v u, KdFit W.P k → TyFit W.P t → isaK W.P k t = some b → kdV W k = some v → tyV W t = some u → PySem.W.kitOne W.K v u = some b
section
variable {W : Wd} {w : World} {X : Cx} {cl : FC} {EX : WX} {ι : Nat → Addr} {env : Env} {S : Store} {σ : L2.St} {H : Hp} {N : Nat}
theorem RFs.look (ok : ∀ f g, W.nm.an f = W.nm.an g → f = g) {f : Nat} {v : Val} : ∀ {fs : List (Nat × Val)} {gs : List (Str × V)}, RFs W ι N H fs gs → fs.lookup f = some v → ∃ y, gs.lookup (W.nm.an f) = some y ∧ RV W ι N H v y
  | [], _, _, h => by cases h
  | (g, x) :: fs, _, ⟨y, hs, e, r, rs⟩, h => by
    subst e
    rw [List.lookup_cons] at h
    rw [List.lookup_cons]
    by_cases hg : f = g
    · subst hg
      simp only [beq_self_eq_true] at h ⊢
      cases h
      exact ⟨y, rfl, r⟩
    · have e1 : (f == g) = false := by simpa using hg
      have e2 : (W.nm.an f == W.nm.an g) = false := by simpa using fun z => hg (ok _ _ z)
      rw [e1] at h
      rw [e2]
      exact RFs.look ok rs h
theorem RFs.length : ∀ {fs : List (Nat × Val)} {gs : List (Str × V)}, RFs W ι N H fs gs → gs.length = fs.length
  | [], _, h => by cases h; rfl
  | (g, x) :: fs, _, ⟨y, hs, e, r, rs⟩ => by subst e; rw [List.length_cons, List.length_cons, RFs.length rs]
theorem RFs.put (ok : ∀ f g, W.nm.an f = W.nm.an g → f = g) {f : Nat} {v : Val} {y : V} (rv : RV W ι N H v y) : ∀ {fs : List (Nat × Val)} {gs : List (Str × V)}, RFs W ι N H fs gs → RFs W ι N H (Pyd.putF f v fs) (L2.putF (W.nm.an f) y gs)
  | [], _, h => by cases h; exact ⟨y, [], rfl, rv, rfl⟩
  | (g, x) :: fs, _, ⟨z, hs, e, r, rs⟩ => by
    subst e
    unfold Pyd.putF L2.putF
    by_cases hg : g = f
    · subst hg
      rw [if_pos rfl, if_pos rfl]
      exact ⟨y, hs, rfl, rv, rs⟩
    · rw [if_neg hg, if_neg (fun z => hg (ok _ _ z))]
      exact ⟨z, _, rfl, r, RFs.put ok rv rs⟩
theorem putF_keys {f : Nat} {v : Val} : ∀ {fs : List (Nat × Val)} {p : Nat × Val}, p ∈ Pyd.putF f v fs → p.1 = f ∨ p ∈ fs
  | [], p, h => by
    have : p = (f, v) := by simpa [Pyd.putF] using h
    subst this; exact .inl rfl
  | (g, x) :: fs, p, h => by
    unfold Pyd.putF at h
    by_cases hg : g = f
    · rw [if_pos hg] at h
      rcases List.mem_cons.mp h with rfl | h
      · exact .inl hg
      · exact .inr (List.mem_cons_of_mem _ h)
    · rw [if_neg hg] at h
      rcases List.mem_cons.mp h with rfl | h
      · exact .inr List.mem_cons_self
      · rcases putF_keys h with h | h
        · exact .inl h
        · exact .inr (List.mem_cons_of_mem _ h)
theorem lookup_mem {f : Nat} {v : Val} : ∀ {fs : List (Nat × Val)}, fs.lookup f = some v → (f, v) ∈ fs
  | [], h => by cases h
  | (g, x) :: fs, h => by
    rw [List.lookup_cons] at h
    by_cases hg : f = g
    · subst hg
      simp only [beq_self_eq_true] at h
      cases h
      exact List.mem_cons_self
    · have e1 : (f == g) = false := by simpa using hg
      rw [e1] at h
      exact List.mem_cons_of_mem _ (lookup_mem h)
theorem zip_look {f : Nat} {v : Val} (an : ∀ f g, W.nm.an f = W.nm.an g → f = g) : ∀ {ks : List Nat} {vs : List Val} {ys : List V}, RVs W ι N H vs ys → (ks.zip vs).lookup f = some v → ∃ y, ((ks.map W.nm.an).zip ys).lookup (W.nm.an f) = some y ∧ RV W ι N H v y
  | [], _, _, _, h => by cases h
  | k :: ks, [], _, _, h => by cases h
  | k :: ks, a :: vs, _, ⟨y, zs, e, r, rs⟩, h => by
    subst e
    rw [List.zip_cons_cons, List.lookup_cons] at h
    rw [List.map_cons, List.zip_cons_cons, List.lookup_cons]
    by_cases hg : f = k
    · subst hg
      simp only [beq_self_eq_true] at h ⊢
      cases h
      exact ⟨y, rfl, r⟩
    · have e1 : (f == k) = false := by simpa using hg
      have e2 : (W.nm.an f == W.nm.an k) = false := by simpa using fun z => hg (an _ _ z)
      rw [e1] at h
      rw [e2]
      exact zip_look an rs h
theorem zip_key {f : Nat} {v : Val} : ∀ {ks : List Nat} {vs : List Val}, (ks.zip vs).lookup f = some v → f ∈ ks
  | [], _, h => by cases h
  | k :: ks, [], h => by cases h
  | k :: ks, a :: vs, h => by
    rw [List.zip_cons_cons, List.lookup_cons] at h
    by_cases hg : f = k
    · subst hg; exact List.mem_cons_self
    · have e1 : (f == k) = false := by simpa using hg
      rw [e1] at h
      exact List.mem_cons_of_mem _ (zip_key h)
theorem e_fld (G : Good W w X) (O : WOk W) {e : Expr} {pe : Env → M Val} {f : Nat} {pos : Pos} (he : PE X e (tG W w cl EX (rv W) pe)) (hb : attributeBase e (W.nm.an f) X.env (eval e X.env) = eval e X.env) :
    PE X (.Attribute e (W.nm.an f) pos) (tG W w cl EX (rv W) (fun env => pe env >>= fun x => attrV W.P x f)) := by
  refine ⟨fun pins s σ H Q I h => ?_⟩
  obtain ⟨ι, env, S, R, g⟩ := tG.bind (RA := rv W) h
  refine attr_of hb (thn (he.run pins s σ H _ I ⟨ι, env, S, R, g⟩) fun u s1 ⟨x, H1, I1, rx, ι1, S1, a, _, R1, ra, g⟩ => ?_)
  cases a with
  | loc n =>
    obtain ⟨hn, e⟩ := ra
    subst e
    obtain rfl : u = Value.ref (ι1 n) := rx
    obtain ⟨o, ho, g⟩ := Gs.look g
    cases o with
    | ins c fs =>
      obtain ⟨k, C, dx, gs, h1, h2, h3, h4, h5, h6, h7⟩ := R1.ob _ _ ho
      have g : Gs W w cl EX (rv W) ι1 env S1 σ H1 (get? (fs.lookup f) S1) Q := g
      unfold get? at g
      cases hl : fs.lookup f with
      | none => rw [hl] at g; exact g.elim
      | some v =>
        rw [hl] at g
        obtain ⟨y, hy, ry⟩ := h7.look O.an hl
        have F := O.cls c k C h1 h2 h6
        exact getattr_ok I1 h4 (by rw [G.K]; exact F.cls) (by rw [G.K]; exact F.no f (h3 _ (lookup_mem hl))) hy fun u' s2 I2 ru => ⟨y, H1, I2, ru, g.here R1 ry⟩
    | exc c fs =>
      obtain ⟨k, C, oe, h1, h2, h3, h4, h5, ⟨vs, h6⟩, h7⟩ := R1.ob _ _ ho
      have g : Gs W w cl EX (rv W) ι1 env S1 σ H1 ((get? (W.P.cl c) >>= fun k => get? ((k.fields.zip fs).lookup f)) S1) Q := g
      rw [bind_ap] at g
      unfold get? at g
      rw [h1] at g
      dsimp only at g
      cases hl : (k.fields.zip fs).lookup f with
      | none => rw [hl] at g; exact g.elim
      | some v =>
        rw [hl] at g
        have F := O.exc c k C h1 h2 h3
        cases hd : oe.dict with
        | none =>
          rw [hd] at h7
          rw [h7.1] at hl
          cases hl
        | some dx =>
          rw [hd] at h7
          obtain ⟨od, ys, b1, b2, b3⟩ := h7
          obtain ⟨y, hy, ry⟩ := zip_look O.an b2 hl
          have hx : ObjOk X.prog X.w H1 s1.heap dx (.frz od (.xd ((k.fields.map W.nm.an).zip ys))) := I1.hok dx _ b1
          obtain ⟨mA, hns, hr⟩ := hx.2
          obtain ⟨od', ho', hl'⟩ := lookIn_ns hns
          obtain ⟨u, hu, ru⟩ := RelO.some_of (v := y) (o := mA (W.nm.an f)) (by rw [← hy]; exact hr _)
          have ha : s1.heap.get? (ι1 n) = some oe := (I1.hok _ _ h4).1
          have J : PySem.W.InstAt s1.heap (ι1 n) oe C (some od') := ⟨ha, h5, by unfold PySem.W.notCls; rw [h6] <;> rfl, by rw [hd]; exact ho'⟩
          exact HandSPX.exc_get I1.kIn J (by rw [G.K]; exact F.ga) (by rw [G.K]; exact F.gg) (by rw [G.K]; exact F.su) (PySem.W.findObj_own (by rw [G.K]; exact F.hd) (by rw [G.K]; exact F.no f (zip_key hl)) rfl (by rw [hl', hu])) (handed_of ru) ⟨y, H1, I1.tok _, ru, g.here R1 ry⟩
    | _ => exact g.elim
  | _ => exact g.elim
theorem kindV_ok (G : Good W w X) (O : WOk W) {σ0 : L2.St} {s : Shared} {pins : List (Addr × Obj)} {a : Val} {x : V} {u : Value} {k : Kd} (R : Rl W w cl ι env S σ0 H) (I : L2.Inv X pins σ H s) (ra : RV W ι S.length H a x) (ru : RelV x u) (h : kindV a S = .ok k S) :
    ∃ t P, kdV W k = some t ∧ PySem.W.KitX X.K u t P ∧ P s.heap ∧ u ≠ .builtin "__main__.__loader__#opaque" := by
  cases a with
  | non =>
    cases h
    cases (show x = .non from ra); cases (show u = Value.none from ru)
    exact ⟨_, _, rfl, PySem.W.kitx_none, True.intro, fun z => nomatch z⟩
  | bl b =>
    cases h
    cases (show x = .bl b from ra); cases (show u = Value.bool b from ru)
    exact ⟨_, _, rfl, PySem.W.kitx_bool, True.intro, fun z => nomatch z⟩
  | int i =>
    cases h
    cases (show x = .int i from ra)
    obtain ⟨t, rfl⟩ := ru
    exact ⟨_, _, rfl, PySem.W.kitx_int, True.intro, fun z => nomatch z⟩
  | str z =>
    cases h
    obtain ⟨_, e⟩ := ra
    subst e
    obtain ⟨t, rfl⟩ := ru
    exact ⟨_, _, rfl, PySem.W.kitx_str, True.intro, fun z => nomatch z⟩
  | tup xs =>
    cases h
    obtain ⟨p, ys, e, t, r⟩ := ra
    subst e
    cases ru
    rw [← G.K] at t
    obtain ⟨its, _, ⟨o, h1, h2, _⟩, _⟩ := I.tuple t
    exact ⟨_, _, rfl, PySem.W.kitx_tuple, ⟨o, h1, h2⟩, fun z => nomatch z⟩
  | loc n =>
    obtain ⟨hn, e⟩ := ra
    subst e
    cases ru
    have h0 : (look n >>= fun o => (match o with
      | .lst _ => pure .lst
      | .rol _ => pure .lst
      | .dic _ _ => pure .dic
      | .ins c _ => pure (.ins c)
      | .exc c _ => pure (.exc c)
      | _ => fail : M Kd)) S = .ok k S := h
    rw [look_bind] at h0
    cases ho : S[n]? with
    | none => rw [ho] at h0; cases h0
    | some o =>
      rw [ho] at h0
      have seq : ∀ xs, (S[n]? = some (.lst xs) ∨ S[n]? = some (.rol xs)) → ∃ o, s.heap.get? (ι n) = some o ∧ o.cls = .type "list" := fun xs ho => by
        obtain ⟨ys, t, r⟩ := R.seq ho
        rw [← G.K] at t
        obtain ⟨its, _, ⟨o, k, h1, h2, _⟩, _⟩ := I.list t
        exact ⟨o, h1, h2⟩
      cases o with
      | lst xs => cases h0; exact ⟨_, _, rfl, PySem.W.kitx_list, seq xs (.inl ho), fun z => nomatch z⟩
      | rol xs => cases h0; exact ⟨_, _, rfl, PySem.W.kitx_list, seq xs (.inr ho), fun z => nomatch z⟩
      | dic lk kvs =>
        cases h0
        obtain ⟨o, h1, _, _, _, _, hx, _⟩ := R.ob _ _ ho
        have hget : s.heap.get? (ι n) = some o := by
          cases lk with
          | true => exact (I.hok _ _ h1).1
          | false => exact (I.hok _ _ h1).1
        exact ⟨_, _, rfl, PySem.W.kitx_dict, ⟨o, hget, hx.1⟩, fun z => nomatch z⟩
      | ins c fs =>
        cases h0
        obtain ⟨q, C, dx, gs, h1, h2, h3, h4, h5, h6, h7⟩ := R.ob _ _ ho
        have F := O.cls c q C h1 h2 h6
        obtain ⟨mA, OM, _⟩ := ins_get I.hok h4
        obtain ⟨od, J, _⟩ := OM.look
        rw [G.K]
        exact ⟨_, _, h6, PySem.W.kitx_own (F.cls.get _) F.cls.hd F.ha F.hn F.ht F.hm, J, fun z => nomatch z⟩
      | exc c fs =>
        cases h0
        obtain ⟨q, C, oe, h1, h2, h3, h4, h5, ⟨vs, h6⟩, h7⟩ := R.ob _ _ ho
        have F := O.exc c q C h1 h2 h3
        have ha : s.heap.get? (ι n) = some oe := (I.hok _ _ h4).1
        have J : ∃ od, PySem.W.InstAt s.heap (ι n) oe C od := by
          cases hd : oe.dict with
          | none => exact ⟨none, ha, h5, by unfold PySem.W.notCls; rw [h6] <;> rfl, by rw [hd]; trivial⟩
          | some dx =>
            rw [hd] at h7
            obtain ⟨od, ys, b1, b2, b3⟩ := h7
            exact ⟨some od, ha, h5, by unfold PySem.W.notCls; rw [h6] <;> rfl, by rw [hd]; exact (I.hok _ _ b1).1⟩
        obtain ⟨od, J⟩ := J
        rw [G.K]
        exact ⟨_, _, h3, PySem.W.kitx_exc F.hc F.ga F.gg F.su F.ha F.hn F.ht F.hm, J, fun z => nomatch z⟩
      | _ => cases h0
  | glo g => cases h
theorem kindV_fit {σ0 : L2.St} {a : Val} {x : V} {k : Kd} (R : Rl W w cl ι env S σ0 H) (ra : RV W ι S.length H a x) (h : kindV a S = .ok k S) : KdFit W.P k := by
  cases a with
  | loc n =>
    have h0 : (look n >>= fun o => (match o with
      | .lst _ => pure .lst
      | .rol _ => pure .lst
      | .dic _ _ => pure .dic
      | .ins c _ => pure (.ins c)
      | .exc c _ => pure (.exc c)
      | _ => fail : M Kd)) S = .ok k S := h
    rw [look_bind] at h0
    cases ho : S[n]? with
    | none => rw [ho] at h0; cases h0
    | some o =>
      rw [ho] at h0
      cases o with
      | ins c fs =>
        cases h0
        obtain ⟨q, C, dx, gs, h1, h2, _⟩ := R.ob _ _ ho
        exact ⟨q, h1, h2⟩
      | exc c fs =>
        cases h0
        obtain ⟨q, C, oe, h1, h2, _⟩ := R.ob _ _ ho
        exact ⟨q, h1, h2⟩
      | lst xs => cases h0; trivial
      | rol xs => cases h0; trivial
      | dic lk kvs => cases h0; trivial
      | _ => cases h0
  | glo g => cases h
  | _ => cases h; trivial
theorem kindV_stay {a : Val} {k : Kd} {S S' : Store} (h : kindV a S = .ok k S') : S' = S := by
  cases a with
  | loc n =>
    have h0 : (look n >>= fun o => (match o with
      | .lst _ => pure .lst
      | .rol _ => pure .lst
      | .dic _ _ => pure .dic
      | .ins c _ => pure (.ins c)
      | .exc c _ => pure (.exc c)
      | _ => fail : M Kd)) S = .ok k S' := h
    rw [look_bind] at h0
    cases ho : S[n]? with
    | none => rw [ho] at h0; cases h0
    | some o => rw [ho] at h0; cases o <;> cases h0 <;> rfl
  | glo g => cases h
  | _ => cases h; rfl
def ClsVal (W : Wd) (t : Ty) (c : V) : Prop := ∃ u, tyV W t = some u ∧ ClsV c u ∧ TyFit W.P t
theorem c_isi (G : Good W w X) (O : WOk W) (t : Ty) : CallR X (.builtin "isinstance") (fun xs H Q => ∃ x c, xs = [x, c] ∧ ClsVal W t c ∧ rV1 W w cl EX (fun a => vbl (isaV W.P t a)) x H Q) := by
  intro pins s σ H xs us Q I r ⟨x, c, e, ⟨tv, h1, h2, h9⟩, ι, env, S, σ', a, R, ra, g⟩
  subst e
  obtain ⟨u1, u2, rfl, r1, r2⟩ := vals2 r
  have e2 := h2.eq r2
  subst e2
  have g : Gs W w cl EX (rv W) ι env S σ' H (vbl (kindV a >>= fun k => get? (isaK W.P k t)) S) Q := g
  rw [vbl_ap, bind_ap] at g
  cases hk : kindV a S with
  | ok k S' =>
    have e := kindV_stay hk
    subst e
    rw [hk] at g
    have g : Gs W w cl EX (rv W) ι env S' σ' H (match get? (isaK W.P k t) S' with | .ok b S' => .ok (.bl b) S' | .ex c fs S' => .ex c fs S' | .no => .no) Q := g
    unfold get? at g
    cases hb : isaK W.P k t with
    | none => rw [hb] at g; exact g.elim
    | some b =>
      rw [hb] at g
      obtain ⟨tk, Pr, h3, Z, p, hx⟩ := kindV_ok G O R I ra r1 hk
      have := O.kit k t b _ _ (kindV_fit R ra hk) h9 hb h3 h1
      exact PySem.W.kia_one Z I.kIn p (by rw [G.K]; exact this) hx fun tk => ⟨.bl b, H, I.tok tk, rfl, g.here R rfl⟩
  | ex c fs S' => rw [hk] at g; exact (by
      cases a with
      | loc n =>
        have h0 : (look n >>= _) S = .ex c fs S' := hk
        rw [look_bind] at h0
        cases ho : S[n]? with
        | none => rw [ho] at h0; cases h0
        | some o => rw [ho] at h0; cases o <;> cases h0
      | glo g => cases hk
      | _ => cases hk)
  | no => rw [hk] at g; exact g.elim
end
end Pyd
set_option Elab.async false
set_option linter.all false
set_option maxRecDepth 100000
set_option maxHeartbeats 1000000
namespace Pyd
open PySem PySem.Spec PyProof.Rows L2
section
variable {W : Wd} {w : World} {X : Cx} {cl : FC} {EX : WX} {ι : Nat → Addr} {env : Env} {S : Store} {σ : L2.St} {H : Hp} {N : Nat}
theorem RVs.ints : ∀ {xs : List Val} {ys : List V} {is : List Int}, RVs W ι N H xs ys → asInts xs = some is → ys = is.map V.int
  | [], _, is, h, e => by cases h; cases e; rfl
  | x :: xs, _, is, ⟨y, zs, e, r, rs⟩, h => by
    subst e
    cases x with
    | int i =>
      have h : (asInts xs).map (fun l => i :: l) = some is := h
      cases hi : asInts xs with
      | none => rw [hi] at h; cases h
      | some js =>
        rw [hi] at h; cases h
        cases (show y = .int i from r)
        rw [RVs.ints rs hi]; rfl
    | _ => cases h
theorem RVs.bls : ∀ {xs : List Val} {ys : List V} {is : List Bool}, RVs W ι N H xs ys → asBls xs = some is → ys = is.map V.bl
  | [], _, is, h, e => by cases h; cases e; rfl
  | x :: xs, _, is, ⟨y, zs, e, r, rs⟩, h => by
    subst e
    cases x with
    | bl i =>
      have h : (asBls xs).map (fun l => i :: l) = some is := h
      cases hi : asBls xs with
      | none => rw [hi] at h; cases h
      | some js =>
        rw [hi] at h; cases h
        cases (show y = .bl i from r)
        rw [RVs.bls rs hi]; rfl
    | _ => cases h
theorem RVs.strs : ∀ {xs : List Val} {ys : List V} {is : List (List Nat)}, RVs W ι N H xs ys → asStrs xs = some is → ys = (is.map tx).map V.str ∧ ∀ z ∈ is, z.length ≤ LINE ∧ z.all (· < 128) = true
  | [], _, is, h, e => by cases h; cases e; exact ⟨rfl, fun z hz => by cases hz⟩
  | x :: xs, _, is, ⟨y, zs, e, r, rs⟩, h => by
    subst e
    cases x with
    | str i =>
      have h : (asStrs xs).map (fun l => i :: l) = some is := h
      cases hi : asStrs xs with
      | none => rw [hi] at h; cases h
      | some js =>
        rw [hi] at h; cases h
        obtain ⟨h1, h2⟩ := r
        subst h2
        obtain ⟨e1, e2⟩ := RVs.strs rs hi
        rw [e1]
        refine ⟨rfl, fun z hz => ?_⟩
        rcases List.mem_cons.mp hz with rfl | hz
        · exact h1
        · exact e2 z hz
    | _ => cases h
theorem lstE_ok {v : Val} {x : V} {α : Type} {k : List Val → M α} {β : Type} {RA : Rf α β} {Q : β → Hp → Prop} (R : Rl W w cl ι env S σ H) (rv : RV W ι S.length H v x) (g : Gs W w cl EX RA ι env S σ H ((lstE v >>= k) S) Q) :
    ∃ p xs ys, x = .ref p ∧ H p = some (.lst ys) ∧ RVs W ι S.length H xs ys ∧ Gs W w cl EX RA ι env S σ H (k xs S) Q ∧ ∃ n, v = .loc n ∧ p = ι n ∧ S[n]? = some (.lst xs) := by
  cases v with
  | loc n =>
    obtain ⟨hn, e⟩ := rv
    subst e
    rw [bind_ap] at g
    have e : lstE (.loc n) S = (match S[n]? with | some (.lst xs) => .ok xs S | _ => .no) := by
      show (look n >>= _) S = _
      rw [look_bind]
      cases S[n]? with
      | none => rfl
      | some o => cases o <;> rfl
    rw [e] at g
    cases ho : S[n]? with
    | none => rw [ho] at g; exact g.elim
    | some o =>
      rw [ho] at g
      cases o with
      | lst xs =>
        obtain ⟨ys, hH, r⟩ := R.lst ho
        exact ⟨_, xs, ys, rfl, hH, r, g, n, rfl, rfl, ho⟩
      | _ => exact g.elim
  | _ => exact g.elim
theorem vals_one {x : V} {us : List Value} (r : Vals [x] us) : ∃ u, us = [u] ∧ RelV x u := vals1 r
def r1 (W : Wd) (w : World) (cl : FC) (EX : WX) (f : Val → M Val) : List V → Hp → VK → Prop := fun xs H Q => ∃ x, xs = [x] ∧ rV1 W w cl EX f x H Q
def r2 (W : Wd) (w : World) (cl : FC) (EX : WX) (f : Val → Val → M Val) : List V → Hp → VK → Prop := fun xs H Q => ∃ x y, xs = [x, y] ∧ rV2 W w cl EX f x y H Q
theorem b_abs : CallR X (.builtin "abs") (r1 W w cl EX absV) := by
  intro pins s σ H xs us Q I r ⟨x, e, ι, env, S, σ', a, R, ra, g⟩
  subst e
  cases a with
  | int i =>
    cases (show x = .int i from ra)
    exact call_abs pins s σ H _ us Q I r ⟨i, rfl, g.here R rfl⟩
  | _ => exact g.elim
theorem b_int : CallR X (.type "int") (r1 W w cl EX intV) := by
  intro pins s σ H xs us Q I r ⟨x, e, ι, env, S, σ', a, R, ra, g⟩
  subst e
  cases a with
  | int i =>
    cases (show x = .int i from ra)
    exact call_int1 pins s σ H _ us Q I r (.inl ⟨i, rfl, g.here R rfl⟩)
  | bl i =>
    cases (show x = .bl i from ra)
    exact call_int1 pins s σ H _ us Q I r (.inr ⟨i, rfl, g.here R rfl⟩)
  | _ => exact g.elim
theorem b_len (hK : X.K = W.K) : CallR X (.builtin "len") (r1 W w cl EX lenV) := by
  intro pins s σ H xs us Q I r ⟨x, e, ι, env, S, σ', a, R, ra, g⟩
  subst e
  cases a with
  | str z =>
    obtain ⟨⟨hl, _⟩, e⟩ := ra
    subst e
    exact call_len pins s σ H _ us Q I r ⟨_, z.length, rfl, ⟨by rw [tx_len, LINE_eq]; exact hl, (tx_len z).symm⟩, g.here R rfl⟩
  | tup xs =>
    obtain ⟨p, ys, e, t, rs⟩ := ra
    subst e
    exact call_len pins s σ H _ us Q I r ⟨_, xs.length, rfl, .inr ⟨ys, by rw [hK]; exact t, rs.length.symm⟩, g.here R rfl⟩
  | loc n =>
    obtain ⟨hn, e⟩ := ra
    subst e
    obtain ⟨o, ho, g⟩ := Gs.look g
    have main : ∀ xs, (S[n]? = some (.lst xs) ∨ S[n]? = some (.rol xs)) → Gs W w cl EX (rv W) ι env S σ' H (.ok (.int xs.length) S) Q → wpAny (model X.prog X.w) X.A (call (.builtin "len") us) (EP X pins σ Q) X.xe s := by
      intro xs ho g
      obtain ⟨ys, t, rs⟩ := R.seq ho
      exact call_len pins s σ H _ us Q I r ⟨_, xs.length, rfl, .inl ⟨ys, by rw [hK]; exact t, rs.length.symm⟩, g.here R rfl⟩
    cases o with
    | lst xs => exact main xs (.inl ho) g
    | rol xs => exact main xs (.inr ho) g
    | _ => exact g.elim
  | _ => exact g.elim
theorem b_max2 (G : Good W w X) (hcalm : X.calm = true) : CallR X (.builtin "max") (r2 W w cl EX max2V) := by
  intro pins s σ H xs us Q I r ⟨x, y, e, ι, env, S, σ', a, b, R, ra, rb, g⟩
  subst e
  cases a <;> cases b <;> first | exact g.elim | skip
  rename_i i j
  cases (show x = .int i from ra); cases (show y = .int j from rb)
  exact call_max2 hcalm pins s σ H _ us Q I r ⟨i, j, rfl, g.here R rfl⟩
theorem b_min2 (G : Good W w X) (hcalm : X.calm = true) : CallR X (.builtin "min") (r2 W w cl EX min2V) := by
  intro pins s σ H xs us Q I r ⟨x, y, e, ι, env, S, σ', a, b, R, ra, rb, g⟩
  subst e
  cases a <;> cases b <;> first | exact g.elim | skip
  rename_i i j
  cases (show x = .int i from ra); cases (show y = .int j from rb)
  exact call_min2 hcalm pins s σ H _ us Q I r ⟨i, j, rfl, g.here R rfl⟩
theorem noDict_pd : ∀ d : Dt, d.pd.hasDict = false
  | .non => rfl
  | .bl _ => rfl
  | .int _ => rfl
  | .str _ => rfl
  | .lst xs => by show PyData.hasDict (.list (Dt.pds xs)) = false; unfold PyData.hasDict; exact noDict_pds xs
  | .tup xs => by show PyData.hasDict (.tuple (Dt.pds xs)) = false; unfold PyData.hasDict; exact noDict_pds xs
where noDict_pds : ∀ ds : List Dt, PyData.hasDictAll (Dt.pds ds) = false
  | [] => rfl
  | d :: ds => by show PyData.hasDictAll (d.pd :: Dt.pds ds) = false; unfold PyData.hasDictAll; rw [noDict_pd d, noDict_pds ds]; rfl
theorem b_repr (G : Good W w X) (O : WOk W) : CallR X (.builtin "repr") (r1 W w cl EX (reprV W.P)) := by
  intro pins s σ H xs us Q I r ⟨x, e, ι, env, S, σ', a, R, ra, g⟩
  subst e
  obtain ⟨u, rfl, ru⟩ := vals_one r
  have g : Gs W w cl EX (rv W) ι env S σ' H (match toD 50 S a with
    | some d => (match W.P.rp d with | some s => .ok (.str s) S | none => .no)
    | none => .no) Q := g
  cases hd : toD 50 S a with
  | none => rw [hd] at g; exact g.elim
  | some d =>
    rw [hd] at g
    have g : Gs W w cl EX (rv W) ι env S σ' H (match W.P.rp d with | some s => .ok (.str s) S | none => .no) Q := g
    cases hz : W.P.rp d with
    | none => rw [hz] at g; exact g.elim
    | some z =>
      rw [hz] at g
      obtain ⟨⟨h1, h2⟩, h3, h4⟩ := O.rp d z hz
      obtain ⟨⟨as, rd⟩, _, dp⟩ := reads_of R I G.K 50 a x u d hd ra ru
      have hu := G.hu
      have hq : Q (.str (tx z)) H := g.here (y := V.str (tx z)) R ⟨⟨h3, h4⟩, rfl⟩
      have hlen : d.pd.shown.length ≤ sizeLine := by rw [h1, tx_len, LINE_eq]; exact h3
      cases d with
      | non =>
        cases rd
        refine PySem.P.repr_of_none ⟨.str (tx z), H, I.tok _, ⟨_, by rw [← h1]; rfl⟩, hq⟩
      | bl b =>
        cases rd
        refine PySem.P.repr_of_bool ⟨.str (tx z), H, I.tok _, ⟨_, by rw [← h1]; cases b <;> rfl⟩, hq⟩
      | int i =>
        cases rd
        refine PySem.P.repr_of_int (by simpa [Dt.pd, PyData.showable] using h2) ⟨.str (tx z), H, I.tok _, ⟨_, by rw [← h1]; rfl⟩, hq⟩
      | str y =>
        cases rd
        refine PySem.P.repr_of_str ⟨.str (tx z), H, I.tok _, ⟨_, by rw [← h1]; rfl⟩, hq⟩ hlen
      | lst ds =>
        have hnd := noDict_pd (.lst ds)
        cases u with
        | ref p =>
          refine repr_of_reads' rd h2 (PyData.noDict_hsm hnd) G.gd (by omega) (fun _ _ e => e) (fun h' u tk hk => ⟨.str (tx z), H, I.kept hk, ⟨u, by rw [h1]⟩, hq⟩) hlen
        | _ => cases rd
      | tup ds =>
        have hnd := noDict_pd (.tup ds)
        cases u with
        | ref p =>
          refine repr_of_reads' rd h2 (PyData.noDict_hsm hnd) G.gd (by omega) (fun _ _ e => e) (fun h' u tk hk => ⟨.str (tx z), H, I.kept hk, ⟨u, by rw [h1]⟩, hq⟩) hlen
        | _ => cases rd
theorem maxI_max : ∀ (x : Int) (l : List Int), maxI x l ∈ x :: l ∧ ∀ y ∈ x :: l, y ≤ maxI x l
  | x, [] => ⟨List.mem_cons_self, fun y hy => by simp at hy; subst hy; exact Int.le_refl _⟩
  | x, z :: r => by
    obtain ⟨h1, h2⟩ := maxI_max (max x z) r
    refine ⟨?_, fun y hy => ?_⟩
    · show maxI (max x z) r ∈ x :: z :: r
      rcases List.mem_cons.mp h1 with h | h
      · rw [h]
        rcases Int.le_total x z with q | q
        · rw [Int.max_eq_right q]; simp
        · rw [Int.max_eq_left q]; simp
      · exact List.mem_cons_of_mem _ (List.mem_cons_of_mem _ h)
    · show y ≤ maxI (max x z) r
      have h3 := h2 (max x z) List.mem_cons_self
      rcases List.mem_cons.mp hy with rfl | hy
      · omega
      · rcases List.mem_cons.mp hy with rfl | hy
        · omega
        · exact h2 y (List.mem_cons_of_mem _ hy)
theorem minI_min : ∀ (x : Int) (l : List Int), minI x l ∈ x :: l ∧ ∀ y ∈ x :: l, minI x l ≤ y
  | x, [] => ⟨List.mem_cons_self, fun y hy => by simp at hy; subst hy; exact Int.le_refl _⟩
  | x, z :: r => by
    obtain ⟨h1, h2⟩ := minI_min (min x z) r
    refine ⟨?_, fun y hy => ?_⟩
    · show minI (min x z) r ∈ x :: z :: r
      rcases List.mem_cons.mp h1 with h | h
      · rw [h]
        rcases Int.le_total x z with q | q
        · rw [Int.min_eq_left q]; simp
        · rw [Int.min_eq_right q]; simp
      · exact List.mem_cons_of_mem _ (List.mem_cons_of_mem _ h)
    · show minI (min x z) r ≤ y
      have h3 := h2 (min x z) List.mem_cons_self
      rcases List.mem_cons.mp hy with rfl | hy
      · omega
      · rcases List.mem_cons.mp hy with rfl | hy
        · omega
        · exact h2 y (List.mem_cons_of_mem _ hy)
theorem m_sum (G : Good W w X) (hcalm : X.calm = true) : CallR X (.builtin "sum") (r1 W w cl EX (mkE .sum)) := by
  intro pins s σ H xs us Q I r ⟨x, e, ι, env, S, σ', a, R, ra, g⟩
  subst e
  have g : Gs W w cl EX (rv W) ι env S σ' H ((lstE a >>= fun xs => get? (asInts xs) >>= fun is => pure (.int is.sum)) S) Q := g
  obtain ⟨p, xs, ys, e, hH, rs, g, _⟩ := lstE_ok R ra g
  subst e
  obtain ⟨is, hi, g⟩ := Gs.get g
  have := rs.ints hi
  subst this
  exact cr_sum hcalm pins s σ H _ us Q I r ⟨p, is, rfl, .of hH, g.here R rfl⟩
theorem m_all (G : Good W w X) (hcalm : X.calm = true) : CallR X (.builtin "all") (r1 W w cl EX (mkE .all)) := by
  intro pins s σ H xs us Q I r ⟨x, e, ι, env, S, σ', a, R, ra, g⟩
  subst e
  have g : Gs W w cl EX (rv W) ι env S σ' H ((lstE a >>= fun xs => get? (asBls xs) >>= fun is => pure (.bl (is.all id))) S) Q := g
  obtain ⟨p, xs, ys, e, hH, rs, g, _⟩ := lstE_ok R ra g
  subst e
  obtain ⟨is, hi, g⟩ := Gs.get g
  have := rs.bls hi
  subst this
  exact cr_all hcalm pins s σ H _ us Q I r ⟨p, is, rfl, .of hH, g.here R rfl⟩
theorem m_any (G : Good W w X) (hcalm : X.calm = true) : CallR X (.builtin "any") (r1 W w cl EX (mkE .any)) := by
  intro pins s σ H xs us Q I r ⟨x, e, ι, env, S, σ', a, R, ra, g⟩
  subst e
  have g : Gs W w cl EX (rv W) ι env S σ' H ((lstE a >>= fun xs => get? (asBls xs) >>= fun is => pure (.bl (is.any id))) S) Q := g
  obtain ⟨p, xs, ys, e, hH, rs, g, _⟩ := lstE_ok R ra g
  subst e
  obtain ⟨is, hi, g⟩ := Gs.get g
  have := rs.bls hi
  subst this
  exact cr_any hcalm pins s σ H _ us Q I r ⟨p, is, rfl, .of hH, g.here R rfl⟩
theorem m_max (G : Good W w X) (hcalm : X.calm = true) : CallR X (.builtin "max") (r1 W w cl EX (mkE .max)) := by
  intro pins s σ H xs us Q I r ⟨x, e, ι, env, S, σ', a, R, ra, g⟩
  subst e
  have g : Gs W w cl EX (rv W) ι env S σ' H ((lstE a >>= fun xs => (match asInts xs with | some (i :: is) => pure (.int (maxI i is)) | _ => fail : M Val)) S) Q := g
  obtain ⟨p, xs, ys, e, hH, rs, g, _⟩ := lstE_ok R ra g
  subst e
  cases hi : asInts xs with
  | none => rw [hi] at g; exact g.elim
  | some is =>
    rw [hi] at g
    cases is with
    | nil => exact g.elim
    | cons i is =>
      have := rs.ints hi
      subst this
      obtain ⟨h1, h2⟩ := maxI_max i is
      refine cr_max hcalm pins s σ H _ us Q I r ⟨p, i :: is, rfl, .of hH, by simp, fun m hm hall => ?_⟩
      have e : m = maxI i is := Int.le_antisymm (h2 m hm) (hall _ h1)
      rw [e]
      exact g.here R rfl
theorem m_min (G : Good W w X) (hcalm : X.calm = true) : CallR X (.builtin "min") (r1 W w cl EX (mkE .min)) := by
  intro pins s σ H xs us Q I r ⟨x, e, ι, env, S, σ', a, R, ra, g⟩
  subst e
  have g : Gs W w cl EX (rv W) ι env S σ' H ((lstE a >>= fun xs => (match asInts xs with | some (i :: is) => pure (.int (minI i is)) | _ => fail : M Val)) S) Q := g
  obtain ⟨p, xs, ys, e, hH, rs, g, _⟩ := lstE_ok R ra g
  subst e
  cases hi : asInts xs with
  | none => rw [hi] at g; exact g.elim
  | some is =>
    rw [hi] at g
    cases is with
    | nil => exact g.elim
    | cons i is =>
      have := rs.ints hi
      subst this
      obtain ⟨h1, h2⟩ := minI_min i is
      refine cr_min hcalm pins s σ H _ us Q I r ⟨p, i :: is, rfl, .of hH, by simp, fun m hm hall => ?_⟩
      have e : m = minI i is := Int.le_antisymm (hall _ h1) (h2 m hm)
      rw [e]
      exact g.here R rfl
theorem m_tuple (hK : X.K = W.K) : CallR X (.type "tuple") (r1 W w cl EX (mkE .tuple)) := by
  intro pins s σ H xs us Q I r ⟨x, e, ι, env, S, σ', a, R, ra, g⟩
  subst e
  cases a with
  | tup xs =>
    obtain ⟨p, ys, e, t, rs⟩ := ra
    subst e
    exact call_tuple_of pins s σ H _ us Q I r ⟨p, ys, rfl, .inr ⟨by rw [hK]; exact t, g.here (y := V.ref p) R ⟨p, ys, rfl, t, rs⟩⟩⟩
  | loc n =>
    have g : Gs W w cl EX (rv W) ι env S σ' H ((lstE (.loc n) >>= fun xs => pure (.tup xs)) S) Q := g
    obtain ⟨p, xs, ys, e, hH, rs, g, _⟩ := lstE_ok R ra g
    subst e
    exact call_tuple_of pins s σ H _ us Q I r ⟨p, ys, rfl, .inl ⟨.of hH, g.newTup R rs⟩⟩
  | _ => exact g.elim
theorem chars_all {z : List Nat} (ha : z.all (· < 128) = true) : RVs W ι N H (z.map fun c => Val.str [c]) (z.map fun c => V.str (tx [c])) := by
  induction z with
  | nil => exact rfl
  | cons c z ih =>
    rw [List.all_cons, Bool.and_eq_true] at ha
    exact ⟨_, _, rfl, ⟨⟨by show 1 ≤ 16777216; decide, by simpa using ha.1⟩, rfl⟩, ih ha.2⟩
theorem vals_get : ∀ {xs : List V} {us : List Value}, xs.length = us.length → (∀ (j : Nat) (v : Value), us[j]? = some v → ∃ x, xs[j]? = some x ∧ RelV x v) → Vals xs us
  | [], [], _, _ => .nil
  | [], _ :: _, h, _ => by simp at h
  | _ :: _, [], h, _ => by simp at h
  | x :: xs, u :: us, h, k => by
    refine .cons ?_ (vals_get (by simpa using h) fun j v hv => ?_)
    · obtain ⟨y, hy, r⟩ := k 0 u rfl
      have : x = y := by simpa using hy
      rw [this]; exact r
    · obtain ⟨y, hy, r⟩ := k (j + 1) v (by simpa using hv)
      exact ⟨y, by simpa using hy, r⟩
theorem m_list (G : Good W w X) (hcalm : X.calm = true) : CallR X (.type "list") (r1 W w cl EX (mkE .list)) := by
  intro pins s σ H xs us Q I r ⟨x, e, ι, env, S, σ', a, R, ra, g⟩
  subst e
  have g : Gs W w cl EX (rv W) ι env S σ' H ((itemsE a >>= fun xs => need (decide (xs.length ≤ LINE)) >>= fun _ => alloc (.lst xs)) S) Q := g
  rw [bind_ap] at g
  cases a with
  | tup xs =>
    obtain ⟨p, ys, e, t, rs⟩ := ra
    subst e
    have g : Gs W w cl EX (rv W) ι env S σ' H ((need (decide (xs.length ≤ LINE)) >>= fun _ => alloc (.lst xs)) S) Q := g
    obtain ⟨_, g⟩ := Gs.need g
    exact call_list_of pins s σ H _ us Q I r ⟨p, ys, rfl, .inr (by rw [G.K]; exact t), g.newLst R rs⟩
  | str z =>
    obtain ⟨⟨hl, ha⟩, e⟩ := ra
    subst e
    obtain ⟨u, rfl, t, rfl⟩ := vals_one r
    have g : Gs W w cl EX (rv W) ι env S σ' H ((need (decide ((z.map fun c => Val.str [c]).length ≤ LINE)) >>= fun _ => alloc (.lst (z.map fun c => Val.str [c]))) S) Q := g
    obtain ⟨_, g⟩ := Gs.need g
    refine PySem.call_list_str (I.ok.hd hcalm) (tx z) t (hn := by show (tx z).length ≤ sizeLine; rw [tx_len, LINE_eq]; exact hl) fun h' tk acc c hk hS hacc => ?_
    have hv : Vals (z.map fun c => V.str (tx [c])) acc.toList := by
      refine vals_get ?_ fun j v hv => ?_
      · rw [List.length_map, Array.length_toList]; exact (tx_len z).symm.trans hacc.1.symm
      · obtain ⟨c, u, hc, e⟩ := hacc.2 j v (by simpa using hv)
        refine ⟨V.str (tx [c]), ?_, u, e⟩
        have hc : z[j]? = some c := by simpa [tx] using hc
        rw [List.getElem?_map, hc]; rfl
    refine ⟨.ref _, _, I.laid (t' := tk) (o := .lst (z.map fun c => V.str (tx [c]))) hk (Nat.le_refl _) ⟨?_, acc.toList, c, hv, by rw [Array.toArray_toList]; exact hS⟩, rfl, g.newLst R (chars_all ha) _ (I.hok.fresh (Nat.le_refl _))⟩
    rw [List.length_map, LINE_eq]; exact hl
  | loc n =>
    obtain ⟨hn, e⟩ := ra
    subst e
    have e : itemsE (.loc n) S = (match S[n]? with | some (.lst xs) => .ok xs S | some (.rol xs) => .ok xs S | _ => .no) := by
      show (look n >>= _) S = _
      rw [look_bind]
      cases S[n]? with
      | none => rfl
      | some o => cases o <;> rfl
    rw [e] at g
    have main : ∀ xs, (S[n]? = some (.lst xs) ∨ S[n]? = some (.rol xs)) → Gs W w cl EX (rv W) ι env S σ' H ((need (decide (xs.length ≤ LINE)) >>= fun _ => alloc (.lst xs)) S) Q → wpAny (model X.prog X.w) X.A (call (.type "list") us) (EP X pins σ Q) X.xe s := by
      intro xs ho g
      obtain ⟨ys, t, rs⟩ := R.seq ho
      obtain ⟨_, g⟩ := Gs.need g
      exact call_list_of pins s σ H _ us Q I r ⟨_, ys, rfl, .inl (by rw [G.K]; exact t), g.newLst R rs⟩
    cases ho : S[n]? with
    | none => rw [ho] at g; exact g.elim
    | some o =>
      rw [ho] at g
      cases o with
      | lst xs => exact main xs (.inl ho) g
      | rol xs => exact main xs (.inr ho) g
      | _ => exact g.elim
  | _ => exact g.elim
theorem occ_full (s sub : Str) (hi : Nat) : ∀ (l : List Nat) (k f : Nat), (forIn l ((#[k] : Array Nat), f) (StrLaws.occBody s sub hi 1)).run.fst = #[k]
  | [], _, _ => rfl
  | a :: l, k, f => by
    rw [List.forIn_cons]
    unfold StrLaws.occBody
    rw [if_neg (by simp)]
    exact occ_full s sub hi l k f
theorem occ_first (s sub : Str) (hi : Nat) : ∀ (l : List Nat) (free : Nat), (∀ i ∈ l, free ≤ i) →
    (forIn l ((#[] : Array Nat), free) (StrLaws.occBody s sub hi 1)).run.fst = (match l.find? fun i => decide (i + sub.length ≤ hi) && Builtin.Str.subAt s sub i with | some k => #[k] | none => #[])
  | [], _, _ => rfl
  | a :: l, free, hf => by
    rw [List.forIn_cons]
    unfold StrLaws.occBody
    have ha : free ≤ a := hf a List.mem_cons_self
    by_cases hc : a + sub.length ≤ hi ∧ Builtin.Str.subAt s sub a = true
    · have c1 : (((#[] : Array Nat), free).fst.size < 1 ∧ ((#[] : Array Nat), free).snd ≤ a) ∧ a + sub.length ≤ hi := ⟨⟨by simp, ha⟩, hc.1⟩
      rw [if_pos ⟨c1, hc.2⟩]
      have e : (List.find? (fun i => decide (i + sub.length ≤ hi) && Builtin.Str.subAt s sub i) (a :: l)) = some a := by
        rw [List.find?_cons_of_pos (by simp [hc.1, hc.2])]
      rw [e]
      exact occ_full s sub hi l a _
    · have c2 : ¬ (((((#[] : Array Nat), free).fst.size < 1 ∧ ((#[] : Array Nat), free).snd ≤ a) ∧ a + sub.length ≤ hi) ∧ Builtin.Str.subAt s sub a = true) := fun h => hc ⟨h.1.2, h.2⟩
      rw [if_neg c2]
      have e : (List.find? (fun i => decide (i + sub.length ≤ hi) && Builtin.Str.subAt s sub i) (a :: l)) = l.find? (fun i => decide (i + sub.length ≤ hi) && Builtin.Str.subAt s sub i) := by
        rw [List.find?_cons_of_neg (by
          intro z
          rw [Bool.and_eq_true, decide_eq_true_eq] at z
          exact hc z)]
      rw [e]
      exact occ_first s sub hi l free (fun i hi' => hf i (List.mem_cons_of_mem _ hi'))
theorem place_find (x z : List Nat) : ∀ (r : List Nat) (i : Nat), z.drop i = r → i + r.length = z.length →
    ((List.range' i (r.length + 1)).find? fun j => decide (j + (tx x).length ≤ (tx z).length) && Builtin.Str.subAt (tx z) (tx x) j) = placeN x r i
  | [], i, hd, hl => by
    have hl : i = z.length := by simpa using hl
    show (List.range' i 1).find? _ = _
    unfold placeN
    have hs : (decide (i + (tx x).length ≤ (tx z).length) && Builtin.Str.subAt (tx z) (tx x) i) = x.isEmpty := by
      rw [tx_len, tx_len, StrLaws.subAt_eq, tx_len]
      cases x with
      | nil => simp [hl, tx]
      | cons c x => simp [hl]
    simp only [List.range'_one, List.find?_cons, List.find?_nil, hs]
    cases x.isEmpty <;> rfl
  | c :: r, i, hd, hl => by
    rw [List.length_cons] at hl
    show (List.range' i (r.length + 1 + 1)).find? _ = _
    rw [List.range'_succ]
    have hs : (decide (i + (tx x).length ≤ (tx z).length) && Builtin.Str.subAt (tx z) (tx x) i) = x.isPrefixOf (c :: r) := by
      rw [tx_len, tx_len, StrLaws.subAt_eq, tx_len, Bool.eq_iff_iff, Bool.and_eq_true, decide_eq_true_eq, isPre_iff, ← hd]
      have e1 : (tx z).cps.toList = z := by simp [tx]
      have e2 : (tx x).cps.toList = x := by simp [tx]
      rw [e1, e2, beq_iff_eq]
      constructor
      · exact fun h => h.2
      · intro h
        refine ⟨?_, h⟩
        have := congrArg List.length h
        rw [List.length_take, List.length_drop] at this
        omega
    have hd2 : z.drop (i + 1) = r := by
      rw [← List.drop_drop, hd]; rfl
    unfold placeN
    cases hp : x.isPrefixOf (c :: r) with
    | true =>
      rw [List.find?_cons_of_pos (by rw [hs, hp])]
      rfl
    | false =>
      rw [List.find?_cons_of_neg (by rw [hs, hp]; simp)]
      exact place_find x z r (i + 1) hd2 (by omega)
theorem occ_place {x z : List Nat} {k : Nat} (h : placeN x z 0 = some k) : Builtin.Str.occurrences (tx z) (tx x) 0 (tx z).length 1 = [k] := by
  rw [StrLaws.occ_eq, occ_first _ _ _ _ _ (fun i _ => Nat.zero_le _)]
  have e := place_find x z z 0 rfl (by simp)
  have e2 : (tx z).length + 1 - 0 = z.length + 1 := by rw [tx_len]; omega
  rw [e2, e, h]
def rM (W : Wd) (w : World) (cl : FC) (EX : WX) (f : Val → Val → M Val) : V → List V → Hp → VK → Prop := fun x vs H Q => ∃ y, vs = [y] ∧ rV2 W w cl EX f x y H Q
theorem y_index : MtR X "str.index" (rM W w cl EX sindexV) := by
  intro pins s σ H x vs v us Q I rx rs ⟨y, e, ι, env, S, σ', a, b, R, ra, rb, g⟩
  subst e
  cases a <;> cases b <;> first | exact g.elim | skip
  rename_i z t
  obtain ⟨_, e⟩ := ra
  obtain ⟨_, e2⟩ := rb
  subst e e2
  obtain ⟨k, hk, g⟩ := Gs.get g
  exact mt_sindex pins s σ H _ _ v us Q I rx rs ⟨tx z, tx t, k, [], rfl, rfl, occ_place hk, g.here R rfl⟩
theorem Gs.wrLst {β : Type} {RA : Rf Val β} {n : Nat} {xs xs' : List Val} {ys ys' : List V} {v : Val} {y : β} {Q : β → Hp → Prop} (R : Rl W w cl ι env S σ H) (ho : S[n]? = some (.lst xs)) (hH : H (ι n) = some (.lst ys)) (r : RVs W ι S.length H xs' ys')
    (g : Gs W w cl EX RA ι env S σ H (.ok v (S.set n (.lst xs'))) Q) (rv : ∀ H', Kp H H' → RA ι S.length H' v y) : Q y (upd H (ι n) (.lst ys')) := by
  have nt : ∀ b xs, H b = some (.tup xs) → b ≠ ι n := fun b xs h z => by rw [z, hH] at h; cases h
  have nf : ∀ b o u, H b = some (.frz o u) → b ≠ ι n := fun b o u h z => by rw [z, hH] at h; cases h
  have k : Kp H (upd H (ι n) (.lst ys')) := ⟨fun b xs h => by rw [upd_ne (nt b xs h)]; exact h, fun b o u h => by rw [upd_ne (nf b o u h)]; exact h⟩
  refine g ι _ y ⟨by simp, fun _ _ => rfl, k⟩ (R.write ho trivial trivial (by rw [hH]; trivial) ⟨ys', upd_same, r.mono (Nat.le_refl _) (fun _ _ => rfl) k⟩) ?_
  rw [List.length_set]
  exact rv _ k
theorem y_append : MtR X "list.append" (rM W w cl EX appendV) := by
  intro pins s σ H x vs v us Q I rx rs ⟨y, e, ι, env, S, σ', a, b, R, ra, rb, g⟩
  subst e
  cases a with
  | loc n =>
    obtain ⟨hn, e⟩ := ra
    subst e
    obtain ⟨o, ho, g⟩ := Gs.look g
    cases o with
    | lst xs =>
      obtain ⟨hz, g⟩ := Gs.need g
      have hz := of_decide_eq_true hz
      obtain ⟨ys, hH, r⟩ := R.lst ho
      have g : Gs W w cl EX (rv W) ι env S σ' H (.ok .non (S.set n (.lst (xs ++ [b])))) Q := g
      exact mt_append pins s σ H _ _ v us Q I rx rs ⟨_, ys, y, rfl, rfl, hH, by rw [r.length, LINE_eq]; exact hz, g.wrLst R ho hH (r.snoc rb) (fun _ _ => rfl)⟩
    | _ => exact g.elim
  | _ => exact g.elim
theorem y_extend : MtR X "list.extend" (rM W w cl EX extendV) := by
  intro pins s σ H x vs v us Q I rx rs ⟨y, e, ι, env, S, σ', a, b, R, ra, rb, g⟩
  subst e
  cases a with
  | loc n =>
    obtain ⟨hn, e⟩ := ra
    subst e
    obtain ⟨o, ho, g⟩ := Gs.look g
    cases o with
    | lst xs =>
      have g : Gs W w cl EX (rv W) ι env S σ' H ((lstE b >>= fun ys => need (decide (xs.length + ys.length ≤ LINE)) >>= fun _ => put n (.lst (xs ++ ys)) >>= fun _ => pure .non) S) Q := g
      obtain ⟨p, zs, ys2, e, hB, rz, g, _⟩ := lstE_ok R rb g
      subst e
      obtain ⟨hz, g⟩ := Gs.need g
      have hz := of_decide_eq_true hz
      obtain ⟨ys, hH, r⟩ := R.lst ho
      have g : Gs W w cl EX (rv W) ι env S σ' H (.ok .non (S.set n (.lst (xs ++ zs)))) Q := g
      exact mt_extend pins s σ H _ _ v us Q I rx rs ⟨_, p, ys, ys2, rfl, rfl, hH, hB, by rw [r.length, rz.length, LINE_eq]; exact hz, g.wrLst R ho hH (r.append rz) (fun _ _ => rfl)⟩
    | _ => exact g.elim
  | _ => exact g.elim
theorem tx_join0 (s : List Nat) : ∀ ts : List (List Nat), Str.join (tx s) (ts.map tx) = tx (joinN s ts)
  | [] => rfl
  | [t] => rfl
  | t :: u :: r => by
    have ih := tx_join0 s (u :: r)
    show tx t ++ tx s ++ Str.join (tx s) (tx u :: r.map tx) = tx (t ++ s ++ joinN s (u :: r))
    rw [List.map_cons] at ih
    rw [ih, tx_cat, tx_cat]
theorem tx_join (s : List Nat) (ts : List (List Nat)) : Txt.join (tx s) (ts.map tx) = tx (joinN s ts) := (StrLaws.glued_eq_join _ _).trans (tx_join0 s ts)
theorem y_join (hK : X.K = W.K) : MtR X "str.join" (rM W w cl EX joinV) := by
  intro pins s σ H x vs v us Q I rx rs ⟨y, e, ι, env, S, σ', a, b, R, ra, rb, g⟩
  subst e
  cases a with
  | str z =>
    obtain ⟨⟨hl, ha⟩, e⟩ := ra
    subst e
    have tail : ∀ (p : Addr) (xs : List Val) (ys : List V), y = .ref p → (SqL X.K H p ys ∨ SqT X.K H p ys) → RVs W ι S.length H xs ys → Gs W w cl EX (rv W) ι env S σ' H ((get? (asStrs xs) >>= fun ts => need (decide ((ts.map List.length).sum + ts.length * z.length ≤ LINE)) >>= fun _ => pure (.str (joinN z ts))) S) Q →
        wpAny (model X.prog X.w) X.A (call (.builtin "str.join") (v :: us)) (EP X pins σ Q) X.xe s := by
      intro p xs ys e hs r g
      subst e
      obtain ⟨ts, hts, g⟩ := Gs.get g
      obtain ⟨hz, g⟩ := Gs.need g
      have hz := of_decide_eq_true hz
      obtain ⟨e1, e2⟩ := r.strs hts
      have hsum : ((ts.map tx).map fun q => q.length).sum = (ts.map List.length).sum := by
        rw [List.map_map]; exact congrArg List.sum (List.map_congr_left fun q _ => tx_len q)
      have hjl : ∀ (l : List (List Nat)), (joinN z l).length ≤ (l.map List.length).sum + l.length * z.length := by
        intro l
        induction l with
        | nil => simp [joinN]
        | cons a l ih =>
          cases l with
          | nil => simp [joinN]
          | cons b l =>
            show ((a ++ z) ++ joinN z (b :: l)).length ≤ _
            rw [List.length_append, List.length_append, List.map_cons, List.sum_cons, List.length_cons, Nat.succ_mul]
            omega
      have hja : ∀ (l : List (List Nat)), (∀ q ∈ l, q.all (· < 128) = true) → (joinN z l).all (· < 128) = true := by
        intro l
        induction l with
        | nil => intro _; rfl
        | cons a l ih =>
          intro hq
          cases l with
          | nil => exact hq a List.mem_cons_self
          | cons b l =>
            show ((a ++ z) ++ joinN z (b :: l)).all _ = true
            rw [List.all_append, List.all_append, hq a List.mem_cons_self, ha, ih (fun q hq' => hq q (List.mem_cons_of_mem _ hq'))]
            rfl
      refine mt_join pins s σ H _ _ v us Q I rx rs ⟨tx z, p, ts.map tx, rfl, rfl, by rw [← e1]; exact hs, by rw [hsum, List.length_map, tx_len]; exact hz, ?_⟩
      rw [tx_join]
      exact g.here (y := V.str (tx (joinN z ts))) R ⟨⟨Nat.le_trans (hjl ts) hz, hja ts fun q hq => (e2 q hq).2⟩, rfl⟩
    cases b with
    | tup xs =>
      obtain ⟨p, ys, e, t, r⟩ := rb
      exact tail p xs ys e (.inr (by rw [hK]; exact t)) r g
    | loc n =>
      have g : Gs W w cl EX (rv W) ι env S σ' H ((lstE (.loc n) >>= fun xs => get? (asStrs xs) >>= fun ts => need (decide ((ts.map List.length).sum + ts.length * z.length ≤ LINE)) >>= fun _ => pure (.str (joinN z ts))) S) Q := g
      obtain ⟨p, xs, ys, e, hH, r, g, _⟩ := lstE_ok R rb g
      exact tail p xs ys e (.inl (.of hH)) r g
    | _ => exact g.elim
  | _ => exact g.elim
end
end Pyd
set_option Elab.async false
set_option linter.all false
set_option maxRecDepth 100000
set_option maxHeartbeats 1000000
namespace Pyd
open PySem PySem.Spec PyProof.Rows L2
theorem firstT_ok : ∀ {bs : List Bool} {i k : Nat}, firstT bs i = some k → ∃ j, k = i + j ∧ bs[j]? = some true ∧ ∀ m, m < j → bs[m]? = some false
  | [], i, k, h => by cases h
  | b :: r, i, k, h => by
    unfold firstT at h
    by_cases hb : b = true
    · rw [if_pos hb] at h
      cases h
      exact ⟨0, rfl, by rw [hb]; rfl, fun m hm => absurd hm (Nat.not_lt_zero _)⟩
    · rw [if_neg hb] at h
      obtain ⟨j, h1, h2, h3⟩ := firstT_ok h
      refine ⟨j + 1, by omega, by simpa using h2, fun m hm => ?_⟩
      cases m with
      | zero => simpa using hb
      | succ m => simpa using h3 m (by omega)
theorem seq_ix {i : Int} {n k : Nat} (h : ixOf i n = some k) : seqIndex? i n = some k := by
  unfold ixOf at h
  have main : ∀ j : Int, (if i < 0 then i + n else i) = j → 0 ≤ j → j < n → some j.toNat = some k → seqIndex? i n = some k := fun j e h1 h2 h3 => by
    unfold seqIndex?
    rw [e]
    dsimp only
    rw [decide_eq_true h1, decide_eq_true h2]
    exact h3
  by_cases h0 : 0 ≤ i
  · rw [if_pos h0] at h
    by_cases h1 : i < n
    · rw [if_pos h1] at h
      exact main i (if_neg (by omega)) h0 h1 h
    · rw [if_neg h1] at h; cases h
  · rw [if_neg h0] at h
    by_cases h1 : -(n : Int) ≤ i
    · rw [if_pos h1] at h
      exact main (i + n) (if_pos (by omega)) (by omega) (by omega) h
    · rw [if_neg h1] at h; cases h
section
variable {W : Wd} {w : World} {X : Cx} {cl : FC} {EX : WX}
theorem items_b {s : Shared} {its : List Value} {ds : List Dt} {d : Dt} {as : List Addr} (c : PyData.canLayAll0 (Dt.pds ds) = true) (h4 : ReadsAll s.heap its (Dt.pds ds) as) : its.length = ds.length ∧ ∀ (m : Nat) (hm : m < its.length), (ds.map fun z => Dt.eqv z d)[m]? = some (PyData.eqv (SeqAt.readOf s.heap its[m]) d.pd) := by
  have hmap : its.map (SeqAt.readOf s.heap) = Dt.pds ds := SeqAt.readsAll_map (Dt.pds ds) its as c h4
  have pl : ∀ l : List Dt, Dt.pds l = l.map Dt.pd := fun l => by
    induction l with
    | nil => rfl
    | cons x l ih => show x.pd :: Dt.pds l = _; rw [ih]; rfl
  rw [pl] at hmap
  have hl : its.length = ds.length := by simpa using congrArg List.length hmap
  refine ⟨hl, fun m hm => ?_⟩
  have hd : m < ds.length := by omega
  have e : SeqAt.readOf s.heap its[m] = (ds[m]).pd := by
    have := congrArg (fun l : List PyData => l[m]?) hmap
    simp only [List.getElem?_map, List.getElem?_eq_getElem hm, List.getElem?_eq_getElem hd, Option.map_some] at this
    exact Option.some.inj this
  rw [List.getElem?_map, List.getElem?_eq_getElem hd, e, pd_eqv]
  rfl
theorem count_b {s : Shared} {its : List Value} {ds : List Dt} {d : Dt} {as : List Addr} (c : PyData.canLayAll0 (Dt.pds ds) = true) (h4 : ReadsAll s.heap its (Dt.pds ds) as) : its.countP (fun u => PyData.eqv (SeqAt.readOf s.heap u) d.pd) = (ds.map fun z => Dt.eqv z d).countP id := by
  have hmap : its.map (SeqAt.readOf s.heap) = Dt.pds ds := SeqAt.readsAll_map (Dt.pds ds) its as c h4
  have e1 : its.countP (fun u => PyData.eqv (SeqAt.readOf s.heap u) d.pd) = (its.map (SeqAt.readOf s.heap)).countP (fun y => PyData.eqv y d.pd) := by
    rw [List.countP_map]; rfl
  rw [e1, hmap, List.countP_map]
  have : ∀ l : List Dt, (Dt.pds l).countP (fun y => PyData.eqv y d.pd) = l.countP (id ∘ fun z => Dt.eqv z d) := fun l => by
    induction l with
    | nil => rfl
    | cons x l ih =>
      show (x.pd :: Dt.pds l).countP _ = _
      rw [List.countP_cons, List.countP_cons, ih, pd_eqv]
      rfl
  exact this ds
theorem deep_u {X : Cx} (G : Good W w X) {ds : List Dt} {d : Dt} (h : d.pd.depth ≤ 60) : X.A.units + 1 + min (PyData.depthAll (Dt.pds ds)) d.pd.depth < cLine := by
  have := G.hu
  have : min (PyData.depthAll (Dt.pds ds)) d.pd.depth ≤ 60 := Nat.le_trans (Nat.min_le_right _ _) h
  omega
theorem lay_all {ds : List Dt} (h : (Dt.lst ds).pd.canLay0 = true) : PyData.canLayAll0 (Dt.pds ds) = true := by
  have c2 : PyData.canLay0 (.list (Dt.pds ds)) = true := h
  unfold PyData.canLay0 at c2; exact c2
theorem lay_allT {ds : List Dt} (h : (Dt.tup ds).pd.canLay0 = true) : PyData.canLayAll0 (Dt.pds ds) = true := by
  have c2 : PyData.canLay0 (.tuple (Dt.pds ds)) = true := h
  unfold PyData.canLay0 at c2; exact c2
theorem size_lt {its : Array Value} {j : Nat} (hj : j < its.size) (h : its.size ≤ sizeLine) : ((j : Nat) : Int) < 2 ^ 63 - 1 := by
  rw [sizeLine_eq] at h
  omega
theorem y_lindex (G : Good W w X) : MtR X "list.index" (rM W w cl EX lindexV) := by
  intro pins s σ H x vs v us Q I rx rs ⟨y, e, ι, env, S, σ', a, b, R, ra, rb, g⟩
  subst e
  obtain ⟨uy, rfl, ry⟩ := rs.one
  cases a with
  | loc n =>
    obtain ⟨hn, e⟩ := ra
    subst e
    obtain ⟨o, ho, g⟩ := Gs.look g
    cases o with
    | lst xs =>
      have g : Gs W w cl EX (rv W) ι env S σ' H ((eqAllM b xs >>= fun bs => get? (firstT bs 0) >>= fun k => pure (.int k)) S) Q := g
      rw [eqAllM_bind] at g
      cases h : eqAll S b xs with
      | none => rw [h] at g; exact g.elim
      | some bs =>
        rw [h] at g
        obtain ⟨k, hk, g⟩ := Gs.get g
        obtain ⟨d, ds, h1, h2, h3⟩ := eqAll_some h
        obtain ⟨j, hj0, hj1, hj2⟩ := firstT_ok hk
        have hj0 : k = j := by omega
        subst hj0
        obtain ⟨⟨as, r1⟩, c1, l1⟩ := reads_of R I G.K 60 b y uy d h1 rb ry
        obtain ⟨⟨bs', r2⟩, c2, _⟩ := reads_of R I G.K 61 (.loc n) (.ref (ι n)) _ (.lst ds) (toD_seq (.inl ho) h2) ⟨hn, rfl⟩ rx
        have c2 := lay_all c2
        cases rx
        have r2 : Reads s.heap (.ref (ι n)) (.list (Dt.pds ds)) bs' := r2
        cases r2 with
        | list q1 q2 q3 q4 =>
          rename_i ob its nn bs2
          obtain ⟨cls, dd, data, sls⟩ := ob
          simp only at q2 q3
          subst q2 q3
          obtain ⟨hl, hb⟩ := items_b (d := d) c2 q4
          rw [← h3] at hb
          have hjl : k < its.toList.length := by
            have := (List.getElem?_eq_some_iff.mp hj1).1
            rw [h3, List.length_map] at this
            omega
          have hj : k < its.size := by simpa using hjl
          have eb := hb k hjl
          rw [hj1] at eb
          refine call_meets PySem.F.slot_list_index ⟨_, q1, rfl⟩ PySem.F.entry_list_index (PySem.F.args_list_index_2 _ _)
            (SeqAt.list_indexAt (ι n) its nn dd sls uy (fun u => PyData.eqv (SeqAt.readOf s.heap u) d.pd) k hj ?_ ?_ ?_) ⟨q1, SeqAt.items_eqAt q4 r1 c2 c1 (deep_u G l1), ⟨.int (k : Nat), H, I.tok _, ⟨_, rfl⟩, g.here R rfl⟩⟩
          · obtain ⟨ys2, t2, _⟩ := R.seq (.inl ho)
            obtain ⟨its2, rv2, ⟨⟨cls2, dd2, data2, sl2⟩, n2, ho2, hc2, hdn2, hd2⟩, hlen2⟩ := I.list (by rw [G.K]; exact t2)
            rw [q1] at ho2
            cases ho2
            simp only at hd2
            cases hd2
            exact size_lt hj (by rw [List.size_toArray, ← rv2.length]; exact hlen2)
          · have : some true = some (PyData.eqv (SeqAt.readOf s.heap its[k]) d.pd) := by simpa using eb
            exact (Option.some.inj this).symm
          · intro m hm hmj
            have e2 := hb m (by simpa using hm)
            rw [hj2 m hmj] at e2
            have : some false = some (PyData.eqv (SeqAt.readOf s.heap its[m]) d.pd) := by simpa using e2
            exact (Option.some.inj this).symm
    | _ => exact g.elim
  | _ => exact g.elim
theorem y_tindex (G : Good W w X) : MtR X "tuple.index" (rM W w cl EX tindexV) := by
  intro pins s σ H x vs v us Q I rx rs ⟨y, e, ι, env, S, σ', a, b, R, ra, rb, g⟩
  subst e
  obtain ⟨uy, rfl, ry⟩ := rs.one
  cases a with
  | tup xs =>
    have g : Gs W w cl EX (rv W) ι env S σ' H ((eqAllM b xs >>= fun bs => get? (firstT bs 0) >>= fun k => pure (.int k)) S) Q := g
    rw [eqAllM_bind] at g
    cases h : eqAll S b xs with
    | none => rw [h] at g; exact g.elim
    | some bs =>
      rw [h] at g
      obtain ⟨k, hk, g⟩ := Gs.get g
      obtain ⟨d, ds, h1, h2, h3⟩ := eqAll_some h
      obtain ⟨j, hj0, hj1, hj2⟩ := firstT_ok hk
      have hj0 : k = j := by omega
      subst hj0
      obtain ⟨⟨as, r1⟩, c1, l1⟩ := reads_of R I G.K 60 b y uy d h1 rb ry
      obtain ⟨⟨bs', r2⟩, c2, _⟩ := reads_of R I G.K 61 (.tup xs) x v (.tup ds) (toD_tup h2) ra rx
      have c2 := lay_allT c2
      obtain ⟨p, ys, ex, t, rys⟩ := ra
      subst ex
      cases rx
      have r2 : Reads s.heap (.ref p) (.tuple (Dt.pds ds)) bs' := r2
      cases r2 with
      | tuple q1 q2 q3 q4 =>
        rename_i ob its nn
        obtain ⟨cls, dd, data, sls⟩ := ob
        simp only at q2 q3
        subst q2 q3
        obtain ⟨hl, hb⟩ := items_b (d := d) c2 q4
        rw [← h3] at hb
        have hjl : k < its.toList.length := by
          have := (List.getElem?_eq_some_iff.mp hj1).1
          rw [h3, List.length_map] at this
          omega
        have hj : k < its.size := by simpa using hjl
        have eb := hb k hjl
        rw [hj1] at eb
        refine call_meets PySem.F.slot_tuple_index ⟨_, q1, rfl⟩ PySem.F.entry_tuple_index (PySem.F.args_tuple_index_2 _ _)
          (TI.tuple_indexAt p its nn dd sls uy (fun u => PyData.eqv (SeqAt.readOf s.heap u) d.pd) k hj ?_ ?_) ⟨q1, SeqAt.items_eqAt q4 r1 c2 c1 (deep_u G l1), ⟨.int (k : Nat), H, I.tok _, ⟨_, rfl⟩, g.here R rfl⟩⟩
        · have : some true = some (PyData.eqv (SeqAt.readOf s.heap its[k]) d.pd) := by simpa using eb
          exact (Option.some.inj this).symm
        · intro m hm hmj
          have e2 := hb m (by simpa using hm)
          rw [hj2 m hmj] at e2
          have : some false = some (PyData.eqv (SeqAt.readOf s.heap its[m]) d.pd) := by simpa using e2
          exact (Option.some.inj this).symm
  | _ => exact g.elim
theorem y_lcount (G : Good W w X) : MtR X "list.count" (rM W w cl EX lcountV) := by
  intro pins s σ H x vs v us Q I rx rs ⟨y, e, ι, env, S, σ', a, b, R, ra, rb, g⟩
  subst e
  obtain ⟨uy, rfl, ry⟩ := rs.one
  cases a with
  | loc n =>
    obtain ⟨hn, e⟩ := ra
    subst e
    obtain ⟨o, ho, g⟩ := Gs.look g
    cases o with
    | lst xs =>
      have g : Gs W w cl EX (rv W) ι env S σ' H ((eqAllM b xs >>= fun bs => pure (.int (bs.countP id : Nat))) S) Q := g
      rw [eqAllM_bind] at g
      cases h : eqAll S b xs with
      | none => rw [h] at g; exact g.elim
      | some bs =>
        rw [h] at g
        obtain ⟨d, ds, h1, h2, h3⟩ := eqAll_some h
        obtain ⟨⟨as, r1⟩, c1, l1⟩ := reads_of R I G.K 60 b y uy d h1 rb ry
        obtain ⟨⟨bs', r2⟩, c2, _⟩ := reads_of R I G.K 61 (.loc n) (.ref (ι n)) _ (.lst ds) (toD_seq (.inl ho) h2) ⟨hn, rfl⟩ rx
        have c2 := lay_all c2
        cases rx
        have r2 : Reads s.heap (.ref (ι n)) (.list (Dt.pds ds)) bs' := r2
        cases r2 with
        | list q1 q2 q3 q4 =>
          rename_i ob its nn bs2
          obtain ⟨cls, dd, data, sls⟩ := ob
          simp only at q2 q3
          subst q2 q3
          have hc := count_b (d := d) c2 q4
          rw [← h3] at hc
          refine call_meets PySem.F.slot_list_count ⟨_, q1, rfl⟩ PySem.F.entry_list_count (PySem.F.args_list_count_2 _ _)
            (SeqAt.list_countAt (ι n) its nn dd sls uy (fun u => PyData.eqv (SeqAt.readOf s.heap u) d.pd)) ⟨q1, SeqAt.items_eqAt q4 r1 c2 c1 (deep_u G l1), ?_⟩
          rw [hc]
          exact ⟨.int (bs.countP id : Nat), H, I.tok _, ⟨_, rfl⟩, g.here R rfl⟩
    | _ => exact g.elim
  | _ => exact g.elim
theorem y_tcount (G : Good W w X) : MtR X "tuple.count" (rM W w cl EX tcountV) := by
  intro pins s σ H x vs v us Q I rx rs ⟨y, e, ι, env, S, σ', a, b, R, ra, rb, g⟩
  subst e
  obtain ⟨uy, rfl, ry⟩ := rs.one
  cases a with
  | tup xs =>
    have g : Gs W w cl EX (rv W) ι env S σ' H ((eqAllM b xs >>= fun bs => pure (.int (bs.countP id : Nat))) S) Q := g
    rw [eqAllM_bind] at g
    cases h : eqAll S b xs with
    | none => rw [h] at g; exact g.elim
    | some bs =>
      rw [h] at g
      obtain ⟨d, ds, h1, h2, h3⟩ := eqAll_some h
      obtain ⟨⟨as, r1⟩, c1, l1⟩ := reads_of R I G.K 60 b y uy d h1 rb ry
      obtain ⟨⟨bs', r2⟩, c2, _⟩ := reads_of R I G.K 61 (.tup xs) x v (.tup ds) (toD_tup h2) ra rx
      have c2 := lay_allT c2
      obtain ⟨p, ys, ex, t, rys⟩ := ra
      subst ex
      cases rx
      have r2 : Reads s.heap (.ref p) (.tuple (Dt.pds ds)) bs' := r2
      cases r2 with
      | tuple q1 q2 q3 q4 =>
        rename_i ob its nn
        obtain ⟨cls, dd, data, sls⟩ := ob
        simp only at q2 q3
        subst q2 q3
        have hc := count_b (d := d) c2 q4
        rw [← h3] at hc
        refine call_meets PySem.F.slot_tuple_count ⟨_, q1, rfl⟩ PySem.F.entry_tuple_count (PySem.F.args_tuple_count_2 _ _)
          (SeqAt.tuple_countAt p its nn dd sls uy (fun u => PyData.eqv (SeqAt.readOf s.heap u) d.pd)) ⟨q1, SeqAt.items_eqAt q4 r1 c2 c1 (deep_u G l1), ?_⟩
        rw [hc]
        exact ⟨.int (bs.countP id : Nat), H, I.tok _, ⟨_, rfl⟩, g.here R rfl⟩
  | _ => exact g.elim
theorem y_pop1 : MtR X "list.pop" (rM W w cl EX popV) := by
  intro pins s σ H x vs v us Q I rx rs ⟨y, e, ι, env, S, σ', a, b, R, ra, rb, g⟩
  subst e
  cases a with
  | loc n =>
    obtain ⟨hn, e⟩ := ra
    subst e
    obtain ⟨o, ho, g⟩ := Gs.look g
    cases o with
    | lst xs =>
      cases b with
      | int i =>
        have g : Gs W w cl EX (rv W) ι env S σ' H ((need (small62 i) >>= fun _ => get? (ixOf i xs.length) >>= fun k => get? xs[k]? >>= fun x => put n (.lst (xs.eraseIdx k)) >>= fun _ => pure x) S) Q := g
        obtain ⟨hi, g⟩ := Gs.need g
        obtain ⟨k, hk, g⟩ := Gs.get g
        obtain ⟨z, hz, g⟩ := Gs.get g
        obtain ⟨ys, hH, r⟩ := R.lst ho
        cases (show y = .int i from rb)
        obtain ⟨yz, hy, rz⟩ := r.get hz
        have g : Gs W w cl EX (rv W) ι env S σ' H (.ok z (S.set n (.lst (xs.eraseIdx k)))) Q := g
        have hs : -(2 ^ 62) ≤ i ∧ i < 2 ^ 62 := by
          unfold small62 at hi
          simp only [Bool.and_eq_true, decide_eq_true_eq] at hi
          exact hi
        refine mt_popAt pins s σ H _ _ v us Q I rx rs ⟨_, ys, i, k, yz, rfl, rfl, hH, by omega, by omega, ?_, hy, g.wrLst R ho hH (r.eraseIdx k) (fun H' k' => rz.mono (Nat.le_refl _) (fun _ _ => rfl) k')⟩
        rw [r.length]
        exact seq_ix hk
      | _ => exact g.elim
    | _ => exact g.elim
  | _ => exact g.elim
def rM0 (W : Wd) (w : World) (cl : FC) (EX : WX) (f : Val → M Val) : V → List V → Hp → VK → Prop := fun x vs H Q => vs = [] ∧ rV1 W w cl EX f x H Q
theorem y_pop0 : MtR X "list.pop" (rM0 W w cl EX pop0V) := by
  intro pins s σ H x vs v us Q I rx rs ⟨e, ι, env, S, σ', a, R, ra, g⟩
  subst e
  cases a with
  | loc n =>
    obtain ⟨hn, e⟩ := ra
    subst e
    obtain ⟨o, ho, g⟩ := Gs.look g
    cases o with
    | lst xs =>
      have g : Gs W w cl EX (rv W) ι env S σ' H ((get? xs[xs.length - 1]? >>= fun x => put n (.lst xs.dropLast) >>= fun _ => pure x) S) Q := g
      obtain ⟨z, hz, g⟩ := Gs.get g
      obtain ⟨ys, hH, r⟩ := R.lst ho
      obtain ⟨yz, hy, rz⟩ := r.get hz
      have g : Gs W w cl EX (rv W) ι env S σ' H (.ok z (S.set n (.lst xs.dropLast))) Q := g
      have rd : RVs W ι S.length H xs.dropLast ys.dropLast := by
        rw [List.dropLast_eq_take, List.dropLast_eq_take, r.length]
        exact r.take _
      exact mt_pop pins s σ H _ _ v us Q I rx rs ⟨_, ys, yz, rfl, rfl, hH, by rw [r.length]; exact hy, g.wrLst R ho hH rd (fun H' k' => rz.mono (Nat.le_refl _) (fun _ _ => rfl) k')⟩
    | _ => exact g.elim
  | _ => exact g.elim
end
end Pyd
set_option Elab.async false
set_option linter.all false
set_option maxRecDepth 100000
set_option maxHeartbeats 1000000
namespace Pyd
open PySem PySem.Spec PyProof.Rows L2
def addF (c : Addr → Option Obj) (H : Hp) : Hp := fun a => match c a with | some o => some (.frz o (FixO a o)) | none => H a
def remF (c : Addr → Option Obj) (H : Hp) : Hp := fun a => match c a with | some _ => none | none => H a
section
variable {c : Addr → Option Obj} {H H' : Hp} {a : Addr} {o : Obj} {u : HO}
theorem addF_in (h : c a = some o) : addF c H a = some (.frz o (FixO a o)) := by unfold addF; rw [h]
theorem addF_out (h : c a = none) : addF c H a = H a := by unfold addF; rw [h]
theorem remF_in (h : c a = some o) : remF c H a = none := by unfold remF; rw [h]
theorem remF_out (h : c a = none) : remF c H a = H a := by unfold remF; rw [h]
structure CellsOf (c : Addr → Option Obj) (H : Hp) (h : Heap) : Prop where
  at_ : ∀ a o, c a = some o → h.get? a = some o
  un : ∀ a o, c a = some o → H a = none
  cell : ∀ a o, c a = some o → ∃ v, o.data = .cell v
theorem CellsOf.out {h : Heap} (C : CellsOf c H h) (e : H a = some u) : c a = none := by
  cases q : c a with
  | none => rfl
  | some o => rw [C.un a o q] at e; cases e
theorem CellsOf.up {h : Heap} (C : CellsOf c H h) (e : H a = some u) : addF c H a = some u := by rw [addF_out (C.out e)]; exact e
theorem CellsOf.kp {h : Heap} (C : CellsOf c H h) : Kp H (addF c H) := ⟨fun _ _ e => C.up e, fun _ _ _ e => C.up e⟩
theorem CellsOf.hok {P : Program} {w : World} {h : Heap} (C : CellsOf c H h) (hk : HOk P w H h) : HOk P w (addF c H) h := fun a u e => by
  cases q : c a with
  | none =>
    rw [addF_out q] at e
    exact (hk a u e).stay (fun _ _ _ q => q) (fun b e => C.up e) fun b xs e => C.up e
  | some o =>
    rw [addF_in q] at e
    cases e
    have g := C.at_ a o q
    exact ⟨g, g, ⟨o, g⟩, fun h1 h2 e k => k o e⟩
structure Held (c : Addr → Option Obj) (H1 : Hp) : Prop where
  at_ : ∀ a o, c a = some o → H1 a = some (.frz o (FixO a o))
  cell : ∀ a o, c a = some o → ∃ v, o.data = .cell v
theorem Held.keep (C : Held c H) (e : H a = some u) (n : ∀ o, u ≠ .frz o (FixO a o)) : remF c H a = some u := by
  cases q : c a with
  | none => rw [remF_out q]; exact e
  | some o => rw [C.at_ a o q] at e; exact absurd (Option.some.inj e).symm (n o)
theorem Held.keepN (C : Held c H) (e : H a = some (.frz o u)) (n : u = FixO a o → ∀ v, o.data ≠ .cell v) : remF c H a = some (.frz o u) := by
  cases q : c a with
  | none => rw [remF_out q]; exact e
  | some o' =>
    rw [C.at_ a o' q] at e
    cases e
    obtain ⟨v, hv⟩ := C.cell a _ q
    exact absurd hv (n rfl v)
theorem Held.kpw (C : Held c H) : KpW H (remF c H) := ⟨fun b xs e => C.keep e fun o z => (nomatch z), fun b o u e n => C.keepN e n⟩
theorem Held.hok {P : Program} {w : World} {h : Heap} (C : Held c H) (hk : HOk P w H h) : HOk P w (remF c H) h := fun a u e => by
  cases q : c a with
  | some o => rw [remF_in q] at e; cases e
  | none =>
    rw [remF_out q] at e
    exact (hk a u e).stay (fun _ _ _ q => q) (fun b e => C.keep e fun o z => (nomatch z)) fun b xs e => C.keep e fun o z => (nomatch z)
theorem addF_none (h : addF c H a = none) : c a = none ∧ H a = none := by
  cases q : c a with
  | none => rw [addF_out q] at h; exact ⟨rfl, h⟩
  | some o => rw [addF_in q] at h; cases h
theorem Held.of {h : Heap} (C : CellsOf c H h) (frz : ∀ b o u, addF c H b = some (.frz o u) → H' b = some (.frz o u)) : Held c H' := ⟨fun a o e => frz a o _ (addF_in e), C.cell⟩
theorem kp_back {h : Heap} (C : CellsOf c H h) (k : Kp (addF c H) H') : Kp H (remF c H') :=
  ⟨fun b xs e => by rw [remF_out (C.out e)]; exact k.tup b xs (C.up e), fun b o u e => by rw [remF_out (C.out e)]; exact k.frz b o u (C.up e)⟩
theorem un_back {P : Program} {w : World} {fs : List Addr} {h h' : Heap} (C : CellsOf c H h) (hk : HOk P w H' h') (u : Un fs [] (addF c H) H' h h') : Un fs [] H (remF c H') h h' := by
  have hd : Held c H' := Held.of C u.frzs
  have cel : ∀ b o o', h.get? b = some o → c b = some o' → h'.get? b = some o := fun b o o' e q => by
    have z := C.at_ b o' q
    rw [e] at z; cases z
    exact (hk b _ (hd.at_ b _ q)).1
  refine ⟨fun b o e n hb hx => ?_, fun b o e n hb hx => ?_, fun b o e n hx => ?_, u.there, fun b xs e => ?_, fun b o v e => ?_, fun b ps e => ?_⟩
  · cases q : c b with
    | some o' => exact cel b o o' e q
    | none => exact u.keep b o e (by rw [addF_out q]; exact n) hb hx
  · cases q : c b with
    | some o' => exact ⟨o.slots, cel b o o' e q⟩
    | none => exact u.slot b o e (by rw [addF_out q]; exact n) hb hx
  · cases q : c b with
    | some o' => exact remF_in q
    | none => rw [remF_out q]; exact u.free b o e (by rw [addF_out q]; exact n) hx
  · rw [remF_out (C.out e)]; exact u.tups b xs (C.up e)
  · rw [remF_out (C.out e)]; exact u.frzs b o v (C.up e)
  · obtain ⟨m, z⟩ := u.tbls b ps (C.up e)
    have := C.out e
    exact ⟨m, by rw [remF_out this]; exact z⟩
theorem ub_back {P : Program} {w : World} {fs : List Addr} {h B h' : Heap} (C : CellsOf c H h) (hk : HOk P w H' B) (u : UB fs (addF c H) H' h B h') : UB fs H (remF c H') h B h' := by
  have hd : Held c H' := Held.of C u.frzs
  refine ⟨fun b o e n hb => ?_, u.slot, fun b o e n => ?_, u.there, fun b xs e => ?_, fun b o v e => ?_, fun b ps e => ?_⟩
  · cases q : c b with
    | some o' =>
      have z := C.at_ b o' q
      rw [e] at z; cases z
      exact (hk b _ (hd.at_ b _ q)).1
    | none => exact u.keep b o e (by rw [addF_out q]; exact n) hb
  · cases q : c b with
    | some o' => exact remF_in q
    | none => rw [remF_out q]; exact u.free b o e (by rw [addF_out q]; exact n)
  · rw [remF_out (C.out e)]; exact u.tups b xs (C.up e)
  · rw [remF_out (C.out e)]; exact u.frzs b o v (C.up e)
  · obtain ⟨m, z⟩ := u.tbls b ps (C.up e)
    have := C.out e
    exact ⟨m, by rw [remF_out this]; exact z⟩
theorem ce_back {P : Program} {w : World} {outer : List PySem.Env} {s s' : Shared} {Q Q' : VK} {u : Value} (C : CellsOf c H s.heap) (h : CE outer P w (addF c H) s Q' u s')
    (hq : ∀ y H', Held c H' → (∀ ps P, addF c H P = some (.tbl ps) → ∃ m, H' P = some (.tbl (ps ++ m))) → Q' y H' → Q y (remF c H')) : CE outer P w H s Q u s' := by
  obtain ⟨v, H', os, bare, un, hok, r, q⟩ := h
  have hd : Held c H' := Held.of C un.frzs
  exact ⟨v, remF c H', os, bare, un_back C hok un, hd.hok hok, r, hq v H' hd (fun ps P e => un.tbls P ps e) q⟩
theorem cx_back {P : Program} {w : World} {outer : List PySem.Env} {s s' : Shared} {E E' : XK} {u : Value} (C : CellsOf c H s.heap) (h : L2.CX P w outer (addF c H) s E' u s')
    (hq : ∀ cls d H', Held c H' → E' cls d H' → E cls d (remF c H')) : L2.CX P w outer H s E u s' := by
  obtain ⟨a, B, H', cls, d, e, fl, hok, ub, na, os, ag, q⟩ := h
  have hd : Held c H' := Held.of C ub.frzs
  refine ⟨a, B, remF c H', cls, d, e, fl, hd.hok hok, ub_back C hok ub, ?_, os, ag, hq cls d H' hd q⟩
  cases z : c a with
  | some o => exact remF_in z
  | none => rw [remF_out z]; exact na
end
structure ClOk (X : Cx) (cl : FC) : Prop where
  at_ : ∀ i a, cl.own i = some a → ∃ x, X.N[i]? = some x ∧ X.env.cells.lookup x = some a ∧ (X.env.scope.names.lookup x = some .cell ∨ X.env.scope.names.lookup x = some .free)
  nb : ∀ i a, cl.own i = some a → X.base.get? a = none ∧ a ∉ X.fs
  cap : ∀ a o, cl.cap a = some o → (X.s_0.heap.get? a = some o ∧ X.H_0 a = none ∧ a ∉ X.ex) ∧ (∃ x, X.env.cells.lookup x = some a) ∧ (X.base.get? a = none ∧ a ∉ X.fs) ∧ ∃ v, o.data = .cell v
open Classical in
noncomputable def cellsAt (cl : FC) (σ : L2.St) (h : Heap) : Addr → Option Obj := fun a => match cl.cap a with
  | some o => some o
  | none => if ∃ i y, cl.own i = some a ∧ σ[i]? = some (some y) then h.get? a else none
theorem cellsAt_in {cl : FC} {σ : L2.St} {h : Heap} {a : Addr} {o : Obj} (e : cellsAt cl σ h a = some o) : cl.cap a = some o ∨ ((∃ i y, cl.own i = some a ∧ σ[i]? = some (some y)) ∧ h.get? a = some o) := by
  unfold cellsAt at e
  split at e
  · rename_i q; cases e; exact .inl q
  · split at e
    · rename_i h; exact .inr ⟨h, e⟩
    · cases e
theorem cellsAt_cap {cl : FC} {σ : L2.St} {h : Heap} {a : Addr} {o : Obj} (e : cl.cap a = some o) : cellsAt cl σ h a = some o := by
  unfold cellsAt
  rw [e]
section
variable {X : Cx} {cl : FC} {pins : List (Addr × Obj)} {σ : L2.St} {H : Hp} {s : Shared}
theorem cap_at (K : ClOk X cl) (I : L2.Inv X pins σ H s) {a : Addr} {o : Obj} (e : cl.cap a = some o) : s.heap.get? a = some o := by
  obtain ⟨⟨h1, h2, h3⟩, _, ⟨_, h4⟩, _⟩ := K.cap a o e
  exact I.base.keep a o h1 h2 h4 h3
theorem cellsAt_of (K : ClOk X cl) (I : L2.Inv X pins σ H s) {a : Addr} {i : Nat} {y : V} (h1 : cl.own i = some a) (h2 : σ[i]? = some (some y)) : cellsAt cl σ s.heap a = s.heap.get? a := by
  unfold cellsAt
  split
  · rename_i o e; exact (cap_at K I e).symm
  · exact if_pos ⟨i, y, h1, h2⟩
theorem cells_of (K : ClOk X cl) (I : L2.Inv X pins σ H s) : CellsOf (cellsAt cl σ s.heap) H s.heap := by
  refine ⟨fun a o e => ?_, fun a o e => ?_, fun a o e => ?_⟩
  · rcases cellsAt_in e with e | ⟨_, e⟩
    · exact cap_at K I e
    · exact e
  · rcases cellsAt_in e with e | ⟨⟨i, y, h1, h2⟩, _⟩
    · obtain ⟨_, ⟨x, hx⟩, _⟩ := K.cap a o e
      exact I.freeC x a hx
    · obtain ⟨x, _, hx, _⟩ := K.at_ i a h1
      exact I.freeC x a hx
  · rcases cellsAt_in e with e | ⟨⟨i, y, h1, h2⟩, e⟩
    · exact (K.cap a o e).2.2.2
    · obtain ⟨x, _, hx, _⟩ := K.at_ i a h1
      obtain ⟨v, o', ho, hd⟩ := I.cell x a hx
      rw [e] at ho; cases ho
      exact ⟨v, hd⟩
theorem cellLook (I : L2.Inv X pins σ H s) {i : Nat} {x : Str} {a : Addr} {y : V} (hN : X.N[i]? = some x) (hx : X.env.cells.lookup x = some a) (hk : X.env.scope.names.lookup x = some .cell ∨ X.env.scope.names.lookup x = some .free) (h2 : σ[i]? = some (some y)) : ∃ o z, s.heap.get? a = some o ∧ o.data = .cell (some z) ∧ RelV y z := by
  obtain ⟨m, hm, hl⟩ := I.loc
  obtain ⟨u, r, q⟩ := hl i x y hN h2 (.inr hk)
  rcases q with ⟨q, _⟩ | ⟨_, c, hc, o, ho, hd⟩
  · have q : X.env.scope.names.lookup x = some .local := q
    rcases hk with hk | hk <;> (rw [hk] at q; cases q)
  · rw [hx] at hc; cases hc
    exact ⟨o, u, ho, hd, r⟩
theorem cell_at (K : ClOk X cl) (I : L2.Inv X pins σ H s) {i : Nat} {a : Addr} {y : V} (h1 : cl.own i = some a) (h2 : σ[i]? = some (some y)) : ∃ o z, s.heap.get? a = some o ∧ o.data = .cell (some z) ∧ RelV y z := by
  obtain ⟨x, hN, hx, hk⟩ := K.at_ i a h1
  exact cellLook I hN hx hk h2
theorem env0_held (K : ClOk X cl) (I : L2.Inv X pins σ H s) {A : Around} (hA : A.frames = X.A.frames) : Env0 X.prog X.w X.K X.mg X.base A X.stack s (addF (cellsAt cl σ s.heap) H) := by
  have e := I.env0
  have C := cells_of K I
  have nb : ∀ b o, cellsAt cl σ s.heap b = some o → X.base.get? b = none ∧ b ∉ frs X.stack := fun b o h => by
    obtain ⟨x, hx, h1, h2⟩ : ∃ x, X.env.cells.lookup x = some b ∧ X.base.get? b = none ∧ b ∉ X.fs := by
      rcases cellsAt_in h with e | ⟨⟨i, y, h1, h2⟩, _⟩
      · obtain ⟨_, ⟨x, hx⟩, hb, _⟩ := K.cap b o e
        exact ⟨x, hx, hb⟩
      · obtain ⟨x, _, hx, _⟩ := K.at_ i b h1
        exact ⟨x, hx, K.nb i b h1⟩
    refine ⟨h1, fun hb => ?_⟩
    rcases List.mem_cons.mp (I.stkSub b hb) with z | z
    · exact I.cne x b hx z
    · exact h2 z
  have out : ∀ b, (X.base.get? b ≠ none ∨ b ∈ frs X.stack) → cellsAt cl σ s.heap b = none := fun b h => by
    cases q : cellsAt cl σ s.heap b with
    | none => rfl
    | some o =>
      obtain ⟨z1, z2⟩ := nb b o q
      exact (h.elim (fun h => h z1) z2).elim
  refine ⟨by rw [hA]; exact e.frames, e.mod, fun b o h => ⟨(e.bs b o h).1, ?_⟩, e.bsz, e.funs, fun b hb => ?_, C.hok e.hok, e.bare⟩
  · rw [addF_out (out b (.inl (by rw [h]; exact fun z => nomatch z)))]; exact (e.bs b o h).2
  · rw [addF_out (out b (.inr hb))]; exact e.frf b hb
end
end Pyd
set_option Elab.async false
set_option linter.all false
set_option maxRecDepth 100000
set_option maxHeartbeats 1000000
namespace Pyd
open PySem PySem.Spec PyProof.Rows L2
structure RoomG (k : Nat) (A : Around) : Prop where
  r : Room k A
  g : A.guards = some []
theorem RoomG.mono {j k : Nat} {A : Around} (r : RoomG k A) (h : j ≤ k) : RoomG j A := ⟨r.r.mono h, r.g⟩
theorem RoomG.deeper {k : Nat} {A : Around} (r : RoomG (k + 1) A) (env : PySem.Env) : RoomG k (A.deeper env) := ⟨r.r.deeper env, r.g⟩
theorem RoomG.in1 {k : Nat} {A : Around} (r : RoomG (k + 1) A) : RoomG k A.in1 := ⟨r.r.in1, r.g⟩
theorem RoomG.make {k : Nat} {A : Around} (r : RoomG (k + 1) A) (C : Addr) (us : List Value) (kw : List (Str × Value)) : RoomG k (A.under (.builtin "type.__call__" ⟨.ref C :: us, kw⟩)) :=
  ⟨r.r.make C us kw, by
    have e : Code.guards (.builtin "type.__call__" ⟨.ref C :: us, kw⟩) = [] := by
      unfold Code.guards
      rfl
    show pushGuards (Code.guards (.builtin "type.__call__" ⟨.ref C :: us, kw⟩)) A.guards = some []
    rw [e, r.g]; rfl⟩
structure FnG (P : Program) (w : World) (K : PySem.W.Frag) (mg : Str → Option Value) (base : Heap) (k : Nat) (f : Addr) (fd : FuncData) (ps : List Str) (sp : Sp) : Prop where
  len : ∀ vs H Q E, sp vs H Q E → vs.length = ps.length
  run : ∀ (A : Around) (outer : List PySem.Env) (s : Shared) (H : Hp) (args : Args) (us : List Value) (vs : List V) (Q : VK) (E : XK), RoomG k A → Env0 P w K mg base A outer s H → BindsTo s fd args (ps.zip us) → Vals vs us → sp vs H Q E →
    codeAny (model P w) A (.call (.ref f) args) (CR (L2.CX P w) outer P w H s Q E) s
section
variable {P : Program} {w : World} {K : PySem.W.Frag} {mg : Str → Option Value} {base : Heap} {k : Nat} {f : Addr} {fd : FuncData} {ps : List Str} {sp : Sp}
theorem FnG.imp {sp' : Sp} (F : FnG P w K mg base k f fd ps sp) (h : ∀ vs H Q E, sp' vs H Q E → sp vs H Q E) : FnG P w K mg base k f fd ps sp' :=
  ⟨fun vs H Q E q => F.len vs H Q E (h vs H Q E q), fun A outer s H args us vs Q E hr e0 hb r q => F.run A outer s H args us vs Q E hr e0 hb r (h vs H Q E q)⟩
theorem fnG_of {x qual : Str} {params : Arguments} {body : List Stmt} {scope : Scope} {N : List Str} (F : FunD K x qual params body scope [] [] f fd) (S : FnScope N ps scope) (len : ∀ vs H Q E, sp vs H Q E → vs.length = ps.length)
    (hbody : ∀ (cdv : Value), fd.code = cdv → ∀ (A : Around) (outer : List PySem.Env) (s : Shared) (H : Hp) (vs : List V) (Q : VK) (E : XK), RoomG k (A.deeper (envOfC qual scope s.heap.objs.size f cdv)) → Env0 P w K mg base A outer s H → sp vs H Q E →
      ∃ t, PSs (cxOf (L2.CX P w) P w K mg base N qual scope f cdv A outer s H E) body t ∧ t { nx := fun _ H' => Q .non H', rt := Q } (L2.start N vs) H) : FnG P w K mg base (k + 1) f fd ps sp := by
  obtain ⟨oc, od, dV, kV, doc, pm, an, cdv, ct, osl, rfl, lk, hcd, _, _⟩ := F.ex
  exact ⟨len, fun A outer s H args us vs Q E hr e0 hb r q => LamX.run_ofS lk hcd S hr.r e0 hb r (len _ _ _ _ q) fun _ => hbody cdv rfl A outer s H vs Q E (hr.deeper _) e0 q⟩
end
section
variable (W : Wd) (w : World)
structure Rg (ι : Nat → Addr) (S : Store) (H : Hp) : Prop where
  ob : ∀ n o, S[n]? = some o → RO W w ι S.length H noV n o
  inj : ∀ m n o o', S[m]? = some o → S[n]? = some o' → Trk o → Trk o' → ι m = ι n → m = n
  tab : TabsH W.T H
def GsG (ι : Nat → Addr) (S : Store) (H : Hp) (r : Res Val) (Q : VK) (E : XK) : Prop :=
  match r with
  | .ok a S' => ∀ ι' H' y, Fw ι S H ι' S' H' → Rg W w ι' S' H' → RV W ι' S'.length H' a y → Q y H'
  | .ex c fs S' => ∀ ι' H' cls d, Fw ι S H ι' S' H' → Rg W w ι' S' H' → RX W ι' S'.length H' c fs cls d → E cls d H'
  | .no => False
def spG (n : Nat) (f : List Val → Store → Res Val) : Sp := fun vs H Q E => ∃ ι S as, Rg W w ι S H ∧ RVs W ι S.length H as vs ∧ as.length = n ∧ GsG W w ι S H (f as S) Q E
end
section
variable {W : Wd} {w : World} {X : Cx} {cl : FC} {EX : WX} {ι ι' : Nat → Addr} {env : Env} {S S' : Store} {σ : L2.St} {H H' : Hp}
theorem ro_see {vw vw' : Vw} {n : Nat} {o : Ob} (e : S[n]? = some o) (h : RO W w ι S.length H vw n o) (hv : ∀ a y, vw a y → vw' a y) : RO W w ι S.length H vw' n o :=
  h.stay (Nat.le_refl _) (fun _ _ => rfl) (Kp.refl H) (List.getElem?_eq_some_iff.mp e).1 (fun _ h => h) (fun _ h => h) hv
def unV : Value → V
  | .none => .non
  | .bool b => .bl b
  | .int i _ => .int i
  | .str x _ => .str x
  | .bytes b _ => .byt b
  | .float b _ => .flt b
  | .ref a => .ref a
  | .type n => .ty n
  | _ => .non
theorem relV_un : ∀ {x : V} {u : Value}, L2.RelV x u → x = unV u
  | .non, _, h => by cases h; rfl
  | .bl b, _, h => by cases h; rfl
  | .int i, _, ⟨t, h⟩ => by cases h; rfl
  | .str x, _, ⟨t, h⟩ => by cases h; rfl
  | .byt b, _, ⟨t, h⟩ => by cases h; rfl
  | .flt b, _, ⟨t, h⟩ => by cases h; rfl
  | .ref a, _, h => by cases h; rfl
  | .ty n, _, h => by cases h; rfl
theorem relV_one {x y : V} {u : Value} (h : L2.RelV x u) (g : L2.RelV y u) : x = y := (relV_un h).trans (relV_un g).symm
theorem Rl.toG {pins : List (Addr × Obj)} {s : Shared} (K : ClOk X cl) (I : L2.Inv X pins σ H s) (R : Rl W w cl ι env S σ H) : Rg W w ι S (addF (cellsAt cl σ s.heap) H) := by
  have C := cells_of K I
  refine ⟨fun n o e => ?_, R.inj, R.tab.kp C.kp fun P ps e => C.up e⟩
  refine (R.ob n o e).stayW (Nat.le_refl _) (fun _ _ => rfl) C.kp.weak (List.getElem?_eq_some_iff.mp e).1 (fun u h _ => C.up h) (fun dx h => C.up h) fun a v ⟨y, r, q⟩ => ⟨y, r.mono (Nat.le_refl _) (fun _ _ => rfl) C.kp, .inr ?_⟩
  rcases q with (⟨i, h1, h2⟩ | ⟨o, z, h1, h2, h3⟩) | ⟨o, z, h1, h2, h3⟩
  · obtain ⟨o, z, h3, h4, h5⟩ := cell_at K I h1 h2
    exact ⟨o, z, addF_in (by rw [cellsAt_of K I h1 h2]; exact h3), h4, h5⟩
  · exact ⟨o, z, addF_in (cellsAt_cap h1), h2, h3⟩
  · exact ⟨o, z, C.up h1, h2, h3⟩
theorem held_of {pins : List (Addr × Obj)} {s : Shared} (K : ClOk X cl) (I : L2.Inv X pins σ H s) (k : Kp (addF (cellsAt cl σ s.heap) H) H') : Held (cellsAt cl σ s.heap) H' := Held.of (cells_of K I) k.frz
theorem fw_back {pins : List (Addr × Obj)} {s : Shared} (K : ClOk X cl) (I : L2.Inv X pins σ H s) (f : Fw ι S (addF (cellsAt cl σ s.heap) H) ι' S' H') : Fw ι S H ι' S' (remF (cellsAt cl σ s.heap) H') :=
  ⟨f.le, f.ag, kp_back (cells_of K I) f.kp⟩
theorem Rg.toL {pins : List (Addr × Obj)} {s : Shared} (K : ClOk X cl) (I : L2.Inv X pins σ H s) (G : Rg W w ι' S' H') (R : Rl W w cl ι env S σ H) (f : Fw ι S (addF (cellsAt cl σ s.heap) H) ι' S' H') : Rl W w cl ι' env S' σ (remF (cellsAt cl σ s.heap) H') := by
  have hd := held_of K I f.kp
  have f' := fw_back K I f
  refine ⟨R.len, fun i v hi e => let ⟨y, a, b⟩ := R.slot i v hi e; ⟨y, a, b.mono f'.le f'.ag f'.kp⟩, R.cs, fun n o e => ?_, G.inj, G.tab.kpw hd.kpw fun P ps e => hd.keep e fun o z => (nomatch z)⟩
  refine (G.ob n o e).stayW (Nat.le_refl _) (fun _ _ => rfl) hd.kpw (List.getElem?_eq_some_iff.mp e).1 (fun u h nn => ?_) (fun dx h => hd.keep h fun o z => (nomatch z)) fun a v ⟨y, r, q⟩ => ⟨y, r.monoW (Nat.le_refl _) (fun _ _ => rfl) hd.kpw, ?_⟩
  · cases q : cellsAt cl σ s.heap (ι' n) with
    | none => rw [remF_out q]; exact h
    | some o =>
      rw [hd.at_ _ o q] at h
      cases h
      obtain ⟨v, hv⟩ := hd.cell _ o q
      exact absurd hv (nn.1 o rfl v)
  · rcases q with q | ⟨o, z, h1, h2, h3⟩
    · exact q.elim
    · cases q : cellsAt cl σ s.heap a with
      | none => exact .inr ⟨o, z, by rw [remF_out q]; exact h1, h2, h3⟩
      | some o' =>
        rw [hd.at_ a o' q] at h1
        cases h1
        rcases cellsAt_in q with q | ⟨⟨i, y', c1, c2⟩, c3⟩
        · exact .inl (.inr ⟨_, z, q, h2, h3⟩)
        · obtain ⟨o2, z2, d1, d2, d3⟩ := cell_at K I c1 c2
          rw [c3] at d1; cases d1
          rw [h2] at d2; cases d2
          cases relV_one h3 d3
          exact .inl (.inl ⟨i, c1, c2⟩)
theorem RX.back {c : Addr → Option Obj} {k : Nat} {fs : List Val} {cls : Value} {d : Option Addr} {N : Nat} (hd : Held c H) (h : RX W ι N H k fs cls d) : RX W ι N (remF c H) k fs cls d := by
  obtain ⟨C, e, m, q, hq, hx, h⟩ := h
  refine ⟨C, e, m, q, hq, hx, ?_⟩
  cases d with
  | none => exact h
  | some d =>
    obtain ⟨ys, r, l, z⟩ := h
    exact ⟨ys, r.monoW (Nat.le_refl _) (fun _ _ => rfl) hd.kpw, l, hd.keep z fun o z => (nomatch z)⟩
abbrev qB (c : Addr → Option Obj) (Q : VK) : VK := fun y H' => Q y (remF c H')
abbrev eB (c : Addr → Option Obj) (E : XK) : XK := fun k d H' => E k d (remF c H')
theorem call_in {pins : List (Addr × Obj)} {s : Shared} (K : ClOk X cl) (I : L2.Inv X pins σ H s) (R : Rl W w cl ι env S σ H) {r : Res Val} {Q : VK} (g : Gs W w cl EX (rv W) ι env S σ H r Q) :
    GsG W w ι S (addF (cellsAt cl σ s.heap) H) r (qB (cellsAt cl σ s.heap) Q) (eB (cellsAt cl σ s.heap) (WE EX σ)) := by
  cases r with
  | ok a S' => exact fun ι' H' y f G r => g ι' _ y (fw_back K I f) (G.toL K I R f) (r.monoW (Nat.le_refl _) (fun _ _ => rfl) (held_of K I f.kp).kpw)
  | ex c fs S' => exact fun ι' H' cls d f G r => g ι' _ cls d (fw_back K I f) (G.toL K I R f) (r.back (held_of K I f.kp))
  | no => exact g
end
structure FnAt (W : Wd) (X : Cx) (k : Nat) (C : Orc) (f : Nat) (d : Fn) : Prop where
  ex : ∃ (fd : FuncData) (ps : List Str), L2.Binds X.K fd ps [] ∧ ps.length = d.arity ∧ FnG X.prog X.w X.K X.mg X.base k (W.fa f) fd ps (spG W X.w d.arity fun as S => C f as [] S)
def ArOk (W : Wd) (C : Orc) : Prop := ∀ f d vs S, W.P.fn f = some d → (∀ r, C f vs [] S = r → (match r with | .no => False | _ => True) → vs.length = d.arity)
section
variable {W : Wd} {w : World} {X : Cx} {cl : FC} {EX : WX} {k : Nat} {C : Orc}
theorem run_fnG {sp : Sp} {f : Addr} {fd : FuncData} {ps : List Str} {pins : List (Addr × Obj)} {σ : L2.St} {H : Hp} {s : Shared} {Q : VK} {us : List Value} {vs : List V} {A : Around} {E : XK} (F : FnG X.prog X.w X.K X.mg X.base k f fd ps sp) (hA : A.frames = X.A.frames) (hr : RoomG k A) (hb : L2.Binds X.K fd ps [])
    (hx : PassesAt (L2.CX X.prog X.w) X σ E) (O : ClOk X cl) (I : L2.Inv X pins σ H s) (r : Vals vs us) (h : sp vs (addF (cellsAt cl σ s.heap) H) (qB (cellsAt cl σ s.heap) Q) (eB (cellsAt cl σ s.heap) E)) : wpAny (model X.prog X.w) A (call (.ref f) us) (EP X pins σ Q) X.xe s := by
  have hl : (us ++ []).length = ps.length := by rw [List.append_nil, ← r.length]; exact F.len _ _ _ _ h
  have hb' := hb s us I.kIn hl
  rw [List.append_nil] at hb'
  refine wpAny_call (codeAny_mono (F.run A X.stack s _ ⟨us, []⟩ us vs _ _ hr (env0_held O I hA) hb' r h) fun r s' hq => ?_)
  cases r with
  | error e => exact hx pins H s e s' I (cx_back (cells_of O I) hq fun _ _ _ _ e => e)
  | ok fl =>
    cases fl with
    | ret u => exact I.after (ce_back (cells_of O I) hq fun _ _ _ _ q => q)
    | next => exact False.elim hq
    | brk => exact False.elim hq
    | cont => exact False.elim hq
theorem run_f {f : Nat} {d : Fn} {pins : List (Addr × Obj)} {σ : L2.St} {H : Hp} {s : Shared} {Q : VK} {us : List Value} {vs : List V} {A : Around} {ι : Nat → Addr} {env : Env} {S : Store} {as : List Val} (hw : X.w = w) (F : FnAt W X k C f d) (hd : W.P.fn f = some d) (ar : ArOk W C) (hA : A.frames = X.A.frames) (hr : RoomG k A)
    (hx : PassesAt (L2.CX X.prog X.w) X σ (WE EX σ)) (O : ClOk X cl) (I : L2.Inv X pins σ H s) (r : Vals vs us) (R : Rl W w cl ι env S σ H) (ra : RVs W ι S.length H as vs) (g : Gs W w cl EX (rv W) ι env S σ H (C f as [] S) Q) :
    wpAny (model X.prog X.w) A (call (.ref (W.fa f)) us) (EP X pins σ Q) X.xe s := by
  subst hw
  obtain ⟨fd, ps, hb, hl, FG⟩ := F.ex
  refine run_fnG FG hA hr hb hx O I r ⟨ι, S, as, R.toG O I, ra.mono (Nat.le_refl _) (fun _ _ => rfl) (cells_of O I).kp, ?_, call_in O I R g⟩
  refine ar f d as S hd _ rfl ?_
  cases e : C f as [] S with
  | ok a S' => trivial
  | ex c fs S' => trivial
  | no => rw [e] at g; exact g
def spC (W : Wd) (w : World) (f : Nat) (d : Fn) (C : Orc) (a : Addr) : Sp := fun vs H Q E => ∃ ι S as n cs, Rg W w ι S H ∧ S[n]? = some (.clo f cs) ∧ ι n = a ∧ RVs W ι S.length H as vs ∧ as.length = d.arity ∧ GsG W w ι S H (C f as cs S) Q E
structure CloG (P : Program) (w : World) (W : Wd) (base : Heap) (k : Nat) (f : Nat) (d : Fn) (C : Orc) : Prop where
  run : ∀ (A : Around) (outer : List PySem.Env) (s : Shared) (H : Hp) (a : Addr) (us : List Value) (vs : List V) (Q : VK) (E : XK), RoomG k A → Env0 P w W.K W.mg base A outer s H → Vals vs us → spC W w f d C a vs H Q E →
    codeAny (model P w) A (.call (.ref a) ⟨us, []⟩) (CR (L2.CX P w) outer P w H s Q E) s
theorem run_clo {w : World} {ι : Nat → Addr} {H : Hp} {X : Cx} {fc : FC} {EX : WX} {k f n : Nat} {d : Fn} {C : Orc} {pins : List (Addr × Obj)} {σ : L2.St} {s : Shared} {Q : VK} {us : List Value} {xs : List V} {A : Around} {env : Env} {S : Store} {as cs : List Val} (hw : X.w = w) (hK : X.K = W.K) (hmg : X.mg = W.mg) (F : CloG X.prog X.w W X.base k f d C)
    (ar : ∀ as cs S, C f as cs S ≠ .no → as.length = d.arity) (hA : A.frames = X.A.frames) (hr : RoomG k A) (hx : PassesAt (L2.CX X.prog X.w) X σ (WE EX σ)) (O : ClOk X fc) (I : L2.Inv X pins σ H s) (r : Vals xs us) (R : Rl W w fc ι env S σ H) (hn : S[n]? = some (.clo f cs)) (ra : RVs W ι S.length H as xs)
    (g : Gs W w fc EX (rv W) ι env S σ H (C f as cs S) Q) : wpAny (model X.prog X.w) A (call (.ref (ι n)) us) (EP X pins σ Q) X.xe s := by
  subst hw
  have e0 := env0_held O I hA
  rw [hK, hmg] at e0
  have al : as.length = d.arity := ar as cs S fun z => by rw [z] at g; exact g
  refine wpAny_call (codeAny_mono (F.run A X.stack s _ (ι n) us xs (qB (cellsAt fc σ s.heap) Q) (eB (cellsAt fc σ s.heap) (WE EX σ)) hr e0 r ⟨ι, S, as, n, cs, R.toG O I, hn, rfl, ra.mono (Nat.le_refl _) (fun _ _ => rfl) (cells_of O I).kp, al, call_in O I R g⟩) fun r s' hq => ?_)
  cases r with
  | error e => exact hx pins H s e s' I (cx_back (cells_of O I) hq fun _ _ _ _ e => e)
  | ok fl =>
    cases fl with
    | ret u => exact I.after (ce_back (cells_of O I) hq fun _ _ _ _ q => q)
    | next => exact False.elim hq
    | brk => exact False.elim hq
    | cont => exact False.elim hq
structure Calls (W : Wd) (w : World) (X : Cx) (cl : FC) (EX : WX) (k : Nat) (C : Orc) : Prop where
  ok : ClOk X cl
  w : X.w = w
  ar : ArOk W C
  fn : ∀ f d, W.P.fn f = some d → W.md f = true → FnAt W X k C f d
  clo : ∀ f d, W.P.fn f = some d → CloG X.prog X.w W X.base k f d C
  cloA : ∀ f d, W.P.fn f = some d → ∀ as cs S, C f as cs S ≠ .no → as.length = d.arity
  cloF : ∀ f cs vs S, C f vs cs S ≠ .no → ∃ d, W.P.fn f = some d
  room : RoomG (k + 2) X.A
  px : ∀ σ : L2.St, PassesAt (L2.CX X.prog X.w) X σ (WE EX σ)
def plainArgs : List Expr → Bool
  | [] => true
  | .Starred .. :: _ => false
  | _ :: r => plainArgs r
theorem star_nil {env : PySem.Env} : starEach [] env = [] := rfl
theorem star_cons {e : Expr} {es : List Expr} {env : PySem.Env} (h : plainArgs (e :: es) = true) : starEach (e :: es) env = (false, eval e env) :: starEach es env := by
  cases e <;> first | rfl | exact nomatch h
theorem plain_tail {e : Expr} {es : List Expr} (h : plainArgs (e :: es) = true) : plainArgs es = true := by
  cases e <;> first | exact h | exact nomatch h
theorem plain_any {pos : Pos} {env : PySem.Env} : ∀ {es : List Expr}, plainArgs es = true → (backTo pos (starEach es env)).any (·.1) = false
  | [], _ => rfl
  | e :: es, h => by
    rw [star_cons h]
    have ih := plain_any (pos := pos) (env := env) (plain_tail h)
    show (List.map _ (_ :: _)).any _ = false
    rw [List.map_cons, List.any_cons]
    exact ih
section
variable {W : Wd} {w : World} {X : Cx} {cl : FC} {EX : WX} {k : Nat} {C : Orc}
theorem a_nil {f : Env → M (List Val)} (hf : ∀ env S, f env S = .ok [] S) : PA X [] (tG W w cl EX (rvs W) f) :=
  PA_imp pa_nil fun σ H Q ⟨ι, env, S, R, g⟩ => by
    rw [hf] at g
    exact g.here R rfl
theorem a_cons {e : Expr} {es : List Expr} {pe : Env → M Val} {ps : Env → M (List Val)} (hp : plainArgs (e :: es) = true) (he : PE X e (tG W w cl EX (rv W) pe)) (hs : PA X es (tG W w cl EX (rvs W) ps)) :
    PA X (e :: es) (tG W w cl EX (rvs W) (fun env => pe env >>= fun v => ps env >>= fun vs => pure (v :: vs))) :=
  PA_imp (pa_cons he hs (star_cons hp)) fun σ H Q h => by
    obtain ⟨ι, env, S, R, g⟩ := tG.bind h
    refine ⟨ι, env, S, R, g.mono fun y H1 ⟨ι1, S1, a, f1, R1, ra, g1⟩ => ?_⟩
    refine ⟨ι1, env, S1, R1, (Gs.bind g1).mono fun ys H2 ⟨ι2, S2, as, f2, R2, rs, g2⟩ => ?_⟩
    exact g2.here R2 ⟨y, ys, rfl, ra.mono f2.le f2.ag f2.kp, rs⟩
theorem e_call0 (K : Calls W w X cl EX k C) {f : Nat} {d : Fn} {p pos : Pos} (hd : W.P.fn f = some d) (hmd : W.md f = true) (hm : X.mg (W.nm.gn f) = some (.ref (W.fa f))) (hk : PySem.W.keepIn X.K (.ref (W.fa f)) = true) (hg : Gl X (W.nm.gn f)) (hdb : (W.nm.gn f == ("__debug__" : Str)) = false) :
    PE X (.Call (.Name (W.nm.gn f) p) [] [] pos) (tG W w cl EX (rv W) (fun env => fun S => C f [] [] S)) := by
  refine ⟨fun pins s σ H Q I ⟨ι, env, S, R, g⟩ => ?_⟩
  refine wpAny_Call_Name_kw (ld_glob I hg hm ?_ hdb)
  exact PySem.W.callWith_K0 I.kIn hk (run_f (us := []) (vs := []) K.w (K.fn f d hd hmd) hd K.ar rfl (K.room.mono (by omega)) (K.px σ) K.ok I .nil R (show RVs W ι S.length H [] [] from rfl) g)
theorem e_call (K : Calls W w X cl EX k C) {f : Nat} {d : Fn} {e : Expr} {es : List Expr} {pe : Env → M (List Val)} {p pos : Pos} (hd : W.P.fn f = some d) (hmd : W.md f = true) (hm : X.mg (W.nm.gn f) = some (.ref (W.fa f))) (hk : PySem.W.keepIn X.K (.ref (W.fa f)) = true) (hg : Gl X (W.nm.gn f)) (hdb : (W.nm.gn f == ("__debug__" : Str)) = false)
    (hp : plainArgs (e :: es) = true) (ha : PA X (e :: es) (tG W w cl EX (rvs W) pe)) : PE X (.Call (.Name (W.nm.gn f) p) (e :: es) [] pos) (tG W w cl EX (rv W) (fun env => pe env >>= fun vs => fun S => C f vs [] S)) := by
  refine ⟨fun pins s σ H Q I h => ?_⟩
  obtain ⟨ι, env, S, R, g⟩ := tG.bind h
  refine wpAny_Call_Name_kw (ld_glob I hg hm ?_ hdb)
  refine PySem.W.callWith_K (h₀ := X.base) I.ok.mod.kin hk (thn (ha.run pos pins s σ H _ I ⟨ι, env, S, R, g⟩) fun us s1 ⟨vs, H1, I1, r, ι1, S1, as, f1, R1, ra, g1⟩ => ⟨I1.kIn, ?_⟩) (star_cons hp) (plain_any (plain_tail hp))
  exact run_f K.w (K.fn f d hd hmd) hd K.ar rfl (K.room.mono (by omega)) (K.px σ) K.ok I1 r R1 ra g1
theorem clo_at {n f : Nat} {cs : List Val} {ι : Nat → Addr} {env : Env} {S : Store} {σ : L2.St} {H : Hp} {s : Shared} {pins : List (Addr × Obj)} (I : L2.Inv X pins σ H s) (R : Rl W w cl ι env S σ H) (hn : S[n]? = some (.clo f cs)) : PySem.W.FnAt (ι n) s.heap ∧ ∃ In, W.inn f In := by
  obtain ⟨In, c, c', h1, ⟨o, od, osl, doc, pm, ctv, h2, ho⟩, _⟩ := R.ob n _ hn
  have h := (I.hok _ _ h2).1
  rw [ho] at h
  exact ⟨⟨_, _, _, _, h⟩, In, h1⟩
theorem isClo_bind {α : Type} {x : Val} {k : Unit → M α} {S : Store} {P : Res α → Prop} (g : P ((isClo x >>= k) S)) (hno : ¬ P .no) : ∃ n f cs, x = .loc n ∧ S[n]? = some (.clo f cs) ∧ P (k () S) := by
  rw [bind_ap] at g
  cases x with
  | loc n =>
    have e : isClo (.loc n) S = (match S[n]? with | some (.clo _ _) => .ok () S | _ => .no) := rfl
    rw [e] at g
    cases hn : S[n]? with
    | none => rw [hn] at g; exact absurd g hno
    | some o =>
      rw [hn] at g
      cases o with
      | clo f cs => exact ⟨n, f, cs, rfl, hn, g⟩
      | _ => exact absurd g hno
  | _ => exact absurd g hno
theorem callV_ok {n : Nat} {vs : List Val} {S : Store} {P : Res Val → Prop} (g : P (callV C (.loc n) vs S)) (hno : ¬ P .no) : ∃ f cs, S[n]? = some (.clo f cs) ∧ P (C f vs cs S) := by
  have e : callV C (.loc n) vs S = (match S[n]? with | some (.clo f cs) => C f vs cs S | _ => .no) := rfl
  rw [e] at g
  cases hn : S[n]? with
  | none => rw [hn] at g; exact absurd g hno
  | some o =>
    rw [hn] at g
    cases o with
    | clo f cs => exact ⟨f, cs, rfl, g⟩
    | _ => exact absurd g hno
theorem e_callv (hK : X.K = W.K) (hmg : X.mg = W.mg) (Cl : Calls W w X cl EX k C) {x : Str} {e : Expr} {es : List Expr} {pa : Env → M Val} {pe : Env → M (List Val)} {p pos : Pos} (hx : PE X (.Name x p) (tG W w cl EX (rv W) pa))
    (hp : plainArgs (e :: es) = true) (ha : PA X (e :: es) (tG W w cl EX (rvs W) pe)) : PE X (.Call (.Name x p) (e :: es) [] pos) (tG W w cl EX (rv W) (fun env => pa env >>= fun v => isClo v >>= fun _ => pe env >>= fun vs => callV C v vs)) := by
  refine ⟨fun pins s σ H Q I h => ?_⟩
  obtain ⟨ι, env, S, R, g⟩ := tG.bind h
  refine wpAny_Call_Name_kw (thn (hx.run pins s σ H _ I ⟨ι, env, S, R, g⟩) fun u s1 ⟨v, H1, I1, r1, ι1, S1, a, f1, R1, ra, g1⟩ => ?_)
  obtain ⟨n, f, cs, e1, hn, g1⟩ := isClo_bind (P := fun r => Gs W w cl EX (rv W) ι1 env S1 σ H1 r Q) g1 (fun z => z)
  subst e1
  obtain ⟨hlt, e2⟩ := ra
  subst e2
  cases r1
  refine PySem.W.callWith_F (first := []) (clo_at I1 R1 hn).1 (thn (ha.run pos pins s1 σ H1 _ I1 ⟨ι1, env, S1, R1, Gs.bind g1⟩) fun us s2 ⟨vs, H2, I2, r, ι2, S2, as, f2, R2, rs, g2⟩ => ?_) (star_cons hp) (plain_any (plain_tail hp))
  obtain ⟨f', cs', hn2, g3⟩ := callV_ok (P := fun r => Gs W w cl EX (rv W) ι2 env S2 σ H2 r Q) g2 (fun z => z)
  obtain ⟨fa, In, hin⟩ := clo_at I2 R2 hn2
  rw [f2.ag n hlt] at fa
  refine ⟨fa, ?_⟩
  obtain ⟨d, hd⟩ := Cl.cloF f' cs' as S2 fun z => by rw [z] at g3; exact g3
  have main := run_clo Cl.w hK hmg (Cl.clo f' d hd) (Cl.cloA f' d hd) rfl (Cl.room.mono (by omega)) (Cl.px σ) Cl.ok I2 r R2 hn2 rs g3
  rw [f2.ag n hlt] at main
  exact main
theorem e_callv0 (hK : X.K = W.K) (hmg : X.mg = W.mg) (Cl : Calls W w X cl EX k C) {x : Str} {pa : Env → M Val} {p pos : Pos} (hx : PE X (.Name x p) (tG W w cl EX (rv W) pa)) :
    PE X (.Call (.Name x p) [] [] pos) (tG W w cl EX (rv W) (fun env => pa env >>= fun v => isClo v >>= fun _ => callV C v [])) := by
  refine ⟨fun pins s σ H Q I h => ?_⟩
  obtain ⟨ι, env, S, R, g⟩ := tG.bind h
  refine wpAny_Call_Name_kw (thn (hx.run pins s σ H _ I ⟨ι, env, S, R, g⟩) fun u s1 ⟨v, H1, I1, r1, ι1, S1, a, f1, R1, ra, g1⟩ => ?_)
  obtain ⟨n, f, cs, e1, hn, g1⟩ := isClo_bind (P := fun r => Gs W w cl EX (rv W) ι1 env S1 σ H1 r Q) g1 (fun z => z)
  subst e1
  obtain ⟨hlt, e2⟩ := ra
  subst e2
  cases r1
  obtain ⟨f', cs', hn2, g3⟩ := callV_ok (P := fun r => Gs W w cl EX (rv W) ι1 env S1 σ H1 r Q) g1 (fun z => z)
  obtain ⟨fa, In, hin⟩ := clo_at I1 R1 hn2
  refine PySem.W.callWith_F0 (first := []) fa ?_
  obtain ⟨d, hd⟩ := Cl.cloF f' cs' [] S1 fun z => by rw [z] at g3; exact g3
  exact run_clo Cl.w hK hmg (Cl.clo f' d hd) (Cl.cloA f' d hd) rfl (Cl.room.mono (by omega)) (Cl.px σ) Cl.ok I1 (us := []) (xs := []) .nil R1 hn2 (show RVs W ι1 S1.length H1 [] [] from rfl) g3
structure NewF (W : Wd) (c : Nat) (k : Cl) (C : Addr) (f : Nat) : Prop where
  mkr : L2.Mk W.K C (W.fa f)
  cl : W.P.cl c = some k
  ex : k.exc = false
  mg : W.mg (W.nm.cn c) = some (.ref C)
  init : k.init = some f
  md : W.md f = true
theorem newV_ap {k : Cl} {c f : Nat} {vs : List Val} {S : Store} {C : Orc} (h1 : W.P.cl c = some k) (h2 : k.exc = false) (h3 : k.init = some f) : newV W.P C c vs S = (match C f (.loc S.length :: vs) [] (S ++ [.ins c []]) with
    | .ok .non S' => .ok (.loc S.length) S'
    | .ok _ _ => .no
    | .ex k fs S' => .ex k fs S'
    | .no => .no) := by
  unfold newV
  rw [h1]
  dsimp only
  rw [h2, h3]
  rfl
theorem run_new {c f : Nat} {q : Cl} {Ca : Addr} {d : Fn} (K : Calls W w X cl EX k C) (hK : X.K = W.K) (hmg : X.mg = W.mg) (NF : NewF W c q Ca f) (hd : W.P.fn f = some d) {pins : List (Addr × Obj)} {σ : L2.St} {H : Hp} {s : Shared} {Q : VK} {us : List Value} {vs : List V} {ι : Nat → Addr} {env : Env} {S : Store} {as : List Val}
    (I : L2.Inv X pins σ H s) (r : Vals vs us) (R : Rl W w cl ι env S σ H) (ra : RVs W ι S.length H as vs) (g : Gs W w cl EX (rv W) ι env S σ H (newV W.P C c as S) Q) :
    wpAny (model X.prog X.w) X.A (call (.ref Ca) us) (EP X pins σ Q) X.xe s := by
  rw [newV_ap NF.cl NF.ex NF.init] at g
  have hw := K.w
  subst hw
  obtain ⟨fd, ps, hb, hl, FG⟩ := (K.fn f d hd NF.md).ex
  have I2 := Inv.made (C := Ca) I
  let x := s.heap.objs.size + 1
  let dx := s.heap.objs.size
  have hx : H x = none := I.hok.fresh (Nat.le_succ _)
  have hdx : H dx = none := I.hok.fresh (Nat.le_refl _)
  have hne : dx ≠ x := Nat.ne_of_lt (Nat.lt_succ_self _)
  let H1 := upd (upd H dx (.own x)) x (.ins Ca dx [])
  have up : ∀ b u, H b = some u → H1 b = some u := fun b u e => by
    show upd (upd H dx (.own x)) x _ b = _
    rw [upd_ne (ne_of_none e hx), upd_ne (ne_of_none e hdx)]; exact e
  have kp : Kp H H1 := ⟨fun b xs e => up b _ e, fun b o u e => up b _ e⟩
  have hlen : (S ++ [Ob.ins c []]).length = S.length + 1 := by simp
  have ag : ∀ n, n < S.length → newι ι S.length x n = ι n := fun n h => newι_old h
  have new : RO W X.w (newι ι S.length x) (S.length + 1) H1 (vwOf cl σ) S.length (.ins c []) := by
    refine ⟨q, Ca, dx, [], NF.cl, NF.ex, fun p hp => absurd hp (by simp), ?_, ?_, NF.mg, rfl⟩
    · rw [newι_new]; exact upd_same
    · rw [newι_new]
      show upd (upd H dx (.own x)) x _ dx = _
      rw [upd_ne hne]; exact upd_same
  have R1 : Rl W X.w cl (newι ι S.length x) env (S ++ [.ins c []]) σ H1 := R.alloc kp up hx new
  have f1 : Fw ι S H (newι ι S.length x) (S ++ [.ins c []]) H1 := ⟨by rw [hlen]; exact Nat.le_succ _, ag, kp⟩
  have r2 : Vals (V.ref x :: vs) (Value.ref x :: us) := .cons rfl r
  have ra2 : RVs W (newι ι S.length x) (S ++ [Ob.ins c []]).length H1 (.loc S.length :: as) (V.ref x :: vs) := by
    rw [hlen]
    exact ⟨_, _, rfl, ⟨Nat.lt_succ_self _, by rw [newι_new]⟩, ra.mono (Nat.le_succ _) ag kp⟩
  let Q' : VK := fun v H2 => v = .non ∧ Q (.ref x) H2
  let c2 := cellsAt cl σ ((s.heap.push PySem.W.emptyDict).push (PySem.W.instObj Ca s.heap.objs.size))
  have hq : spG W X.w d.arity (fun as S => C f as [] S) (V.ref x :: vs) (addF c2 H1) (qB c2 Q') (eB c2 (WE EX σ)) := by
    refine ⟨newι ι S.length x, S ++ [.ins c []], .loc S.length :: as, R1.toG K.ok I2, ra2.mono (Nat.le_refl _) (fun _ _ => rfl) (cells_of K.ok I2).kp, ?_, ?_⟩
    · refine K.ar f d _ (S ++ [.ins c []]) hd _ rfl ?_
      cases e : C f (.loc S.length :: as) [] (S ++ [.ins c []]) with
      | ok a S' => trivial
      | ex c fs S' => trivial
      | no => rw [e] at g; exact g
    · show GsG W X.w (newι ι S.length x) (S ++ [.ins c []]) (addF c2 H1) (C f (.loc S.length :: as) [] (S ++ [.ins c []])) (qB c2 Q') (eB c2 (WE EX σ))
      cases e : C f (.loc S.length :: as) [] (S ++ [.ins c []]) with
      | no => rw [e] at g; exact g
      | ex c' fs S' =>
        rw [e] at g
        exact fun ι' H' cls d f2 G rx => g ι' _ cls d (f1.trans (fw_back K.ok I2 f2)) (G.toL K.ok I2 R1 f2) (rx.back (held_of K.ok I2 f2.kp))
      | ok a S' =>
        rw [e] at g
        cases a with
        | non =>
          intro ι' H' y f2 G ry
          refine ⟨ry, g ι' _ (.ref x) (f1.trans (fw_back K.ok I2 f2)) (G.toL K.ok I2 R1 f2) ⟨?_, ?_⟩⟩
          · have := f2.le; rw [hlen] at this; omega
          · rw [f2.ag S.length (by rw [hlen]; exact Nat.lt_succ_self _), newι_new]
        | _ => exact g.elim
  have hl' : (Value.ref x :: us).length = ps.length := by rw [← r2.length]; exact FG.len _ _ _ _ hq
  have hb' := hb { s with heap := (s.heap.push PySem.W.emptyDict).push (PySem.W.instObj Ca s.heap.objs.size) } (Value.ref x :: us) I2.kIn (by rw [List.append_nil]; exact hl')
  rw [List.append_nil] at hb'
  have M := NF.mkr
  rw [← hK] at M
  refine wpAny_call (make_map (f := W.fa f) I.kIn M.makes M.init (beq_iff_eq.mp M.fn) (codeAny_mono (FG.run _ X.stack _ _ ⟨Value.ref x :: us, []⟩ (Value.ref x :: us) _ _ _ ((K.room.mono (by omega) : RoomG (k + 1) X.A).make Ca us [])
    ((env0_held K.ok I2 rfl).make Ca us []) hb' r2 hq) fun r s' hq' => ?_))
  cases r with
  | error e => exact K.px σ pins _ _ e s' I2 (cx_back (cells_of K.ok I2) hq' fun _ _ _ _ e => e)
  | ok fl =>
    cases fl with
    | ret u =>
      obtain ⟨v, H', I3, rv, ev, q3⟩ := I2.after (ce_back (Q := Q') (cells_of K.ok I2) hq' fun _ _ _ _ q => q)
      subst ev
      exact ⟨rv, ⟨V.ref x, H', I3, rfl, q3⟩⟩
    | next => exact False.elim hq'
    | brk => exact False.elim hq'
    | cont => exact False.elim hq'
theorem e_new (G : Good W w X) (K : Calls W w X cl EX k C) {c f : Nat} {q : Cl} {Ca : Addr} {d : Fn} (NF : NewF W c q Ca f) (hd : W.P.fn f = some d) {e : Expr} {es : List Expr} {pe : Env → M (List Val)} {p pos : Pos} (hg : Gl X (W.nm.cn c)) (hdb : (W.nm.cn c == ("__debug__" : Str)) = false)
    (hp : plainArgs (e :: es) = true) (ha : PA X (e :: es) (tG W w cl EX (rvs W) pe)) : PE X (.Call (.Name (W.nm.cn c) p) (e :: es) [] pos) (tG W w cl EX (rv W) (fun env => pe env >>= fun vs => newV W.P C c vs)) := by
  refine ⟨fun pins s σ H Q I h => ?_⟩
  obtain ⟨ι, env, S, R, g⟩ := tG.bind h
  refine wpAny_Call_Name_kw (ld_glob I hg (by rw [G.mg]; exact NF.mg) ?_ hdb)
  refine PySem.W.callWith_K (h₀ := X.base) I.ok.mod.kin (by rw [G.K]; exact NF.mkr.kp) (thn (ha.run pos pins s σ H _ I ⟨ι, env, S, R, g⟩) fun us s1 ⟨vs, H1, I1, r, ι1, S1, as, f1, R1, ra, g1⟩ => ⟨I1.kIn, ?_⟩) (star_cons hp) (plain_any (plain_tail hp))
  exact run_new K G.K G.mg NF hd I1 r R1 ra g1
end
end
end Pyd
set_option Elab.async false
set_option linter.all false
set_option maxRecDepth 100000
set_option maxHeartbeats 1000000
namespace Pyd
open PySem PySem.Spec PyProof.Rows L2
section
variable {prog : Program} {w : World} {A : Around} {E : Value → Shared → Prop} {s : Shared} {K : PySem.W.Frag} {x C f : Addr} {ox : Obj} {od : Option Obj} {b tb : Value}
theorem ne_entry (X : K.In s.heap) (I : PySem.W.InstAt s.heap x ox C od) (hs : PySem.W.findIn K (.ref C) "__eq__" = some (some (.ref f))) (hf : PySem.W.isFn K (.ref f) = true) (hu : A.units < cLine) {Q : Fin → Shared → Prop}
    (h : wpAny (model prog w) A (call (.ref f) [.ref x, b]) (fun v s' => ∃ r, v = .bool r ∧ Q (.done (.ret (.bool (!r)))) s') E s) : wpAny (model prog w) A (Builtin.«object.__ne__» ⟨[.ref x, b], []⟩) Q E s := by
  unfold Builtin.«object.__ne__»
  repeat (first
    | with_reducible refine wpAny_cRoomFor hu ?_
    | (refine wpAny_bind (m := callSpecialIfBound? (.ref x) (Str.ofString "__eq__") [b])
        (PySem.W.ifBound_K X I hs hf (wpAny_mono h (fun r s' hr => by
          obtain ⟨b, rfl, hq⟩ := hr
          repeat (first | exact hq | exact wpAny_pure hq | exact wpAny_truthy_bool hq | (refine wpAny_bind (m := truthy (.bool _)) (wpAny_truthy_bool ?_)) | wp_step)) fun _ _ e => e)))
    | wp_step)
theorem ifBound_ne {args : List Value} {Q : Option Value → Shared → Prop} (X : K.In s.heap) (I : PySem.W.InstAt s.heap x ox C od) (hs : PySem.W.findIn K (.ref C) "__ne__" = some (some (.builtin "object.__ne__")))
    (h : wpAny (model prog w) A (call (.builtin "object.__ne__") (.ref x :: args)) (fun v => Q (some v)) E s) : wpAny (model prog w) A (callSpecialIfBound? (.ref x) "__ne__" args) Q E s := by
  simp only [callSpecialIfBound?, bindSpecialIfBound?]
  refine wpAny_holding (wpAny_bind (wpAny_bind (wpAny_bind (I.type.here ((PySem.W.looks_findIn X hs).here ?_)))))
  refine wpAny_bind (wpAny_askSetting (wpAny_ite ?_))
  have fin : wpAny (model prog w) A (call (.builtin "object.__ne__") ([.ref x] ++ args) >>= fun v => pure (some v)) Q E s := wpAny_bind (wpAny_mono h (fun v s' h' => wpAny_pure h') fun _ _ h' => h')
  split
  · exact wpAny_bind (wpAny_of_eq (F.cmp_object.ne.bind _) (wpAny_pure (by exact fin)))
  · exact wpAny_tryCatch (wpAny_bind (wpAny_of_eq (F.cmp_object.ne.bind _) (wpAny_pure (by exact fin))))
theorem rc_ne {Q : Value → Shared → Prop} (hu : A.units + 1 < cLine) (X : K.In s.heap) (I : PySem.W.InstAt s.heap x ox C od) (hm : PySem.W.mroIn K C (.type "object") = some true) (hb : PySem.W.Looks (model prog w) s.heap (typeOf b) tb) (hn : PySem.W.notFirst K C tb = true)
    (hs : PySem.W.findIn K (.ref C) "__ne__" = some (some (.builtin "object.__ne__"))) (he : PySem.W.findIn K (.ref C) "__eq__" = some (some (.ref f))) (hf : PySem.W.isFn K (.ref f) = true)
    (h : wpAny (model prog w) A.in1 (call (.ref f) [.ref x, b]) (fun v s' => ∃ r, v = .bool r ∧ Q (.bool (!r)) s') E s) : wpAny (model prog w) A (richCompare .NotEq (.ref x) b) Q E s := by
  have one : wpAny (model prog w) A (tryCompare (.ref x) "__ne__" b) (fun r s' => ∃ v, r = some v ∧ Q v s') E s := by
    unfold tryCompare
    refine wpAny_bind (ifBound_ne X I hs (wpAny_call (codeAny_call_builtin F.cmp_object.ne.plain F.cmpEntry_ne (PySem.W.check_slot F.cmpKind_ne F.cmpSplit_ne (I.type.andThen (PySem.W.looks_mroIn X hm)) (F.cmpArgs_ne _ _)
      (ne_entry (A := A.in1) X I he hf hu (wpAny_mono h (fun v s' hv => ?_) fun _ _ e => e))))))
    obtain ⟨r, rfl, hq⟩ := hv
    first | exact ⟨r, rfl, wpAny_pure ⟨_, rfl, hq⟩⟩ | exact ⟨_, rfl, wpAny_pure ⟨_, rfl, hq⟩⟩ | exact wpAny_pure ⟨_, rfl, hq⟩
  unfold richCompare
  simp only [oneThing_ref]
  refine wpAny_holding (wpAny_bind (wpAny_cRoomFor (by omega) ?_))
  rw [cmpInfo_NotEq]
  dsimp only
  refine wpAny_bind (I.type.here (wpAny_bind (hb.here ?_)))
  split
  · rename_i q
    have e : PySem.W.subIn K tb (.ref C) = some false := by
      rcases Bool.or_eq_true_iff.mp hn with e | e
      · rw [beq_iff_eq.mp e] at q; simp at q
      · exact beq_iff_eq.mp e
    refine wpAny_bind ((PySem.W.looks_subIn X e).here ?_)
    simp only [Bool.false_eq_true, if_false]
    refine wpAny_bind (wpAny_mono one (fun r s' z => ?_) fun _ _ e => e)
    obtain ⟨v, rfl, hq⟩ := z
    exact wpAny_pure hq
  · refine wpAny_bind (wpAny_pure ?_)
    simp only [Bool.false_eq_true, if_false]
    refine wpAny_bind (wpAny_mono one (fun r s' z => ?_) fun _ _ e => e)
    obtain ⟨v, rfl, hq⟩ := z
    exact wpAny_pure hq
end
structure EqF (W : Wd) (c : Nat) (C : Addr) (f : Nat) : Prop where
  eq : PySem.W.findIn W.K (.ref C) "__eq__" = some (some (.ref (W.fa f)))
  fn : PySem.W.isFn W.K (.ref (W.fa f)) = true
  ne : PySem.W.findIn W.K (.ref C) "__ne__" = some (some (.builtin "object.__ne__"))
  md : W.md f = true
  nf : ∀ kd t, KdFit W.P kd → kdV W kd = some t → PySem.W.notFirst W.K C t = true
section
variable {W : Wd} {w : World} {X : Cx} {cl : FC} {EX : WX} {k : Nat} {C : Orc}
theorem inst_eq (G : Good W w X) (O : WOk W) (K : Calls W w X cl EX k C) (hE : ∀ c q C f, W.P.cl c = some q → q.exc = false → q.eq = some f → W.mg (W.nm.cn c) = some (.ref C) → EqF W c C f ∧ ∃ d, W.P.fn f = some d) : InstEq W w X cl EX C := by
  intro ne pins s σ H x y v u Q ι env S σ' n c f fs b q kd S2 hσ hk I rx ry R ra rb hn hc hf g
  have hσ2 := hσ.symm
  subst hσ2
  have hS := kindV_stay hk
  subst hS
  obtain ⟨hlt, e⟩ := ra
  subst e
  cases rx
  obtain ⟨q', Ca, dx, gs, h1, h2, h3, h4, h5, h6, h7⟩ := R.ob _ _ hn
  have e : q' = q := Option.some.inj (h1.symm.trans hc)
  subst e
  obtain ⟨EF, d, hd⟩ := hE c q' Ca f hc h2 hf h6
  have CF := O.cls c q' Ca hc h2 h6
  obtain ⟨t, Pr, ht, Z, p, _⟩ := kindV_ok G O R I rb ry hk
  have hb := Z.ty (model X.prog X.w) s.heap I.kIn p
  obtain ⟨mA, OM, _⟩ := ins_get I.hok h4
  obtain ⟨od, J, _⟩ := OM.look
  have hw := K.w
  subst hw
  obtain ⟨fd, ps, hbn, hl, FG⟩ := (K.fn f d hd EF.md).ex
  have hnf := EF.nf kd t (kindV_fit R rb hk) ht
  rw [← G.K] at hnf
  let Q' : VK := fun v H2 => ∃ r : Bool, v = .bl r ∧ Q (.bl (if ne = true then !r else r)) H2
  let c2 := cellsAt cl σ s.heap
  have hq : spG W X.w d.arity (fun as S => C f as [] S) [V.ref (ι n), y] (addF c2 H) (qB c2 Q') (eB c2 fun _ _ _ => False) := by
    refine ⟨ι, S2, [.loc n, b], R.toG K.ok I, ⟨_, _, rfl, ⟨hlt, rfl⟩, _, _, rfl, rb.mono (Nat.le_refl _) (fun _ _ => rfl) (cells_of K.ok I).kp, rfl⟩, ?_, ?_⟩
    · refine K.ar f d [.loc n, b] S2 hd _ rfl ?_
      cases e : C f [.loc n, b] [] S2 with
      | ok a S' => trivial
      | ex c fs S' => trivial
      | no => rw [e] at g; exact g
    · show GsG W X.w ι S2 (addF c2 H) (C f [.loc n, b] [] S2) (qB c2 Q') (eB c2 fun _ _ _ => False)
      cases e : C f [.loc n, b] [] S2 with
      | no => rw [e] at g; exact g
      | ex c' fs S' => rw [e] at g; exact g.elim
      | ok a S' =>
        rw [e] at g
        cases a with
        | bl r =>
          intro ι' H' z f2 G2 rz
          cases (show z = .bl r from rz)
          exact ⟨r, rfl, g ι' _ _ (fw_back K.ok I f2) (G2.toL K.ok I R f2) rfl⟩
        | _ => exact g.elim
  have px : PassesAt (L2.CX X.prog X.w) X σ (fun _ _ _ => False) := fun _ _ _ _ _ _ h => by
    obtain ⟨a, B, H', cls, d, _, _, _, _, _, _, _, h⟩ := h
    exact h.elim
  have hr : RoomG (k + 1) X.A := K.room.mono (by omega)
  have run : ∀ A : Around, A.frames = X.A.frames → RoomG k A → wpAny (model X.prog X.w) A (call (.ref (W.fa f)) [.ref (ι n), u]) (fun v s' => ∃ r, v = .bool r ∧ EP X pins σ Q (.bool (if ne = true then !r else r)) s') X.xe s := fun A hA hr => by
    refine thn (run_fnG (vs := [V.ref (ι n), y]) (us := [.ref (ι n), u]) FG hA hr hbn px K.ok I (.cons (show RelV (.ref (ι n)) (.ref (ι n)) from rfl) (.cons ry .nil)) hq) fun v s' ⟨z, H', I', rz, r, ez, q⟩ => ?_
    subst ez
    cases rz
    exact ⟨r, rfl, .bl (if ne = true then !r else r), H', I', rfl, q⟩
  obtain ⟨m, hF⟩ := I.fr
  have eq' := EF.eq
  have fn' := EF.fn
  have ne' := EF.ne
  have hm' := CF.hm
  rw [← G.K] at eq' fn' ne' hm'
  cases ne with
  | false =>
    show wpAny _ _ (compareOp .Eq _ _) _ _ _
    unfold compareOp
    refine PySem.W.cmp_K (op := .Eq) (tb := t) hr.r.units0 hF I.ok.mod.kin J hb hnf eq' fn' (thn (run X.A rfl (hr.mono (by omega))) fun v s' ⟨r, e, q⟩ => ?_)
    subst e
    exact q
  | true =>
    show wpAny _ _ (compareOp .NotEq _ _) _ _ _
    unfold compareOp
    have hu := hr.r.units
    refine rc_ne (by omega) I.kIn J hm' hb hnf ne' eq' fn' (thn (run X.A.in1 rfl hr.in1) fun v s' ⟨r, e, q⟩ => ⟨r, e, q⟩)
end
end Pyd
set_option Elab.async false
set_option linter.all false
set_option maxRecDepth 100000
set_option maxHeartbeats 1000000
namespace Pyd
open PySem PySem.Spec PyProof.Rows L2
inductive Sk where
  | lst (a : Addr) | tup (a : Addr) | txt (x : Str)
def Sk.has (K : PySem.W.Frag) (u : Sk) (i : Nat) (H : Hp) (o : Option V) : Prop :=
  match u with
  | .lst a => ∃ xs, SqL K H a xs ∧ i ≤ xs.length ∧ xs[i]? = o
  | .tup a => ∃ xs, SqT K H a xs ∧ i ≤ xs.length ∧ xs[i]? = o
  | .txt x => i ≤ x.cps.size ∧ (x.cps[i]?).map (fun c => V.str ⟨#[c]⟩) = o
def Sk.at (K : PySem.W.Frag) (u : Sk) (i : Nat) (H : Hp) (x : V) : Prop :=
  match u with
  | .lst a => ∀ xs, SqL K H a xs → xs[i]? = some x
  | .tup a => ∀ xs, SqT K H a xs → xs[i]? = some x
  | .txt y => ∃ c, y.cps[i]? = some c ∧ x = .str ⟨#[c]⟩
def Sk.it (u : Sk) (h : Heap) (it : Addr) (i : Nat) : Prop :=
  match u with
  | .lst a => h.IsListIter it a i
  | .tup a => h.IsTupleIter it a i
  | .txt x => ∃ t, h.IsStrIter it (strIterType x) x t i
theorem Sk.it_at {u : Sk} {h h' : Heap} {it : Addr} {i : Nat} (x : u.it h it i) (k : ∀ o, h.get? it = some o → h'.get? it = some o) : u.it h' it i := by
  cases u with
  | lst a => exact Heap.IsListIter.at x k
  | tup a => exact Heap.IsTupleIter.at x k
  | txt y => obtain ⟨t, o, ho, r⟩ := x; exact ⟨t, o, k o ho, r⟩
theorem Sk.it_obj {u : Sk} {h : Heap} {it : Addr} {i : Nat} (x : u.it h it i) : ∃ o, h.get? it = some o ∧ ∀ v, o.data ≠ .cell v := by
  cases u with
  | lst a => obtain ⟨o, e, _, d⟩ := x; exact ⟨o, e, fun v z => by rw [d] at z; cases z⟩
  | tup a => obtain ⟨o, e, _, d⟩ := x; exact ⟨o, e, fun v z => by rw [d] at z; cases z⟩
  | txt y => obtain ⟨t, o, e, _, d⟩ := x; exact ⟨o, e, fun v z => by rw [d] at z; cases z⟩
section
variable {X : Cx} {pins : List (Addr × Obj)} {σ : L2.St} {H : Hp} {s : Shared} {u : Sk} {i : Nat}
theorem apart {a b : Addr} {xs : List V} (I : L2.Inv X pins σ H s) (h : SqL X.K H a xs ∨ SqT X.K H a xs) (f : FpOk X pins H b) : b ≠ a := by
  intro e
  subst e
  have rd : ∀ {u}, Rd H b u → False := fun r => by
    rcases r with r | ⟨o, r⟩ <;> (rw [f.1] at r; cases r)
  have kk : ∀ {o : Obj}, X.K.lookup b = some o → False := fun {o} e => by
    have hb := I.ok.mod.kin b o e
    rcases f.2.2.2.1 with h | h
    · exact I.ok.noex b o hb h
    · exact absurd h (Nat.not_le.mpr (Nat.lt_of_lt_of_le (Heap.lt_size hb) I.ok.bsz))
  rcases h with (h | ⟨o, its, n, e, _⟩) | (h | ⟨o, its, n, e, _⟩)
  · exact rd h
  · exact kk e
  · exact rd h
  · exact kk e
theorem Sk.at_of (I : L2.Inv X pins σ H s) {x : V} (h : u.has X.K i H (some x)) : u.at X.K i H x := by
  cases u with
  | lst a => obtain ⟨xs, q, _, e⟩ := h; exact fun ys hy => by rw [I.list_inj hy q]; exact e
  | tup a => obtain ⟨xs, q, _, e⟩ := h; exact fun ys hy => by rw [I.tuple_inj hy q]; exact e
  | txt y =>
    obtain ⟨_, e⟩ := h
    cases hc : y.cps[i]? with
    | none => rw [hc] at e; cases e
    | some c => rw [hc] at e; cases e; exact ⟨c, hc, rfl⟩
theorem Sk.has_at {K : PySem.W.Frag} {x y : V} (h : u.has K i H (some x)) (h' : u.at K i H y) : x = y := by
  cases u with
  | lst a => obtain ⟨xs, q, _, e⟩ := h; have := h' xs q; rw [e] at this; exact Option.some.inj this
  | tup a => obtain ⟨xs, q, _, e⟩ := h; have := h' xs q; rw [e] at this; exact Option.some.inj this
  | txt z =>
    obtain ⟨_, e⟩ := h
    obtain ⟨c, hc, e2⟩ := h'
    rw [hc] at e
    cases e
    exact e2.symm
theorem Sk.draws (I : L2.Inv X pins σ H s) (hc : X.A.handled = none) {it : Addr} {o : Option V} (st : u.it s.heap it i) (h : u.has X.K i H o) (hit : FpOk X pins H it) :
    ∃ (fp : List Addr) (n : Nat) (P : Nat → Value → Prop) (St : Nat → Heap → Prop), Draws X.prog X.w X.A.in1 it fp n P St ∧ it ∈ fp ∧ St i s.heap ∧ i ≤ n ∧ (o = none → i = n) ∧ (∀ x, o = some x → i < n) ∧
      (∀ v, P i v → ∃ x, o = some x ∧ RelV x v) ∧ (∀ j h', St j h' → u.it h' it j) ∧ ∀ b ∈ fp, b = it ∨ ∀ c, FpOk X pins H c → c ≠ b := by
  have hh : X.A.in1.handled = none := hc
  have done : ∀ {us : List Value} {xs : List V}, Vals xs us → i ≤ xs.length → xs[i]? = o → i ≤ us.toArray.size ∧ (o = none → i = us.toArray.size) ∧ (∀ x, o = some x → i < us.toArray.size) ∧ ∀ v, us.toArray[i]? = some v → ∃ x, o = some x ∧ RelV x v := by
    intro us xs r hi e
    have hl := r.length
    refine ⟨by rw [List.size_toArray]; omega, fun ho => ?_, fun x ho => ?_, fun v hv => ?_⟩
    · rw [ho, List.getElem?_eq_none_iff] at e
      rw [List.size_toArray]; omega
    · rw [ho] at e
      have := (List.getElem?_eq_some_iff.mp e).1
      rw [List.size_toArray]; omega
    · have hv : us[i]? = some v := by simpa using hv
      have hlt := (List.getElem?_eq_some_iff.mp hv).1
      have hx : xs[i]? = some xs[i] := List.getElem?_eq_getElem (by omega)
      obtain ⟨v', hv', rv⟩ := r.get hx
      rw [hv] at hv'
      cases hv'
      exact ⟨_, by rw [← e, hx], rv⟩
  cases u with
  | lst a =>
    obtain ⟨xs, q, hi, e⟩ := h
    obtain ⟨us, r, p, _⟩ := I.list q
    obtain ⟨d1, d2, d3, d4⟩ := done r hi e
    have hne : a ≠ it := Ne.symm (apart I (.inl q) hit)
    exact ⟨[it, a], us.toArray.size, _, _, Draws.list hh it a hne us.toArray, by simp, ⟨st, p.isList⟩, d1, d2, d3, d4, fun j h' x => x.1, fun b hb => by
      rcases List.mem_cons.mp hb with e | hb
      · exact .inl e
      · have e : b = a := by simpa using hb
        subst e
        exact .inr fun c hc => apart I (.inl q) hc⟩
  | tup a =>
    obtain ⟨xs, q, hi, e⟩ := h
    obtain ⟨us, r, p, _⟩ := I.tuple q
    obtain ⟨d1, d2, d3, d4⟩ := done r hi e
    have hne : a ≠ it := Ne.symm (apart I (.inr q) hit)
    exact ⟨[it, a], us.toArray.size, _, _, Draws.tuple hh it a hne us.toArray, by simp, ⟨st, p⟩, d1, d2, d3, d4, fun j h' x => x.1, fun b hb => by
      rcases List.mem_cons.mp hb with e | hb
      · exact .inl e
      · have e : b = a := by simpa using hb
        subst e
        exact .inr fun c hc => apart I (.inr q) hc⟩
  | txt y =>
    obtain ⟨hi, e⟩ := h
    obtain ⟨t, st⟩ := st
    refine ⟨[it], y.cps.size, _, _, Draws.text hh it y t, by simp, st, hi, fun ho => ?_, fun x ho => ?_, fun v hv => ?_, fun j h' x => ⟨t, x⟩, fun b hb => .inl (by simpa using hb)⟩
    · rw [ho] at e
      cases hc : y.cps[i]? with
      | none =>
        have := Array.getElem?_eq_none_iff.mp hc
        omega
      | some c => rw [hc] at e; cases e
    · rw [ho] at e
      cases hc : y.cps[i]? with
      | none => rw [hc] at e; cases e
      | some c => exact (Array.getElem?_eq_some_iff.mp hc).1
    · obtain ⟨c, u', hc, e2⟩ := hv
      rw [hc] at e
      exact ⟨_, e.symm, u', e2⟩
end
def ItZ (K : PySem.W.Frag) (u v : Sk) : L2.It :=
  ⟨fun i H => ∃ x y, u.has K i H (some x) ∧ v.has K i H (some y),
    fun i H w' H' => ∃ T x y, w' = .ref T ∧ H T = none ∧ H' = upd H T (.tup [x, y]) ∧ u.at K i H x ∧ v.at K i H y,
    fun i H => ∃ ox oy, u.has K i H ox ∧ v.has K i H oy ∧ (ox = none ∨ oy = none)⟩
structure Five (z TI TO i1 i2 : Addr) : Prop where
  a : TI ≠ z
  b : TO ≠ z
  c : TI ≠ TO
  d : TI ≠ i1
  e : TI ≠ i2
  f : z ≠ i1
  g : z ≠ i2
  h : TO ≠ i1
  i : TO ≠ i2
  j : i1 ≠ i2
theorem turn_zip2 {P : Program} {w : World} {K : PySem.W.Frag} {elts : List Expr} {kk : Nat} {tpos : Pos} (u v : Sk) {z TI TO i1 i2 : Addr} (D : Five z TI TO i1 i2) :
    Turn P w K (.Tuple elts kk tpos) (ItZ K u v) [z, TI, TO, i1, i2] z (fun i h => IsZip h z TI TO .none ∧ IsTupOf2 h TI (.ref i1) (.ref i2) ∧ (∃ a1 a2, IsTupOf2 h TO a1 a2) ∧ u.it h i1 i ∧ v.it h i2 i) where
  mem := by simp
  obj := fun i h st c hc => by
    obtain ⟨hz, hTI, ⟨x, y, hTO⟩, h1, h2⟩ := st
    have e' : c = z ∨ c = TI ∨ c = TO ∨ c = i1 ∨ c = i2 := by simpa using hc
    rcases e' with q | q | q | q | q
    · rw [q]; exact ⟨_, hz, fun v q => nomatch q⟩
    · rw [q]; exact ⟨_, hTI, fun v q => nomatch q⟩
    · rw [q]; exact ⟨_, hTO, fun v q => nomatch q⟩
    · rw [q]; exact Sk.it_obj h1
    · rw [q]; exact Sk.it_obj h2
  keep := fun i h h' st k => by
    obtain ⟨hz, hTI, ⟨x, y, hTO⟩, h1, h2⟩ := st
    exact ⟨k z (by simp) _ hz, k TI (by simp) _ hTI, ⟨x, y, k TO (by simp) _ hTO⟩, Sk.it_at h1 fun o q => k i1 (by simp) o q, Sk.it_at h2 fun o q => k i2 (by simp) o q⟩
  item := by
    intro X hP hw hK hc i pins s σ H E I hf st hg
    subst hP hw hK
    obtain ⟨hz, hTI, hTO, h1, h2⟩ := st
    obtain ⟨x, y, hx, hy⟩ := hg
    obtain ⟨fp1, n1, P1, St1, D1, m1, s1, _, _, l1, p1, t1, a1⟩ := Sk.draws I (I.ok.hd hc) h1 hx (hf i1 (by simp))
    obtain ⟨fp2, n2, P2, St2, D2, m2, s2, _, _, l2, p2, t2, a2⟩ := Sk.draws I (I.ok.hd hc) h2 hy (hf i2 (by simp))
    have out1 : ∀ c, c ≠ i1 → FpOk X pins H c → c ∉ fp1 := fun c hc hf hm => by
      rcases a1 c hm with e | e
      · exact hc e
      · exact e c hf rfl
    have out2 : ∀ c, c ≠ i2 → FpOk X pins H c → c ∉ fp2 := fun c hc hf hm => by
      rcases a2 c hm with e | e
      · exact hc e
      · exact e c hf rfl
    have sep : ZipSep2 z TI TO i1 i2 fp1 fp2 := ⟨D.a, D.b, D.c, D.d, m1, out1 z D.f (hf z (by simp)), out1 TO D.h (hf TO (by simp)), D.e, m2, out2 z D.g (hf z (by simp)), out2 TO D.i (hf TO (by simp)), out2 i1 D.j (hf i1 (by simp)), out1 i2 (Ne.symm D.j) (hf i2 (by simp))⟩
    have W := GoesN.zip2 (elts := elts) (x1 := kk) (pos := tpos) sep D1 D2
    have hlt : i < min n1 n2 := by have := l1 x rfl; have := l2 y rfl; omega
    refine wpAny_mono (W.goes i s _ E hlt ⟨hz, hTI, hTO, s1, s2⟩ fun w' h' tk hY hSt hk htk => ?_) (fun r s1 h => h) fun _ _ e => e
    obtain ⟨T, vx, vy, ew, hT, q1, q2, hTup⟩ := hY
    obtain ⟨x', ex, rx⟩ := p1 vx q1
    obtain ⟨y', ey, ry⟩ := p2 vy q2
    cases ex
    cases ey
    obtain ⟨hz', hTI', hTO', hs1, hs2⟩ := hSt
    have new : ObjOk X.prog X.w (upd H T (.tup [x, y])) h' T (.tup [x, y]) := ⟨by show 2 ≤ sizeLine; rw [LINE_eq]; decide, [vx, vy], .cons rx (.cons ry .nil), hTup⟩
    have I1 : L2.Inv X pins σ (upd H T (.tup [x, y])) { s with heap := h', toks := tk } := I.turnedNew (ch := [z, TO, i1, i2]) (fun b o hb e => hk b o hb e) (fun b hb => hf b (by
      have : b = z ∨ b = TO ∨ b = i1 ∨ b = i2 := by simpa using hb
      rcases this with q | q | q | q <;> simp [q])) hT new
    refine ⟨.ref T, _, I1, by rw [ew]; rfl, ⟨T, x, y, rfl, I.hok.fresh hT, rfl, Sk.at_of I hx, Sk.at_of I hy⟩, ⟨hz', hTI', hTO', t1 _ _ hs1, t2 _ _ hs2⟩, fun b hb => ?_⟩
    have hlt : b < s.heap.objs.size := by
      have e' : b = z ∨ b = TI ∨ b = TO ∨ b = i1 ∨ b = i2 := by simpa using hb
      obtain ⟨o1, e1, _⟩ := Sk.it_obj h1
      obtain ⟨o2, e2, _⟩ := Sk.it_obj h2
      obtain ⟨_, _, hTO⟩ := hTO
      rcases e' with q | q | q | q | q
      · rw [q]; exact Heap.lt_size hz
      · rw [q]; exact Heap.lt_size hTI
      · rw [q]; exact Heap.lt_size hTO
      · rw [q]; exact Heap.lt_size e1
      · rw [q]; exact Heap.lt_size e2
    rw [upd_ne (Nat.ne_of_lt (Nat.lt_of_lt_of_le hlt hT))]
    exact (hf b hb).1
  done := by
    intro X hP hw hK hc i pins s σ H E I hf st hg
    subst hP hw hK
    obtain ⟨hz, hTI, hTO, h1, h2⟩ := st
    obtain ⟨ox, oy, hx, hy, hend⟩ := hg
    obtain ⟨fp1, n1, P1, St1, D1, m1, s1, b1, e1, l1, p1, t1, a1⟩ := Sk.draws I (I.ok.hd hc) h1 hx (hf i1 (by simp))
    obtain ⟨fp2, n2, P2, St2, D2, m2, s2, b2, e2, l2, p2, t2, a2⟩ := Sk.draws I (I.ok.hd hc) h2 hy (hf i2 (by simp))
    have out1 : ∀ c, c ≠ i1 → FpOk X pins H c → c ∉ fp1 := fun c hc hf hm => by
      rcases a1 c hm with e | e
      · exact hc e
      · exact e c hf rfl
    have out2 : ∀ c, c ≠ i2 → FpOk X pins H c → c ∉ fp2 := fun c hc hf hm => by
      rcases a2 c hm with e | e
      · exact hc e
      · exact e c hf rfl
    have sep : ZipSep2 z TI TO i1 i2 fp1 fp2 := ⟨D.a, D.b, D.c, D.d, m1, out1 z D.f (hf z (by simp)), out1 TO D.h (hf TO (by simp)), D.e, m2, out2 z D.g (hf z (by simp)), out2 TO D.i (hf TO (by simp)), out2 i1 D.j (hf i1 (by simp)), out1 i2 (Ne.symm D.j) (hf i2 (by simp))⟩
    have W := GoesN.zip2 (elts := elts) (x1 := kk) (pos := tpos) sep D1 D2
    have hi : i = min n1 n2 := by
      rcases hend with q | q
      · have := e1 q; omega
      · have := e2 q; omega
    have st : (fun i h => IsZip h z TI TO .none ∧ IsTupOf2 h TI (.ref i1) (.ref i2) ∧ (∃ a1 a2, IsTupOf2 h TO a1 a2) ∧ St1 i h ∧ St2 i h) (min n1 n2) s.heap := by
      rw [← hi]
      exact ⟨hz, hTI, hTO, s1, s2⟩
    refine W.stops s _ E st fun h' tk hk htk => I.turnedL (ch := [z, TO, i1, i2]) (fun b o hb e => hk b o hb e) (fun b hb => hf b (by
      have : b = z ∨ b = TO ∨ b = i1 ∨ b = i2 := by simpa using hb
      rcases this with q | q | q | q <;> simp [q]))
  self := fun A i s Q E st h => wpAny_pyIter_zip st.1 h
def ItE (K : PySem.W.Frag) (u : Sk) : L2.It :=
  ⟨fun i H => ∃ x, u.has K i H (some x), fun i H w' H' => ∃ T x, w' = .ref T ∧ H T = none ∧ H' = upd H T (.tup [.int (i : Int), x]) ∧ u.at K i H x, fun i H => u.has K i H none⟩
theorem turn_enumS {P : Program} {w : World} {K : PySem.W.Frag} {elts : List Expr} {kk : Nat} {tpos : Pos} (u : Sk) {e it : Addr} (hne : e ≠ it) :
    Turn P w K (.Tuple elts kk tpos) (ItE K u) [e, it] e (fun i h => (∃ old, IsEnum h e it (0 + (i : Int)) old) ∧ u.it h it i) where
  mem := by simp
  obj := fun i h st c hc => by
    obtain ⟨⟨old, he⟩, h1⟩ := st
    have e' : c = e ∨ c = it := by simpa using hc
    rcases e' with q | q
    · rw [q]; exact ⟨_, he, fun v q => nomatch q⟩
    · rw [q]; exact Sk.it_obj h1
  keep := fun i h h' st k => by
    obtain ⟨⟨old, he⟩, h1⟩ := st
    exact ⟨⟨old, k e (by simp) _ he⟩, Sk.it_at h1 fun o q => k it (by simp) o q⟩
  item := by
    intro X hP hw hK hc i pins s σ H E I hf st hg
    subst hP hw hK
    obtain ⟨he, h1⟩ := st
    obtain ⟨x, hx⟩ := hg
    obtain ⟨fp1, n1, P1, St1, D1, m1, s1, _, _, l1, p1, t1, a1⟩ := Sk.draws I (I.ok.hd hc) h1 hx (hf it (by simp))
    have out1 : e ∉ fp1 := fun hm => by
      rcases a1 e hm with q | q
      · exact hne q
      · exact q e (hf e (by simp)) rfl
    have W := GoesN.enumFrom (elts := elts) (x1 := kk) (pos := tpos) 0 D1 e hne out1 m1
    refine wpAny_mono (W.goes i s _ E (l1 x rfl) ⟨he, s1⟩ fun w' h' tk hY hSt hk htk => ?_) (fun r s1 h => h) fun _ _ e => e
    obtain ⟨T, t, vx, ew, hT, q1, hTup⟩ := hY
    obtain ⟨x', ex, rx⟩ := p1 vx q1
    cases ex
    obtain ⟨he', hs1⟩ := hSt
    have e0 : (0 : Int) + (i : Int) = (i : Int) := by omega
    rw [e0] at hTup
    have new : ObjOk X.prog X.w (upd H T (.tup [.int (i : Int), x])) h' T (.tup [.int (i : Int), x]) := ⟨by show 2 ≤ sizeLine; rw [LINE_eq]; decide, [.int (i : Int) t, vx], .cons ⟨_, rfl⟩ (.cons rx .nil), hTup⟩
    have I1 : L2.Inv X pins σ (upd H T (.tup [.int (i : Int), x])) { s with heap := h', toks := tk } := I.turnedNew (ch := [e, it]) (fun b o hb q => hk b o hb q) (fun b hb => hf b hb) hT new
    refine ⟨.ref T, _, I1, by rw [ew]; rfl, ⟨T, x, rfl, I.hok.fresh hT, rfl, Sk.at_of I hx⟩, ⟨he', t1 _ _ hs1⟩, fun b hb => ?_⟩
    have hlt : b < s.heap.objs.size := by
      have e' : b = e ∨ b = it := by simpa using hb
      obtain ⟨o1, e1, _⟩ := Sk.it_obj h1
      obtain ⟨_, he⟩ := he
      rcases e' with q | q
      · rw [q]; exact Heap.lt_size he
      · rw [q]; exact Heap.lt_size e1
    rw [upd_ne (Nat.ne_of_lt (Nat.lt_of_lt_of_le hlt hT))]
    exact (hf b hb).1
  done := by
    intro X hP hw hK hc i pins s σ H E I hf st hg
    subst hP hw hK
    obtain ⟨he, h1⟩ := st
    obtain ⟨fp1, n1, P1, St1, D1, m1, s1, _, e1, l1, p1, t1, a1⟩ := Sk.draws I (I.ok.hd hc) h1 hg (hf it (by simp))
    have out1 : e ∉ fp1 := fun hm => by
      rcases a1 e hm with q | q
      · exact hne q
      · exact q e (hf e (by simp)) rfl
    have W := GoesN.enumFrom (elts := elts) (x1 := kk) (pos := tpos) 0 D1 e hne out1 m1
    have hi := e1 rfl
    subst hi
    exact W.stops s _ E ⟨he, s1⟩ fun h' tk hk htk => I.turnedL (ch := [e, it]) (fun b o hb q => hk b o hb q) (fun b hb => hf b hb)
  self := fun A i s Q E st h => let ⟨⟨_, he⟩, _⟩ := st; wpAny_pyIter_enum he h
section
variable (W : Wd) (ι : Nat → Addr) (N : Nat) (H : Hp)
def SbR : Sb → Sk → Prop
  | .tup xs, .tup a => ∃ ys, SqT W.K H a ys ∧ RVs W ι N H xs ys
  | .str s, .txt x => (s.length ≤ LINE ∧ s.all (· < 128) = true) ∧ x = tx s
  | .lst n, .lst a => n < N ∧ a = ι n
  | _, _ => False
def RVo : Option Val → Option V → Prop
  | none, none => True
  | some v, some x => RV W ι N H v x
  | _, _ => False
end
section
variable {W : Wd} {w : World} {X : Cx} {cl : FC} {EX : WX} {ι ι1 : Nat → Addr} {env : Env} {S S1 : Store} {σ : L2.St} {H H1 : Hp} {N : Nat}
theorem atL_some {xs : List Val} {i : Nat} {o : Option Val} (h : atL xs i = some o) : i ≤ xs.length ∧ xs[i]? = o := by
  unfold atL at h
  by_cases hi : i ≤ xs.length
  · rw [if_pos hi] at h; exact ⟨hi, Option.some.inj h⟩
  · rw [if_neg hi] at h; cases h
theorem RVs.get' {vs : List Val} {xs : List V} {i : Nat} (r : RVs W ι N H vs xs) : RVo W ι N H vs[i]? xs[i]? := by
  cases hv : vs[i]? with
  | none =>
    have : xs[i]? = none := by
      rw [List.getElem?_eq_none_iff] at hv ⊢
      rw [r.length]; exact hv
    rw [this]; trivial
  | some v =>
    obtain ⟨x, hx, rx⟩ := r.get hv
    rw [hx]; exact rx
theorem sb_has {b : Sb} {u : Sk} (hN : N ≤ S1.length) (ag : ∀ n, n < N → ι1 n = ι n) (k : Kp H H1) (R : Rl W w cl ι1 env S1 σ H1) (r : SbR W ι N H b u) {i : Nat} {o : Option Val} (h : b.at S1 i = some o) : ∃ ox, u.has W.K i H1 ox ∧ RVo W ι1 S1.length H1 o ox := by
  cases b <;> cases u <;> first | exact r.elim | skip
  · rename_i xs a
    obtain ⟨ys, t, rs⟩ := r
    obtain ⟨hi, e⟩ := atL_some h
    subst e
    have rs := rs.mono hN ag k
    exact ⟨ys[i]?, ⟨ys, k.sqT t, by rw [rs.length]; exact hi, rfl⟩, rs.get'⟩
  · rename_i z x
    obtain ⟨⟨hl, ha⟩, e⟩ := r
    subst e
    obtain ⟨hi, e⟩ := atL_some h
    rw [List.length_map] at hi
    refine ⟨((tx z).cps[i]?).map (fun c => V.str ⟨#[c]⟩), ⟨by simpa [tx] using hi, rfl⟩, ?_⟩
    subst e
    have e2 : (tx z).cps[i]? = z[i]? := by simp [tx]
    rw [e2, List.getElem?_map]
    cases hc : z[i]? with
    | none => trivial
    | some c =>
      have hin : c ∈ z := List.mem_of_getElem? hc
      have hc' : (c < 128) := by simpa using List.all_eq_true.mp ha c hin
      exact ⟨⟨by show 1 ≤ 16777216; decide, by simpa using hc'⟩, rfl⟩
  · rename_i n a
    obtain ⟨hn, e⟩ := r
    subst e
    have main : ∀ xs, (S1[n]? = some (.lst xs) ∨ S1[n]? = some (.rol xs)) → atL xs i = some o → ∃ ox, (Sk.lst (ι n)).has W.K i H1 ox ∧ RVo W ι1 S1.length H1 o ox := by
      intro xs ho h
      obtain ⟨ys, t, rs⟩ := R.seq ho
      obtain ⟨hi, e⟩ := atL_some h
      subst e
      exact ⟨ys[i]?, ⟨ys, by rw [← ag n hn]; exact t, by rw [rs.length]; exact hi, rfl⟩, rs.get'⟩
    unfold Sb.at at h
    dsimp only at h
    cases ho : S1[n]? with
    | none => rw [ho] at h; cases h
    | some ob =>
      rw [ho] at h
      cases ob with
      | lst xs => exact main xs (.inl ho) h
      | rol xs => exact main xs (.inr ho) h
      | _ => cases h
end
def rI (W : Wd) (w : World) : Rf Src L2.It := fun ι N H s J => ∀ (ι1 : Nat → Addr) (env1 : Env) (S1 : Store) (σ1 : L2.St) (H1 : Hp) (i : Nat) (cl : FC), N ≤ S1.length → (∀ n, n < N → ι1 n = ι n) → Kp H H1 → Rl W w cl ι1 env1 S1 σ1 H1 →
  (∀ v, s.at S1 i = some (some v) → J.go i H1 ∧ ∀ x H', J.yld i H1 x H' → Fw ι1 S1 H1 ι1 S1 H' ∧ Rl W w cl ι1 env1 S1 σ1 H' ∧ RV W ι1 S1.length H' v x) ∧ (s.at S1 i = some none → J.stop i H1)
section
variable {W : Wd} {w : World} {X : Cx} {cl : FC} {EX : WX} {ι ι1 : Nat → Addr} {env : Env} {S S1 : Store} {σ : L2.St} {H H1 : Hp} {N : Nat}
theorem rI_lst {n : Nat} (hn : n < N) : rI W w ι N H (.one (.lst n)) (Itl W.K (ι n)) := by
  intro ι1 env1 S1 σ1 H1 i cl hN ag k R
  refine ⟨fun v h => ?_, fun h => ?_⟩
  · obtain ⟨ox, ⟨ys, t, hi, e⟩, r⟩ := sb_has (b := .lst n) (u := .lst (ι n)) hN ag k R (show SbR W ι N H (.lst n) (.lst (ι n)) from ⟨hn, rfl⟩) h
    cases ox with
    | none => exact r.elim
    | some x =>
      refine ⟨⟨ys, x, t, e⟩, fun y H' ⟨e1, e2⟩ => ?_⟩
      subst e1
      have := e2 ys t
      rw [e] at this
      cases this
      exact ⟨Fw.refl _ _ _, R, r⟩
  · obtain ⟨ox, ⟨ys, t, hi, e⟩, r⟩ := sb_has (b := .lst n) (u := .lst (ι n)) hN ag k R (show SbR W ι N H (.lst n) (.lst (ι n)) from ⟨hn, rfl⟩) h
    cases ox with
    | none => exact ⟨ys, t, List.getElem?_eq_none_iff.mp e⟩
    | some x => exact r.elim
theorem rI_tup {xs : List Val} {a : Addr} {ys : List V} (t : SqT W.K H a ys) (rs : RVs W ι N H xs ys) : rI W w ι N H (.one (.tup xs)) (Itt W.K a) := by
  intro ι1 env1 S1 σ1 H1 i cl hN ag k R
  refine ⟨fun v h => ?_, fun h => ?_⟩
  · obtain ⟨ox, ⟨ys, t, hi, e⟩, r⟩ := sb_has (b := .tup xs) (u := .tup a) hN ag k R (show SbR W ι N H (.tup xs) (.tup a) from ⟨ys, t, rs⟩) h
    cases ox with
    | none => exact r.elim
    | some x =>
      refine ⟨⟨ys, x, t, e⟩, fun y H' ⟨e1, e2⟩ => ?_⟩
      subst e1
      have := e2 ys t
      rw [e] at this
      cases this
      exact ⟨Fw.refl _ _ _, R, r⟩
  · obtain ⟨ox, ⟨ys, t, hi, e⟩, r⟩ := sb_has (b := .tup xs) (u := .tup a) hN ag k R (show SbR W ι N H (.tup xs) (.tup a) from ⟨ys, t, rs⟩) h
    cases ox with
    | none => exact ⟨ys, t, List.getElem?_eq_none_iff.mp e⟩
    | some x => exact r.elim
theorem rI_txt {z : List Nat} (h0 : z.length ≤ LINE ∧ z.all (· < 128) = true) : rI W w ι N H (.one (.str z)) (Its (tx z)) := by
  intro ι1 env1 S1 σ1 H1 i cl hN ag k R
  refine ⟨fun v h => ?_, fun h => ?_⟩
  · obtain ⟨ox, ⟨hi, e⟩, r⟩ := sb_has (b := .str z) (u := .txt (tx z)) hN ag k R (show SbR W ι N H (.str z) (.txt (tx z)) from ⟨h0, rfl⟩) h
    cases ox with
    | none => exact r.elim
    | some x =>
      cases hc : (tx z).cps[i]? with
      | none => rw [hc] at e; cases e
      | some c =>
        rw [hc] at e
        cases e
        refine ⟨(Array.getElem?_eq_some_iff.mp hc).1, fun y H' ⟨e1, c', e2, e3⟩ => ?_⟩
        subst e1 e3
        rw [hc] at e2
        cases e2
        exact ⟨Fw.refl _ _ _, R, r⟩
  · obtain ⟨ox, ⟨hi, e⟩, r⟩ := sb_has (b := .str z) (u := .txt (tx z)) hN ag k R (show SbR W ι N H (.str z) (.txt (tx z)) from ⟨h0, rfl⟩) h
    cases ox with
    | none =>
      cases hc : (tx z).cps[i]? with
      | none => exact Array.getElem?_eq_none_iff.mp hc
      | some c => rw [hc] at e; cases e
    | some x => exact r.elim
theorem rI_rng {lo : Int} {n : Nat} : rI W w ι N H (.rng lo 1 n) (Itr lo n) := by
  intro ι1 env1 S1 σ1 H1 i cl hN ag k R
  have e : (Src.rng lo 1 n).at S1 i = some (if i < n then some (.int (lo + i * 1)) else none) := rfl
  rw [e]
  by_cases hi : i < n
  · rw [if_pos hi]
    refine ⟨fun v h => ?_, fun h => (by cases h)⟩
    cases h
    refine ⟨hi, fun y H' ⟨e1, e2⟩ => ?_⟩
    subst e1 e2
    exact ⟨Fw.refl _ _ _, R, by show _ = V.int _; rw [Int.mul_one]⟩
  · rw [if_neg hi]
    exact ⟨fun v h => (by cases h), fun _ => Nat.le_of_not_lt hi⟩
theorem newT {T : Addr} {xs : List Val} {ys : List V} (R : Rl W w cl ι env S σ H) (hT : H T = none) (r : RVs W ι S.length H xs ys) : Fw ι S H ι S (upd H T (.tup ys)) ∧ Rl W w cl ι env S σ (upd H T (.tup ys)) ∧ RV W ι S.length (upd H T (.tup ys)) (.tup xs) (.ref T) :=
  ⟨⟨Nat.le_refl _, fun _ _ => rfl, Kp.new hT⟩, R.grow (Kp.new hT) (fun b u e => by rw [upd_ne (ne_of_none e hT)]; exact e), T, ys, rfl, .of upd_same, r.mono (Nat.le_refl _) (fun _ _ => rfl) (Kp.new hT)⟩
theorem rI_enm {b : Sb} {u : Sk} (r : SbR W ι N H b u) : rI W w ι N H (.enm b) (ItE W.K u) := by
  intro ι1 env1 S1 σ1 H1 i cl hN ag k R
  have e : (Src.enm b).at S1 i = (match b.at S1 i with
    | some (some v) => some (some (.tup [.int i, v]))
    | r => r) := rfl
  rw [e]
  cases hb : b.at S1 i with
  | none => exact ⟨fun v h => (nomatch h), fun h => (nomatch h)⟩
  | some o =>
    obtain ⟨ox, h1, r1⟩ := sb_has hN ag k R r hb
    cases o with
    | none =>
      cases ox with
      | none => exact ⟨fun v h => (nomatch h), fun _ => h1⟩
      | some x => exact r1.elim
    | some v0 =>
      cases ox with
      | none => exact r1.elim
      | some x =>
        refine ⟨fun v h => ?_, fun h => (nomatch h)⟩
        cases h
        refine ⟨⟨x, h1⟩, fun y H' ⟨T, x', e1, hT, e2, h2⟩ => ?_⟩
        subst e1 e2
        have := Sk.has_at h1 h2
        subst this
        exact newT R hT ⟨_, _, rfl, rfl, _, _, rfl, r1, rfl⟩
theorem rI_zip2 {b c : Sb} {u v : Sk} (r : SbR W ι N H b u) (q : SbR W ι N H c v) : rI W w ι N H (.zip2 b c) (ItZ W.K u v) := by
  intro ι1 env1 S1 σ1 H1 i cl hN ag k R
  have e : (Src.zip2 b c).at S1 i = (match b.at S1 i, c.at S1 i with
    | some (some x), some (some y) => some (some (.tup [x, y]))
    | some _, some _ => some none
    | _, _ => none) := rfl
  rw [e]
  cases hb : b.at S1 i with
  | none => exact ⟨fun v h => (nomatch h), fun h => (nomatch h)⟩
  | some o =>
    cases hc : c.at S1 i with
    | none => cases o <;> exact ⟨fun v h => (nomatch h), fun h => (nomatch h)⟩
    | some p =>
      obtain ⟨ox, h1, r1⟩ := sb_has hN ag k R r hb
      obtain ⟨oy, h2, r2⟩ := sb_has hN ag k R q hc
      cases o with
      | none =>
        cases ox with
        | none => exact ⟨fun v h => (nomatch h), fun _ => ⟨none, oy, h1, h2, .inl rfl⟩⟩
        | some x => exact r1.elim
      | some v0 =>
        cases ox with
        | none => exact r1.elim
        | some x =>
          cases p with
          | none =>
            cases oy with
            | none => exact ⟨fun v h => (nomatch h), fun _ => ⟨some x, none, h1, h2, .inr rfl⟩⟩
            | some y => exact r2.elim
          | some w0 =>
            cases oy with
            | none => exact r2.elim
            | some y =>
              refine ⟨fun v h => ?_, fun h => (nomatch h)⟩
              cases h
              refine ⟨⟨x, y, h1, h2⟩, fun z H' ⟨T, x', y', e1, hT, e2, g1, g2⟩ => ?_⟩
              subst e1 e2
              have := Sk.has_at h1 g1
              subst this
              have := Sk.has_at h2 g2
              subst this
              exact newT R hT ⟨_, _, rfl, r1, _, _, rfl, r2, rfl⟩
theorem sb_ok {v : Val} {x : V} (R : Rl W w cl ι env S σ H) (rv : RV W ι S.length H v x) {α β : Type} {RA : Rf α β} {k : Sb → M α} {Q : β → Hp → Prop} (g : Gs W w cl EX RA ι env S σ H ((sbOf v >>= k) S) Q) :
    ∃ b u, SbR W ι S.length H b u ∧ Gs W w cl EX RA ι env S σ H (k b S) Q ∧ (match u with
      | .lst a => x = .ref a ∧ (∃ ys, SqL W.K H a ys) ∧ ∃ n, b = .lst n ∧ n < S.length ∧ a = ι n
      | .tup a => x = .ref a ∧ ∃ xs ys, b = .tup xs ∧ SqT W.K H a ys ∧ RVs W ι S.length H xs ys
      | .txt y => x = .str y ∧ ∃ z, y = tx z ∧ b = .str z ∧ (z.length ≤ LINE ∧ z.all (· < 128) = true)) := by
  rw [bind_ap] at g
  cases v with
  | tup xs =>
    obtain ⟨a, ys, e, t, r⟩ := rv
    exact ⟨.tup xs, .tup a, ⟨ys, t, r⟩, g, e, xs, ys, rfl, t, r⟩
  | str z =>
    obtain ⟨h, e⟩ := rv
    exact ⟨.str z, .txt (tx z), ⟨h, rfl⟩, g, e, z, rfl, rfl, h⟩
  | loc n =>
    obtain ⟨hn, e⟩ := rv
    have e0 : sbOf (.loc n) S = (match S[n]? with | some (.lst _) => .ok (.lst n) S | some (.rol _) => .ok (.lst n) S | _ => .no) := by
      show (look n >>= _) S = _
      rw [look_bind]
      cases S[n]? with
      | none => rfl
      | some o => cases o <;> rfl
    rw [e0] at g
    cases ho : S[n]? with
    | none => rw [ho] at g; exact g.elim
    | some o =>
      rw [ho] at g
      cases o with
      | lst xs =>
        obtain ⟨ys, t, _⟩ := R.seq (.inl ho)
        exact ⟨.lst n, .lst (ι n), ⟨hn, rfl⟩, g, e, ⟨ys, t⟩, n, rfl, hn, rfl⟩
      | rol xs =>
        obtain ⟨ys, t, _⟩ := R.seq (.inr ho)
        exact ⟨.lst n, .lst (ι n), ⟨hn, rfl⟩, g, e, ⟨ys, t⟩, n, rfl, hn, rfl⟩
      | _ => exact g.elim
  | _ => exact g.elim
end
end Pyd
set_option Elab.async false
set_option linter.all false
set_option maxRecDepth 100000
set_option maxHeartbeats 1000000
namespace Pyd
open PySem PySem.Spec PyProof.Rows L2
theorem meets_enum1 {v : Value} {o : Obj} {H : Heap → Prop} (B : Begins v o H) :
    Meets (Builtin.«enumerate.__new__» ⟨[.type "enumerate", v], []⟩) (fun _ R s => H s.heap ∧
      R (.ok (.ret (.ref (s.heap.push o).objs.size))) { s with heap := (s.heap.push o).push { cls := .type "enumerate", data := .fields #[.none, .bool false, .ref s.heap.objs.size, rawInt 0, .none, .none] } }) :=
  .of_wp fun prog w A R s h => by
    obtain ⟨hp, g, d, tk, os⟩ := s; obtain ⟨h1, h⟩ := h
    have hsub := sub_enumerate
    have q1 : ∀ {A' : Around} {E : Value → Shared → Prop} {Q : Value → Shared → Prop}, Q (.ref hp.objs.size) ⟨hp.push o, g, d, tk, os⟩ → wpAny (model prog w) A' (pyIter v) Q E ⟨hp, g, d, tk, os⟩ :=
      fun q => B.iter prog w _ _ ⟨hp, g, d, tk, os⟩ _ h1 q
    wp_walk using q1
    refine wpAny_stack_any fun st => wpAny_pure ?_
    split
    · rename_i c _ _ _ _ _
      cases (c == Value.type "enumerate")
      · wp_walk using q1
        exact ⟨_, rfl, h⟩
      · wp_walk using q1
        exact ⟨_, rfl, h⟩
    · wp_walk using q1
      exact ⟨_, rfl, h⟩
section
variable {prog : Program} {w : World} {A : Around} {E : Value → Shared → Prop} {s : Shared}
theorem enum1 {v : Value} {o : Obj} {H : Heap → Prop} {Q : Value → Shared → Prop} (B : Begins v o H) (h1 : H s.heap)
    (h : ∀ h', IsEnum h' (s.heap.objs.size + 1) s.heap.objs.size 0 .none → h'.get? s.heap.objs.size = some o → h'.objs.size = s.heap.objs.size + 2 →
      (∀ b o, s.heap.get? b = some o → h'.get? b = some o) → Q (.ref (s.heap.objs.size + 1)) { s with heap := h' }) :
    wpAny (model prog w) A (call (.type "enumerate") [v]) Q E s := by
  refine callType_new F.called_enumerate (by decide) (F.typeCall_enumerate_1 _) (F.newCall_enumerate_1 _) (fun obj => F.args_object_init_2 obj _) F.entry_enumerate_new (meets_enum1 B) ⟨h1, ?_⟩
  have hz : (s.heap.push o).objs.size = s.heap.objs.size + 1 := Heap.size_push ..
  show _ ∧ _
  rw [hz]
  have he : IsEnum ((s.heap.push o).push { cls := .type "enumerate", data := .fields #[.none, .bool false, .ref s.heap.objs.size, rawInt 0, .none, .none] }) (s.heap.objs.size + 1) s.heap.objs.size 0 .none := by
    have := Heap.get?_push_size (s.heap.push o) (o := { cls := .type "enumerate", data := .fields #[.none, .bool false, .ref s.heap.objs.size, rawInt 0, .none, .none] }) rfl
    rw [hz] at this; exact this
  refine ⟨⟨_, he, rfl⟩, h _ he (Heap.get?_push_of_some _ (Heap.get?_push_size _ B.free)) (by rw [Heap.size_push, hz]) fun b o x => Heap.get?_push_of_some _ (Heap.get?_push_of_some _ x)⟩
end
section
variable {W : Wd} {w : World} {X : Cx} {cl : FC} {EX : WX} {ι : Nat → Addr} {env : Env} {S : Store} {σ : L2.St} {H : Hp} {tg : Expr}
theorem Gs.srcOk {s : Src} {J : L2.It} {Q : L2.It → Hp → Prop} (R : Rl W w cl ι env S σ H) (g : Gs W w cl EX (rI W w) ι env S σ H (.ok s S) Q) (r : rI W w ι S.length H s J) : Q J H := g ι H J (Fw.refl _ _ _) R r
theorem i_val (hK : X.K = W.K) {e : Expr} {pe : Env → M Val} (he : PE X e (tG W w cl EX (rv W) pe)) : PI X tg e (tG W w cl EX (rI W w) (fun env => pe env >>= fun x => sbOf x >>= fun b => pure (.one b))) := by
  refine ⟨fun pins s σ H R I h => ?_⟩
  obtain ⟨ι, env, S, Rr, g⟩ := tG.bind h
  refine thn (he.run pins s σ H _ I ⟨ι, env, S, Rr, g⟩) fun v s1 ⟨x, H1, I1, r1, ι1, S1, a, f1, R1, ra, g1⟩ => ?_
  obtain ⟨b, u, hb, g2, hu⟩ := sb_ok R1 ra g1
  cases u with
  | lst a =>
    obtain ⟨e, ⟨ys, t⟩, n, eb, hn, ea⟩ := hu
    subst e eb ea
    cases r1
    rw [← hK] at t
    obtain ⟨its, rv, p, hz⟩ := I1.list t
    refine wpAny_pyIter_list p.isList (pi_one (tk := s1.toks) I1 _ (turn_list _ _) ⟨_, Heap.get?_push_size _ rfl, rfl, rfl⟩ ?_)
    rw [hK]
    exact g2.srcOk R1 (rI_lst hn)
  | tup a =>
    obtain ⟨e, xs, ys, eb, t, rs⟩ := hu
    subst e eb
    cases r1
    have t' := t
    rw [← hK] at t'
    obtain ⟨its, rv, p, hz⟩ := I1.tuple t'
    refine wpAny_pyIter_tuple (show s1.heap.IsTuple a its.toArray from p) (pi_one (tk := s1.toks) I1 _ (turn_tuple _ _) ⟨_, Heap.get?_push_size _ rfl, rfl, rfl⟩ ?_)
    rw [hK]
    exact g2.srcOk R1 (rI_tup t rs)
  | txt y =>
    obtain ⟨e, z, ey, eb, hz⟩ := hu
    subst e ey eb
    obtain ⟨t, rfl⟩ := r1
    have ha : (tx z).cps.all (· < 128) = true := by
      have := hz.2
      simp only [tx, List.all_toArray]
      exact this
    exact wpAny_pyIter_ascii ha (pi_one (tk := s1.toks) I1 _ (turn_str _ (tx z) t "str_ascii_iterator" (.inl rfl)) ⟨_, Heap.get?_push_size _ rfl, rfl, rfl⟩ (g2.srcOk R1 (rI_txt hz)))
theorem small_ok {i : Int} (h : small62 i = true) : -(2 ^ 62) ≤ i ∧ i < 2 ^ 62 := by
  unfold small62 at h
  simpa using h
theorem i_r1 {a : Expr} {pa : Env → M Val} {p pos : Pos} (hg : Gl X "range") (hm : X.mg "range" = none) (hp : plainArgs [a] = true) (ha : PE X a (tG W w cl EX (rv W) pa)) :
    PI X tg (.Call (.Name "range" p) [a] [] pos) (tG W w cl EX (rI W w) (fun env => pa env >>= fun x => r1M x)) := by
  refine ⟨fun pins s σ H R I h => (pi_range1 (tg := tg) hg hm (pa_cons ha pa_nil (star_cons hp)) (by rw [star_cons hp]; rfl)).run pins s σ H R I ?_⟩
  obtain ⟨ι, env, S, Rr, g⟩ := tG.bind h
  refine ⟨ι, env, S, Rr, g.mono fun x H1 ⟨ι1, S1, b, f1, R1, rb, g1⟩ => ?_⟩
  cases b with
  | int j =>
    cases (show x = .int j from rb)
    obtain ⟨h1, g1⟩ := Gs.need g1
    obtain ⟨h2, h3⟩ := small_ok h1
    exact ⟨j, rfl, h2, h3, Gs.srcOk R1 g1 rI_rng⟩
  | _ => exact g1.elim
theorem i_r2 {a b : Expr} {pa pb : Env → M Val} {p pos : Pos} (hg : Gl X "range") (hm : X.mg "range" = none) (hp : plainArgs [a, b] = true) (ha : PE X a (tG W w cl EX (rv W) pa)) (hb : PE X b (tG W w cl EX (rv W) pb)) :
    PI X tg (.Call (.Name "range" p) [a, b] [] pos) (tG W w cl EX (rI W w) (fun env => pa env >>= fun x => pb env >>= fun y => r2M x y)) := by
  have hp2 := plain_tail hp
  refine ⟨fun pins s σ H R I h => (pi_range2 (tg := tg) hg hm (pa_cons ha (pa_cons hb pa_nil (star_cons hp2)) (star_cons hp)) (by rw [star_cons hp, star_cons hp2]; rfl) (by rw [star_cons hp2]; rfl)).run pins s σ H R I ?_⟩
  obtain ⟨ι, env, S, Rr, g⟩ := tG.bind h
  refine ⟨ι, env, S, Rr, g.mono fun x H1 ⟨ι1, S1, va, f1, R1, ra, g1⟩ => ?_⟩
  refine ⟨ι1, env, S1, R1, (Gs.bind g1).mono fun y H2 ⟨ι2, S2, vb, f2, R2, rb, g2⟩ => ?_⟩
  have ra := ra.mono f2.le f2.ag f2.kp
  cases va with
  | int i =>
    cases vb with
    | int j =>
      cases (show x = .int i from ra)
      cases (show y = .int j from rb)
      obtain ⟨h1, g2⟩ := Gs.need g2
      obtain ⟨k1, k2⟩ := Bool.and_eq_true_iff.mp h1
      obtain ⟨a1, a2⟩ := small_ok k1
      obtain ⟨b1, b2⟩ := small_ok k2
      exact ⟨i, j, rfl, ⟨a1, a2, b1, b2⟩, Gs.srcOk R2 g2 rI_rng⟩
    | _ => exact g2.elim
  | _ => exact g2.elim
theorem sk_begins {u : Sk} {b : Sb} {x : V} {v : Value} {s : Shared} {pins : List (Addr × Obj)} {σ' : L2.St} (hK : X.K = W.K) (I : L2.Inv X pins σ' H s) (rx : RelV x v) (hu : (match u with
      | .lst a => x = .ref a ∧ (∃ ys, SqL W.K H a ys) ∧ ∃ n, b = .lst n ∧ n < S.length ∧ a = ι n
      | .tup a => x = .ref a ∧ ∃ xs ys, b = .tup xs ∧ SqT W.K H a ys ∧ RVs W ι S.length H xs ys
      | .txt y => x = .str y ∧ ∃ z, y = tx z ∧ b = .str z ∧ (z.length ≤ LINE ∧ z.all (· < 128) = true))) :
    ∃ (o : Obj) (Hb : Heap → Prop), Begins v o Hb ∧ Hb s.heap ∧ ∀ (h' : Heap) (it : Addr), h'.get? it = some o → u.it h' it 0 := by
  cases u with
  | lst a =>
    obtain ⟨e, ⟨ys, t⟩, _⟩ := hu
    subst e
    cases rx
    rw [← hK] at t
    obtain ⟨its, rv, p, hz⟩ := I.list t
    exact ⟨_, _, begins_list a its.toArray, p.isList, fun h' it e => ⟨_, e, rfl, rfl⟩⟩
  | tup a =>
    obtain ⟨e, xs, ys, _, t, _⟩ := hu
    subst e
    cases rx
    rw [← hK] at t
    obtain ⟨its, rv, p, hz⟩ := I.tuple t
    exact ⟨_, _, begins_tuple a its.toArray, p, fun h' it e => ⟨_, e, rfl, rfl⟩⟩
  | txt y =>
    obtain ⟨e, _⟩ := hu
    subst e
    obtain ⟨t, rfl⟩ := rx
    exact ⟨_, _, begins_text y t, True.intro, fun h' it e => ⟨t, _, e, rfl, rfl⟩⟩
theorem i_enm (hK : X.K = W.K) {elts : List Expr} {kk : Nat} {tpos : Pos} {a : Expr} {pa : Env → M Val} {p pos : Pos} (hg : Gl X "enumerate") (hm : X.mg "enumerate" = none) (hp : plainArgs [a] = true) (ha : PE X a (tG W w cl EX (rv W) pa)) :
    PI X (.Tuple elts kk tpos) (.Call (.Name "enumerate" p) [a] [] pos) (tG W w cl EX (rI W w) (fun env => pa env >>= fun x => sbOf x >>= fun b => pure (.enm b))) := by
  refine ⟨fun pins s σ H R I h => ?_⟩
  obtain ⟨ι, env, S, Rr, g⟩ := tG.bind h
  refine Call_ (ld_blt I hg hm boot_enumerate (PyProof.Rows.callWith_type1 (thn ((pa_cons ha pa_nil (star_cons hp)).run pos pins s σ H (fun vs H1 => ∃ x, vs = [x] ∧ ∃ ι1 S1 a, Fw ι S H ι1 S1 H1 ∧ Rl W w cl ι1 env S1 σ H1 ∧ RV W ι1 S1.length H1 a x ∧ Gs W w cl EX (rI W w) ι1 env S1 σ H1 ((sbOf a >>= fun b => pure (Src.enm b)) S1) R) I ⟨ι, env, S, Rr, g.mono fun x H1 q => ⟨x, rfl, q⟩⟩) fun us s1 ⟨vs, H1, I1, r1, x, ev, ι1, S1, va, f1, R1, ra, g1⟩ => ?_) (star_cons hp) (plain_any (plain_tail hp))))
  subst ev
  obtain ⟨v, rfl, rx⟩ := vals_one r1
  obtain ⟨b, u, hb, g2, hu⟩ := sb_ok R1 ra g1
  obtain ⟨o, Hb, B, hB, itO⟩ := sk_begins hK I1 rx hu
  refine enum1 B hB fun h' he hit hsz hk => wpAny_pyIter_enum he ?_
  have I2 : L2.Inv X pins σ H1 { s1 with heap := h' } := I1.kept (t' := s1.toks) hk
  have q := g2.srcOk R1 (rI_enm hb)
  rw [← hK] at q
  refine ⟨s1.heap.objs.size + 1, [s1.heap.objs.size + 1, s1.heap.objs.size], _, _, H1, rfl, I2, turn_enumS u (Nat.succ_ne_self _), ⟨⟨.none, he⟩, itO _ _ hit⟩, fun b hb => ?_, q⟩
  have e' : b = s1.heap.objs.size + 1 ∨ b = s1.heap.objs.size := by simpa using hb
  have hle : s1.heap.objs.size ≤ b := by
    rcases e' with z | z
    · rw [z]; exact Nat.le_add_right _ _
    · rw [z]; exact Nat.le_refl _
  exact I1.fpOk hle (I1.hok.fresh hle)
theorem i_z2 (hK : X.K = W.K) {elts : List Expr} {kk : Nat} {tpos : Pos} {a b : Expr} {pa pb : Env → M Val} {p pos : Pos} (hg : Gl X "zip") (hm : X.mg "zip" = none) (hp : plainArgs [a, b] = true) (ha : PE X a (tG W w cl EX (rv W) pa)) (hb : PE X b (tG W w cl EX (rv W) pb)) :
    PI X (.Tuple elts kk tpos) (.Call (.Name "zip" p) [a, b] [] pos) (tG W w cl EX (rI W w) (fun env => pa env >>= fun x => pb env >>= fun y => sbOf x >>= fun s => sbOf y >>= fun t => pure (.zip2 s t))) := by
  have hp2 := plain_tail hp
  refine ⟨fun pins s σ H R I h => ?_⟩
  obtain ⟨ι, env, S, Rr, g⟩ := tG.bind h
  refine Call_ (ld_blt I hg hm PyProof.Rows.boot_zip (PyProof.Rows.callWith_type1 (thn ((pa_cons ha (pa_cons hb pa_nil (star_cons hp2)) (star_cons hp)).run pos pins s σ H (fun vs H2 => ∃ x y ι2 S2 va vb, vs = [x, y] ∧ Rl W w cl ι2 env S2 σ H2 ∧ RV W ι2 S2.length H2 va x ∧ RV W ι2 S2.length H2 vb y ∧
      Gs W w cl EX (rI W w) ι2 env S2 σ H2 ((sbOf va >>= fun s => sbOf vb >>= fun t => pure (.zip2 s t)) S2) R) I ⟨ι, env, S, Rr, g.mono fun x H1 ⟨ι1, S1, va, f1, R1, ra, g1⟩ => ?_⟩) fun us s1 ⟨vs, H1, I1, r1, x, y, ι1, S1, va, vb, ev, R1, ra, rb, g1⟩ => ?_) (star_cons hp) (plain_any hp2)))
  · refine ⟨ι1, env, S1, R1, (Gs.bind g1).mono fun y H2 ⟨ι2, S2, vb, f2, R2, rb, g2⟩ => ?_⟩
    exact ⟨x, y, ι2, S2, va, vb, rfl, R2, ra.mono f2.le f2.ag f2.kp, rb, g2⟩
  · subst ev
    obtain ⟨v1, v2, rfl, rx, ry⟩ := vals2 r1
    obtain ⟨b1, u1, hb1, g2, hu1⟩ := sb_ok R1 ra g1
    obtain ⟨b2, u2, hb2, g3, hu2⟩ := sb_ok R1 rb g2
    obtain ⟨o1, H1b, B1, hB1, itO1⟩ := sk_begins hK I1 rx hu1
    obtain ⟨o2, H2b, B2, hB2, itO2⟩ := sk_begins hK I1 ry hu2
    refine zip_begins2 B1 B2 hB1 hB2 fun h' hz hTI hTO h1 h2 hsz hk => wpAny_pyIter_zip hz ?_
    have I2 : L2.Inv X pins σ H1 { s1 with heap := h' } := I1.kept (t' := s1.toks) hk
    have q := g3.srcOk R1 (rI_zip2 hb1 hb2)
    rw [← hK] at q
    have D : Five (s1.heap.objs.size + 4) (s1.heap.objs.size + 2) (s1.heap.objs.size + 3) s1.heap.objs.size (s1.heap.objs.size + 1) :=
      ⟨show (s1.heap.objs.size + 2 : Nat) ≠ s1.heap.objs.size + 4 by omega, show (s1.heap.objs.size + 3 : Nat) ≠ s1.heap.objs.size + 4 by omega, show (s1.heap.objs.size + 2 : Nat) ≠ s1.heap.objs.size + 3 by omega,
        show (s1.heap.objs.size + 2 : Nat) ≠ s1.heap.objs.size by omega, show (s1.heap.objs.size + 2 : Nat) ≠ s1.heap.objs.size + 1 by omega, show (s1.heap.objs.size + 4 : Nat) ≠ s1.heap.objs.size by omega,
        show (s1.heap.objs.size + 4 : Nat) ≠ s1.heap.objs.size + 1 by omega, show (s1.heap.objs.size + 3 : Nat) ≠ s1.heap.objs.size by omega, show (s1.heap.objs.size + 3 : Nat) ≠ s1.heap.objs.size + 1 by omega, show (s1.heap.objs.size : Nat) ≠ s1.heap.objs.size + 1 by omega⟩
    refine ⟨s1.heap.objs.size + 4, [s1.heap.objs.size + 4, s1.heap.objs.size + 2, s1.heap.objs.size + 3, s1.heap.objs.size, s1.heap.objs.size + 1], _, _, H1, rfl, I2, turn_zip2 u1 u2 D, ⟨hz, hTI, ⟨_, _, hTO⟩, itO1 _ _ h1, itO2 _ _ h2⟩, fun c hcm => ?_, q⟩
    have e' : c = s1.heap.objs.size + 4 ∨ c = s1.heap.objs.size + 2 ∨ c = s1.heap.objs.size + 3 ∨ c = s1.heap.objs.size ∨ c = s1.heap.objs.size + 1 := by simpa using hcm
    have hle : s1.heap.objs.size ≤ c := by
      rcases e' with z | z | z | z | z
      · rw [z]; exact Nat.le_add_right _ _
      · rw [z]; exact Nat.le_add_right _ _
      · rw [z]; exact Nat.le_add_right _ _
      · rw [z]; exact Nat.le_refl _
      · rw [z]; exact Nat.le_add_right _ _
    exact I1.fpOk hle (I1.hok.fresh hle)
end
end Pyd
set_option Elab.async false
set_option linter.all false
set_option maxRecDepth 100000
set_option maxHeartbeats 1000000
namespace Pyd
open PySem PySem.Spec PyProof.Rows L2
structure Upd (is : List Nat) (σ σ' : L2.St) : Prop where
  len : σ'.length = σ.length
  at_ : ∀ i, i ∉ is → σ'[i]? = σ[i]?
theorem Upd.refl {is : List Nat} {σ : L2.St} : Upd is σ σ := ⟨rfl, fun _ _ => rfl⟩
theorem Upd.trans {is js : List Nat} {σ σ1 σ2 : L2.St} (a : Upd is σ σ1) (b : Upd js σ1 σ2) : Upd (is ++ js) σ σ2 :=
  ⟨b.len.trans a.len, fun i hi => (b.at_ i fun h => hi (List.mem_append_right _ h)).trans (a.at_ i fun h => hi (List.mem_append_left _ h))⟩
theorem Upd.mono {is js : List Nat} {σ σ1 : L2.St} (a : Upd is σ σ1) (h : ∀ i ∈ is, i ∈ js) : Upd js σ σ1 := ⟨a.len, fun i hi => a.at_ i fun z => hi (h i z)⟩
theorem Upd.set {i : Nat} {σ : L2.St} {x : Option V} : Upd [i] σ (σ.set i x) := ⟨List.length_set .., fun j hj => List.getElem?_set_ne fun z => hj (by simp [z])⟩
section
variable (W : Wd) (w : World) (cl : FC) (EX : WX)
def GsE (is : List Nat) (ι : Nat → Addr) (S : Store) (σ : L2.St) (H : Hp) (r : Res Env) (Q : L2.St → Hp → Prop) : Prop :=
  match r with
  | .ok e S' => ∀ ι' σ' H', Fw ι S H ι' S' H' → Rl W w cl ι' e S' σ' H' → Upd is σ σ' → Q σ' H'
  | .ex c fs S' => ∀ ι' env' σ' H' cls d, Fw ι S H ι' S' H' → Rl W w cl ι' env' S' σ' H' → RX W ι' S'.length H' c fs cls d → EX cls d σ' H'
  | .no => False
def gT (is : List Nat) (f : Val → Env → M Env) : TG := fun x σ H Q => ∃ ι env S a, Rl W w cl ι env S σ H ∧ RV W ι S.length H a x ∧ GsE W w cl EX is ι S σ H (f a env S) Q
def gTs (is : List Nat) (f : List Val → Env → M Env) : TGs := fun xs σ H Q => ∃ ι env S as, Rl W w cl ι env S σ H ∧ RVs W ι S.length H as xs ∧ GsE W w cl EX is ι S σ H (f as env S) Q
end
section
variable {W : Wd} {w : World} {X : Cx} {cl : FC} {EX : WX} {ι ι1 : Nat → Addr} {N : Nat} {env : Env} {S S1 : Store} {σ : L2.St} {H H1 : Hp}
theorem GsE.fw {is : List Nat} {r : Res Env} {Q : L2.St → Hp → Prop} (g : GsE W w cl EX is ι S σ H r Q) (f : Fw ι S H ι1 S1 H1) : GsE W w cl EX is ι1 S1 σ H1 r Q := by
  cases r with
  | ok a S' => exact fun ι' σ' H' f' R u => g ι' σ' H' (f.trans f') R u
  | ex c fs S' => exact fun ι' env' σ' H' cls d f' R r => g ι' env' σ' H' cls d (f.trans f') R r
  | no => exact g
theorem GsE.mono {is : List Nat} {r : Res Env} {Q Q' : L2.St → Hp → Prop} (g : GsE W w cl EX is ι S σ H r Q) (h : ∀ σ H, Q σ H → Q' σ H) : GsE W w cl EX is ι S σ H r Q' := by
  cases r with
  | ok a S' => exact fun ι' σ' H' f' R u => h _ _ (g ι' σ' H' f' R u)
  | ex c fs S' => exact g
  | no => exact g
theorem Gs.bindE {is : List Nat} {α β : Type} {RA : Rf α β} {x : M α} {k : α → M Env} {Q : L2.St → Hp → Prop} (R : Rl W w cl ι env S σ H) (g : GsE W w cl EX is ι S σ H ((x >>= k) S) Q) :
    Gs W w cl EX RA ι env S σ H (x S) (fun y H1 => ∃ ι1 S1 a, Fw ι S H ι1 S1 H1 ∧ Rl W w cl ι1 env S1 σ H1 ∧ RA ι1 S1.length H1 a y ∧ GsE W w cl EX is ι1 S1 σ H1 (k a S1) Q) := by
  rw [bind_ap] at g
  cases hx : x S with
  | ok a S1 =>
    rw [hx] at g
    exact fun ι' H' y f R r => ⟨ι', S1, a, f, R, r, g.fw f⟩
  | ex c fs S1 => rw [hx] at g; exact fun ι' H' cls d f R r => g ι' env σ H' cls d f R r
  | no => rw [hx] at g; exact g
theorem GsE.bind {is js : List Nat} {x : M Env} {k : Env → M Env} {Q : L2.St → Hp → Prop} (g : GsE W w cl EX (is ++ js) ι S σ H ((x >>= k) S) Q) :
    GsE W w cl EX is ι S σ H (x S) (fun σ1 H1 => ∃ ι1 e S1, Fw ι S H ι1 S1 H1 ∧ Rl W w cl ι1 e S1 σ1 H1 ∧ GsE W w cl EX js ι1 S1 σ1 H1 (k e S1) Q) := by
  rw [bind_ap] at g
  cases hx : x S with
  | ok a S1 =>
    rw [hx] at g
    have g : GsE W w cl EX (is ++ js) ι S σ H (k a S1) Q := g
    refine fun ι' σ' H' f R u => ⟨ι', a, S1, f, R, ?_⟩
    cases hk : k a S1 with
    | ok e S2 => rw [hk] at g; exact fun ι2 σ2 H2 f2 R2 u2 => g ι2 σ2 H2 (f.trans f2) R2 (u.trans u2)
    | ex c fs S2 => rw [hk] at g; exact fun ι2 env2 σ2 H2 cls d f2 R2 r2 => g ι2 env2 σ2 H2 cls d (f.trans f2) R2 r2
    | no => rw [hk] at g; exact g
  | ex c fs S1 => rw [hx] at g; exact g
  | no => rw [hx] at g; exact g
theorem GsE.need {is : List Nat} {b : Bool} {k : M Env} {Q : L2.St → Hp → Prop} (g : GsE W w cl EX is ι S σ H ((Pyd.need b >>= fun _ => k) S1) Q) : b = true ∧ GsE W w cl EX is ι S σ H (k S1) Q := by
  rw [need_bind] at g
  by_cases h : b = true
  · rw [if_pos h] at g; exact ⟨h, g⟩
  · rw [if_neg h] at g; exact g.elim
def NoCell (cl : FC) (i : Nat) : Prop := cl.own i = none
theorem vw_set {i : Nat} {x : Option V} (hi : NoCell cl i) (a : Addr) (y : V) (h : vwOf cl σ a y) : vwOf cl (σ.set i x) a y := by
  rcases h with ⟨j, h1, h3⟩ | h
  · have hij : i ≠ j := fun z => by rw [← z, hi] at h1; cases h1
    exact .inl ⟨j, h1, by rw [List.getElem?_set_ne hij]; exact h3⟩
  · exact .inr h
theorem cs_set {i : Nat} {u : Option Val} {x : Option V} (hi : NoCell cl i) (h : ∀ i a y, cl.own i = some a → σ[i]? = some (some y) → ∃ v, env[i]? = some (some v)) :
    ∀ j a y, cl.own j = some a → (σ.set i x)[j]? = some (some y) → ∃ v, (env.set i u)[j]? = some (some v) := fun j a y h1 h2 => by
  have hij : i ≠ j := fun z => by rw [← z, hi] at h1; cases h1
  rw [List.getElem?_set_ne hij] at h2 ⊢
  exact h j a y h1 h2
theorem cs_unset {i : Nat} {u : Option Val} (hi : NoCell cl i) (h : ∀ i a y, cl.own i = some a → σ[i]? = some (some y) → ∃ v, env[i]? = some (some v)) :
    ∀ j a y, cl.own j = some a → σ[j]? = some (some y) → ∃ v, (env.set i u)[j]? = some (some v) := fun j a y h1 h2 => by
  have hij : i ≠ j := fun z => by rw [← z, hi] at h1; cases h1
  rw [List.getElem?_set_ne hij]
  exact h j a y h1 h2
theorem Rl.setSlot (R : Rl W w cl ι env S σ H) {i : Nat} {a : Val} {x : V} (hi : NoCell cl i) (hl : i < σ.length) (r : RV W ι S.length H a x) : Rl W w cl ι (env.set i (some a)) S (σ.set i (some x)) H := by
  refine ⟨by rw [List.length_set, List.length_set]; exact R.len, fun j v hj e => ?_, cs_set hi R.cs, fun n o e => ro_see e (R.ob n o e) (vw_set hi), R.inj, R.tab⟩
  rw [List.length_set] at hj
  by_cases hij : i = j
  · subst hij
    rw [List.getElem?_set_self (Nat.lt_of_lt_of_le hl R.len)] at e
    cases e
    exact ⟨x, List.getElem?_set_self hl, r⟩
  · rw [List.getElem?_set_ne hij] at e ⊢
    exact R.slot j v hj e
theorem Rl.unsetSlot (R : Rl W w cl ι env S σ H) {i : Nat} (hi : NoCell cl i) (hl : i < σ.length) : Rl W w cl ι (env.set i none) S σ H := by
  refine ⟨by rw [List.length_set]; exact R.len, fun j v hj e => ?_, cs_unset hi R.cs, R.ob, R.inj, R.tab⟩
  by_cases hij : i = j
  · subst hij
    rw [List.getElem?_set_self (Nat.lt_of_lt_of_le hl R.len)] at e
    cases e
  · rw [List.getElem?_set_ne hij] at e
    exact R.slot j v hj e
theorem dropC_at {n : Nat} {o : Ob} (e : (dropC S)[n]? = some o) : ∃ q, S[n]? = some q ∧ o = q.drop := by
  unfold dropC at e
  rw [List.getElem?_map] at e
  cases h : S[n]? with
  | none => rw [h] at e; cases e
  | some q => rw [h] at e; exact ⟨q, rfl, (Option.some.inj e).symm⟩
theorem dropC_len : (dropC S).length = S.length := List.length_map ..
theorem RO.drop {vw vw' : Vw} {n : Nat} {o : Ob} (h : RO W w ι N H vw n o) : RO W w ι N H vw' n o.drop := by
  cases o with
  | clo f vs => trivial
  | _ => exact h
theorem Trk.ofDrop {o : Ob} (t : Trk o.drop) : Trk o := by
  cases o with
  | clo f vs => exact absurd t (by simp [Ob.drop, Trk])
  | _ => exact t
theorem Rl.dropped (R : Rl W w cl ι env S σ H) : Rl W w cl ι env (dropC S) σ H where
  len := R.len
  slot := fun i v hi e => by rw [dropC_len]; exact R.slot i v hi e
  cs := R.cs
  ob := fun n o e => by
    obtain ⟨q, h, z⟩ := dropC_at e
    rw [dropC_len, z]
    exact (R.ob n q h).drop
  inj := fun m n o o' e e' t t' he => by
    obtain ⟨q, h, z⟩ := dropC_at e
    obtain ⟨q', h', z'⟩ := dropC_at e'
    subst z z'
    exact R.inj m n q q' h h' t.ofDrop t'.ofDrop he
  tab := R.tab
theorem Rl.setCell (R : Rl W w cl ι env S σ H) {i : Nat} {a : Val} {x : V} (hl : i < σ.length) (r : RV W ι S.length H a x) :
    Rl W w cl ι (env.set i (some a)) (if (slotV env i).isSome = true then dropC S else S) (σ.set i (some x)) H := by
  have slot : ∀ (T : Store), T.length = S.length → ∀ j v, j < (σ.set i (some x)).length → (env.set i (some a))[j]? = some (some v) → ∃ y, (σ.set i (some x))[j]? = some (some y) ∧ RV W ι T.length H v y := fun T hT j v hj e => by
    rw [List.length_set] at hj
    rw [hT]
    by_cases hij : i = j
    · subst hij
      rw [List.getElem?_set_self (Nat.lt_of_lt_of_le hl R.len)] at e
      cases e
      exact ⟨x, List.getElem?_set_self hl, r⟩
    · rw [List.getElem?_set_ne hij] at e ⊢
      exact R.slot j v hj e
  have cs : ∀ j a' y, cl.own j = some a' → (σ.set i (some x))[j]? = some (some y) → ∃ v, (env.set i (some a))[j]? = some (some v) := fun j a' y h1 h2 => by
    by_cases hij : i = j
    · subst hij
      exact ⟨a, List.getElem?_set_self (Nat.lt_of_lt_of_le hl R.len)⟩
    · rw [List.getElem?_set_ne hij] at h2 ⊢
      exact R.cs j a' y h1 h2
  by_cases h : (slotV env i).isSome = true
  · rw [if_pos h]
    refine ⟨by rw [List.length_set, List.length_set]; exact R.len, slot _ dropC_len, cs, fun n o e => ?_, R.dropped.inj, R.tab⟩
    obtain ⟨q, h, z⟩ := dropC_at e
    rw [dropC_len, z]
    exact (R.ob n q h).drop
  · rw [if_neg h]
    refine ⟨by rw [List.length_set, List.length_set]; exact R.len, slot _ rfl, cs, fun n o e => ro_see e (R.ob n o e) fun a' y q => ?_, R.inj, R.tab⟩
    rcases q with ⟨j, h1, h3⟩ | q
    case inr => exact .inr q
    have hij : i ≠ j := fun z => by
      subst z
      obtain ⟨v, hv⟩ := R.cs i a' y h1 h3
      exact h (by unfold slotV; rw [hv]; rfl)
    exact .inl ⟨j, h1, by rw [List.getElem?_set_ne hij]; exact h3⟩
abbrev noCl : FC := ⟨fun _ => none, fun _ => none⟩
theorem noCl_ne {i : Nat} {a : Addr} (h : noCl.own i = some a) : False := nomatch (show (none : Option Addr) = some a from h)
theorem vw_no {σ : L2.St} {a : Addr} {y : V} (h : vwOf noCl σ a y) : False := by
  rcases h with ⟨i, h, _⟩ | ⟨o, z, h, _⟩
  · exact noCl_ne h
  · exact nomatch (show (none : Option Obj) = some o from h)
theorem noCell_nil {i : Nat} : NoCell noCl i := rfl
theorem ro_any {vw vw' : Vw} {n : Nat} {o : Ob} (h : RO W w ι N H vw n o) (k : ∀ f vs, o ≠ .clo f vs) : RO W w ι N H vw' n o := by
  cases o with
  | clo f vs => exact absurd rfl (k f vs)
  | _ => exact h
theorem drop_clo {n : Nat} {o : Ob} (e : (dropC S)[n]? = some o) : ∀ f vs, o ≠ .clo f vs := fun f vs z => by
  obtain ⟨q, _, h⟩ := dropC_at e
  subst h
  cases q <;> cases z
theorem Rl.toNo (R : Rl W w cl ι env S σ H) : Rl W w noCl ι env (dropC S) σ H :=
  ⟨R.len, fun i v hi e => by rw [dropC_len]; exact R.slot i v hi e, fun i a y h => (noCl_ne h).elim, fun n o e => ro_any (R.dropped.ob n o e) (drop_clo e), R.dropped.inj, R.tab⟩
theorem Rl.ofNo (R : Rl W w noCl ι env S σ H) (cs : ∀ i a y, cl.own i = some a → σ[i]? = some (some y) → ∃ v, env[i]? = some (some v)) : Rl W w cl ι env S σ H :=
  ⟨R.len, R.slot, cs, fun n o e => ro_see e (R.ob n o e) fun a y h => (vw_no h).elim, R.inj, R.tab⟩
theorem fw_drop : Fw ι S H ι (dropC S) H := ⟨by rw [dropC_len]; exact Nat.le_refl _, fun _ _ => rfl, Kp.refl H⟩
theorem drop_imp {α β : Type} {RA : Rf α β} {f : Env → M α} {Q : β → Hp → Prop} (h : tG W w cl EX RA (fun env => dropM true >>= fun _ => f env) σ H Q) : tG W w noCl EX RA f σ H Q := by
  obtain ⟨ι, env, S, R, g⟩ := h
  refine ⟨ι, env, dropC S, R.toNo, ?_⟩
  have g : Gs W w cl EX RA ι env S σ H (f env (dropC S)) Q := g
  cases hr : f env (dropC S) with
  | ok a S' => rw [hr] at g; exact fun ι' H' y f' R' r => g ι' H' y (fw_drop.trans f') (R'.ofNo R.cs) r
  | ex c fs S' => rw [hr] at g; exact fun ι' H' cls d f' R' r => g ι' H' cls d (fw_drop.trans f') (R'.ofNo R.cs) r
  | no => rw [hr] at g; exact g
theorem e_drop {e : Expr} {pe : Env → M Val} (h : PE X e (tG W w noCl EX (rv W) pe)) : PE X e (tG W w cl EX (rv W) (fun env => dropM true >>= fun _ => pe env)) := PE_imp h fun σ H Q => drop_imp
theorem ix_lt {X : Cx} {pins : List (Addr × Obj)} {s : Shared} {σ : L2.St} {H : Hp} (I : L2.Inv X pins σ H s) {i : Nat} {x : Str} (hN : X.N[i]? = some x) : i < σ.length := by rw [I.len]; exact (List.getElem?_eq_some_iff.mp hN).1
theorem e_var {i : Nat} {x : Str} {pos : Pos} (hN : X.N[i]? = some x) (hv : Vis X.env.scope x) (hd : (x == ("__debug__" : Str)) = false) (hcd : (x == ("__classdict__" : Str)) = false) :
    PE X (.Name x pos) (tG W w cl EX (rv W) (fun env => get? (slotV env i))) :=
  ⟨fun pins s σ H Q I ⟨ι, env, S, R, g⟩ => (pe_var hN hv hd hcd).run pins s σ H Q I (by
    have g : Gs W w cl EX (rv W) ι env S σ H (get? (slotV env i) S) Q := g
    unfold get? slotV at g
    cases h : env[i]? with
    | none => rw [h] at g; exact g.elim
    | some o =>
      rw [h] at g
      cases o with
      | none => exact g.elim
      | some v =>
        obtain ⟨y, hy, r⟩ := R.slot i v (ix_lt I hN) h
        exact ⟨y, hy, g.here R r⟩)⟩
theorem e_cst {v : Val} {y : V} {e : Expr} (h : PE X e (tC y)) (r : ∀ ι N H, RV W ι N H v y) : PE X e (tG W w cl EX (rv W) (fun _ => pure v)) :=
  PE_imp h fun σ H Q ⟨ι, env, S, R, g⟩ => by
    have g : Gs W w cl EX (rv W) ι env S σ H (.ok v S) Q := g
    exact g.here R (r _ _ _)
theorem g_var {i : Nat} {x : Str} {pos : Pos} (hN : X.N.Nodup) (hi : X.N[i]? = some x) (hx : Loc X.env.scope x) (hf : X.fn x = true ∨ X.env.scope.names.lookup x = some .local) (hc : NoCell cl i) :
    PG X (.Name x pos) (gT W w cl EX [i] (fun a env => need (decide (i < env.length)) >>= fun _ => pure (env.set i (some a)))) :=
  ⟨fun pins s σ H v u Q I r ⟨ι, env, S, a, R, ra, g⟩ => (pg_name hN hi hx hf).run pins s σ H v u Q I r (by
    obtain ⟨h, g⟩ := GsE.need g
    exact g ι _ H (Fw.refl _ _ _) (R.setSlot hc (ix_lt I hi) ra) Upd.set)⟩
theorem g_cvar {i : Nat} {x : Str} {pos : Pos} (hN : X.N.Nodup) (hi : X.N[i]? = some x) (hx : Loc X.env.scope x) (hf : X.fn x = true ∨ X.env.scope.names.lookup x = some .local) :
    PG X (.Name x pos) (gT W w cl EX [i] (fun a env => need (decide (i < env.length)) >>= fun _ => dropM (slotV env i).isSome >>= fun _ => pure (env.set i (some a)))) :=
  ⟨fun pins s σ H v u Q I r ⟨ι, env, S, a, R, ra, g⟩ => (pg_name hN hi hx hf).run pins s σ H v u Q I r (by
    obtain ⟨h, g⟩ := GsE.need g
    have g : GsE W w cl EX [i] ι S σ H (.ok (env.set i (some a)) (if (slotV env i).isSome = true then dropC S else S)) Q := g
    refine g ι _ H ?_ (R.setCell (ix_lt I hi) ra) Upd.set
    split
    · exact fw_drop
    · exact Fw.refl _ _ _)⟩
theorem g_tup {is : List Nat} {es : List Expr} {k : Nat} {pos : Pos} {n : Nat} {f : List Val → Env → M Env} (hK : X.K = W.K) (hc : X.calm = true) (h : PGs X es (gTs W w cl EX is f)) (hn : (assignEach es X.env).length = n) (hst : (assignEach es X.env).findIdx? (·.1) = none) :
    PG X (.Tuple es k pos) (gT W w cl EX is (fun a env => tupTo a n >>= fun xs => f xs env)) :=
  ⟨fun pins s σ H v u Q I r ⟨ι, env, S, a, R, ra, g⟩ => (pg_tup hc h hn hst).run pins s σ H v u Q I r (by
    have g : GsE W w cl EX is ι S σ H ((tupTo a n >>= fun xs => f xs env) S) Q := g
    rw [bind_ap] at g
    cases a with
    | tup xs =>
      obtain ⟨p, ys, e, t, rs⟩ := ra
      have e2 : tupTo (.tup xs) n S = if xs.length = n then .ok xs S else .no := by
        show (if xs.length = n then (pure xs : M (List Val)) else fail) S = _
        by_cases hl : xs.length = n
        · rw [if_pos hl, if_pos hl]; rfl
        · rw [if_neg hl, if_neg hl]; rfl
      rw [e2] at g
      by_cases hl : xs.length = n
      · rw [if_pos hl] at g
        exact ⟨p, ys, e, by rw [hK]; exact t, by rw [rs.length]; exact hl, ι, env, S, xs, R, rs, g⟩
      · rw [if_neg hl] at g; exact g.elim
    | _ => exact g.elim)⟩
theorem g_nil : PGs X [] (gTs W w cl EX [] nilT) :=
  ⟨fun pins s σ H vs us Q I r ⟨ι, env, S, as, R, ra, g⟩ => pgs_nil.run pins s σ H vs us Q I r (by
    cases as with
    | nil =>
      have g : GsE W w cl EX [] ι S σ H (.ok env S) Q := g
      exact ⟨ra, g ι σ H (Fw.refl _ _ _) R Upd.refl⟩
    | cons a as => exact g.elim)⟩
theorem g_cons {is js : List Nat} {e : Expr} {es : List Expr} {f : Val → Env → M Env} {fs : List Val → Env → M Env} (h1 : PG X e (gT W w cl EX is f)) (h2 : PGs X es (gTs W w cl EX js fs)) (hs : (assignEach (e :: es) X.env).map (·.2) = assign e X.env :: (assignEach es X.env).map (·.2)) :
    PGs X (e :: es) (gTs W w cl EX (is ++ js) (consT f fs)) :=
  ⟨fun pins s σ H vs us Q I r ⟨ι, env, S, as, R, ra, g⟩ => (pgs_cons h1 h2 hs).run pins s σ H vs us Q I r (by
    cases as with
    | nil => exact g.elim
    | cons a as =>
      obtain ⟨y, zs, e, r1, rs⟩ := ra
      subst e
      have g : GsE W w cl EX (is ++ js) ι S σ H ((f a env >>= fun env => fs as env) S) Q := g
      refine ⟨y, zs, rfl, ι, env, S, a, R, r1, (GsE.bind g).mono fun σ1 H1 ⟨ι1, e1, S1, f1, R1, g1⟩ => ?_⟩
      exact ⟨ι1, e1, S1, as, R1, rs.mono f1.le f1.ag f1.kp, g1⟩)⟩
def sP (W : Wd) (w : World) (cl : FC) (EX : WX) : TSet := fun o i v H Q => ∃ ι env S σ a b c, Rl W w cl ι env S σ H ∧ RV W ι S.length H a o ∧ RV W ι S.length H b i ∧ RV W ι S.length H c v ∧
  Gs W w cl EX (fun _ _ _ (_ : Unit) (_ : Unit) => True) ι env S σ H (ixPut a b c S) (fun _ H' => Q H')
theorem s_put : PSet X (sP W w cl EX) := by
  intro pins s σ H o i v ov iv u Q I ro ri rv ⟨ι, env, S, σ', a, b, c, R, ra, rb, rc, g⟩
  cases a with
  | loc n =>
    obtain ⟨hn, e⟩ := ra
    subst e
    obtain ⟨ob, ho, g⟩ := Gs.look g
    cases ob with
    | lst xs =>
      cases b with
      | int k =>
        cases (show i = .int k from rb)
        obtain ⟨j, hj, g⟩ := Gs.get g
        obtain ⟨ys, hH, r⟩ := R.lst ho
        have g : Gs W w cl EX (fun _ _ _ (_ : Unit) (_ : Unit) => True) ι env S σ' H (.ok () (S.set n (.lst (xs.set j c)))) (fun _ H' => Q H') := g
        refine set_list pins s σ H _ _ v ov iv u Q I ro ri rv ⟨_, ys, k, j, rfl, rfl, hH, by rw [r.length]; exact hj, ?_⟩
        have nt : ∀ b xs, H b = some (.tup xs) → b ≠ ι n := fun b xs h z => by rw [z, hH] at h; cases h
        have nf : ∀ b o u, H b = some (.frz o u) → b ≠ ι n := fun b o u h z => by rw [z, hH] at h; cases h
        have k : Kp H (upd H (ι n) (.lst (ys.set j v))) := ⟨fun b xs h => by rw [upd_ne (nt b xs h)]; exact h, fun b o u h => by rw [upd_ne (nf b o u h)]; exact h⟩
        exact g ι _ () ⟨by simp, fun _ _ => rfl, k⟩ (R.write ho trivial trivial (by rw [hH]; trivial) ⟨_, upd_same, (r.set rc j).mono (Nat.le_refl _) (fun _ _ => rfl) k⟩) trivial
      | _ => exact g.elim
    | _ => exact g.elim
  | _ => exact g.elim
theorem g_sub {o i : Expr} {po pi : Env → M Val} {pos : Pos} (ho : PE X o (tG W w cl EX (rv W) po)) (hi : PE X i (tG W w cl EX (rv W) pi))
    (ha : ∀ v, assign (.Subscript o i pos) X.env v = (do
      let ov ← holding [v] (eval o X.env)
      let iv ← holding [v, ov] (eval i X.env)
      standAt pos
      holding [v, ov, iv] (setItem ov iv v)
      release [v, ov, iv] [])) :
    PG X (.Subscript o i pos) (gT W w cl EX [] (fun x env => po env >>= fun a => pi env >>= fun b => ixPut a b x >>= fun _ => pure env)) :=
  ⟨fun pins s σ H v u Q I r ⟨ι, env, S, a, R, ra, g⟩ => (pg_sub ho hi s_put ha).run pins s σ H v u Q I r (by
    refine ⟨ι, env, S, R, (Gs.bindE (RA := rv W) R g).mono fun y H1 ⟨ι1, S1, b, f1, R1, rb, g1⟩ => ?_⟩
    refine ⟨ι1, env, S1, R1, (Gs.bindE (RA := rv W) R1 g1).mono fun z H2 ⟨ι2, S2, c, f2, R2, rc, g2⟩ => ?_⟩
    refine ⟨ι2, env, S2, σ, b, c, a, R2, rb.mono f2.le f2.ag f2.kp, rc, (ra.mono f1.le f1.ag f1.kp).mono f2.le f2.ag f2.kp, ?_⟩
    refine (Gs.bindE (RA := fun _ _ _ (_ : Unit) (_ : Unit) => True) R2 g2).mono fun _ H3 ⟨ι3, S3, _, f3, R3, _, g3⟩ => ?_
    have g3 : GsE W w cl EX [] ι3 S3 σ H3 (.ok env S3) Q := g3
    exact g3 ι3 σ H3 (Fw.refl _ _ _) R3 Upd.refl)⟩
end
end Pyd
set_option Elab.async false
set_option linter.all false
set_option maxRecDepth 100000
set_option maxHeartbeats 1000000
namespace Pyd
open PySem PySem.Spec PyProof.Rows L2
section
variable {W : Wd} {w : World} {X : Cx} {cl : FC} {EX : WX} {ι : Nat → Addr} {env : Env} {S : Store} {σ : L2.St} {H : Hp} {k : Nat} {C : Orc}
theorem thousand {n : Nat} (h : n ≤ 1000) : n ≤ sizeLine := by rw [LINE_eq]; exact Nat.le_trans h (by decide)
theorem e_tup {es : List Expr} {pe : Env → M (List Val)} {x1} {pos : Pos} (h : PA X es (tG W w cl EX (rvs W) pe)) : PE X (.Tuple es x1 pos) (tG W w cl EX (rv W) (fun env => pe env >>= fun vs => need (decide (vs.length ≤ 1000)) >>= fun _ => pure (.tup vs))) :=
  PE_imp (pe_tup h) fun σ H Q h => by
    obtain ⟨ι, env, S, R, g⟩ := tG.bind h
    refine ⟨ι, env, S, R, g.mono fun ys H1 ⟨ι1, S1, as, f1, R1, rs, g1⟩ => ?_⟩
    obtain ⟨hl, g1⟩ := Gs.need g1
    exact ⟨thousand (by rw [rs.length]; exact of_decide_eq_true hl), Gs.newTup R1 g1 rs⟩
theorem e_lst {es : List Expr} {pe : Env → M (List Val)} {pos : Pos} (h : PA X es (tG W w cl EX (rvs W) pe)) : PE X (.List es pos) (tG W w cl EX (rv W) (fun env => pe env >>= fun vs => need (decide (vs.length ≤ 1000)) >>= fun _ => alloc (.lst vs))) :=
  PE_imp (pe_lst h) fun σ H Q h => by
    obtain ⟨ι, env, S, R, g⟩ := tG.bind h
    refine ⟨ι, env, S, R, g.mono fun ys H1 ⟨ι1, S1, as, f1, R1, rs, g1⟩ => ?_⟩
    obtain ⟨hl, g1⟩ := Gs.need g1
    exact ⟨thousand (by rw [rs.length]; exact of_decide_eq_true hl), Gs.newLst R1 g1 rs⟩
theorem two {a b : Expr} {pa pb : Env → M Val} {f : Val → Val → M Val} {σ : L2.St} {H : Hp} {Q : VK} (h : tG W w cl EX (rv W) (fun env => pa env >>= fun x => pb env >>= fun y => f x y) σ H Q) : tOp (rV2 W w cl EX f) (tG W w cl EX (rv W) pa) (tG W w cl EX (rv W) pb) σ H Q := by
  obtain ⟨ι, env, S, R, g⟩ := tG.bind h
  refine ⟨ι, env, S, R, g.mono fun x H1 ⟨ι1, S1, a, f1, R1, ra, g1⟩ => ?_⟩
  refine ⟨ι1, env, S1, R1, (Gs.bind g1).mono fun y H2 ⟨ι2, S2, b, f2, R2, rb, g2⟩ => ?_⟩
  exact ⟨ι2, env, S2, σ, a, b, R2, ra.mono f2.le f2.ag f2.kp, rb, g2⟩
theorem e_bin {a b : Expr} {pa pb : Env → M Val} {op : Operator} {f : Val → Val → M Val} {pos : Pos} (ho : OpR X (binaryOp op) (rV2 W w cl EX f)) (ha : PE X a (tG W w cl EX (rv W) pa)) (hb : PE X b (tG W w cl EX (rv W) pb)) :
    PE X (.BinOp a op b pos) (tG W w cl EX (rv W) (fun env => pa env >>= fun x => pb env >>= fun y => f x y)) := PE_imp (pe_op ho ha hb) fun σ H Q h => two (a := a) (b := b) h
def tOpS (r : L2.St → R2) (ta tb : TE) : TE := fun σ H Q => tOp (r σ) ta tb σ H Q
theorem pe_cmpS {a b : Expr} {ta tb : TE} {pos : Pos} {op : CmpOp} {r : L2.St → R2} (ho : OpS X (compareOp op) r) (ha : PE X a ta) (hb : PE X b tb) (hm : behindInMarks op b = false) : PE X (.Compare a [op] [b] pos) (tOpS r ta tb) := by
  refine ⟨fun pins s σ H Q I h => ?_⟩
  exact wpAny_Compare1 (binT ha hb I h fun v u s2 x y H2 I2 rx ry q => ho pins s2 σ H2 x y v u Q I2 rx ry q) hm
theorem pt_cmpS {a b : Expr} {ta tb : TE} {pos : Pos} {op : CmpOp} {r : L2.St → R2} (ho : OpS X (compareOp op) r) (ha : PE X a ta) (hb : PE X b tb) (hm : behindInMarks op b = false) : PT X (.Compare a [op] [b] pos) (tTest (tOpS r ta tb)) := by
  refine ⟨fun pins s σ H Q I h => ?_⟩
  refine wpAny_isTrue_Compare1 (thn (ha.run pins s σ H _ I h) fun v s1 ⟨x, H1, I1, r1, q1⟩ => thn (hb.run pins s1 σ H1 _ I1 q1) fun u s2 ⟨y, H2, I2, r2, q2⟩ =>
    thn (ho pins s2 σ H2 x y v u _ I2 r1 r2 q2) fun c s3 ⟨z, H3, I3, r3, k, e, q3⟩ => ?_) hm
  subst e
  cases r3
  exact wpAny_truthy_bool ⟨H3, I3, q3⟩
theorem twoS {a b : Expr} {pa pb : Env → M Val} {f : Val → Val → M Val} {σ : L2.St} {H : Hp} {Q : VK} (h : tG W w cl EX (rv W) (fun env => pa env >>= fun x => pb env >>= fun y => f x y) σ H Q) : tOpS (rS2 W w cl EX f) (tG W w cl EX (rv W) pa) (tG W w cl EX (rv W) pb) σ H Q := by
  obtain ⟨ι, env, S, R, g⟩ := tG.bind h
  refine ⟨ι, env, S, R, g.mono fun x H1 ⟨ι1, S1, a, f1, R1, ra, g1⟩ => ?_⟩
  refine ⟨ι1, env, S1, R1, (Gs.bind g1).mono fun y H2 ⟨ι2, S2, b, f2, R2, rb, g2⟩ => ?_⟩
  exact ⟨ι2, env, S2, a, b, R2, ra.mono f2.le f2.ag f2.kp, rb, g2⟩
theorem e_cmp {a b : Expr} {pa pb : Env → M Val} {op : CmpOp} {f : Val → Val → M Val} {pos : Pos} (ho : OpS X (compareOp op) (rS2 W w cl EX f)) (ha : PE X a (tG W w cl EX (rv W) pa)) (hb : PE X b (tG W w cl EX (rv W) pb)) (hm : behindInMarks op b = false) :
    PE X (.Compare a [op] [b] pos) (tG W w cl EX (rv W) (fun env => pa env >>= fun x => pb env >>= fun y => f x y)) := PE_imp (pe_cmpS ho ha hb hm) fun σ H Q h => twoS (a := a) (b := b) h
theorem e_idx (hK : X.K = W.K) {a b : Expr} {pa pb : Env → M Val} {pos : Pos} (ha : PE X a (tG W w cl EX (rv W) pa)) (hb : PE X b (tG W w cl EX (rv W) pb)) (hs : PlainIx b) :
    PE X (.Subscript a b pos) (tG W w cl EX (rv W) (fun env => pa env >>= fun x => pb env >>= fun y => ixV x y)) := PE_imp (pe_ix (i_ix hK) ha hb hs) fun σ H Q h => two (a := a) (b := b) h
theorem e_rev (hK : X.K = W.K) {a : Expr} {pa : Env → M Val} {k : Nat} {p1 p2 p3 pos : Pos} (ha : PE X a (tG W w cl EX (rv W) pa)) :
    PE X (.Subscript a (.Slice none none (some (.UnaryOp .USub (.Constant (.int 1) k p1) p2)) p3) pos) (tG W w cl EX (rv W) (fun env => pa env >>= fun x => revV x)) := PE_imp (pe_rev hK ha) fun σ H Q h => by
  obtain ⟨ι, env, S, R, g⟩ := tG.bind h
  exact ⟨ι, env, S, R, g.mono fun x H1 ⟨ι1, S1, a, f1, R1, ra, g1⟩ => ⟨ι1, env, S1, σ, a, R1, ra, g1⟩⟩
def rO : Rf (Option Val) (Option Int) := fun _ _ _ a o => match a, o with
  | none, none => True
  | some (.int i), some j => i = j
  | _, _ => False
theorem o_none {f : Env → M (Option Val)} (hf : ∀ env S, f env S = .ok none S) : PO X none (tG W w cl EX rO f) := ⟨fun pins s σ H Q I ⟨ι, env, S, R, g⟩ => po_none.run pins s σ H Q I (by
  rw [hf] at g
  exact g.here (RA := rO) R trivial)⟩
theorem o_some {e : Expr} {pe : Env → M Val} (he : PE X e (tG W w cl EX (rv W) pe)) : PO X (some e) (tG W w cl EX rO (fun env => pe env >>= fun v => partI (some v))) := ⟨fun pins s σ H Q I h => (po_some he).run pins s σ H Q I (by
  obtain ⟨ι, env, S, R, g⟩ := tG.bind h
  refine ⟨ι, env, S, R, g.mono fun x H1 ⟨ι1, S1, a, f1, R1, ra, g1⟩ => ?_⟩
  cases a with
  | int i =>
    cases (show x = .int i from ra)
    have g1 : Gs W w cl EX rO ι1 env S1 σ H1 (.ok (some (.int i)) S1) Q := g1
    exact ⟨i, rfl, g1.here (RA := rO) R1 rfl⟩
  | _ => exact g1.elim)⟩
theorem e_sl (hK : X.K = W.K) {a : Expr} {lo hi : Option Expr} {pa : Env → M Val} {pl ph : Env → M (Option Val)} {p2 pos : Pos} (ha : PE X a (tG W w cl EX (rv W) pa)) (hl : PO X lo (tG W w cl EX rO pl)) (hh : PO X hi (tG W w cl EX rO ph)) :
    PE X (.Subscript a (.Slice lo hi none p2) pos) (tG W w cl EX (rv W) (fun env => pa env >>= fun x => pl env >>= fun l => ph env >>= fun h => slM x l h)) := PE_imp (pe_slice (s_sl hK) ha hl hh) fun σ H Q h => by
  obtain ⟨ι, env, S, R, g⟩ := tG.bind h
  refine ⟨ι, env, S, R, g.mono fun x H1 ⟨ι1, S1, a, f1, R1, ra, g1⟩ => ?_⟩
  refine ⟨ι1, env, S1, R1, (Gs.bind g1).mono fun l H2 ⟨ι2, S2, lv, f2, R2, rl, g2⟩ => ?_⟩
  refine ⟨ι2, env, S2, R2, (Gs.bind g2).mono fun u H3 ⟨ι3, S3, hv, f3, R3, rh, g3⟩ => ?_⟩
  refine ⟨ι3, env, S3, σ, a, R3, (ra.mono f2.le f2.ag f2.kp).mono f3.le f3.ag f3.kp, ?_⟩
  have el : slM a lv hv S3 = slV a l u S3 := by
    unfold slM
    cases lv with
    | none =>
      cases l with
      | none =>
        cases hv with
        | none => cases u with
          | none => rfl
          | some j => exact rh.elim
        | some v => cases v <;> cases u <;> first | exact rh.elim | (cases (show _ = _ from rh); rfl)
      | some i => exact rl.elim
    | some v =>
      cases v <;> cases l <;> first | exact rl.elim | skip
      cases (show _ = _ from rl)
      cases hv with
      | none => cases u with
        | none => rfl
        | some j => exact rh.elim
      | some v => cases v <;> cases u <;> first | exact rh.elim | (cases (show _ = _ from rh); rfl)
  rw [el] at g3
  exact g3
theorem e_and {a b : Expr} {rest : List Expr} {pa pb : Env → M Val} {pos : Pos} (ha : PE X a (tG W w cl EX (rv W) pa)) (hb : PE X (.BoolOp .And (b :: rest) pos) (tG W w cl EX (rv W) pb)) :
    PE X (.BoolOp .And (a :: b :: rest) pos) (tG W w cl EX (rv W) (fun env => pa env >>= fun x => andM x (pb env))) := PE_imp (pe_and ha hb) fun σ H Q h => by
  obtain ⟨ι, env, S, R, g⟩ := tG.bind h
  refine ⟨ι, env, S, R, g.mono fun x H1 ⟨ι1, S1, a, f1, R1, ra, g1⟩ => ?_⟩
  cases a with
  | bl c =>
    cases (show x = .bl c from ra)
    cases c with
    | true => exact ⟨true, rfl, ι1, env, S1, R1, g1⟩
    | false =>
      have g1 : Gs W w cl EX (rv W) ι1 env S1 σ H1 (.ok (.bl false) S1) Q := g1
      exact ⟨false, rfl, g1.here R1 rfl⟩
  | _ => exact g1.elim
theorem e_or {a b : Expr} {rest : List Expr} {pa pb : Env → M Val} {pos : Pos} (ha : PE X a (tG W w cl EX (rv W) pa)) (hb : PE X (.BoolOp .Or (b :: rest) pos) (tG W w cl EX (rv W) pb)) :
    PE X (.BoolOp .Or (a :: b :: rest) pos) (tG W w cl EX (rv W) (fun env => pa env >>= fun x => orM x (pb env))) := PE_imp (pe_or ha hb) fun σ H Q h => by
  obtain ⟨ι, env, S, R, g⟩ := tG.bind h
  refine ⟨ι, env, S, R, g.mono fun x H1 ⟨ι1, S1, a, f1, R1, ra, g1⟩ => ?_⟩
  cases a with
  | bl c =>
    cases (show x = .bl c from ra)
    cases c with
    | false => exact ⟨false, rfl, ι1, env, S1, R1, g1⟩
    | true =>
      have g1 : Gs W w cl EX (rv W) ι1 env S1 σ H1 (.ok (.bl true) S1) Q := g1
      exact ⟨true, rfl, g1.here R1 rfl⟩
  | _ => exact g1.elim
theorem e_not {a : Expr} {pa : Env → M Val} {pos : Pos} (ha : PE X a (tG W w cl EX (rv W) pa)) : PE X (.UnaryOp .Not a pos) (tG W w cl EX (rv W) (fun env => pa env >>= fun x => notV x)) := PE_imp (pe_not ha) fun σ H Q h => by
  obtain ⟨ι, env, S, R, g⟩ := tG.bind h
  refine ⟨ι, env, S, R, g.mono fun x H1 ⟨ι1, S1, a, f1, R1, ra, g1⟩ => ?_⟩
  cases a with
  | bl c =>
    cases (show x = .bl c from ra)
    have g1 : Gs W w cl EX (rv W) ι1 env S1 σ H1 (.ok (.bl (!c)) S1) Q := g1
    exact ⟨c, rfl, g1.here R1 rfl⟩
  | _ => exact g1.elim
theorem e_neg {a : Expr} {pa : Env → M Val} {pos : Pos} (ha : PE X a (tG W w cl EX (rv W) pa)) : PE X (.UnaryOp .USub a pos) (tG W w cl EX (rv W) (fun env => pa env >>= fun x => negV x)) := PE_imp (pe_un un_neg ha) fun σ H Q h => by
  obtain ⟨ι, env, S, R, g⟩ := tG.bind h
  refine ⟨ι, env, S, R, g.mono fun x H1 ⟨ι1, S1, a, f1, R1, ra, g1⟩ => ?_⟩
  cases a with
  | int c =>
    cases (show x = .int c from ra)
    have g1 : Gs W w cl EX (rv W) ι1 env S1 σ H1 (.ok (.int (-c)) S1) Q := g1
    exact ⟨c, rfl, g1.here R1 rfl⟩
  | _ => exact g1.elim
abbrev tB' (W : Wd) (w : World) (cl : FC) (EX : WX) (f : Env → M Bool) : TT := tG W w cl EX rbl f
theorem t_val (hK : X.K = W.K) {a : Expr} {pa : Env → M Val} (ha : PE X a (tG W w cl EX (rv W) pa)) (he : ∀ whole, isTrue a X.env whole = (do let v ← whole; standAt a.pos; holding [v] (truthy v))) : PT X a (tB' W w cl EX (tru pa)) :=
  PT_imp (pt_truth ha he) fun σ H Q h => by
    obtain ⟨ι, env, S, R, g⟩ := tG.bind h
    refine ⟨ι, env, S, R, g.mono fun x H1 ⟨ι1, S1, a, f1, R1, ra, g1⟩ => ?_⟩
    exact truth_ok hK R1 ra g1
theorem truth_bl {b : Bool} {S : Store} : truth (.bl b) S = .ok b S := rfl
theorem gs_vbl {m : M Bool} {Q : Bool → Hp → Prop} (g : Gs W w cl EX rbl ι env S σ H ((vbl m >>= fun x => truth x) S) Q) : Gs W w cl EX (rv W) ι env S σ H (vbl m S) (fun x H' => ∃ k, x = .bl k ∧ Q k H') := by
  rw [bind_ap, vbl_ap] at g
  rw [vbl_ap]
  cases hm : m S with
  | ok b S' =>
    rw [hm] at g
    have g : Gs W w cl EX rbl ι env S σ H (.ok b S') Q := g
    exact fun ι' H' y f R r => ⟨b, r, g ι' H' b f R rfl⟩
  | ex c fs S' => rw [hm] at g; exact g
  | no => rw [hm] at g; exact g
theorem bind3 {α β γ δ : Type} (x : M α) (y : α → M β) (f : α → β → M γ) (k : γ → M δ) : ((x >>= fun a => y a >>= fun b => f a b) >>= k) = (x >>= fun a => y a >>= fun b => f a b >>= k) := by
  funext S
  simp only [bind_ap]
  cases x S with
  | ok a S1 =>
    dsimp only
    cases y a S1 with
    | ok b S2 => rfl
    | ex c fs S' => rfl
    | no => rfl
  | ex c fs S' => rfl
  | no => rfl
theorem t_cmp {a b : Expr} {pa pb : Env → M Val} {op : CmpOp} {m : Val → Val → M Bool} {pos : Pos} (ho : OpS X (compareOp op) (rS2 W w cl EX (fun x y => vbl (m x y)))) (ha : PE X a (tG W w cl EX (rv W) pa)) (hb : PE X b (tG W w cl EX (rv W) pb)) (hm : behindInMarks op b = false) :
    PT X (.Compare a [op] [b] pos) (tB' W w cl EX (tru (fun env => pa env >>= fun x => pb env >>= fun y => vbl (m x y)))) := PT_imp (pt_cmpS ho ha hb hm) fun σ H Q ⟨ι, env, S, R, g⟩ => by
  have g : Gs W w cl EX rbl ι env S σ H (((pa env >>= fun x => pb env >>= fun y => vbl (m x y)) >>= fun x => truth x) S) Q := g
  rw [bind3] at g
  refine ⟨ι, env, S, R, (Gs.bind (RA := rv W) g).mono fun x H1 ⟨ι1, S1, a, f1, R1, ra, g1⟩ => ?_⟩
  refine ⟨ι1, env, S1, R1, (Gs.bind (RA := rv W) g1).mono fun y H2 ⟨ι2, S2, b, f2, R2, rb, g2⟩ => ?_⟩
  exact ⟨ι2, env, S2, a, b, R2, ra.mono f2.le f2.ag f2.kp, rb, gs_vbl g2⟩
theorem bind2 {α γ δ : Type} (x : M α) (f : α → M γ) (k : γ → M δ) : ((x >>= f) >>= k) = (x >>= fun a => f a >>= k) := by
  funext S
  simp only [bind_ap]
  cases x S <;> rfl
theorem gs_tru {x : M Val} {Q : Bool → Hp → Prop} {k : Val → M Val} (hk : ∀ v, (∀ b, v ≠ .bl b) → k v = fail) (g : Gs W w cl EX rbl ι env S σ H ((x >>= fun v => k v >>= fun y => truth y) S) Q) :
    Gs W w cl EX rbl ι env S σ H ((x >>= fun v => truth v) S) (fun c H1 => ∃ ι1 S1, Fw ι S H ι1 S1 H1 ∧ Rl W w cl ι1 env S1 σ H1 ∧ Gs W w cl EX rbl ι1 env S1 σ H1 ((k (.bl c) >>= fun y => truth y) S1) Q) := by
  rw [bind_ap] at g ⊢
  cases hx : x S with
  | ok v S1 =>
    rw [hx] at g
    dsimp only at g ⊢
    by_cases hb : ∃ b, v = .bl b
    · obtain ⟨b, e⟩ := hb
      subst e
      intro ι' H' y f R r
      cases (show b = y from r)
      exact ⟨ι', S1, f, R, g.fw f⟩
    · rw [hk v fun b e => hb ⟨b, e⟩] at g
      exact g.elim
  | ex c fs S1 => rw [hx] at g; exact g
  | no => rw [hx] at g; exact g
theorem andM_not {y : M Val} (v : Val) (h : ∀ b, v ≠ .bl b) : andM v y = fail := by
  cases v with
  | bl b => exact absurd rfl (h b)
  | _ => rfl
theorem orM_not {y : M Val} (v : Val) (h : ∀ b, v ≠ .bl b) : orM v y = fail := by
  cases v with
  | bl b => exact absurd rfl (h b)
  | _ => rfl
theorem w_and {a b : Expr} {rest : List Expr} {pa pb : Env → M Val} {pos : Pos} (ha : PT X a (tB' W w cl EX (tru pa))) (hb : PW X (.BoolOp .And (b :: rest) pos) (tB' W w cl EX (tru pb))) :
    PW X (.BoolOp .And (a :: b :: rest) pos) (tB' W w cl EX (tru (fun env => pa env >>= fun x => andM x (pb env)))) := PW_imp (pw_and ha hb) fun σ H Q ⟨ι, env, S, R, g⟩ => by
  have g : Gs W w cl EX rbl ι env S σ H (((pa env >>= fun x => andM x (pb env)) >>= fun x => truth x) S) Q := g
  rw [bind2] at g
  refine ⟨ι, env, S, R, (gs_tru (fun v h => andM_not v h) g).mono fun c H1 ⟨ι1, S1, f1, R1, g1⟩ => ?_⟩
  cases c with
  | true => exact ⟨ι1, env, S1, R1, g1⟩
  | false =>
    have g1 : Gs W w cl EX rbl ι1 env S1 σ H1 (.ok false S1) Q := g1
    exact g1.here (RA := rbl) R1 rfl
theorem w_or {a b : Expr} {rest : List Expr} {pa pb : Env → M Val} {pos : Pos} (ha : PT X a (tB' W w cl EX (tru pa))) (hb : PW X (.BoolOp .Or (b :: rest) pos) (tB' W w cl EX (tru pb))) :
    PW X (.BoolOp .Or (a :: b :: rest) pos) (tB' W w cl EX (tru (fun env => pa env >>= fun x => orM x (pb env)))) := PW_imp (pw_or ha hb) fun σ H Q ⟨ι, env, S, R, g⟩ => by
  have g : Gs W w cl EX rbl ι env S σ H (((pa env >>= fun x => orM x (pb env)) >>= fun x => truth x) S) Q := g
  rw [bind2] at g
  refine ⟨ι, env, S, R, (gs_tru (fun v h => orM_not v h) g).mono fun c H1 ⟨ι1, S1, f1, R1, g1⟩ => ?_⟩
  cases c with
  | false => exact ⟨ι1, env, S1, R1, g1⟩
  | true =>
    have g1 : Gs W w cl EX rbl ι1 env S1 σ H1 (.ok true S1) Q := g1
    exact g1.here (RA := rbl) R1 rfl
theorem t_not {a : Expr} {pa : Env → M Val} {pos : Pos} (ha : PT X a (tB' W w cl EX (tru pa))) : PT X (.UnaryOp .Not a pos) (tB' W w cl EX (tru (fun env => pa env >>= fun x => notV x))) := PT_imp (pt_not ha) fun σ H Q ⟨ι, env, S, R, g⟩ => by
  have g : Gs W w cl EX rbl ι env S σ H (((pa env >>= fun x => notV x) >>= fun x => truth x) S) Q := g
  rw [bind2] at g
  refine ⟨ι, env, S, R, (gs_tru (fun v h => ?_) g).mono fun c H1 ⟨ι1, S1, f1, R1, g1⟩ => ?_⟩
  · cases v with
    | bl b => exact absurd rfl (h b)
    | _ => rfl
  · have g1 : Gs W w cl EX rbl ι1 env S1 σ H1 (.ok (!c) S1) Q := g1
    exact g1.here (RA := rbl) R1 rfl
theorem e_ife {c a b : Expr} {pc : Env → M Bool} {pa pb : Env → M Val} {pos : Pos} (hc : PT X c (tB' W w cl EX pc)) (ha : PE X a (tG W w cl EX (rv W) pa)) (hb : PE X b (tG W w cl EX (rv W) pb)) :
    PE X (.IfExp c a b pos) (tG W w cl EX (rv W) (fun env => pc env >>= fun k => if k = true then pa env else pb env)) := PE_imp (pe_ifExp hc ha hb) fun σ H Q h => by
  obtain ⟨ι, env, S, R, g⟩ := tG.bind h
  refine ⟨ι, env, S, R, g.mono fun k H1 ⟨ι1, S1, k', f1, R1, rk, g1⟩ => ?_⟩
  have rk : k' = k := rk
  subst rk
  cases k' with
  | true => exact ⟨ι1, env, S1, R1, g1⟩
  | false => exact ⟨ι1, env, S1, R1, g1⟩
end
end Pyd
set_option Elab.async false
set_option linter.all false
set_option maxRecDepth 100000
set_option maxHeartbeats 1000000
namespace Pyd
open PySem PySem.Spec PyProof.Rows L2
def IsBl (m : M Val) : Prop := ∀ S v S', m S = .ok v S' → ∃ b, v = .bl b
section
variable {W : Wd} {w : World} {X : Cx} {cl : FC} {EX : WX} {ι : Nat → Addr} {env : Env} {S : Store} {σ : L2.St} {H : Hp} {k : Nat} {C : Orc}
theorem gs_isbl {m : M Val} {Q : Bool → Hp → Prop} (hb : IsBl m) (g : Gs W w cl EX rbl ι env S σ H ((m >>= fun x => truth x) S) Q) : Gs W w cl EX (rv W) ι env S σ H (m S) (fun x H' => ∃ k, x = .bl k ∧ Q k H') := by
  rw [bind_ap] at g
  cases hm : m S with
  | ok v S' =>
    obtain ⟨b, e⟩ := hb S v S' hm
    subst e
    rw [hm] at g
    have g : Gs W w cl EX rbl ι env S σ H (.ok b S') Q := g
    exact fun ι' H' y f R r => ⟨b, r, g ι' H' b f R rfl⟩
  | ex c fs S' => rw [hm] at g; exact g
  | no => rw [hm] at g; exact g
theorem vbl_isbl (m : M Bool) : IsBl (vbl m) := fun S v S' h => by
  rw [vbl_ap] at h
  cases hm : m S with
  | ok b S1 => rw [hm] at h; cases h; exact ⟨b, rfl⟩
  | ex c fs S1 => rw [hm] at h; cases h
  | no => rw [hm] at h; cases h
theorem bind_isbl {α : Type} {x : M α} {f : α → M Val} (h : ∀ a, IsBl (f a)) : IsBl (x >>= f) := fun S v S' e => by
  rw [bind_ap] at e
  cases hx : x S with
  | ok a S1 => rw [hx] at e; exact h a S1 v S' e
  | ex c fs S1 => rw [hx] at e; cases e
  | no => rw [hx] at e; cases e
def tChS (r r' : L2.St → R2) (ta tb tc : TE) : TE := fun σ H Q => tChain (r σ) (r' σ) ta tb tc σ H Q
theorem pe_chS {a b c : Expr} {ta tb tc : TE} {pos : Pos} {op op' : CmpOp} {r r' : L2.St → R2} (ho : OpS X (compareOp op) r) (ho' : OpS X (compareOp op') r') (ha : PE X a ta) (hb : PE X b tb) (hc : PE X c tc) (hm : lastMarks [op, op'] [b, c] = false) :
    PE X (.Compare a [op, op'] [b, c] pos) (tChS r r' ta tb tc) := by
  refine ⟨fun pins s σ H Q I h => ?_⟩
  refine Compare_chain (thn (ha.run pins s σ H _ I h) fun v s1 ⟨x, H1, I1, r1, q1⟩ => chain_link (thn (hb.run pins s1 σ H1 _ I1 q1) fun u s2 ⟨y, H2, I2, r2, q2⟩ =>
    thn (ho pins s2 σ H2 x y v u _ I2 r1 r2 q2) fun d s3 ⟨z, H3, I3, r3, k, e, q3⟩ => ?_)) hm
  subst e
  cases r3
  refine wpAny_truthy_bool ?_
  cases k with
  | false => exact ite_ff ⟨.bl false, H3, I3, rfl, q3⟩
  | true => exact ite_tt (chain_last (thn (hc.run pins s3 σ H3 _ I3 q3) fun w' s4 ⟨z', H4, I4, r4, q4⟩ => ho' pins s4 σ H4 y z' u w' Q I4 r2 r4 q4))
theorem pt_chS {a b c : Expr} {ta tb tc : TE} {pos : Pos} {op op' : CmpOp} {r r' : L2.St → R2} (ho : OpS X (compareOp op) r) (ho' : OpS X (compareOp op') r') (ha : PE X a ta) (hb : PE X b tb) (hc : PE X c tc) (hm : lastMarks [op, op'] [b, c] = false) :
    PT X (.Compare a [op, op'] [b, c] pos) (tTest (tChS r r' ta tb tc)) := by
  refine ⟨fun pins s σ H Q I h => ?_⟩
  refine isTrue_chain (thn (ha.run pins s σ H _ I h) fun v s1 ⟨x, H1, I1, r1, q1⟩ => test_link (thn (hb.run pins s1 σ H1 _ I1 q1) fun u s2 ⟨y, H2, I2, r2, q2⟩ =>
    thn (ho pins s2 σ H2 x y v u _ I2 r1 r2 q2) fun d s3 ⟨z, H3, I3, r3, k, e, q3⟩ => ?_)) hm
  subst e
  cases r3
  refine wpAny_truthy_bool ?_
  cases k with
  | false =>
    obtain ⟨k', e', q'⟩ := q3
    cases e'
    exact ite_ff ⟨H3, I3, q'⟩
  | true =>
    refine ite_tt (test_last (thn (hc.run pins s3 σ H3 _ I3 q3) fun w' s4 ⟨z', H4, I4, r4, q4⟩ => thn (ho' pins s4 σ H4 y z' u w' _ I4 r2 r4 q4) fun d' s5 ⟨z2, H5, I5, r5, k2, e2, q5⟩ => ?_))
    subst e2
    cases r5
    exact wpAny_truthy_bool ⟨H5, I5, q5⟩
theorem chain {a b c : Expr} {pa pb pc : Env → M Val} {m m' : Val → Val → M Bool} {σ : L2.St} {H : Hp} {Q : VK} (h : tG W w cl EX (rv W) (fun env => pa env >>= fun x => pb env >>= fun y => m x y >>= fun k => chM k (pc env >>= fun z => vbl (m' y z))) σ H Q) :
    tChS (rS2 W w cl EX (fun x y => vbl (m x y))) (rS2 W w cl EX (fun x y => vbl (m' x y))) (tG W w cl EX (rv W) pa) (tG W w cl EX (rv W) pb) (tG W w cl EX (rv W) pc) σ H Q := by
  obtain ⟨ι, env, S, R, g⟩ := tG.bind h
  refine ⟨ι, env, S, R, g.mono fun x H1 ⟨ι1, S1, a, f1, R1, ra, g1⟩ => ?_⟩
  refine ⟨ι1, env, S1, R1, (Gs.bind g1).mono fun y H2 ⟨ι2, S2, b, f2, R2, rb, g2⟩ => ?_⟩
  refine ⟨ι2, env, S2, a, b, R2, ra.mono f2.le f2.ag f2.kp, rb, ?_⟩
  show Gs W w cl EX (rv W) ι2 env S2 σ H2 (vbl (m a b) S2) _
  rw [vbl_ap]
  rw [bind_ap] at g2
  cases hm : m a b S2 with
  | ok k S3 =>
    rw [hm] at g2
    intro ι' H' z f3 R3 rz
    refine ⟨k, rz, ?_⟩
    have g3 := g2.fw f3
    cases k with
    | false =>
      have g3 : Gs W w cl EX (rv W) ι' env S3 σ H' (.ok (.bl false) S3) Q := g3
      exact g3.here R3 rfl
    | true =>
      have g3 : Gs W w cl EX (rv W) ι' env S3 σ H' ((pc env >>= fun z => vbl (m' b z)) S3) Q := g3
      refine ⟨ι', env, S3, R3, (Gs.bind g3).mono fun z H4 ⟨ι4, S4, c, f4, R4, rc, g4⟩ => ?_⟩
      exact ⟨ι4, env, S4, b, c, R4, (rb.mono f3.le f3.ag f3.kp).mono f4.le f4.ag f4.kp, rc, g4⟩
  | ex c fs S3 => rw [hm] at g2; exact g2
  | no => rw [hm] at g2; exact g2
theorem e_cmp2 {a b c : Expr} {op op' : CmpOp} {pa pb pc : Env → M Val} {m m' : Val → Val → M Bool} {pos : Pos} (ho : OpS X (compareOp op) (rS2 W w cl EX (fun x y => vbl (m x y)))) (ho' : OpS X (compareOp op') (rS2 W w cl EX (fun x y => vbl (m' x y))))
    (ha : PE X a (tG W w cl EX (rv W) pa)) (hb : PE X b (tG W w cl EX (rv W) pb)) (hc : PE X c (tG W w cl EX (rv W) pc)) (hm : lastMarks [op, op'] [b, c] = false) :
    PE X (.Compare a [op, op'] [b, c] pos) (tG W w cl EX (rv W) (fun env => pa env >>= fun x => pb env >>= fun y => m x y >>= fun k => chM k (pc env >>= fun z => vbl (m' y z)))) := PE_imp (pe_chS ho ho' ha hb hc hm) fun σ H Q h => chain (a := a) (b := b) (c := c) h
theorem t_cmp2 {a b c : Expr} {op op' : CmpOp} {pa pb pc : Env → M Val} {m m' : Val → Val → M Bool} {pos : Pos} (ho : OpS X (compareOp op) (rS2 W w cl EX (fun x y => vbl (m x y)))) (ho' : OpS X (compareOp op') (rS2 W w cl EX (fun x y => vbl (m' x y))))
    (ha : PE X a (tG W w cl EX (rv W) pa)) (hb : PE X b (tG W w cl EX (rv W) pb)) (hc : PE X c (tG W w cl EX (rv W) pc)) (hm : lastMarks [op, op'] [b, c] = false) :
    PT X (.Compare a [op, op'] [b, c] pos) (tB' W w cl EX (tru (fun env => pa env >>= fun x => pb env >>= fun y => m x y >>= fun k => chM k (pc env >>= fun z => vbl (m' y z))))) := PT_imp (pt_chS ho ho' ha hb hc hm) fun σ H Q ⟨ι, env, S, R, g⟩ => by
  refine chain (a := a) (b := b) (c := c) ⟨ι, env, S, R, gs_isbl ?_ g⟩
  refine bind_isbl fun x => bind_isbl fun y => bind_isbl fun k => ?_
  cases k with
  | true => exact bind_isbl fun z => vbl_isbl _
  | false => exact fun S v S' e => by cases e; exact ⟨false, rfl⟩
end
section
variable {W : Wd} {w : World} {X : Cx} {cl : FC} {EX : WX} {ι : Nat → Addr} {env : Env} {S : Store} {σ : L2.St} {H : Hp} {k : Nat} {C : Orc}
theorem one_arg {pa : Env → M Val} {f : Val → M Val} {σ : L2.St} {H : Hp} {Q : VK} (h : tG W w cl EX (rv W) (fun env => pa env >>= fun x => f x) σ H Q) : tCB (r1 W w cl EX f) (tCons (tG W w cl EX (rv W) pa) tNil) σ H Q := by
  obtain ⟨ι, env, S, R, g⟩ := tG.bind h
  exact ⟨ι, env, S, R, g.mono fun x H1 ⟨ι1, S1, a, f1, R1, ra, g1⟩ => ⟨x, rfl, ι1, env, S1, σ, a, R1, ra, g1⟩⟩
theorem two_args {pa pb : Env → M Val} {f : Val → Val → M Val} {σ : L2.St} {H : Hp} {Q : VK} (h : tG W w cl EX (rv W) (fun env => pa env >>= fun x => pb env >>= fun y => f x y) σ H Q) : tCB (r2 W w cl EX f) (tCons (tG W w cl EX (rv W) pa) (tCons (tG W w cl EX (rv W) pb) tNil)) σ H Q := by
  obtain ⟨ι, env, S, R, g⟩ := tG.bind h
  refine ⟨ι, env, S, R, g.mono fun x H1 ⟨ι1, S1, a, f1, R1, ra, g1⟩ => ?_⟩
  refine ⟨ι1, env, S1, R1, (Gs.bind g1).mono fun y H2 ⟨ι2, S2, b, f2, R2, rb, g2⟩ => ?_⟩
  exact ⟨x, y, rfl, ι2, env, S2, σ, a, b, R2, ra.mono f2.le f2.ag f2.kp, rb, g2⟩
theorem e_b1 {id : String} {x : Str} {a : Expr} {pa : Env → M Val} {f : Val → M Val} {p pos : Pos} (hc : CallR X (.builtin id) (r1 W w cl EX f)) (hg : Gl X x) (hm : X.mg x = none) (hv : bootBuiltins x = some (.builtin id)) (hn : x ≠ "__name__") (hdb : (x == ("__debug__" : Str)) = false) (hp : plainArgs [a] = true)
    (ha : PE X a (tG W w cl EX (rv W) pa)) : PE X (.Call (.Name x p) [a] [] pos) (tG W w cl EX (rv W) (fun env => pa env >>= fun x => f x)) :=
  PE_imp (pe_callB hc hg hm hv (pa_cons ha pa_nil (star_cons hp)) hn hdb (star_cons hp) (plain_any (plain_tail hp))) fun σ H Q h => one_arg h
theorem e_ty1 {T : String} {x : Str} {a : Expr} {pa : Env → M Val} {f : Val → M Val} {p pos : Pos} (hc : CallR X (.type T) (r1 W w cl EX f)) (hg : Gl X x) (hm : X.mg x = none) (hv : bootBuiltins x = some (.type T)) (hn : x ≠ "__name__") (hdb : (x == ("__debug__" : Str)) = false) (hp : plainArgs [a] = true)
    (ha : PE X a (tG W w cl EX (rv W) pa)) : PE X (.Call (.Name x p) [a] [] pos) (tG W w cl EX (rv W) (fun env => pa env >>= fun x => f x)) :=
  PE_imp (pe_callTy hc hg hm hv (pa_cons ha pa_nil (star_cons hp)) hn hdb (star_cons hp) (plain_any (plain_tail hp))) fun σ H Q h => one_arg h
theorem e_b2 {id : String} {x : Str} {a b : Expr} {pa pb : Env → M Val} {f : Val → Val → M Val} {p pos : Pos} (hc : CallR X (.builtin id) (r2 W w cl EX f)) (hg : Gl X x) (hm : X.mg x = none) (hv : bootBuiltins x = some (.builtin id)) (hn : x ≠ "__name__") (hdb : (x == ("__debug__" : Str)) = false) (hp : plainArgs [a, b] = true)
    (ha : PE X a (tG W w cl EX (rv W) pa)) (hb : PE X b (tG W w cl EX (rv W) pb)) : PE X (.Call (.Name x p) [a, b] [] pos) (tG W w cl EX (rv W) (fun env => pa env >>= fun x => pb env >>= fun y => f x y)) :=
  have hp2 := plain_tail hp
  PE_imp (pe_callB hc hg hm hv (pa_cons ha (pa_cons hb pa_nil (star_cons hp2)) (star_cons hp)) hn hdb (star_cons hp) (plain_any hp2)) fun σ H Q h => two_args h
theorem e_isi (G : Good W w X) (O : WOk W) {t : Ty} {a b : Expr} {pa : Env → M Val} {c : V} {p pos : Pos} (hg : Gl X "isinstance") (hm : X.mg "isinstance" = none) (hp : plainArgs [a, b] = true) (ha : PE X a (tG W w cl EX (rv W) pa)) (hb : PE X b (tC c)) (hc : ClsVal W t c) :
    PE X (.Call (.Name "isinstance" p) [a, b] [] pos) (tG W w cl EX (rv W) (fun env => pa env >>= fun x => vbl (isaV W.P t x))) :=
  have hp2 := plain_tail hp
  PE_imp (pe_callB (c_isi G O t) hg hm (by first | rfl | decide +kernel) (pa_cons ha (pa_cons hb pa_nil (star_cons hp2)) (star_cons hp)) (by decide) (by decide) (star_cons hp) (plain_any hp2)) fun σ H Q h => by
    obtain ⟨ι, env, S, R, g⟩ := tG.bind h
    exact ⟨ι, env, S, R, g.mono fun x H1 ⟨ι1, S1, a, f1, R1, ra, g1⟩ => ⟨x, c, rfl, hc, ι1, env, S1, σ, a, R1, ra, g1⟩⟩
theorem isa_isbl {P : Prog} {t : Ty} {pa : Env → M Val} {env : Env} : IsBl (pa env >>= fun x => vbl (isaV P t x)) := bind_isbl fun _ => vbl_isbl _
theorem e_me (hK : X.K = W.K) {ty : Val → M Unit} {T id : String} {name : Str} {f : Val → Val → M Val} {o e : Expr} {po pe : Env → M Val} {apos cpos : Pos} (pa : PlainAttrs T) (slot : Slot T name id) (hty : typeOf (.builtin id) = pure (.type "method_descriptor")) (hm : MtR X id (rM W w cl EX f))
    (hT : ∀ ι env S σ H a x, Rl W w cl ι env S σ H → RV W ι S.length H a x → ∀ {α β : Type} {RA : Rf α β} {k : M α} {Q : β → Hp → Prop}, Gs W w cl EX RA ι env S σ H ((ty a >>= fun _ => k) S) Q → L2.tyV X.K T x H ∧ Gs W w cl EX RA ι env S σ H (k S) Q)
    (ho : PE X o (tG W w cl EX (rv W) po)) (he : PE X e (tG W w cl EX (rv W) pe)) (hp : plainArgs [e] = true) (hbase : attributeBase o name X.env (eval o X.env) = eval o X.env) (hline : (apos.endLine == cpos.line) = true) :
    PE X (.Call (.Attribute o name apos) [e] [] cpos) (tG W w cl EX (rv W) (fun env => po env >>= fun x => ty x >>= fun _ => pe env >>= fun y => f x y)) :=
  PE_imp (pe_bm pa slot hty hm ho (pa_cons he pa_nil (star_cons hp)) hbase (by rw [star_cons hp]; rfl) hline (star_cons hp) (plain_any (plain_tail hp))) fun σ H Q h => by
    obtain ⟨ι, env, S, R, g⟩ := tG.bind h
    refine ⟨ι, env, S, R, g.mono fun x H1 ⟨ι1, S1, a, f1, R1, ra, g1⟩ => ?_⟩
    obtain ⟨ht, g1⟩ := hT _ _ _ _ _ _ _ R1 ra g1
    refine ⟨ht, ι1, env, S1, R1, (Gs.bind g1).mono fun y H2 ⟨ι2, S2, b, f2, R2, rb, g2⟩ => ?_⟩
    exact ⟨y, rfl, ι2, env, S2, σ, a, b, R2, ra.mono f2.le f2.ag f2.kp, rb, g2⟩
theorem e_me0 (hK : X.K = W.K) {ty : Val → M Unit} {T id : String} {name : Str} {f : Val → M Val} {o : Expr} {po : Env → M Val} {apos cpos : Pos} (pa : PlainAttrs T) (slot : Slot T name id) (hty : typeOf (.builtin id) = pure (.type "method_descriptor")) (hm : MtR X id (rM0 W w cl EX f))
    (hT : ∀ ι env S σ H a x, Rl W w cl ι env S σ H → RV W ι S.length H a x → ∀ {α β : Type} {RA : Rf α β} {k : M α} {Q : β → Hp → Prop}, Gs W w cl EX RA ι env S σ H ((ty a >>= fun _ => k) S) Q → L2.tyV X.K T x H ∧ Gs W w cl EX RA ι env S σ H (k S) Q)
    (ho : PE X o (tG W w cl EX (rv W) po)) (hbase : attributeBase o name X.env (eval o X.env) = eval o X.env) (hline : (apos.endLine == cpos.line) = true) :
    PE X (.Call (.Attribute o name apos) [] [] cpos) (tG W w cl EX (rv W) (fun env => po env >>= fun x => ty x >>= fun _ => f x)) :=
  PE_imp (pe_bm0 pa slot hty hm ho hbase hline) fun σ H Q h => by
    obtain ⟨ι, env, S, R, g⟩ := tG.bind h
    refine ⟨ι, env, S, R, g.mono fun x H1 ⟨ι1, S1, a, f1, R1, ra, g1⟩ => ?_⟩
    obtain ⟨ht, g1⟩ := hT _ _ _ _ _ _ _ R1 ra g1
    exact ⟨ht, rfl, ι1, env, S1, σ, a, R1, ra, g1⟩
theorem ty_str (hK : X.K = W.K) : ∀ ι env S σ H a x, Rl W w cl ι env S σ H → RV W ι S.length H a x → ∀ {α β : Type} {RA : Rf α β} {k : M α} {Q : β → Hp → Prop}, Gs W w cl EX RA ι env S σ H ((isStrV a >>= fun _ => k) S) Q → L2.tyV X.K "str" x H ∧ Gs W w cl EX RA ι env S σ H (k S) Q := by
  intro ι env S σ H a x R ra α β RA k Q g
  cases a with
  | str z => obtain ⟨_, e⟩ := ra; subst e; exact ⟨rfl, g⟩
  | _ => exact g.elim
theorem ty_lst (hK : X.K = W.K) : ∀ ι env S σ H a x, Rl W w cl ι env S σ H → RV W ι S.length H a x → ∀ {α β : Type} {RA : Rf α β} {k : M α} {Q : β → Hp → Prop}, Gs W w cl EX RA ι env S σ H ((isLstV a >>= fun _ => k) S) Q → L2.tyV X.K "list" x H ∧ Gs W w cl EX RA ι env S σ H (k S) Q := by
  intro ι env S σ H a x R ra α β RA k Q g
  cases a with
  | loc n =>
    obtain ⟨hn, e⟩ := ra
    subst e
    have g : Gs W w cl EX RA ι env S σ H (((look n >>= fun o => (match o with
      | .lst _ => pure ()
      | _ => fail : M Unit)) >>= fun _ => k) S) Q := g
    rw [bind2] at g
    obtain ⟨o, ho, g⟩ := Gs.look g
    cases o with
    | lst xs =>
      obtain ⟨ys, t, _⟩ := R.seq (.inl ho)
      exact ⟨.inl ⟨rfl, ys, by rw [hK]; exact t⟩, g⟩
    | _ => exact g.elim
  | _ => exact g.elim
theorem e_disp {e : Expr} {f f1 f2 : Env → M Val} (p1 : PE X e (tG W w cl EX (rv W) f1)) (p2 : PE X e (tG W w cl EX (rv W) f2)) (h : ∀ env S, f env S = f1 env S ∨ f env S = f2 env S) : PE X e (tG W w cl EX (rv W) f) :=
  ⟨fun pins s σ H Q I ⟨ι, env, S, R, g⟩ => by
    rcases h env S with e | e
    · rw [e] at g; exact p1.run pins s σ H Q I ⟨ι, env, S, R, g⟩
    · rw [e] at g; exact p2.run pins s σ H Q I ⟨ι, env, S, R, g⟩⟩
theorem idx_disp (po pe : Env → M Val) (env : Env) (S : Store) :
    (po env >>= fun x => isIdxV x >>= fun _ => pe env >>= fun y => indexV x y) S = (po env >>= fun x => isStrV x >>= fun _ => pe env >>= fun y => sindexV x y) S ∨
    (po env >>= fun x => isIdxV x >>= fun _ => pe env >>= fun y => indexV x y) S = (po env >>= fun x => isLstV x >>= fun _ => pe env >>= fun y => lindexV x y) S := by
  rw [bind_ap, bind_ap, bind_ap]
  cases po env S with
  | ok x S' => cases x <;> first
    | exact .inl rfl
    | exact .inr rfl
  | ex c fs S' => exact .inl rfl
  | no => exact .inl rfl
theorem Gs.newDic {o : Obj} {Q : VK} (R : Rl W w cl ι env S σ H) (g : Gs W w cl EX (rv W) ι env S σ H (.ok (.loc S.length) (S ++ [.dic false []])) Q) {p : Addr} (hp : H p = none) (hs : (p == sysModules) = false) (hx : o.ExactDict) (hd : o.data = .dict #[] 0) : Q (.ref p) (upd H p (FixO p o)) := by
  have k : Kp H (upd H p (FixO p o)) := Kp.new hp
  have hl : (S ++ [Ob.dic false []]).length = S.length + 1 := by simp
  have ag : ∀ n, n < S.length → newι ι S.length p n = ι n := fun n h => newι_old h
  refine g (newι ι S.length p) _ _ ⟨by rw [hl]; exact Nat.le_succ _, ag, k⟩ (R.alloc k (fun b u e => by rw [upd_ne (ne_of_none e hp)]; exact e) hp ?_) ⟨by rw [hl]; exact Nat.lt_succ_self _, by rw [newι_new]⟩
  refine ⟨o, by rw [newι_new]; exact upd_same, by rw [newι_new]; exact hs, Nat.zero_le _, List.nodup_nil, fun p hp => absurd hp (by simp), hx, #[], 0, hd, .nil⟩
theorem fixO_ok {P : Program} {w : World} {H : Hp} {h : Heap} {a : Addr} {o : Obj} (e : h.get? a = some o) : ObjOk P w H h a (FixO a o) := ⟨e, ⟨o, e⟩, fun h1 h2 e1 k => k o e1⟩
theorem e_dic0 {pos : Pos} : PE X (.Dict [] [] pos) (tG W w cl EX (rv W) (fun _ => alloc (.dic false []))) :=
  ⟨fun pins s σ H Q I ⟨ι, env, S, R, g⟩ => by
    have g : Gs W w cl EX (rv W) ι env S σ H (.ok (.loc S.length) (S ++ [.dic false []])) Q := g
    have hb := I.big
    exact wpAny_Dict_empty ⟨.ref s.heap.objs.size, _, I.laid (a := s.heap.objs.size) (o := FixO s.heap.objs.size { cls := .type "dict", data := .dict #[] }) (t' := s.toks) (fun _ _ q => Heap.get?_push_of_some _ q) (Nat.le_refl _) (fixO_ok (Heap.get?_push_size _ rfl)), rfl,
      g.newDic R (I.hok.fresh (Nat.le_refl _)) (beq_eq_false_iff_ne.mpr (Ne.symm (Nat.ne_of_lt hb))) ⟨rfl, rfl, rfl⟩ rfl⟩⟩
end
end Pyd
set_option Elab.async false
set_option linter.all false
set_option maxRecDepth 100000
set_option maxHeartbeats 1000000
namespace Pyd
open PySem PySem.Spec PyProof.Rows L2
def EXF : WX := fun _ _ _ _ => False
theorem wipe_in {σ : L2.St} {i : Nat} : ∀ {vs : List Nat}, i ∈ vs → (L2.wipe σ vs)[i]? = if i < σ.length then some none else none
  | v :: vs, h => by
    show ((L2.wipe σ vs).set v none)[i]? = _
    by_cases hv : v = i
    · subst hv
      by_cases hl : v < σ.length
      · rw [if_pos hl, List.getElem?_set_self (by rw [wipe_length]; exact hl)]
      · rw [if_neg hl, List.getElem?_eq_none_iff]
        rw [List.length_set, wipe_length]; omega
    · rw [List.getElem?_set_ne hv]
      exact wipe_in (by rcases List.mem_cons.mp h with e | h; · exact absurd e.symm hv
                        · exact h)
theorem wipe_upd {is vs : List Nat} {σ σ' : L2.St} (u : Upd is σ σ') (h : ∀ i ∈ is, i ∈ vs) : L2.wipe σ' vs = L2.wipe σ vs := by
  apply List.ext_getElem?
  intro i
  by_cases hi : i ∈ vs
  · rw [wipe_in hi, wipe_in hi, u.len]
  · rw [wipe_out hi, wipe_out hi]
    exact u.at_ i fun z => hi (h i z)
theorem wipe_idem {vs : List Nat} {σ : L2.St} : L2.wipe (L2.wipe σ vs) vs = L2.wipe σ vs := by
  apply List.ext_getElem?
  intro i
  by_cases hi : i ∈ vs
  · rw [wipe_in hi, wipe_in hi, wipe_length]
  · rw [wipe_out hi]
section
variable {W : Wd} {w : World} {X : Cx} {EX : WX} {ι ι' ι1 : Nat → Addr} {env env1 : Env} {S S' S1 : Store} {σ σ1 : L2.St} {H H' H1 : Hp} {k : Nat} {C : Orc}
theorem Rl.swap (R0 : Rl W w noCl ι env S σ H) (f : Fw ι S H ι' S' H') (R1 : Rl W w noCl ι' env1 S' σ1 H') : Rl W w noCl ι' env S' σ H' where
  len := R0.len
  slot := fun i v hi e => let ⟨y, a, b⟩ := R0.slot i v hi e; ⟨y, a, b.mono f.le f.ag f.kp⟩
  cs := fun i a y h => (noCl_ne h).elim
  ob := fun n o e => ro_see e (R1.ob n o e) fun a y h => (vw_no h).elim
  inj := R1.inj
  tab := R1.tab
theorem foldl_set_len : ∀ (vs : List Nat) (env : Env), (vs.foldl (fun e i => e.set i none) env).length = env.length
  | [], _ => rfl
  | v :: vs, env => by rw [List.foldl_cons, foldl_set_len vs]; exact List.length_set ..
theorem wipe_env_len (vs : List Nat) (env : Env) : (Pyd.wipe vs env).length = env.length := foldl_set_len vs env
theorem wipe_env_out {i : Nat} : ∀ {vs : List Nat} {env : Env}, i ∉ vs → (Pyd.wipe vs env)[i]? = env[i]?
  | [], _, _ => rfl
  | v :: vs, env, h => by
    show (Pyd.wipe vs (env.set v none))[i]? = _
    rw [wipe_env_out (fun z => h (List.mem_cons_of_mem _ z)), List.getElem?_set_ne (fun z => h (by simp [z]))]
theorem wipe_env_in {i : Nat} {v : Val} : ∀ {vs : List Nat} {env : Env}, i ∈ vs → (Pyd.wipe vs env)[i]? ≠ some (some v)
  | a :: vs, env, h, z => by
    have z : (Pyd.wipe vs (env.set a none))[i]? = some (some v) := z
    by_cases hi : i ∈ vs
    · exact wipe_env_in hi z
    · rw [wipe_env_out hi] at z
      rcases List.mem_cons.mp h with e | h
      · subst e
        by_cases hl : i < env.length
        · rw [List.getElem?_set_self hl] at z; cases z
        · rw [List.getElem?_eq_none_iff.mpr (by rw [List.length_set]; omega)] at z; cases z
      · exact hi h
theorem Rl.wiped (R : Rl W w noCl ι env S σ H) (vs : List Nat) : Rl W w noCl ι (Pyd.wipe vs env) S (L2.wipe σ vs) H where
  len := by rw [wipe_env_len, wipe_length]; exact R.len
  slot := fun i v hi e => by
    by_cases hv : i ∈ vs
    · exact absurd e (wipe_env_in hv)
    · rw [wipe_env_out hv] at e
      obtain ⟨y, a, b⟩ := R.slot i v (by rw [wipe_length] at hi; exact hi) e
      exact ⟨y, by rw [wipe_out hv]; exact a, b⟩
  cs := fun i a y h => (noCl_ne h).elim
  ob := fun n o e => ro_see e (R.ob n o e) fun a y h => (vw_no h).elim
  inj := R.inj
  tab := R.tab
theorem bind_ok {α β : Type} {x : M α} {f : α → M β} {S S2 : Store} {b : β} (h : (x >>= f) S = .ok b S2) : ∃ a S1, x S = .ok a S1 ∧ f a S1 = .ok b S2 := by
  rw [bind_ap] at h
  cases hx : x S with
  | ok a S1 => rw [hx] at h; exact ⟨a, S1, rfl, h⟩
  | ex c fs S1 => rw [hx] at h; cases h
  | no => rw [hx] at h; cases h
theorem Gs.ofOk {α β : Type} {RA : Rf α β} {r : Res α} {a : α} (h : r = .ok a S1) {Q : β → Hp → Prop} (q : ∀ ι' H' y, Fw ι S H ι' S1 H' → Rl W w noCl ι' env S1 σ H' → RA ι' S1.length H' a y → Q y H') : Gs W w noCl EX RA ι env S σ H r Q := by
  subst h; exact q
theorem GsE.ofOk {is : List Nat} {r : Res Env} {a : Env} (h : r = .ok a S1) {Q : L2.St → Hp → Prop} (q : ∀ ι' σ' H', Fw ι S H ι' S1 H' → Rl W w noCl ι' a S1 σ' H' → Upd is σ σ' → Q σ' H') : GsE W w noCl EX is ι S σ H r Q := by
  subst h; exact q
theorem turn_ok {is vs : List Nat} {f : Val → Env → M Env} {pc : Env → M Bool} {pe : Env → M Val} {n : Nat} {x : Val} {y : V} {Nx : Hp → Prop} (R : Rl W w noCl ι env S σ H) (rx : RV W ι S.length H x y) (hn : n < S.length) (hu : turnM f pc pe n env x S = .ok () S1) (his : ∀ i ∈ is, i ∈ vs)
    (q : ∀ ι' H', Fw ι S H ι' S1 H' → Rl W w noCl ι' env S1 σ H' → Nx H') :
    gT W w noCl EXF is f y σ H (fun σ2 H2 => L2.wipe σ2 vs = L2.wipe σ vs ∧ tG W w noCl EXF rbl pc σ2 H2 fun b H3 =>
      if b = true then tG W w noCl EXF (rv W) pe σ2 H3 fun y H4 => ∃ acc, H4 (ι n) = some (.lst acc) ∧ acc.length < sizeLine ∧ Nx (upd H4 (ι n) (.lst (acc ++ [y]))) else Nx H3) := by
  obtain ⟨e2, S2, h1, hu⟩ := bind_ok hu
  obtain ⟨b, S3, h2, hu⟩ := bind_ok hu
  refine ⟨ι, env, S, x, R, rx, GsE.ofOk h1 fun ι2 σ2 H2 f2 R2 u2 => ⟨wipe_upd u2 his, ι2, e2, S2, R2, Gs.ofOk h2 fun ι3 H3 b' f3 R3 rb => ?_⟩⟩
  cases (show b = b' from rb)
  cases b with
  | false =>
    have hu : (.ok () S3 : Res Unit) = .ok () S1 := hu
    cases hu
    exact q ι3 H3 (f2.trans f3) (R.swap (f2.trans f3) R3)
  | true =>
    have hu : (pe e2 >>= fun y => pushL n y) S3 = .ok () S1 := hu
    obtain ⟨v, S4, h3, hu⟩ := bind_ok hu
    refine ⟨ι3, e2, S3, R3, Gs.ofOk h3 fun ι4 H4 y' f4 R4 ry => ?_⟩
    obtain ⟨o, S5, h4, hu⟩ := bind_ok hu
    unfold look at h4
    cases ho : S4[n]? with
    | none => rw [ho] at h4; cases h4
    | some ob =>
      rw [ho] at h4
      injection h4 with h4a h4b
      subst h4a h4b
      cases ob with
      | lst xs =>
        have hu : (need (decide (xs.length < LINE)) >>= fun _ => put n (.lst (xs ++ [v]))) S4 = .ok () S1 := hu
        rw [need_bind] at hu
        by_cases hl : decide (xs.length < LINE) = true
        · rw [if_pos hl] at hu
          have hu : (.ok () (S4.set n (.lst (xs ++ [v]))) : Res Unit) = .ok () S1 := hu
          cases hu
          obtain ⟨ys, hH, r⟩ := R4.lst ho
          have f14 := (f2.trans f3).trans f4
          have ea : ι n = ι4 n := (f14.ag n hn).symm
          rw [ea]
          refine ⟨ys, hH, by rw [r.length, LINE_eq]; exact of_decide_eq_true hl, ?_⟩
          have nt : ∀ b xs, H4 b = some (.tup xs) → b ≠ ι4 n := fun b xs h z => by rw [z, hH] at h; cases h
          have nf : ∀ b o u, H4 b = some (.frz o u) → b ≠ ι4 n := fun b o u h z => by rw [z, hH] at h; cases h
          have kp : Kp H4 (upd H4 (ι4 n) (.lst (ys ++ [y']))) := ⟨fun b xs h => by rw [upd_ne (nt b xs h)]; exact h, fun b o u h => by rw [upd_ne (nf b o u h)]; exact h⟩
          have f5 : Fw ι4 S4 H4 ι4 (S4.set n (.lst (xs ++ [v]))) (upd H4 (ι4 n) (.lst (ys ++ [y']))) := ⟨by simp, fun _ _ => rfl, kp⟩
          have R5 := R4.write ho (o' := .lst (xs ++ [v])) (u := .lst (ys ++ [y'])) trivial trivial (by rw [hH]; trivial) ⟨_, upd_same, (r.snoc ry).mono (Nat.le_refl _) (fun _ _ => rfl) kp⟩
          exact q ι4 _ (f14.trans f5) (R.swap (f14.trans f5) R5)
        · rw [if_neg hl] at hu; cases hu
      | _ => cases hu
theorem loop_gen {s : Src} {J : L2.It} {vs : List Nat} {t : Val → M Unit} {n : Nat} {QE : Hp → Prop} {N0 : Nat} {ι0 : Nat → Addr} {H0 : Hp} {Body : V → Hp → (Hp → Prop) → Prop} (hI : rI W w ι0 N0 H0 s J)
    (fuel : Nat) (hN : N0 ≤ S.length) (ag : ∀ m, m < N0 → ι m = ι0 m) (kp : Kp H0 H) (R : Rl W w noCl ι env S (L2.wipe σ vs) H) (hn : n < S.length) {i : Nat} (hf : compL s t fuel i S = .ok () S')
    (body : ∀ ι1 S1 H1 x v S2 Nx, Fw ι S H ι1 S1 H1 → Rl W w noCl ι1 env S1 (L2.wipe σ vs) H1 → RV W ι1 S1.length H1 v x → t v S1 = .ok () S2 → (∀ ι2 H2, Fw ι1 S1 H1 ι2 S2 H2 → Rl W w noCl ι2 env S2 (L2.wipe σ vs) H2 → Nx H2) → Body x H1 Nx)
    (qe : ∀ ι' H', Fw ι S H ι' S' H' → Rl W w noCl ι' env S' (L2.wipe σ vs) H' → QE H') :
    ∃ Wk : Nat → Nat → Hp → Prop, Wk i fuel H ∧ ∀ i m H, Wk i m H → (J.stop i H ∧ QE H) ∨ (J.go i H ∧ ∃ Nx : Hp → Prop, (∀ H', Nx H' → ∃ m', m' < m ∧ Wk (i + 1) m' H') ∧ ∀ x H', J.yld i H x H' → Body x H' Nx) := by
  refine ⟨fun j m Hj => ∃ ιj Sj, Fw ι S H ιj Sj Hj ∧ Rl W w noCl ιj env Sj (L2.wipe σ vs) Hj ∧ compL s t m j Sj = .ok () S', ⟨ι, S, Fw.refl _ _ _, R, hf⟩, ?_⟩
  rintro j m Hj ⟨ιj, Sj, fj, Rj, hj⟩
  obtain ⟨h1, h2⟩ := hI ιj env Sj (L2.wipe σ vs) Hj j noCl (Nat.le_trans hN fj.le) (fun a ha => (fj.ag a (Nat.lt_of_lt_of_le ha hN)).trans (ag a ha)) (kp.trans fj.kp) Rj
  have stop : s.at Sj j = some none → Sj = S' → (J.stop j Hj ∧ QE Hj) := fun h e => ⟨h2 h, by subst e; exact qe ιj Hj fj Rj⟩
  cases m with
  | zero =>
    have hj : (match s.at Sj j with | some none => .ok () Sj | _ => .no : Res Unit) = .ok () S' := hj
    cases ha : s.at Sj j with
    | none => rw [ha] at hj; cases hj
    | some o =>
      cases o with
      | none => rw [ha] at hj; cases hj; exact .inl (stop ha rfl)
      | some v => rw [ha] at hj; cases hj
  | succ m =>
    have hj : (match s.at Sj j with
      | some none => .ok () Sj
      | some (some v) => (match t v Sj with
        | .ok _ S' => compL s t m (j + 1) S'
        | .ex _ _ _ => .no
        | .no => .no)
      | none => .no : Res Unit) = .ok () S' := hj
    cases ha : s.at Sj j with
    | none => rw [ha] at hj; cases hj
    | some o =>
      cases o with
      | none => rw [ha] at hj; cases hj; exact .inl (stop ha rfl)
      | some v =>
        rw [ha] at hj
        dsimp only at hj
        cases ht : t v Sj with
        | no => rw [ht] at hj; cases hj
        | ex c fs S2 => rw [ht] at hj; cases hj
        | ok u S2 =>
          rw [ht] at hj
          obtain ⟨hgo, hy⟩ := h1 v ha
          refine .inr ⟨hgo, fun H2 => ∃ ι2, Fw ι S H ι2 S2 H2 ∧ Rl W w noCl ι2 env S2 (L2.wipe σ vs) H2, fun H2 ⟨ι2, f2, R2⟩ => ⟨m, Nat.lt_succ_self _, ι2, S2, f2, R2, hj⟩, fun x H' y => ?_⟩
          obtain ⟨fy, Ry, rx⟩ := hy x H' y
          exact body ιj Sj H' x v S2 _ (fj.trans fy) Ry rx ht fun ι2 H2 f2 R2 => ⟨ι2, (fj.trans fy).trans f2, R2⟩
theorem comp_loop {s : Src} {J : L2.It} {is vs : List Nat} {f : Val → Env → M Env} {pc : Env → M Bool} {pe : Env → M Val} {n : Nat} {QE : Hp → Prop} {N0 : Nat} {ι0 : Nat → Addr} {H0 : Hp} (hI : rI W w ι0 N0 H0 s J) (his : ∀ i ∈ is, i ∈ vs)
    (fuel : Nat) (hN : N0 ≤ S.length) (ag : ∀ m, m < N0 → ι m = ι0 m) (kp : Kp H0 H) (R : Rl W w noCl ι env S (L2.wipe σ vs) H) (hn : n < S.length) {i : Nat} (hf : compL s (turnM f pc pe n env) fuel i S = .ok () S')
    (qe : ∀ ι' H', Fw ι S H ι' S' H' → Rl W w noCl ι' env S' (L2.wipe σ vs) H' → QE H') :
    ∃ Wk : Nat → Nat → Hp → Prop, Wk i fuel H ∧ ∀ i m H, Wk i m H → (J.stop i H ∧ QE H) ∨ (J.go i H ∧ ∃ Nx : Hp → Prop, (∀ H', Nx H' → ∃ m', m' < m ∧ Wk (i + 1) m' H') ∧ ∀ x H', J.yld i H x H' →
      gT W w noCl EXF is f x (L2.wipe σ vs) H' fun σ2 H2 => L2.wipe σ2 vs = L2.wipe σ vs ∧ tG W w noCl EXF rbl pc σ2 H2 fun b H3 =>
        if b = true then tG W w noCl EXF (rv W) pe σ2 H3 fun y H4 => ∃ acc, H4 (ι n) = some (.lst acc) ∧ acc.length < sizeLine ∧ Nx (upd H4 (ι n) (.lst (acc ++ [y]))) else Nx H3) :=
  loop_gen hI fuel hN ag kp R hn hf (Body := fun x H' Nx => gT W w noCl EXF is f x (L2.wipe σ vs) H' fun σ2 H2 => L2.wipe σ2 vs = L2.wipe σ vs ∧ tG W w noCl EXF rbl pc σ2 H2 fun b H3 =>
        if b = true then tG W w noCl EXF (rv W) pe σ2 H3 fun y H4 => ∃ acc, H4 (ι n) = some (.lst acc) ∧ acc.length < sizeLine ∧ Nx (upd H4 (ι n) (.lst (acc ++ [y]))) else Nx H3)
    (fun ι1 S1 H1 x v S2 Nx f1 R1 rx ht hq => by
      have ea : ι n = ι1 n := (f1.ag n hn).symm
      have := turn_ok (vs := vs) (σ := L2.wipe σ vs) (Nx := Nx) R1 rx (Nat.lt_of_lt_of_le hn f1.le) ht his hq
      rw [wipe_idem, ← ea] at this
      exact this) qe
theorem compL_ex {s : Src} {t : Val → M Unit} : ∀ {fuel i : Nat} {S S' : Store} {c : Nat} {fs : List Val}, compL s t fuel i S = .ex c fs S' → False := by
  intro fuel
  induction fuel with
  | zero =>
    intro i S S' c fs h
    have h : (match s.at S i with | some none => .ok () S | _ => .no : Res Unit) = .ex c fs S' := h
    cases ha : s.at S i with
    | none => rw [ha] at h; cases h
    | some o => cases o <;> (rw [ha] at h; cases h)
  | succ m ih =>
    intro i S S' c fs h
    have h : (match s.at S i with
      | some none => .ok () S
      | some (some v) => (match t v S with
        | .ok _ S' => compL s t m (i + 1) S'
        | .ex _ _ _ => .no
        | .no => .no)
      | none => .no : Res Unit) = .ex c fs S' := h
    cases ha : s.at S i with
    | none => rw [ha] at h; cases h
    | some o =>
      cases o with
      | none => rw [ha] at h; cases h
      | some v =>
        rw [ha] at h
        dsimp only at h
        cases ht : t v S with
        | no => rw [ht] at h; cases h
        | ex c fs S2 => rw [ht] at h; cases h
        | ok u S2 => rw [ht] at h; exact ih h
theorem comp_imp {ps : Env → M Src} {is vs : List Nat} {f : Val → Env → M Env} {pc : Env → M Bool} {pe : Env → M Val} {Q : VK} (his : ∀ i ∈ is, i ∈ vs) (h : tG W w noCl EX (rv W) (compM vs ps f pc pe) σ H Q) :
    tLc (tG W w noCl EX (rI W w) ps) (gT W w noCl EXF is f) (tG W w noCl EXF rbl pc) (tG W w noCl EXF (rv W) pe) vs σ H Q := by
  obtain ⟨ι, env, S, R, g⟩ := tG.bind h
  refine ⟨ι, env, S, R, g.mono fun J H1 ⟨ι1, S1, s, f1, R1, hI, g1⟩ D hD => ?_⟩
  have g1 : Gs W w noCl EX (rv W) ι1 env S1 σ H1 ((compS s (turnM f pc pe S1.length (Pyd.wipe (vs) env)) >>= fun _ => pure (Val.loc S1.length)) (S1 ++ [.lst []])) Q := g1
  have kp : Kp H1 (upd H1 D (.lst [])) := Kp.new hD
  have hl : (S1 ++ [Ob.lst []]).length = S1.length + 1 := by simp
  have ag : ∀ n, n < S1.length → newι ι1 S1.length D n = ι1 n := fun n h => newι_old h
  have R2 : Rl W w noCl (newι ι1 S1.length D) env (S1 ++ [.lst []]) σ (upd H1 D (.lst [])) := R1.alloc kp (fun b u e => by rw [upd_ne (ne_of_none e hD)]; exact e) hD ⟨[], by rw [newι_new]; exact upd_same, rfl⟩
  have f2 : Fw ι1 S1 H1 (newι ι1 S1.length D) (S1 ++ [.lst []]) (upd H1 D (.lst [])) := ⟨by rw [hl]; exact Nat.le_succ _, ag, kp⟩
  rw [bind_ap] at g1
  unfold compS at g1
  cases hcl : compL s (turnM f pc pe S1.length (Pyd.wipe (vs) env)) (s.len (S1 ++ [.lst []])) 0 (S1 ++ [.lst []]) with
  | no => rw [hcl] at g1; exact g1.elim
  | ex c fs S' =>
    exfalso
    exact compL_ex hcl
  | ok u S' =>
    rw [hcl] at g1
    have hD2 : newι ι1 S1.length D S1.length = D := newι_new
    obtain ⟨Wk, w0, hW⟩ := comp_loop (σ := σ) (vs := vs) hI his (s.len (S1 ++ [.lst []])) (by rw [hl]; exact Nat.le_succ _) (fun m hm => ag m hm) kp (R2.wiped _) (by rw [hl]; exact Nat.lt_succ_self _) hcl (QE := fun H' => Q (.ref D) H') fun ι' H' f3 R3 => by
      refine g1 ι' H' (.ref D) (f2.trans f3) (R2.swap f3 R3) ⟨?_, ?_⟩
      · have := f3.le; rw [hl] at this; omega
      · rw [f3.ag S1.length (by rw [hl]; exact Nat.lt_succ_self _), hD2]
    rw [hD2] at hW
    exact ⟨Wk, ⟨_, w0⟩, hW⟩
theorem e_comp {elt tg iter : Expr} {ifs : List Expr} {scope : Scope} {own : List (Str × Nat)} {pos : Pos} {ps : Env → M Src} {is : List Nat} {f : Val → Env → M Env} {pc : Env → M Bool} {pe : Env → M Val} (hc : X.calm = true) (hN : X.N.Nodup) (hi : PI X tg iter (tG W w noCl EX (rI W w) ps)) (ok : BlkOk X.N X.env.scope scope own)
    (hg : ∀ (s : Shared) (H : Hp) (C : Addr) (cll : List (Str × Addr)) (fp : List Addr), PG (X.blk s H scope (compEnvC scope cll C X.env) fp) tg (gT W w noCl EXF is f))
    (ht : ∀ (s : Shared) (H : Hp) (C : Addr) (cll : List (Str × Addr)) (fp : List Addr), PTs (X.blk s H scope (compEnvC scope cll C X.env) fp) ifs (tG W w noCl EXF rbl pc))
    (he : ∀ (s : Shared) (H : Hp) (C : Addr) (cll : List (Str × Addr)) (fp : List Addr), PE (X.blk s H scope (compEnvC scope cll C X.env) fp) elt (tG W w noCl EXF (rv W) pe)) (hs : ∀ x, foldedSetIterable iter X.env x = pure x) (his : ∀ i ∈ is, i ∈ own.map (·.2)) :
    PE X (.ListComp elt [⟨tg, iter, ifs, 0⟩] scope pos) (tG W w noCl EX (rv W) (compM (own.map (·.2)) ps f pc pe)) := PE_imp (pe_lc hc hN hi ok hg ht he hs) fun σ H Q h => comp_imp his h
theorem comp2_imp {ps ps1 : Env → M Src} {is is1 vs own2 : List Nat} {f f1 : Val → Env → M Env} {pc : Env → M Bool} {pe : Env → M Val} {Q : VK} (his : ∀ i ∈ is, i ∈ vs) (his1 : ∀ i ∈ is1, i ∈ own2) (h : tG W w noCl EX (rv W) (compM2 vs own2 ps f ps1 f1 pc pe) σ H Q) :
    tLc2 (tG W w noCl EX (rI W w) ps) (gT W w noCl EXF is f) tYes (tG W w noCl EXF (rI W w) ps1) (gT W w noCl EXF is1 f1) (tG W w noCl EXF rbl pc) (tG W w noCl EXF (rv W) pe) vs own2 σ H Q := by
  obtain ⟨ι, env, S, R, g⟩ := tG.bind h
  refine ⟨ι, env, S, R, g.mono fun J H1 ⟨ι1, S1, s, f1', R1, hI, g1⟩ D hD => ?_⟩
  have g1 : Gs W w noCl EX (rv W) ι1 env S1 σ H1 ((compS s (turn2 f ps1 f1 pc pe S1.length own2 (Pyd.wipe (vs) env)) >>= fun _ => pure (Val.loc S1.length)) (S1 ++ [.lst []])) Q := g1
  have kp : Kp H1 (upd H1 D (.lst [])) := Kp.new hD
  have hl : (S1 ++ [Ob.lst []]).length = S1.length + 1 := by simp
  have ag : ∀ n, n < S1.length → newι ι1 S1.length D n = ι1 n := fun n h => newι_old h
  have R2 : Rl W w noCl (newι ι1 S1.length D) env (S1 ++ [.lst []]) σ (upd H1 D (.lst [])) := R1.alloc kp (fun b u e => by rw [upd_ne (ne_of_none e hD)]; exact e) hD ⟨[], by rw [newι_new]; exact upd_same, rfl⟩
  have f2 : Fw ι1 S1 H1 (newι ι1 S1.length D) (S1 ++ [.lst []]) (upd H1 D (.lst [])) := ⟨by rw [hl]; exact Nat.le_succ _, ag, kp⟩
  rw [bind_ap] at g1
  unfold compS at g1
  cases hcl : compL s (turn2 f ps1 f1 pc pe S1.length own2 (Pyd.wipe (vs) env)) (s.len (S1 ++ [.lst []])) 0 (S1 ++ [.lst []]) with
  | no => rw [hcl] at g1; exact g1.elim
  | ex c fs S' =>
    exfalso
    exact compL_ex hcl
  | ok u S' =>
    rw [hcl] at g1
    have hD2 : newι ι1 S1.length D S1.length = D := newι_new
    have hnl : S1.length < (S1 ++ [Ob.lst []]).length := by rw [hl]; exact Nat.lt_succ_self _
    obtain ⟨Wk, w0, hW⟩ := loop_gen (σ := σ) (vs := vs) hI (s.len (S1 ++ [.lst []])) (by rw [hl]; exact Nat.le_succ _) (fun m hm => ag m hm) kp (R2.wiped _) hnl hcl (QE := fun H' => Q (.ref D) H')
      (Body := fun x H' Nx => gT W w noCl EXF is f x (L2.wipe σ (vs)) H' fun σ2 H2 => L2.wipe σ2 (vs) = L2.wipe σ (vs) ∧ tYes σ2 H2 fun b H3 =>
        if b = true then tG W w noCl EXF (rI W w) ps1 σ2 H3 fun J1 H4 => ∃ W1 : Nat → Nat → Hp → Prop, (∃ m, W1 0 m H4) ∧ ∀ j k H, W1 j k H →
          (J1.stop j H ∧ Nx H) ∨ (J1.go j H ∧ ∃ Nx1 : Hp → Prop, (∀ H', Nx1 H' → ∃ k', k' < k ∧ W1 (j + 1) k' H') ∧ ∀ x H', J1.yld j H x H' → gT W w noCl EXF is1 f1 x (L2.wipe σ2 own2) H' fun σ3 H5 => L2.wipe σ3 own2 = L2.wipe σ2 own2 ∧ tG W w noCl EXF rbl pc σ3 H5 fun b H6 =>
            if b = true then tG W w noCl EXF (rv W) pe σ3 H6 fun y H7 => ∃ acc, H7 D = some (.lst acc) ∧ acc.length < sizeLine ∧ Nx1 (upd H7 D (.lst (acc ++ [y]))) else Nx1 H6)
        else Nx H3)
      (fun ι3 S3 H3 x v S4 Nx f3 R3 rx ht hq => by
        obtain ⟨e2, S5, h1, ht⟩ := bind_ok ht
        obtain ⟨s2, S6, h2, ht⟩ := bind_ok ht
        unfold compS at ht
        refine ⟨ι3, _, S3, v, R3, rx, GsE.ofOk h1 fun ι5 σ5 H5 f5 R5 u5 => ⟨(wipe_upd u5 his).trans wipe_idem, ?_⟩⟩
        show tG W w noCl EXF (rI W w) ps1 σ5 H5 _
        refine ⟨ι5, e2, S5, R5, Gs.ofOk h2 fun ι6 H6 J1 f6 R6 hI1 => ?_⟩
        have f36 := (f3.trans f5).trans f6
        have hn6 : S1.length < S6.length := Nat.lt_of_lt_of_le hnl f36.le
        obtain ⟨Wk1, w01, hW1⟩ := comp_loop (σ := σ5) (vs := own2) hI1 his1 (s2.len S6) (Nat.le_refl _) (fun m hm => rfl) (Kp.refl _) (R6.wiped own2) hn6 ht (QE := Nx) fun ι' H' f7 R7 => by
          exact hq ι' H' ((f5.trans f6).trans f7) (R3.swap ((f5.trans f6).trans f7) R7)
        have ea : ι6 S1.length = D := (f36.ag S1.length hnl).trans hD2
        rw [ea] at hW1
        exact ⟨Wk1, ⟨_, w01⟩, hW1⟩)
      fun ι' H' f3 R3 => by
        refine g1 ι' H' (.ref D) (f2.trans f3) (R2.swap f3 R3) ⟨?_, ?_⟩
        · have := f3.le; rw [hl] at this; omega
        · rw [f3.ag S1.length hnl, hD2]
    exact ⟨Wk, ⟨_, w0⟩, hW⟩
theorem e_comp2 {elt tg iter tg1 iter1 : Expr} {ifs1 : List Expr} {scope : Scope} {own : List (Str × Nat)} {own2 : List Nat} {pos : Pos} {ps ps1 : Env → M Src} {is is1 : List Nat} {f f1 : Val → Env → M Env} {pc : Env → M Bool} {pe : Env → M Val} (hc : X.calm = true) (hN : X.N.Nodup)
    (hi : PI X tg iter (tG W w noCl EX (rI W w) ps)) (ok : BlkOk X.N X.env.scope scope own) (hv : ∀ i ∈ own2, i ∈ own.map (·.2))
    (hg : ∀ (s : Shared) (H : Hp) (C : Addr) (cll : List (Str × Addr)) (fp : List Addr), PG (X.blk s H scope (compEnvC scope cll C X.env) fp) tg (gT W w noCl EXF is f))
    (hi1 : ∀ (s : Shared) (H : Hp) (C : Addr) (cll : List (Str × Addr)) (fp : List Addr), PI (X.blk s H scope (compEnvC scope cll C X.env) fp) tg1 iter1 (tG W w noCl EXF (rI W w) ps1))
    (hg1 : ∀ (s : Shared) (H : Hp) (C : Addr) (cll : List (Str × Addr)) (fp : List Addr), PG (X.blk s H scope (compEnvC scope cll C X.env) fp) tg1 (gT W w noCl EXF is1 f1))
    (ht1 : ∀ (s : Shared) (H : Hp) (C : Addr) (cll : List (Str × Addr)) (fp : List Addr), PTs (X.blk s H scope (compEnvC scope cll C X.env) fp) ifs1 (tG W w noCl EXF rbl pc))
    (he : ∀ (s : Shared) (H : Hp) (C : Addr) (cll : List (Str × Addr)) (fp : List Addr), PE (X.blk s H scope (compEnvC scope cll C X.env) fp) elt (tG W w noCl EXF (rv W) pe)) (hs : ∀ x, foldedSetIterable iter X.env x = pure x) (hs1 : ∀ env x, foldedSetIterable iter1 env x = pure x)
    (his : ∀ i ∈ is, i ∈ own.map (·.2)) (his1 : ∀ i ∈ is1, i ∈ own2) :
    PE X (.ListComp elt [⟨tg, iter, [], 0⟩, ⟨tg1, iter1, ifs1, 0⟩] scope pos) (tG W w noCl EX (rv W) (compM2 (own.map (·.2)) own2 ps f ps1 f1 pc pe)) :=
  PE_imp (pe_lc2 (vs1 := own2) hc hN hi ok hv hg (fun _ _ _ _ _ => pts_nil) hi1 hg1 ht1 he hs hs1) fun σ H Q h => comp2_imp his his1 h
end
end Pyd
set_option Elab.async false
set_option linter.all false
set_option maxRecDepth 100000
set_option maxHeartbeats 1000000
namespace Pyd
open PySem PySem.Spec PyProof.Rows L2
section
variable {X : Cx} {pins : List (Addr × Obj)} {σ : L2.St} {H : Hp} {s : Shared}
theorem inv_tableH {P c : Addr} {oc : Obj} {ps more : Array Value} {h' : Heap} {t' : Nat} (I : L2.Inv X pins σ H s) (hP : H P = some (.tbl ps)) (k : ∀ b o, b ≠ P → s.heap.get? b = some o → h'.get? b = some o)
    (hm : h'.get? P = some { cls := .none, data := .fields (ps ++ more) }) (hc : s.heap.objs.size ≤ c) (ho : h'.get? c = some oc) :
    L2.Inv X pins σ (upd (upd H P (.tbl (ps ++ more))) c (.frz oc (FixO c oc))) { s with heap := h', toks := t' } := by
  have nC : H c = none := I.hok.fresh hc
  have nPc : P ≠ c := ne_of_none hP nC
  have at_ : ∀ b, b ≠ P → b ≠ c → upd (upd H P (.tbl (ps ++ more))) c (.frz oc (FixO c oc)) b = H b := fun b h1 h2 => by rw [upd_ne h2, upd_ne h1]
  have atP : upd (upd H P (.tbl (ps ++ more))) c (.frz oc (FixO c oc)) P = some (.tbl (ps ++ more)) := by rw [upd_ne nPc, upd_same]
  have nP : ∀ b u, H b = some u → (∀ q, u ≠ .tbl q) → b ≠ P := fun b u e q z => by
    rw [z, hP] at e
    exact q ps (Option.some.inj e).symm
  have nN : ∀ b, H b = none → b ≠ P := fun b e z => by
    rw [z, hP] at e
    cases e
  have lt' : ∀ b o, s.heap.get? b = some o → b ≠ c := fun b o e z => by
    rw [z] at e
    exact Nat.lt_irrefl _ (Nat.lt_of_lt_of_le (Heap.lt_size e) hc)
  have sm : ∀ b u, H b = some u → b ≠ c := fun b u e => ne_of_none e nC
  refine I.step (g' := s.gens) (d' := s.drawn) (ch := []) (fun b hb => absurd hb (by simp)) (fun b o _ _ _ e n => k b o (nN b n) e) (fun b o _ _ _ e n => ⟨o.slots, k b o (nN b n) e⟩)
    (fun b o _ e n => by rw [at_ b (nN b n) (lt' b o e)]; exact n) (fun b o _ e => ?_) (fun b xs e => by rw [at_ b (nP b _ e (fun q z => by cases z)) (sm b _ e)]; exact e) (fun b o u e => by rw [at_ b (nP b _ e (fun q z => by cases z)) (sm b _ e)]; exact e) (fun b qs e => ?_) (fun m hn => ?_) (fun b u e => ?_) I.bare
  · by_cases hb : b = P
    · rw [hb]; exact ⟨_, hm⟩
    · exact ⟨o, k b o hb e⟩
  · by_cases hb : b = P
    · rw [hb, hP] at e
      cases e
      rw [hb, atP]
      exact ⟨more, rfl⟩
    · rw [at_ b hb (sm b _ e), e]
      exact ⟨#[], by simp⟩
  · obtain ⟨ob, es, ep, ho, r⟩ := hn
    exact ⟨ob, es, ep, k _ ob (nN _ I.free) ho, r⟩
  · by_cases hb : b = c
    · rw [hb, upd_same] at e
      cases e
      rw [hb]
      exact ⟨ho, ho, ⟨oc, ho⟩, fun h1 h2 e k => k oc e⟩
    · by_cases hb2 : b = P
      · rw [hb2, atP] at e
        cases e
        rw [hb2]
        exact hm
      · rw [at_ b hb2 hb] at e
        refine (I.hok b u e).stay (fun d v hd q => k d v ?_ q) (fun d q => by rw [at_ d (nP d _ q (fun q z => by cases z)) (sm d _ q)]; exact q) fun d xs q => by rw [at_ d (nP d _ q (fun q z => by cases z)) (sm d _ q)]; exact q
        rcases hd with z | z
        · rw [z]; exact hb2
        · exact nP d _ z (fun q z => by cases z)
theorem inv_new {o : Obj} {t' : Nat} (hf : o.isFreed = false) (I : L2.Inv X pins σ H s) : L2.Inv X pins σ (upd H s.heap.objs.size (.frz o (FixO s.heap.objs.size o))) { s with heap := s.heap.push o, toks := t' } := by
  refine I.laid (a := s.heap.objs.size) (fun b u e => Heap.get?_push_of_some _ e) (Nat.le_refl _) ?_
  have e : (s.heap.push o).get? s.heap.objs.size = some o := Heap.get?_push_size _ hf
  exact ⟨e, e, ⟨o, e⟩, fun h1 h2 e k => k o e⟩
end
def clX (N : List Str) (env : PySem.Env) : Nat → Option Addr := fun i => match N[i]? with
  | some x => (match env.scope.names.lookup x with
    | some .cell => env.cells.lookup x
    | _ => none)
  | none => none
theorem clX_at {N : List Str} {env : PySem.Env} {i : Nat} {a : Addr} (h : clX N env i = some a) : ∃ x, N[i]? = some x ∧ env.cells.lookup x = some a ∧ (env.scope.names.lookup x = some .cell ∨ env.scope.names.lookup x = some .free) := by
  unfold clX at h
  split at h
  · rename_i x hx
    split at h
    · rename_i hk; exact ⟨x, hx, h, .inl hk⟩
    · cases h
  · cases h
theorem clX_loc {N : List Str} {env : PySem.Env} {i : Nat} {x : Str} (h : N[i]? = some x) (hk : env.scope.names.lookup x = some .local) : clX N env i = none := by
  unfold clX
  rw [h]
  dsimp only
  rw [hk]
structure Made (H H1 : Hp) : Prop where
  ext : ∀ b o, H b = some o → (∀ ps, o ≠ .tbl ps) → H1 b = some o
  tab : ∀ b ps, H b = some (.tbl ps) → ∃ qs, H1 b = some (.tbl qs)
theorem Made.kp {H H1 : Hp} (m : Made H H1) : Kp H H1 := ⟨fun b xs e => m.ext b _ e fun ps z => (nomatch z), fun b o u e => m.ext b _ e fun ps z => (nomatch z)⟩
structure LamF (W : Wd) (X : Cx) (f : Nat) (I : InnF) (pos : Pos) : Prop where
  inn : W.inn f I
  tab : ∃ c P nm, LamX.TabB X.base X.mg c P ∧ X.env.code = .ref c ∧ (P, nm) ∈ W.T ∧ nm pos.line pos.col = I.qual ∧ ∀ p ∈ W.T, p.1 = P → p.2 = nm
  free : ∀ y ∈ I.scope.names, y.2 = .free → X.env.scope.names.lookup y.1 = some .cell ∨ X.env.scope.names.lookup y.1 = some .free
  fr : ∀ y, y ∈ I.fr ↔ (y, NameKind.free) ∈ I.scope.names
section
variable {W : Wd} {w : World} {X : Cx} {cl : FC} {EX : WX} {ι : Nat → Addr} {env : Env} {S : Store} {σ : L2.St} {H H1 : Hp} {s : Shared} {pins : List (Addr × Obj)}
theorem TabsH.made {T : List (Addr × (Nat → Nat → Str))} (h : TabsH T H) (m : Made H H1) {P : Addr} {nm : Nat → Nat → Str} (hu : ∀ p ∈ T, p.1 = P → p.2 = nm) (hP : TabH H1 P nm) (ho : ∀ b ps, b ≠ P → H b = some (.tbl ps) → H1 b = some (.tbl ps)) : TabsH T H1 := fun p hp => by
  by_cases hb : p.1 = P
  · rw [hu p hp hb, hb]; exact hP
  · obtain ⟨ps, a, b, c⟩ := h p hp
    exact ⟨ps, ho _ _ hb a, b, fun pos cv q => let ⟨x, y, z⟩ := c pos cv q; ⟨x, y, z.kp m.kp⟩⟩
theorem Rl.made (R : Rl W w cl ι env S σ H) (m : Made H H1) (hT : TabsH W.T H1) {a : Addr} (hn : H a = none) {f : Nat} {vs : List Val} (new : RO W w (newι ι S.length a) (S.length + 1) H1 (vwOf cl σ) S.length (.clo f vs)) :
    Rl W w cl (newι ι S.length a) env (S ++ [.clo f vs]) σ H1 := by
  have k := m.kp
  have hl : (S ++ [Ob.clo f vs]).length = S.length + 1 := by simp
  have ho : ∀ n, n < S.length → newι ι S.length a n = ι n := fun n h => newι_old h
  have lt : ∀ {n : Nat} {q : Ob}, S[n]? = some q → n < S.length := fun e => (List.getElem?_eq_some_iff.mp e).1
  have at_ : ∀ {n : Nat} {q : Ob}, (S ++ [Ob.clo f vs])[n]? = some q → (S[n]? = some q ∧ n < S.length) ∨ (n = S.length ∧ q = .clo f vs) := fun {n q} e => by
    by_cases h : n < S.length
    · rw [List.getElem?_append_left h] at e; exact .inl ⟨e, h⟩
    · rw [List.getElem?_append_right (Nat.le_of_not_lt h)] at e
      have h0 : n - S.length = 0 := by
        cases q' : n - S.length with
        | zero => rfl
        | succ m => rw [q'] at e; simp at e
      rw [h0] at e
      exact .inr ⟨by omega, by simpa using e.symm⟩
  refine ⟨R.len, fun i v hi e => ?_, R.cs, fun n q e => ?_, fun m' n q q' e e' t t' he => ?_, hT⟩
  · obtain ⟨y, a, b⟩ := R.slot i v hi e
    exact ⟨y, a, by rw [hl]; exact b.mono (Nat.le_succ _) ho k⟩
  · rw [hl]
    rcases at_ e with ⟨e, h⟩ | ⟨rfl, rfl⟩
    · exact (R.ob n q e).stayW (Nat.le_succ _) ho k.weak h (fun u h n => m.ext _ _ h n.2) (fun dx h => m.ext _ _ h fun ps z => (nomatch z)) fun _ _ c => c.mono (Nat.le_succ _) ho k fun _ _ h => h
    · exact new
  · rcases at_ e with ⟨e, h⟩ | ⟨_, h⟩
    · rcases at_ e' with ⟨e', h'⟩ | ⟨_, h'⟩
      · rw [ho m' h, ho n h'] at he
        exact R.inj m' n q q' e e' t t' he
      · rw [h'] at t'; exact absurd t' (by simp [Trk])
    · rw [h] at t; exact absurd t (by simp [Trk])
def MadeAt (W : Wd) (X : Cx) (pins : List (Addr × Obj)) (σ : L2.St) (H : Hp) (I : InnF) (a : Addr) (s' : Shared) : Prop :=
  ∃ c' H1, L2.Inv X pins σ H1 s' ∧ Made H H1 ∧ TabsH W.T H1 ∧ H a = none ∧ FnH H1 a I (cloFrom X.env.cells I.scope.names []) c' ∧ CodeH H1 c' I.qual
theorem made_fn {T : List (Addr × (Nat → Nat → Str))} {H0 : Hp} {In : InnF} {o : Obj} {c' : Addr} {doc pm ctv : Value} {tk : Nat} (hT : W.T = T) (I : L2.Inv X pins σ H s) (m : Made H0 H) (hTs : TabsH W.T H) (hn : H0 s.heap.objs.size = none) (hc : CodeH H c' In.qual)
    (ho : o = { cls := .type "function", data := .func (In.fd (cloFrom X.env.cells In.scope.names []) c' doc pm ctv) }) : MadeAt W X pins σ H0 In s.heap.objs.size { s with heap := s.heap.push o, toks := tk } := by
  have hf : o.isFreed = false := by rw [ho]; rfl
  have nF : H s.heap.objs.size = none := I.hok.fresh (Nat.le_refl _)
  have up : ∀ b u, H b = some u → upd H s.heap.objs.size (.frz o (FixO s.heap.objs.size o)) b = some u := fun b u e => by rw [upd_ne (ne_of_none e nF)]; exact e
  have kp : Kp H (upd H s.heap.objs.size (.frz o (FixO s.heap.objs.size o))) := ⟨fun b xs e => up b _ e, fun b o u e => up b _ e⟩
  refine ⟨c', _, inv_new hf I, ⟨fun b u e n => up b u (m.ext b u e n), fun b ps e => let ⟨qs, z⟩ := m.tab b ps e; ⟨qs, up b _ z⟩⟩, hTs.kp kp fun P ps e => up P _ e, hn, ⟨o, _, _, doc, pm, ctv, upd_same, ho⟩, hc.kp kp⟩
theorem made_new {In : InnF} {P c' : Addr} {ps : Array Value} {nm : Nat → Nat → Str} {pos : Pos} {h' : Heap} {tk : Nat} {o : Obj} {doc pm ctv : Value} (I : L2.Inv X pins σ H s) (hT : TabsH W.T H) (hm : (P, nm) ∈ W.T) (hn : nm pos.line pos.col = In.qual) (hu : ∀ p ∈ W.T, p.1 = P → p.2 = nm)
    (hP : H P = some (.tbl ps)) (ht : TriplesOk ps.toList) (ha : ∀ (pos : Pos) (cv : Value), codeAmong pos ps.toList = some cv → ∃ c, cv = .ref c ∧ CodeH H c (nm pos.line pos.col)) (hx : ∀ b o, b ≠ P → s.heap.get? b = some o → h'.get? b = some o) (hge : s.heap.objs.size ≤ c') (hlt : c' < h'.objs.size)
    (hrec : h'.CodeRec (.ref c') In.qual) (htb : h'.get? P = some { cls := .none, data := .fields (ps ++ #[rawInt pos.line, rawInt pos.col, .ref c']) })
    (ho : o = { cls := .type "function", data := .func (In.fd (cloFrom X.env.cells In.scope.names []) c' doc pm ctv) }) : MadeAt W X pins σ H In h'.objs.size { s with heap := h'.push o, toks := tk } := by
  obtain ⟨c2, oc, vs, t, e2, hoc, hd, hv⟩ := hrec
  cases e2
  have nC : H c' = none := I.hok.fresh hge
  have I1 := inv_tableH (t' := tk) (more := #[rawInt pos.line, rawInt pos.col, .ref c']) (h' := h') I hP hx htb hge hoc
  have nPc : P ≠ c' := ne_of_none hP nC
  have mk : Made H (upd (upd H P (.tbl (ps ++ #[rawInt pos.line, rawInt pos.col, .ref c']))) c' (.frz oc (FixO c' oc))) := ⟨fun b u e n => by
      rw [upd_ne (ne_of_none e nC), upd_ne (fun z => n ps (Option.some.inj (e.symm.trans (by rw [z]; exact hP))))]; exact e, fun b qs e => by
      by_cases hb : b = P
      · rw [hb]; exact ⟨_, by rw [upd_ne nPc, upd_same]⟩
      · exact ⟨qs, by rw [upd_ne (ne_of_none e nC), upd_ne hb]; exact e⟩⟩
  have eL : (ps ++ #[rawInt pos.line, rawInt pos.col, .ref c']).toList = ps.toList ++ [rawInt pos.line, rawInt pos.col, .ref c'] := by simp
  have hcode : CodeH (upd (upd H P (.tbl (ps ++ #[rawInt pos.line, rawInt pos.col, .ref c']))) c' (.frz oc (FixO c' oc))) c' In.qual := ⟨oc, vs, t, upd_same, hd, hv⟩
  have T1 := hT.made mk hu ⟨_, by rw [upd_ne nPc, upd_same], by rw [eL]; exact PySem.TriplesOk_snoc _ _ _ _ ht, fun p' cv hcv => by
      rw [eL] at hcv
      rcases NdefX.among_app2 _ ht hcv with z | ⟨z, z1, z2⟩
      · obtain ⟨c0, e1, e2⟩ := ha p' cv z
        exact ⟨c0, e1, e2.kp mk.kp⟩
      · refine ⟨c', z, ?_⟩
        rw [← z1, ← z2, hn]
        exact hcode⟩ fun b qs hb e => by rw [upd_ne (ne_of_none e nC), upd_ne hb]; exact e
  exact made_fn rfl I1 mk T1 (I.hok.fresh (Nat.le_trans hge (Nat.le_of_lt hlt))) hcode ho
theorem made_hit {In : InnF} {c' : Addr} {h' : Heap} {tk : Nat} {o : Obj} {doc pm ctv : Value} (I : L2.Inv X pins σ H s) (hT : TabsH W.T H) (hc : CodeH H c' In.qual) (hx : ∀ b o, s.heap.get? b = some o → h'.get? b = some o)
    (ho : o = { cls := .type "function", data := .func (In.fd (cloFrom X.env.cells In.scope.names []) c' doc pm ctv) }) : MadeAt W X pins σ H In h'.objs.size { s with heap := h'.push o, toks := tk } := by
  have I1 : L2.Inv X pins σ H { s with heap := h', toks := tk } := I.kept hx
  exact made_fn rfl I1 ⟨fun _ _ e _ => e, fun b ps e => ⟨ps, e⟩⟩ hT (I1.hok.fresh (Nat.le_refl _)) hc ho
theorem make_lam {f : Nat} {In : InnF} {pos : Pos} {E : Value → Shared → Prop} {Q : Value → Shared → Prop} {fl : Nat} (I : L2.Inv X pins σ H s) (hT : TabsH W.T H) (L : LamF W X f In pos) (hfree : ∀ y ∈ In.scope.names, y.2 = .free → ∃ c, X.env.cells.lookup y.1 = some c)
    (h : ∀ a s', MadeAt W X pins σ H In a s' → Q (.ref a) s') :
    wpAny (model X.prog X.w) X.A (makeFunction In.name In.qual In.params In.body In.scope X.env [] [] [] pos fl) Q E s := by
  obtain ⟨c, P, nm, TB, hcode, hm, hn, hu⟩ := L.tab
  obtain ⟨ps, hP, ht, ha⟩ := hT _ hm
  have hP : H P = some (.tbl ps) := hP
  have bP : s.heap.BuiltinsAt X.mg P := TB.bm.keeps I.bk
  have hP' : s.heap.get? P = some { cls := .none, data := .fields ps } := I.hok P _ hP
  obtain ⟨nme, qual, params, body, scope, psn, fr⟩ := In
  cases hc : codeAmong pos ps.toList with
  | none =>
    cases body with
    | expr b => exact PySem.W.kla_makeFunction (mg := X.mg) (c := c) (P := P) (ps := ps) (closure_ok hfree) I.ok.glob (I.mod.glob.keeps I.bk) hcode (TB.code.keeps I.bk) hP' ht hc TB.gP bP fun c' ctv h' tk hx hge hlt hrec htb => h _ _ (made_new I hT hm hn hu hP ht ha hx hge hlt hrec htb rfl)
    | stmts b => exact PySem.W.makeFunction_K (mg := X.mg) (c := c) (P := P) (ps := ps) (closure_ok hfree) I.ok.glob (I.mod.glob.keeps I.bk) hcode (TB.code.keeps I.bk) hP' ht hc TB.gP bP fun c' ctv doc h' tk hx hge hlt hrec htb => h _ _ (made_new I hT hm hn hu hP ht ha hx hge hlt hrec htb rfl)
  | some cv =>
    obtain ⟨c', e, hco⟩ := ha pos cv hc
    subst e
    have hn : nm pos.line pos.col = qual := hn
    have hco : CodeH H c' qual := by rw [← hn]; exact hco
    cases body with
    | expr b => exact PySem.W.kla_makeFunctionHit (mg := X.mg) (c := c) (P := P) (ps := ps) (closure_ok hfree) I.ok.glob (I.mod.glob.keeps I.bk) hcode (TB.code.keeps I.bk) hP' ht hc bP fun ctv h' tk hx hsz => h _ _ (made_hit I hT hco hx rfl)
    | stmts b => exact PySem.W.makeFunction_hit (mg := X.mg) (c := c) (P := P) (ps := ps) (closure_ok hfree) I.ok.glob (I.mod.glob.keeps I.bk) hcode (TB.code.keeps I.bk) hP' ht hc bP fun ctv doc h' tk hx hsz => h _ _ (made_hit I hT hco hx rfl)
theorem mapO_len {α β : Type} {f : α → Option β} : ∀ {xs : List α} {ys : List β}, mapO f xs = some ys → ys.length = xs.length
  | [], ys, h => by cases h; rfl
  | x :: xs, ys, h => by
    unfold mapO at h
    split at h
    · rename_i y zs h1 h2
      cases h
      rw [List.length_cons, List.length_cons, mapO_len h2]
    · cases h
theorem mapO_get {α β : Type} {f : α → Option β} : ∀ {xs : List α} {ys : List β} {j : Nat} {v : β}, mapO f xs = some ys → ys[j]? = some v → ∃ x, xs[j]? = some x ∧ f x = some v
  | [], ys, j, v, h, e => by cases h; simp at e
  | x :: xs, ys, j, v, h, e => by
    unfold mapO at h
    split at h
    · rename_i y zs h1 h2
      cases h
      cases j with
      | zero => simp at e; subst e; exact ⟨x, rfl, h1⟩
      | succ j =>
        obtain ⟨x', e1, e2⟩ := mapO_get (j := j) h2 (by simpa using e)
        exact ⟨x', by simpa using e1, e2⟩
    · cases h
theorem slotVGet {env : Env} {i : Nat} {v : Val} (h : slotV env i = some v) : env[i]? = some (some v) := by
  unfold slotV at h
  split at h
  · rename_i u hu; cases h; exact hu
  · cases h
structure LamJ (X : Cx) (cl : FC) (I : InnF) (js : List Nat) : Prop where
  own : ∀ i y a, X.N[i]? = some y → X.env.scope.names.lookup y = some .cell → X.env.cells.lookup y = some a → cl.own i = some a
  cap : ∀ y a, X.env.scope.names.lookup y = some .free → X.env.cells.lookup y = some a → ∃ o, cl.cap a = some o
  len : js.length = I.fr.length
  at_ : ∀ (j : Nat) (y : Str) (i : Nat), I.fr[j]? = some y → js[j]? = some i → X.N[i]? = some y
theorem made_ro {f : Nat} {In : InnF} {pos : Pos} {js : List Nat} {vs : List Val} {a c' : Addr} (K : ClOk X cl) (I : L2.Inv X pins σ H s) (L : LamF W X f In pos) (J : LamJ X cl In js) (R : Rl W w cl ι env S σ H) (hv : mapO (slotV env) js = some vs) (m : Made H H1)
    (hF : FnH H1 a In (cloFrom X.env.cells In.scope.names []) c') (hC : CodeH H1 c' In.qual) : RO W w (newι ι S.length a) (S.length + 1) H1 (vwOf cl σ) S.length (.clo f vs) := by
  have hfree : ∀ y ∈ In.scope.names, y.2 = .free → ∃ c, X.env.cells.lookup y.1 = some c := fun y hy e => (L.free y hy e).elim (fun k => I.ok.has _ (.inl k)) fun k => I.ok.has _ (.inr k)
  refine ⟨In, _, c', L.inn, by rw [newι_new]; exact hF, hC, ⟨by rw [mapO_len hv, J.len], fun j y v e1 e2 => ?_, fun y b e => ?_, fun x y b e1 e2 => I.ok.inj x y b (NdefX.clo_cm hfree e1) (NdefX.clo_cm hfree e2)⟩⟩
  · obtain ⟨i, e3, e4⟩ := mapO_get hv e2
    have hN := J.at_ j y i e1 e3
    have hy : (y, NameKind.free) ∈ In.scope.names := (L.fr y).mp (List.mem_of_getElem? e1)
    obtain ⟨b, hb⟩ := hfree _ hy rfl
    have hb : X.env.cells.lookup y = some b := hb
    refine ⟨b, NdefX.clo_has hfree hy hb, ?_⟩
    have hi : i < σ.length := ix_lt I hN
    obtain ⟨u, h1, h2⟩ := R.slot i v hi (slotVGet e4)
    refine ⟨u, h2.mono (Nat.le_succ _) (fun n h => newι_old h) m.kp, .inl ?_⟩
    rcases L.free _ hy rfl with k | k
    · exact .inl ⟨i, J.own i y b hN k hb, h1⟩
    · obtain ⟨o, ho⟩ := J.cap y b k hb
      obtain ⟨o2, z, d1, d2, d3⟩ := cellLook I hN hb (.inr k) h1
      rw [cap_at K I ho] at d1; cases d1
      exact .inr ⟨o, z, ho, d2, d3⟩
  · refine (L.fr y).mpr ?_
    rcases cloFrom_mem (PySem.mem_of_lookup e) with hm | ⟨h1, h2⟩
    · cases hm
    · exact h1
theorem lam_core (K : ClOk X cl) {f : Nat} {js : List Nat} {In : InnF} {pos : Pos} {fl : Nat} {Q : VK} (L : LamF W X f In pos) (J : LamJ X cl In js) (I : L2.Inv X pins σ H s) (h : tG W w cl EX (rv W) (fun env => get? (mapO (slotV env) js) >>= fun vs => alloc (.clo f vs)) σ H Q) :
    wpAny (model X.prog X.w) X.A (makeFunction In.name In.qual In.params In.body In.scope X.env [] [] [] pos fl) (EP X pins σ Q) X.xe s := by
  obtain ⟨ι, env, S, R, g⟩ := h
  have g : Gs W w cl EX (rv W) ι env S σ H ((get? (mapO (slotV env) js) >>= fun vs => alloc (.clo f vs)) S) Q := g
  rw [bind_ap] at g
  cases hv : mapO (slotV env) js with
  | none => rw [hv] at g; exact g.elim
  | some vs =>
    rw [hv] at g
    have g : Gs W w cl EX (rv W) ι env S σ H (.ok (.loc S.length) (S ++ [.clo f vs])) Q := g
    have hfree : ∀ y ∈ In.scope.names, y.2 = .free → ∃ c, X.env.cells.lookup y.1 = some c := fun y hy e => (L.free y hy e).elim (fun k => I.ok.has _ (.inl k)) fun k => I.ok.has _ (.inr k)
    exact make_lam (E := X.xe) (Q := EP X pins σ Q) (fl := fl) I R.tab L hfree fun a s' ⟨c', H1, I', m, hT, hn, hF, hC⟩ => by
      have hl : (S ++ [Ob.clo f vs]).length = S.length + 1 := by simp
      exact ⟨.ref a, H1, I', rfl, g (newι ι S.length a) H1 (.ref a) ⟨by rw [hl]; exact Nat.le_succ _, fun n h => newι_old h, m.kp⟩ (R.made m hT hn (made_ro K I L J R hv m hF hC)) ⟨by rw [hl]; exact Nat.lt_succ_self _, by rw [newι_new]⟩⟩
theorem e_lam (K : ClOk X cl) {f : Nat} {js : List Nat} {In : InnF} {params : Arguments} {body : Expr} {scope : Scope} {pos : Pos} (L : LamF W X f In pos) (J : LamJ X cl In js) (h1 : In.name = "<lambda>") (h2 : In.qual = X.env.qual ++ "<lambda>") (h3 : In.params = params) (h4 : In.body = .expr body) (h5 : In.scope = scope)
    (hd : defaultsOf params X.env = ([], [])) : PE X (.Lambda params body scope pos) (tG W w cl EX (rv W) (fun env => get? (mapO (slotV env) js) >>= fun vs => alloc (.clo f vs))) := by
  refine ⟨fun pins s σ H Q I h => PySem.W.kla_eval hd ?_⟩
  have mk := lam_core (fl := pos.line) K L J I h
  rw [h1, h2, h3, h4, h5] at mk
  exact mk
end
end Pyd
set_option Elab.async false
set_option linter.all false
set_option maxRecDepth 100000
set_option maxHeartbeats 1000000
namespace Pyd
open PySem PySem.Spec PyProof.Rows L2
section
variable (W : Wd) (w : World) (cl : FC) (EX : WX)
def GsS (ι : Nat → Addr) (S : Store) (σ : L2.St) (H : Hp) (r : Res Fl) (D : Ends) : Prop :=
  match r with
  | .ok (.nx e) S' => ∀ ι' σ' H', Fw ι S H ι' S' H' → Rl W w cl ι' e S' σ' H' → D.nx σ' H'
  | .ok (.bk e) S' => ∀ ι' σ' H', Fw ι S H ι' S' H' → Rl W w cl ι' e S' σ' H' → D.bk σ' H'
  | .ok (.ct e) S' => ∀ ι' σ' H', Fw ι S H ι' S' H' → Rl W w cl ι' e S' σ' H' → D.ct σ' H'
  | .ok (.rt v) S' => ∀ ι' e σ' H' y, Fw ι S H ι' S' H' → Rl W w cl ι' e S' σ' H' → RV W ι' S'.length H' v y → D.rt y H'
  | .ex c fs S' => ∀ ι' e σ' H' cls d, Fw ι S H ι' S' H' → Rl W w cl ι' e S' σ' H' → RX W ι' S'.length H' c fs cls d → EX cls d σ' H'
  | .no => False
def tS (f : Env → M Fl) : TS := fun D σ H => ∃ ι env S, Rl W w cl ι env S σ H ∧ GsS W w cl EX ι S σ H (f env S) D
end
section
variable {W : Wd} {w : World} {X : Cx} {cl : FC} {EX : WX} {ι ι1 : Nat → Addr} {env : Env} {S S1 : Store} {σ σ1 : L2.St} {H H1 : Hp} {D D' : Ends} {α β : Type} {RA : Rf α β} {C : Orc}
theorem GsS.fw {r : Res Fl} (g : GsS W w cl EX ι S σ H r D) (f : Fw ι S H ι1 S1 H1) : GsS W w cl EX ι1 S1 σ1 H1 r D := by
  cases r with
  | ok a S' => cases a with
    | nx e => exact fun ι' σ' H' f' R => g ι' σ' H' (f.trans f') R
    | bk e => exact fun ι' σ' H' f' R => g ι' σ' H' (f.trans f') R
    | ct e => exact fun ι' σ' H' f' R => g ι' σ' H' (f.trans f') R
    | rt v => exact fun ι' e σ' H' y f' R r => g ι' e σ' H' y (f.trans f') R r
  | ex c fs S' => exact fun ι' e σ' H' cls d f' R r => g ι' e σ' H' cls d (f.trans f') R r
  | no => exact g
theorem GsS.bind {x : M α} {k : α → M Fl} (R : Rl W w cl ι env S σ H) (g : GsS W w cl EX ι S σ H ((x >>= k) S) D) :
    Gs W w cl EX RA ι env S σ H (x S) (fun y H1 => ∃ ι1 S1 a, Fw ι S H ι1 S1 H1 ∧ Rl W w cl ι1 env S1 σ H1 ∧ RA ι1 S1.length H1 a y ∧ GsS W w cl EX ι1 S1 σ H1 (k a S1) D) := by
  rw [bind_ap] at g
  cases hx : x S with
  | ok a S1 =>
    rw [hx] at g
    exact fun ι' H' y f R r => ⟨ι', S1, a, f, R, r, g.fw f⟩
  | ex c fs S1 => rw [hx] at g; exact fun ι' H' cls d f R r => g ι' env σ H' cls d f R r
  | no => rw [hx] at g; exact g
theorem tS.bind {x : Env → M α} {k : α → Env → M Fl} (h : tS W w cl EX (fun env => x env >>= fun a => k a env) D σ H) :
    ∃ ι env S, Rl W w cl ι env S σ H ∧ Gs W w cl EX RA ι env S σ H (x env S) (fun y H1 => ∃ ι1 S1 a, Fw ι S H ι1 S1 H1 ∧ Rl W w cl ι1 env S1 σ H1 ∧ RA ι1 S1.length H1 a y ∧ GsS W w cl EX ι1 S1 σ H1 (k a env S1) D) := by
  obtain ⟨ι, env, S, R, g⟩ := h
  exact ⟨ι, env, S, R, GsS.bind R g⟩
theorem GsE.bindS {is : List Nat} {x : M Env} {k : Env → M Fl} (g : GsS W w cl EX ι S σ H ((x >>= k) S) D) :
    GsE W w cl EX is ι S σ H (x S) (fun σ1 H1 => ∃ ι1 e S1, Fw ι S H ι1 S1 H1 ∧ Rl W w cl ι1 e S1 σ1 H1 ∧ GsS W w cl EX ι1 S1 σ1 H1 (k e S1) D) := by
  rw [bind_ap] at g
  cases hx : x S with
  | ok a S1 =>
    rw [hx] at g
    have g : GsS W w cl EX ι S σ H (k a S1) D := g
    exact fun ι' σ' H' f R u => ⟨ι', a, S1, f, R, g.fw f⟩
  | ex c fs S1 => rw [hx] at g; exact g
  | no => rw [hx] at g; exact g
theorem GsS.need {b : Bool} {k : M Fl} (g : GsS W w cl EX ι S σ H ((Pyd.need b >>= fun _ => k) S1) D) : b = true ∧ GsS W w cl EX ι S σ H (k S1) D := by
  rw [need_bind] at g
  by_cases h : b = true
  · rw [if_pos h] at g; exact ⟨h, g⟩
  · rw [if_neg h] at g; exact g.elim
theorem s_pass {pos : Pos} : PS X (.Pass pos) (tS W w cl EX (fun env => pure (.nx env))) :=
  PS_imp ps_pass fun D σ H ⟨ι, env, S, R, g⟩ => g ι σ H (Fw.refl _ _ _) R
theorem s_brk {pos : Pos} : PS X (.Break pos) (tS W w cl EX (fun env => pure (.bk env))) :=
  PS_imp ps_break fun D σ H ⟨ι, env, S, R, g⟩ => g ι σ H (Fw.refl _ _ _) R
theorem s_cont {pos : Pos} : PS X (.Continue pos) (tS W w cl EX (fun env => pure (.ct env))) :=
  PS_imp ps_continue fun D σ H ⟨ι, env, S, R, g⟩ => g ι σ H (Fw.refl _ _ _) R
theorem s_doc {x : Str} {j} {pos pos' : Pos} : PS X (.Expr (.Constant (.str x) j pos) pos') (tS W w cl EX (fun env => pure (.nx env))) :=
  PS_imp ps_doc fun D σ H ⟨ι, env, S, R, g⟩ => g ι σ H (Fw.refl _ _ _) R
theorem s_retN {pos : Pos} : PS X (.Return none pos) (tS W w cl EX (fun _ => pure (.rt .non))) :=
  PS_imp ps_retN fun D σ H ⟨ι, env, S, R, g⟩ => g ι env σ H .non (Fw.refl _ _ _) R rfl
theorem s_ex {e : Expr} {pos : Pos} {pe : Env → M Val} (he : PE X e (tG W w cl EX (rv W) pe)) (hs : swapsWith e none pos.line X.env = pure false) : PS X (.Expr e pos) (tS W w cl EX (fun env => pe env >>= fun _ => pure (.nx env))) :=
  PS_imp (ps_expr he hs) fun D σ H h => by
    obtain ⟨ι, env, S, R, g⟩ := tS.bind (RA := rv W) h
    exact ⟨ι, env, S, R, g.mono fun y H1 ⟨ι1, S1, a, f, R1, _, g1⟩ => g1 ι1 σ H1 (Fw.refl _ _ _) R1⟩
theorem s_ret {e : Expr} {pos : Pos} {pe : Env → M Val} (he : PE X e (tG W w cl EX (rv W) pe)) : PS X (.Return (some e) pos) (tS W w cl EX (fun env => pe env >>= fun x => pure (.rt x))) :=
  PS_imp (ps_ret he) fun D σ H h => by
    obtain ⟨ι, env, S, R, g⟩ := tS.bind (RA := rv W) h
    exact ⟨ι, env, S, R, g.mono fun y H1 ⟨ι1, S1, a, f, R1, ra, g1⟩ => g1 ι1 env σ H1 y (Fw.refl _ _ _) R1 ra⟩
theorem s_nil : PSs X [] (tS W w cl EX (fun env => pure (.nx env))) :=
  PSs_imp pss_nil fun D σ H ⟨ι, env, S, R, g⟩ => g ι σ H (Fw.refl _ _ _) R
theorem seq_ok {f g : Env → M Fl} (h : GsS W w cl EX ι S σ H (seqM f g env S) D) : GsS W w cl EX ι S σ H (f env S) { D with nx := tS W w cl EX g D } := by
  unfold seqM at h
  cases hf : f env S with
  | ok a S' =>
    rw [hf] at h
    cases a with
    | nx e => exact fun ι' σ' H' f' R => ⟨ι', e, S', R, GsS.fw (show GsS W w cl EX ι S σ H (g e S') D from h) f'⟩
    | bk e => exact h
    | ct e => exact h
    | rt v => exact h
  | ex c fs S' => rw [hf] at h; exact h
  | no => rw [hf] at h; exact h
theorem s_seq {st : Stmt} {rest : List Stmt} {f g : Env → M Fl} (h1 : PS X st (tS W w cl EX f)) (h2 : PSs X rest (tS W w cl EX g)) : PSs X (st :: rest) (tS W w cl EX (seqM f g)) :=
  PSs_imp (pss_cons h1 h2) fun D σ H ⟨ι, env, S, R, g⟩ => ⟨ι, env, S, R, seq_ok g⟩
theorem s_skip {st : Stmt} {rest : List Stmt} {g : Env → M Fl} (h1 : PS X st (tS W w cl EX (fun env => pure (.nx env)))) (h2 : PSs X rest (tS W w cl EX g)) : PSs X (st :: rest) (tS W w cl EX g) :=
  PSs_imp (pss_cons h1 h2) fun D σ H ⟨ι, env, S, R, g⟩ => ⟨ι, env, S, R, fun ι' σ' H' f R' => ⟨ι', env, S, R', g.fw f⟩⟩
theorem asg_imp {is : List Nat} {pe : Env → M Val} {f : Val → Env → M Env} (h : tS W w cl EX (fun env => pe env >>= fun x => f x env >>= fun env => pure (.nx env)) D σ H) :
    tAsg (tG W w cl EX (rv W) pe) (gT W w cl EX is f) D σ H := by
  obtain ⟨ι, env, S, R, g⟩ := tS.bind (RA := rv W) h
  exact ⟨ι, env, S, R, g.mono fun y H1 ⟨ι1, S1, a, f1, R1, ra, g1⟩ => ⟨ι1, env, S1, a, R1, ra, (GsE.bindS g1).mono fun σ2 H2 ⟨ι2, e, S2, f2, R2, g2⟩ => g2 ι2 σ2 H2 (Fw.refl _ _ _) R2⟩⟩
theorem s_asg {is : List Nat} {tg e : Expr} {pos : Pos} {pe : Env → M Val} {f : Val → Env → M Env} (he : PE X e (tG W w cl EX (rv W) pe)) (hg : PG X tg (gT W w cl EX is f)) (hs : swapsWithSole [tg] e pos.line X.env = pure false)
    (hw : swappedStores [tg] e X.env = pure none) (h1 : (assignEach [tg] X.env).map (·.2) = [assign tg X.env]) : PS X (.Assign [tg] e pos) (tS W w cl EX (fun env => pe env >>= fun x => f x env >>= fun env => pure (.nx env))) :=
  PS_imp (ps_asg he hg hs hw h1) fun D σ H h => asg_imp h
theorem setSlotEnd {i : Nat} {pe : Env → M Val} (hi : NoCell cl i) (hσ : i < σ.length) (h : tS W w cl EX (fun env => pe env >>= fun x => (need (decide (i < env.length)) >>= fun _ => pure (env.set i (some x))) >>= fun env => pure (.nx env)) D σ H) :
    tG W w cl EX (rv W) pe σ H (fun x H1 => gName i x σ H1 D.nx) := by
  obtain ⟨ι, env, S, R, g⟩ := tS.bind (RA := rv W) h
  refine ⟨ι, env, S, R, g.mono fun y H1 ⟨ι1, S1, a, f1, R1, ra, g1⟩ => ?_⟩
  rw [bind_ap, need_bind] at g1
  by_cases hl : decide (i < env.length) = true
  · rw [if_pos hl] at g1
    exact g1 ι1 _ H1 (Fw.refl _ _ _) (R1.setSlot hi hσ ra)
  · rw [if_neg hl] at g1; exact g1.elim
theorem s_asgLc {i : Nat} {y : Str} {py : Pos} {elt tg iter : Expr} {ifs : List Expr} {scope : Scope} {own : List (Str × Nat)} {pos spos : Pos} {ps : Env → M Src} {is : List Nat} {f : Val → Env → M Env} {pc : Env → M Bool} {pe : Env → M Val}
    (hc : X.calm = true) (hN : X.N.Nodup) (hy : X.N[i]? = some y) (hyl : X.env.scope.names.lookup y = some .local)
    (hsw : swapsWith (.ListComp elt [⟨tg, iter, ifs, 0⟩] scope pos) (some (.Name y py)) spos.line X.env = pure true) (hi : PI X tg iter (tG W w noCl EX (rI W w) ps)) (ok : BlkOk X.N X.env.scope scope own)
    (hg : ∀ (s : Shared) (H : Hp) (C : Addr) (cll : List (Str × Addr)) (fp : List Addr), PG (X.blk s H scope (compEnvC scope cll C X.env) fp) tg (gT W w noCl EXF is f))
    (ht : ∀ (s : Shared) (H : Hp) (C : Addr) (cll : List (Str × Addr)) (fp : List Addr), PTs (X.blk s H scope (compEnvC scope cll C X.env) fp) ifs (tG W w noCl EXF rbl pc))
    (he : ∀ (s : Shared) (H : Hp) (C : Addr) (cll : List (Str × Addr)) (fp : List Addr), PE (X.blk s H scope (compEnvC scope cll C X.env) fp) elt (tG W w noCl EXF (rv W) pe)) (hs : ∀ x, foldedSetIterable iter X.env x = pure x) (his : ∀ i ∈ is, i ∈ own.map (·.2)) :
    PS X (.Assign [.Name y py] (.ListComp elt [⟨tg, iter, ifs, 0⟩] scope pos) spos) (tS W w noCl EX (fun env => compM (own.map (·.2)) ps f pc pe env >>= fun x => (need (decide (i < env.length)) >>= fun _ => pure (env.set i (some x))) >>= fun env => pure (.nx env))) :=
  PS_impL (ps_setLc hc hN hy hyl hsw hi ok hg ht he hs) fun D σ H hσ h => comp_imp his (setSlotEnd noCell_nil (by rw [hσ]; exact (List.getElem?_eq_some_iff.mp hy).1) h)
theorem s_asgLcD {i : Nat} {y : Str} {py : Pos} {elt tg iter : Expr} {ifs : List Expr} {scope : Scope} {own : List (Str × Nat)} {pos spos : Pos} {ps : Env → M Src} {is : List Nat} {f : Val → Env → M Env} {pc : Env → M Bool} {pe : Env → M Val}
    (hc : X.calm = true) (hN : X.N.Nodup) (hy : X.N[i]? = some y) (hyl : X.env.scope.names.lookup y = some .local) (hnc : NoCell cl i)
    (hsw : swapsWith (.ListComp elt [⟨tg, iter, ifs, 0⟩] scope pos) (some (.Name y py)) spos.line X.env = pure true) (hi : PI X tg iter (tG W w noCl EX (rI W w) ps)) (ok : BlkOk X.N X.env.scope scope own)
    (hg : ∀ (s : Shared) (H : Hp) (C : Addr) (cll : List (Str × Addr)) (fp : List Addr), PG (X.blk s H scope (compEnvC scope cll C X.env) fp) tg (gT W w noCl EXF is f))
    (ht : ∀ (s : Shared) (H : Hp) (C : Addr) (cll : List (Str × Addr)) (fp : List Addr), PTs (X.blk s H scope (compEnvC scope cll C X.env) fp) ifs (tG W w noCl EXF rbl pc))
    (he : ∀ (s : Shared) (H : Hp) (C : Addr) (cll : List (Str × Addr)) (fp : List Addr), PE (X.blk s H scope (compEnvC scope cll C X.env) fp) elt (tG W w noCl EXF (rv W) pe)) (hs : ∀ x, foldedSetIterable iter X.env x = pure x) (his : ∀ i ∈ is, i ∈ own.map (·.2)) :
    PS X (.Assign [.Name y py] (.ListComp elt [⟨tg, iter, ifs, 0⟩] scope pos) spos) (tS W w cl EX (fun env => (dropM true >>= fun _ => compM (own.map (·.2)) ps f pc pe env) >>= fun x => (need (decide (i < env.length)) >>= fun _ => pure (env.set i (some x))) >>= fun env => pure (.nx env))) :=
  PS_impL (ps_setLc hc hN hy hyl hsw hi ok hg ht he hs) fun D σ H hσ h => comp_imp his (drop_imp (setSlotEnd hnc (by rw [hσ]; exact (List.getElem?_eq_some_iff.mp hy).1) h))
theorem s_asgLc2 {i : Nat} {y : Str} {py : Pos} {elt tg iter tg1 iter1 : Expr} {ifs1 : List Expr} {scope : Scope} {own : List (Str × Nat)} {own2 : List Nat} {pos spos : Pos} {ps ps1 : Env → M Src} {is is1 : List Nat} {f f1 : Val → Env → M Env} {pc : Env → M Bool} {pe : Env → M Val}
    (hc : X.calm = true) (hN : X.N.Nodup) (hy : X.N[i]? = some y) (hyl : X.env.scope.names.lookup y = some .local)
    (hsw : swapsWith (.ListComp elt [⟨tg, iter, [], 0⟩, ⟨tg1, iter1, ifs1, 0⟩] scope pos) (some (.Name y py)) spos.line X.env = pure true)
    (hi : PI X tg iter (tG W w noCl EX (rI W w) ps)) (ok : BlkOk X.N X.env.scope scope own) (hv : ∀ i ∈ own2, i ∈ own.map (·.2))
    (hg : ∀ (s : Shared) (H : Hp) (C : Addr) (cll : List (Str × Addr)) (fp : List Addr), PG (X.blk s H scope (compEnvC scope cll C X.env) fp) tg (gT W w noCl EXF is f))
    (hi1 : ∀ (s : Shared) (H : Hp) (C : Addr) (cll : List (Str × Addr)) (fp : List Addr), PI (X.blk s H scope (compEnvC scope cll C X.env) fp) tg1 iter1 (tG W w noCl EXF (rI W w) ps1))
    (hg1 : ∀ (s : Shared) (H : Hp) (C : Addr) (cll : List (Str × Addr)) (fp : List Addr), PG (X.blk s H scope (compEnvC scope cll C X.env) fp) tg1 (gT W w noCl EXF is1 f1))
    (ht1 : ∀ (s : Shared) (H : Hp) (C : Addr) (cll : List (Str × Addr)) (fp : List Addr), PTs (X.blk s H scope (compEnvC scope cll C X.env) fp) ifs1 (tG W w noCl EXF rbl pc))
    (he : ∀ (s : Shared) (H : Hp) (C : Addr) (cll : List (Str × Addr)) (fp : List Addr), PE (X.blk s H scope (compEnvC scope cll C X.env) fp) elt (tG W w noCl EXF (rv W) pe)) (hs : ∀ x, foldedSetIterable iter X.env x = pure x) (hs1 : ∀ env x, foldedSetIterable iter1 env x = pure x)
    (his : ∀ i ∈ is, i ∈ own.map (·.2)) (his1 : ∀ i ∈ is1, i ∈ own2) :
    PS X (.Assign [.Name y py] (.ListComp elt [⟨tg, iter, [], 0⟩, ⟨tg1, iter1, ifs1, 0⟩] scope pos) spos) (tS W w noCl EX (fun env => compM2 (own.map (·.2)) own2 ps f ps1 f1 pc pe env >>= fun x => (need (decide (i < env.length)) >>= fun _ => pure (env.set i (some x))) >>= fun env => pure (.nx env))) :=
  PS_impL (ps_setLc2 (vs1 := own2) hc hN hy hyl hsw hi ok hv hg (fun _ _ _ _ _ => pts_nil) hi1 hg1 ht1 he hs hs1) fun D σ H hσ h => comp2_imp his his1 (setSlotEnd noCell_nil (by rw [hσ]; exact (List.getElem?_eq_some_iff.mp hy).1) h)
theorem s_asgLc2D {i : Nat} {y : Str} {py : Pos} {elt tg iter tg1 iter1 : Expr} {ifs1 : List Expr} {scope : Scope} {own : List (Str × Nat)} {own2 : List Nat} {pos spos : Pos} {ps ps1 : Env → M Src} {is is1 : List Nat} {f f1 : Val → Env → M Env} {pc : Env → M Bool} {pe : Env → M Val}
    (hc : X.calm = true) (hN : X.N.Nodup) (hy : X.N[i]? = some y) (hyl : X.env.scope.names.lookup y = some .local) (hnc : NoCell cl i)
    (hsw : swapsWith (.ListComp elt [⟨tg, iter, [], 0⟩, ⟨tg1, iter1, ifs1, 0⟩] scope pos) (some (.Name y py)) spos.line X.env = pure true)
    (hi : PI X tg iter (tG W w noCl EX (rI W w) ps)) (ok : BlkOk X.N X.env.scope scope own) (hv : ∀ i ∈ own2, i ∈ own.map (·.2))
    (hg : ∀ (s : Shared) (H : Hp) (C : Addr) (cll : List (Str × Addr)) (fp : List Addr), PG (X.blk s H scope (compEnvC scope cll C X.env) fp) tg (gT W w noCl EXF is f))
    (hi1 : ∀ (s : Shared) (H : Hp) (C : Addr) (cll : List (Str × Addr)) (fp : List Addr), PI (X.blk s H scope (compEnvC scope cll C X.env) fp) tg1 iter1 (tG W w noCl EXF (rI W w) ps1))
    (hg1 : ∀ (s : Shared) (H : Hp) (C : Addr) (cll : List (Str × Addr)) (fp : List Addr), PG (X.blk s H scope (compEnvC scope cll C X.env) fp) tg1 (gT W w noCl EXF is1 f1))
    (ht1 : ∀ (s : Shared) (H : Hp) (C : Addr) (cll : List (Str × Addr)) (fp : List Addr), PTs (X.blk s H scope (compEnvC scope cll C X.env) fp) ifs1 (tG W w noCl EXF rbl pc))
    (he : ∀ (s : Shared) (H : Hp) (C : Addr) (cll : List (Str × Addr)) (fp : List Addr), PE (X.blk s H scope (compEnvC scope cll C X.env) fp) elt (tG W w noCl EXF (rv W) pe)) (hs : ∀ x, foldedSetIterable iter X.env x = pure x) (hs1 : ∀ env x, foldedSetIterable iter1 env x = pure x)
    (his : ∀ i ∈ is, i ∈ own.map (·.2)) (his1 : ∀ i ∈ is1, i ∈ own2) :
    PS X (.Assign [.Name y py] (.ListComp elt [⟨tg, iter, [], 0⟩, ⟨tg1, iter1, ifs1, 0⟩] scope pos) spos) (tS W w cl EX (fun env => (dropM true >>= fun _ => compM2 (own.map (·.2)) own2 ps f ps1 f1 pc pe env) >>= fun x => (need (decide (i < env.length)) >>= fun _ => pure (env.set i (some x))) >>= fun env => pure (.nx env))) :=
  PS_impL (ps_setLc2 (vs1 := own2) hc hN hy hyl hsw hi ok hv hg (fun _ _ _ _ _ => pts_nil) hi1 hg1 ht1 he hs hs1) fun D σ H hσ h => comp2_imp his his1 (drop_imp (setSlotEnd hnc (by rw [hσ]; exact (List.getElem?_eq_some_iff.mp hy).1) h))
theorem par_imp {is : List Nat} {ps : Env → M (List Val)} {T : List V → Hp → Prop} (h : tS W w cl EX (fun env => ps env >>= fun vs => need (is.all fun i => decide (i < env.length)) >>= fun _ => get? (setAll is vs env) >>= fun env => pure (.nx env)) D σ H)
    (k : ∀ ι env S H1 as ys env', Rl W w cl ι env S σ H1 → RVs W ι S.length H1 as ys → (∀ i ∈ is, i < env.length) → setAll is as env = some env' → (∀ σ', Rl W w cl ι env' S σ' H1 → D.nx σ' H1) → T ys H1) :
    tG W w cl EX (rvs W) ps σ H T := by
  obtain ⟨ι, env, S, R, g⟩ := tS.bind (RA := rvs W) h
  refine ⟨ι, env, S, R, g.mono fun ys H1 ⟨ι1, S1, as, f1, R1, ra, g1⟩ => ?_⟩
  obtain ⟨hl, g1⟩ := GsS.need g1
  rw [bind_ap] at g1
  unfold get? at g1
  cases hs : setAll is as env with
  | none => rw [hs] at g1; exact g1.elim
  | some env' =>
    rw [hs] at g1
    exact k ι1 env S1 H1 as ys env' R1 ra (fun i hi => of_decide_eq_true (List.all_eq_true.mp hl i hi)) hs fun σ' R' => g1 ι1 σ' H1 (Fw.refl _ _ _) R'
theorem s_par2 {i j : Nat} {x y : Str} {a b : Expr} {ps : Env → M (List Val)} {px py pt : Pos} {kt k2 pt2} {pos : Pos} (hc : X.calm = true) (hN : X.N.Nodup) (hi : X.N[i]? = some x) (hj : X.N[j]? = some y) (hij : i ≠ j)
    (hx : X.env.scope.names.lookup x = some .local) (hy : X.env.scope.names.lookup y = some .local) (ci : NoCell cl i) (cj : NoCell cl j) (ha : PA X [a, b] (tG W w cl EX (rvs W) ps))
    (hw : swappedStores [.Tuple [.Name x px, .Name y py] kt pt] (.Tuple [a, b] k2 pt2) X.env = pure (some [x, y]))
    (hs : swapsWithSole [.Tuple [.Name x px, .Name y py] kt pt] (.Tuple [a, b] k2 pt2) pos.line X.env = pure false) :
    PS X (.Assign [.Tuple [.Name x px, .Name y py] kt pt] (.Tuple [a, b] k2 pt2) pos) (tS W w cl EX (fun env => ps env >>= fun vs => need ([i, j].all fun i => decide (i < env.length)) >>= fun _ => get? (setAll [i, j] vs env) >>= fun env => pure (.nx env))) :=
  PS_impL (ps_par hc hN hi hj hij hx hy ha hw hs) fun D σ H hσ h => par_imp h fun ι env S H1 as ys env' R rs hl hs q => by
    cases as with
    | nil => cases hs
    | cons u as =>
      cases as with
      | nil => cases hs
      | cons v as =>
        cases as with
        | cons _ _ => cases hs
        | nil =>
          cases hs
          obtain ⟨a, zs, rfl, ra, rs⟩ := rs
          obtain ⟨b, zs, rfl, rb, rs⟩ := rs
          cases rs
          refine ⟨a, b, rfl, q _ ?_⟩
          have li : i < σ.length := by rw [hσ]; exact (List.getElem?_eq_some_iff.mp hi).1
          have lj : j < σ.length := by rw [hσ]; exact (List.getElem?_eq_some_iff.mp hj).1
          exact (R.setSlot ci li ra).setSlot cj (by rw [List.length_set]; exact lj) rb
theorem s_par3 {i j l : Nat} {x y z : Str} {a b c : Expr} {ps : Env → M (List Val)} {px py pz pt : Pos} {kt k2 pt2} {pos : Pos} (hc : X.calm = true) (hN : X.N.Nodup) (hi : X.N[i]? = some x) (hj : X.N[j]? = some y) (hz' : X.N[l]? = some z) (hij : i ≠ j) (hil : i ≠ l) (hjl : j ≠ l)
    (hx : X.env.scope.names.lookup x = some .local) (hy : X.env.scope.names.lookup y = some .local) (hz : X.env.scope.names.lookup z = some .local) (ci : NoCell cl i) (cj : NoCell cl j) (ck : NoCell cl l) (ha : PA X [a, b, c] (tG W w cl EX (rvs W) ps))
    (hw : swappedStores [.Tuple [.Name x px, .Name y py, .Name z pz] kt pt] (.Tuple [a, b, c] k2 pt2) X.env = pure (some [x, y, z]))
    (hs : swapsWithSole [.Tuple [.Name x px, .Name y py, .Name z pz] kt pt] (.Tuple [a, b, c] k2 pt2) pos.line X.env = pure false) :
    PS X (.Assign [.Tuple [.Name x px, .Name y py, .Name z pz] kt pt] (.Tuple [a, b, c] k2 pt2) pos) (tS W w cl EX (fun env => ps env >>= fun vs => need ([i, j, l].all fun i => decide (i < env.length)) >>= fun _ => get? (setAll [i, j, l] vs env) >>= fun env => pure (.nx env))) :=
  PS_impL (ps_par3 hc hN hi hj hz' hij hil hjl hx hy hz ha hw hs) fun D σ H hσ h => par_imp h fun ι env S H1 as ys env' R rs hl hs q => by
    cases as with
    | nil => cases hs
    | cons u as =>
      cases as with
      | nil => cases hs
      | cons v as =>
        cases as with
        | nil => cases hs
        | cons t as =>
          cases as with
          | cons _ _ => cases hs
          | nil =>
            cases hs
            obtain ⟨a, zs, rfl, ra, rs⟩ := rs
            obtain ⟨b, zs, rfl, rb, rs⟩ := rs
            obtain ⟨c, zs, rfl, rc, rs⟩ := rs
            cases rs
            refine ⟨a, b, c, rfl, q _ ?_⟩
            have li : i < σ.length := by rw [hσ]; exact (List.getElem?_eq_some_iff.mp hi).1
            have lj : j < σ.length := by rw [hσ]; exact (List.getElem?_eq_some_iff.mp hj).1
            have ll : l < σ.length := by rw [hσ]; exact (List.getElem?_eq_some_iff.mp hz').1
            exact ((R.setSlot ci li ra).setSlot cj (by rw [List.length_set]; exact lj) rb).setSlot ck (by rw [List.length_set, List.length_set]; exact ll) rc
theorem s_asga (G : Good W w X) (O : WOk W) {o e : Expr} {pos pos' : Pos} {pa pe : Env → M Val} {f : Nat} (he : PE X e (tG W w cl EX (rv W) pe)) (ho : PE X o (tG W w cl EX (rv W) pa)) (hs : swapsWith e (some (.Attribute o (W.nm.an f) pos')) pos.line X.env = pure false) :
    PS X (.Assign [.Attribute o (W.nm.an f) pos'] e pos) (tS W w cl EX (fun env => pe env >>= fun x => pa env >>= fun o => attrPut W.P o f x >>= fun _ => pure (.nx env))) :=
  PS_imp (ps_fld ho he hs) fun D σ H h => by
    obtain ⟨ι, env, S, R, g⟩ := tS.bind (RA := rv W) h
    refine ⟨ι, env, S, R, g.mono fun y H1 ⟨ι1, S1, a, f1, R1, ra, g1⟩ => ?_⟩
    refine ⟨ι1, env, S1, R1, (GsS.bind (RA := rv W) R1 g1).mono fun z H2 ⟨ι2, S2, b, f2, R2, rb, g2⟩ => ?_⟩
    have ra2 := ra.mono f2.le f2.ag f2.kp
    cases b with
    | loc n =>
      obtain ⟨hn, e⟩ := rb
      subst e
      have g2 : GsS W w cl EX ι2 S2 σ H2 (((look n >>= fun ob => attrPutO W.P n f a ob) >>= fun _ => (pure (.nx env) : M Fl)) S2) D := g2
      rw [bind_ap, bind_ap] at g2
      unfold look at g2
      cases ho : S2[n]? with
      | none => rw [ho] at g2; exact g2.elim
      | some ob =>
        rw [ho] at g2
        cases ob with
        | ins c fs =>
          obtain ⟨k, Ca, dx, gs, h1, h2, h3, h4, h5, h6, h7⟩ := R2.ob _ _ ho
          dsimp only at g2
          unfold attrPutO at g2
          dsimp only at g2
          rw [bind_ap] at g2
          unfold get? at g2
          rw [h1] at g2
          dsimp only at g2
          rw [need_bind] at g2
          by_cases hl : (decide (fs.length < 40) && k.fields.contains f) = true
          · rw [if_pos hl] at g2
            have g2 : GsS W w cl EX ι2 S2 σ H2 (.ok (.nx env) (S2.set n (.ins c (Pyd.putF f a fs)))) D := g2
            rw [Bool.and_eq_true] at hl
            have F := O.cls c k Ca h1 h2 h6
            rw [G.K]
            have hf : f ∈ k.fields := by simpa using hl.2
            refine ⟨_, Ca, dx, gs, rfl, h4, F.cls, F.no f hf, by rw [h7.length]; exact Nat.lt_trans (of_decide_eq_true hl.1) (by decide), ?_⟩
            have nt : ∀ b xs, H2 b = some (.tup xs) → b ≠ ι2 n := fun b xs h z => by rw [z, h4] at h; cases h
            have nf : ∀ b o u, H2 b = some (.frz o u) → b ≠ ι2 n := fun b o u h z => by rw [z, h4] at h; cases h
            have kp : Kp H2 (upd H2 (ι2 n) (.ins Ca dx (L2.putF (W.nm.an f) y gs))) := ⟨fun b xs h => by rw [upd_ne (nt b xs h)]; exact h, fun b o u h => by rw [upd_ne (nf b o u h)]; exact h⟩
            refine g2 ι2 σ _ ⟨by simp, fun _ _ => rfl, kp⟩ (R2.write ho trivial trivial (by rw [h4]; trivial) ?_)
            refine ⟨k, Ca, dx, _, h1, h2, fun p hp => ?_, upd_same, ?_, h6, (h7.put O.an ra2).mono (Nat.le_refl _) (fun _ _ => rfl) kp⟩
            · rcases putF_keys hp with e | hp
              · rw [e]; exact hf
              · exact h3 p hp
            · have : dx ≠ ι2 n := fun z => by rw [z, h4] at h5; cases h5
              rw [upd_ne this]; exact h5
          · rw [if_neg hl] at g2; exact g2.elim
        | _ => exact g2.elim
    | _ => exact g2.elim
theorem ip_aug {op : Bop} {mop : Operator} (hop : (op = .add ∧ mop = .Add) ∨ (op = .sub ∧ mop = .Sub)) :
    PIp X mop (fun x y H Q => ∃ ι env S σ a b, Rl W w cl ι env S σ H ∧ RV W ι S.length H a x ∧ RV W ι S.length H b y ∧ Gs W w cl EX (rv W) ι env S σ H (augI op a b S) Q) := by
  intro pins s σ H x y v u Q I r1 r2 ⟨ι, env, S, σ', a, b, R, ra, rb, g⟩
  rcases hop with ⟨e1, e2⟩ | ⟨e1, e2⟩ <;> subst e1 e2
  · cases a with
    | int i =>
      cases b with
      | int j =>
        cases (show x = .int i from ra)
        cases (show y = .int j from rb)
        have g : Gs W w cl EX (rv W) ι env S σ' H (.ok (.int (i + j)) S) Q := g
        exact ip_add pins s σ H _ _ v u Q I r1 r2 ⟨i, j, rfl, rfl, g.here R (y := V.int (i + j)) (show RV W ι S.length H (.int (i + j)) (.int (i + j)) from rfl)⟩
      | _ => exact g.elim
    | _ => exact g.elim
  · cases a with
    | int i =>
      cases b with
      | int j =>
        cases (show x = .int i from ra)
        cases (show y = .int j from rb)
        have g : Gs W w cl EX (rv W) ι env S σ' H (.ok (.int (i - j)) S) Q := g
        exact ip_sub pins s σ H _ _ v u Q I r1 r2 ⟨i, j, rfl, rfl, g.here R (y := V.int (i - j)) (show RV W ι S.length H (.int (i - j)) (.int (i - j)) from rfl)⟩
      | _ => exact g.elim
    | _ => exact g.elim
theorem s_augv {i : Nat} {x : Str} {e : Expr} {pe : Env → M Val} {op : Bop} {mop : Operator} {pos pos' : Pos} (hop : (op = .add ∧ mop = .Add) ∨ (op = .sub ∧ mop = .Sub)) (hN : X.N.Nodup) (hi : X.N[i]? = some x) (hx : Loc X.env.scope x)
    (hf : X.fn x = true ∨ X.env.scope.names.lookup x = some .local) (hc : NoCell cl i) (he : PE X e (tG W w cl EX (rv W) pe)) :
    PS X (.AugAssign (.Name x pos') mop e pos) (tS W w cl EX (fun env => get? (slotV env i) >>= fun x => pe env >>= fun y => augI op x y >>= fun z => need (decide (i < env.length)) >>= fun _ => pure (.nx (env.set i (some z))))) :=
  PS_impL (ps_aug hN hi hx he (ip_aug (W := W) (w := w) (cl := cl) (EX := EX) hop) hf) fun D σ H hσ ⟨ι, env, S, R, g⟩ => by
    have hiσ : i < σ.length := by rw [hσ]; exact (List.getElem?_eq_some_iff.mp hi).1
    dsimp only at g
    rw [bind_ap] at g
    unfold get? slotV at g
    cases h : env[i]? with
    | none => rw [h] at g; exact g.elim
    | some o =>
      rw [h] at g
      cases o with
      | none => exact g.elim
      | some v =>
        obtain ⟨y, hy, r⟩ := R.slot i v hiσ h
        refine ⟨y, hy, ι, env, S, R, (GsS.bind (RA := rv W) R g).mono fun z H1 ⟨ι1, S1, b, f1, R1, rb, g1⟩ => ?_⟩
        refine ⟨ι1, env, S1, σ, v, b, R1, r.mono f1.le f1.ag f1.kp, rb, (GsS.bind (RA := rv W) R1 g1).mono fun q H2 ⟨ι2, S2, c, f2, R2, rc, g2⟩ => ?_⟩
        obtain ⟨hl, g2⟩ := GsS.need g2
        exact g2 ι2 _ H2 (Fw.refl _ _ _) (R2.setSlot hc hiσ rc)
theorem s_if {c : Expr} {a b : List Stmt} {pos : Pos} {pc : Env → M Bool} {f g : Env → M Fl} (hc : PT X c (tG W w cl EX rbl pc)) (ha : PSs X a (tS W w cl EX f)) (hb : PSs X b (tS W w cl EX g)) :
    PS X (.If c a b pos) (tS W w cl EX (fun env => pc env >>= fun k => if k = true then f env else g env)) :=
  PS_imp (ps_if hc ha hb) fun D σ H h => by
    obtain ⟨ι, env, S, R, g⟩ := tS.bind (RA := rbl) h
    refine ⟨ι, env, S, R, g.mono fun y H1 ⟨ι1, S1, k, f1, R1, rk, g1⟩ => ?_⟩
    cases (show k = y from rk)
    cases y with
    | true => rw [if_pos rfl] at g1 ⊢; exact ⟨ι1, env, S1, R1, g1⟩
    | false => rw [if_neg (by decide)] at g1 ⊢; exact ⟨ι1, env, S1, R1, g1⟩
theorem whileN_ok {cond : Env → M Bool} {body : Env → M Fl} (h : GsS W w cl EX ι S σ H (whileP cond body env S) D) : ∃ n, GsS W w cl EX ι S σ H (whileN cond body n env S) D := by
  unfold whileP at h
  split at h
  · exact ⟨_, h⟩
  · exact h.elim
theorem s_while {c : Expr} {b : List Stmt} {pos : Pos} {pc : Env → M Bool} {f : Env → M Fl} (hp : PassesOwn (model X.prog X.w) X.A X.env X.xe) (hc : PT X c (tG W w cl EX rbl pc)) (hb : PSs X b (tS W w cl EX f)) :
    PS X (.While c b [] pos) (tS W w cl EX (fun env => whileP pc f env)) :=
  PS_imp (ps_while hp hc hb) fun D σ H ⟨ι, env, S, R, g⟩ => by
    obtain ⟨n, g⟩ := whileN_ok g
    refine ⟨fun m σ H => ∃ ι env S, Rl W w cl ι env S σ H ∧ GsS W w cl EX ι S σ H (whileN pc f m env S) D, ⟨n, ι, env, S, R, g⟩, ?_⟩
    clear R g
    rintro m σ H ⟨ι, env, S, R, g⟩
    cases m with
    | zero => exact g.elim
    | succ m =>
      refine ⟨ι, env, S, R, ?_⟩
      have e : whileN pc f (m + 1) env S = (match pc env S with
        | .ok false S' => .ok (.nx env) S'
        | .ok true S' => (match f env S' with
          | .ok (.nx e) S'' => whileN pc f m e S''
          | .ok (.ct e) S'' => whileN pc f m e S''
          | .ok (.bk e) S'' => .ok (.nx e) S''
          | r => r)
        | .ex c fs S' => .ex c fs S'
        | .no => .no) := rfl
      rw [e] at g
      cases hx : pc env S with
      | no => rw [hx] at g; exact g
      | ex c fs S' => rw [hx] at g; exact fun ι' H' cls d f R r => g ι' env σ H' cls d f R r
      | ok k S1 =>
        rw [hx] at g
        intro ι1 H1 y f1 R1 rk
        cases (show k = y from rk)
        cases k with
        | false => exact g ι1 σ H1 f1 R1
        | true =>
          rw [if_pos rfl]
          refine ⟨fun σ' H' => ∃ ι env S, Rl W w cl ι env S σ' H' ∧ GsS W w cl EX ι S σ' H' (whileN pc f m env S) D, fun σ' H' h => ⟨m, Nat.lt_succ_self _, h⟩, ι1, env, S1, R1, ?_⟩
          dsimp only at g
          cases hb : f env S1 with
          | no => rw [hb] at g; exact g
          | ex c fs S' => rw [hb] at g; exact fun ι' e σ' H' cls d f R r => g ι' e σ' H' cls d (f1.trans f) R r
          | ok a S2 =>
            rw [hb] at g
            cases a with
            | nx e => exact fun ι2 σ2 H2 f2 R2 => ⟨ι2, e, S2, R2, GsS.fw (show GsS W w cl EX ι S σ H (whileN pc f m e S2) D from g) (f1.trans f2)⟩
            | ct e => exact fun ι2 σ2 H2 f2 R2 => ⟨ι2, e, S2, R2, GsS.fw (show GsS W w cl EX ι S σ H (whileN pc f m e S2) D from g) (f1.trans f2)⟩
            | bk e => exact fun ι2 σ2 H2 f2 R2 => g ι2 σ2 H2 (f1.trans f2) R2
            | rt v => exact fun ι2 e σ2 H2 y f2 R2 r => g ι2 e σ2 H2 y (f1.trans f2) R2 r
theorem s_for {tg iter : Expr} {b : List Stmt} {pos : Pos} {is : List Nat} {ps : Env → M Src} {t : Val → Env → M Env} {f : Env → M Fl} (hp : PassesOwn (model X.prog X.w) X.A X.env X.xe) (hc : X.calm = true)
    (hi : PI X tg iter (tG W w cl EX (rI W w) ps)) (hg : PG X tg (gT W w cl EX is t)) (hb : PSs X b (tS W w cl EX f)) (hs : ∀ x, foldedSetIterable iter X.env x = pure x) :
    PS X (.For tg iter b [] pos) (tS W w cl EX (fun env => ps env >>= fun s => forM s t f env)) :=
  PS_imp (ps_for hp hc hi hg hb hs) fun D σ H h => by
    obtain ⟨ι, env, S, R, g⟩ := tS.bind (RA := rI W w) h
    refine ⟨ι, env, S, R, g.mono fun J H1 ⟨ι1, S1, s, f1, R1, hI, g1⟩ => ?_⟩
    clear g R f1 h
    refine ⟨fun i m σ H => ∃ ι e S, Fw ι1 S1 H1 ι S H ∧ Rl W w cl ι e S σ H ∧ GsS W w cl EX ι S σ H (forL s (fun x env => t x env >>= fun env => f env) m i e S) D, ⟨s.len S1, ι1, env, S1, Fw.refl _ _ _, R1, g1⟩, ?_⟩
    clear R1 g1
    rintro j m σj Hj ⟨ιj, e, Sj, fj, Rj, g⟩
    obtain ⟨h1, h2⟩ := hI ιj e Sj σj Hj j cl fj.le fj.ag fj.kp Rj
    have stop : s.at Sj j = some none → GsS W w cl EX ιj Sj σj Hj (.ok (.nx e) Sj) D → (J.stop j Hj ∧ D.nx σj Hj) := fun h g => ⟨h2 h, g ιj σj Hj (Fw.refl _ _ _) Rj⟩
    cases m with
    | zero =>
      have g : GsS W w cl EX ιj Sj σj Hj (match s.at Sj j with | some none => .ok (.nx e) Sj | _ => .no) D := g
      cases ha : s.at Sj j with
      | none => rw [ha] at g; exact g.elim
      | some o =>
        cases o with
        | none => rw [ha] at g; exact .inl (stop ha g)
        | some v => rw [ha] at g; exact g.elim
    | succ m =>
      have g : GsS W w cl EX ιj Sj σj Hj (match s.at Sj j with
        | some none => .ok (.nx e) Sj
        | some (some v) => (match (t v e >>= fun env => f env) Sj with
          | .ok (.nx e) S' => forL s (fun x env => t x env >>= fun env => f env) m (j + 1) e S'
          | .ok (.ct e) S' => forL s (fun x env => t x env >>= fun env => f env) m (j + 1) e S'
          | .ok (.bk e) S' => .ok (.nx e) S'
          | r => r)
        | none => .no) D := g
      cases ha : s.at Sj j with
      | none => rw [ha] at g; exact g.elim
      | some o =>
        cases o with
        | none => rw [ha] at g; exact .inl (stop ha g)
        | some v =>
          rw [ha] at g
          dsimp only at g
          obtain ⟨hgo, hy⟩ := h1 v ha
          refine .inr ⟨hgo, fun σ' H' => ∃ ι e S, Fw ι1 S1 H1 ι S H' ∧ Rl W w cl ι e S σ' H' ∧ GsS W w cl EX ι S σ' H' (forL s (fun x env => t x env >>= fun env => f env) m (j + 1) e S) D, fun σ' H' h => ⟨m, Nat.lt_succ_self _, h⟩, fun x H' y => ?_⟩
          obtain ⟨fy, Ry, rx⟩ := hy x H' y
          refine ⟨ιj, e, Sj, v, Ry, rx, ?_⟩
          cases ht : t v e Sj with
          | no => rw [bind_ap, ht] at g; exact g
          | ex c fs S2 => rw [bind_ap, ht] at g; exact fun ι' e σ' H' cls d f R r => g ι' e σ' H' cls d (fy.trans f) R r
          | ok e2 S2 =>
            rw [bind_ap, ht] at g
            intro ι2 σ2 H2 f2 R2 _
            refine ⟨ι2, e2, S2, R2, ?_⟩
            have f12 := fy.trans f2
            dsimp only at g
            cases hb : f e2 S2 with
            | no => rw [hb] at g; exact g
            | ex c fs S' => rw [hb] at g; exact fun ι' e σ' H' cls d f R r => g ι' e σ' H' cls d (f12.trans f) R r
            | ok a S3 =>
              rw [hb] at g
              cases a with
              | nx e3 => exact fun ι3 σ3 H3 f3 R3 => ⟨ι3, e3, S3, (fj.trans f12).trans f3, R3, GsS.fw (show GsS W w cl EX ιj Sj σj Hj (forL s (fun x env => t x env >>= fun env => f env) m (j + 1) e3 S3) D from g) (f12.trans f3)⟩
              | ct e3 => exact fun ι3 σ3 H3 f3 R3 => ⟨ι3, e3, S3, (fj.trans f12).trans f3, R3, GsS.fw (show GsS W w cl EX ιj Sj σj Hj (forL s (fun x env => t x env >>= fun env => f env) m (j + 1) e3 S3) D from g) (f12.trans f3)⟩
              | bk e3 => exact fun ι3 σ3 H3 f3 R3 => g ι3 σ3 H3 (f12.trans f3) R3
              | rt v => exact fun ι3 e σ3 H3 y f3 R3 r => g ι3 e σ3 H3 y (f12.trans f3) R3 r
def StN (W : Wd) (w : World) (cl : FC) (EX : WX) (i : Nat) (f : Val → Env → M Env) : Prop := ∀ (ι : Nat → Addr) (env : Env) (S : Store) (σ : L2.St) (H : Hp) (a : Val) (x : V) (Q : L2.St → Hp → Prop), i < σ.length → Rl W w cl ι env S σ H → RV W ι S.length H a x → GsE W w cl EX [i] ι S σ H (f a env S) Q → Q (σ.set i (some x)) H
theorem st_var {i : Nat} (hc : NoCell cl i) : StN W w cl EX i (fun a env => need (decide (i < env.length)) >>= fun _ => pure (env.set i (some a))) := fun ι env S σ H a x Q hi R ra g => by
  obtain ⟨h, g⟩ := GsE.need g
  exact g ι _ H (Fw.refl _ _ _) (R.setSlot hc hi ra) Upd.set
theorem st_cvar {i : Nat} : StN W w cl EX i (fun a env => need (decide (i < env.length)) >>= fun _ => dropM (slotV env i).isSome >>= fun _ => pure (env.set i (some a))) := fun ι env S σ H a x Q hi R ra g => by
  obtain ⟨h, g⟩ := GsE.need g
  have g : GsE W w cl EX [i] ι S σ H (.ok (env.set i (some a)) (if (slotV env i).isSome = true then dropC S else S)) Q := g
  refine g ι _ H ?_ (R.setCell hi ra) Upd.set
  split
  · exact fw_drop
  · exact Fw.refl _ _ _
theorem s_fn (K : ClOk X cl) {f i : Nat} {js : List Nat} {In : InnF} {name : Str} {params : Arguments} {body : List Stmt} {scope : Scope} {pos : Pos} {fs : Val → Env → M Env} (L : LamF W X f In pos) (J : LamJ X cl In js) (h1 : In.name = name) (h2 : In.qual = X.env.qual ++ name) (h3 : In.params = params) (h4 : In.body = .stmts body) (h5 : In.scope = scope)
    (hd0 : params.defaults = []) (hk0 : params.kw_defaults = []) (ha : annTrees params none X.env = []) (hN : X.N.Nodup) (hi : X.N[i]? = some name) (hx : L2.Loc X.env.scope name) (hf : X.fn name = true ∨ X.env.scope.names.lookup name = some .local) (hst : StN W w cl EX i fs) :
    PS X (.FunctionDef name params body [] none [] scope none name pos) (tS W w cl EX (fun env => (get? (mapO (slotV env) js) >>= fun vs => alloc (.clo f vs)) >>= fun x => fs x env >>= fun env => pure (.nx env))) := by
  refine ⟨fun pins s σ H D I h => ?_⟩
  have h := asg_imp (is := [i]) h
  have hq : qualnameIn X.env name name = X.env.qual ++ name := by
    have hk : X.env.kindOf name = some .local ∨ X.env.kindOf name = some .cell := hx
    unfold qualnameIn
    rcases hk with k | k <;> rw [k] <;> first | rfl | exact if_neg (by decide)
  refine PySem.W.nestDef_K hd0 hk0 ha ?_
  rw [hq]
  have mk := lam_core (fl := pos.line) K L J I h
  rw [h1, h2, h3, h4, h5] at mk
  refine wpAny_mono mk (fun u s' ⟨v, H', I', rv, ι, env, S, a, R, ra, g⟩ => ?_) fun _ _ z => z
  exact L2.store_ok I' hN hi hx rv (fun s'' J' => ⟨_, H', J', hst ι env S σ H' a v D.nx (ix_lt I hi) R ra g⟩) hf
end
end Pyd
set_option Elab.async false
set_option linter.all false
set_option maxRecDepth 100000
set_option maxHeartbeats 1000000
namespace Pyd
open PySem PySem.Spec PyProof.Rows L2
def endR (b : Bool) (S : Store) (r : Res Val) : Res Val := if b = true then r else dropR S r
section
variable {W : Wd} {w : World}
theorem cells_ge : ∀ (names : List (Str × NameKind)) (n lo : Nat) (acc : List (Str × Addr)), lo ≤ n → (∀ x a, acc.lookup x = some a → lo ≤ a) → ∀ x a, (cellsFrom n names acc).lookup x = some a → lo ≤ a
  | [], _, _, acc, _, h, x, a, e => h x a e
  | (y, k) :: r, n, lo, acc, hn, h, x, a, e => by
    unfold cellsFrom at e
    split at e
    · refine cells_ge r (n + 1) lo _ (Nat.le_succ_of_le hn) (fun z b hz => ?_) x a e
      rw [List.lookup_cons] at hz
      split at hz
      · cases hz; exact hn
      · exact h z b hz
    · exact cells_ge r n lo acc hn h x a e
theorem rl_startG {d : Fn} {cl : FC} {ι : Nat → Addr} {S : Store} {H : Hp} {as : List Val} {vs : List V} {N : List Str} (hob : ∀ n o, S[n]? = some o → RO W w ι S.length H (vwOf cl (L2.start N vs)) n o) (hinj : ∀ m n o o', S[m]? = some o → S[n]? = some o' → Trk o → Trk o' → ι m = ι n → m = n) (htab : TabsH W.T H) (r : RVs W ι S.length H as vs) (hs : d.slots = N.length) : Rl W w cl ι (env0 d as) S (L2.start N vs) H := by
  have hl : vs.length = as.length := r.length
  refine ⟨Nat.le_of_eq ?_, fun i v _ e => ?_, fun i a y _ e => ?_, hob, hinj, htab⟩
  · unfold env0 L2.start
    rw [List.length_append, List.length_append, List.length_map, List.length_map, List.length_replicate, List.length_replicate, hs, hl]
  · unfold env0 at e
    unfold L2.start
    by_cases hi : i < as.length
    · rw [List.getElem?_append_left (by rw [List.length_map]; exact hi), List.getElem?_map] at e
      cases ha : as[i]? with
      | none => rw [ha] at e; cases e
      | some a =>
        rw [ha] at e
        cases e
        obtain ⟨y, hy, ry⟩ := r.get ha
        refine ⟨y, ?_, ry⟩
        rw [List.getElem?_append_left (by rw [List.length_map, hl]; exact hi), List.getElem?_map, hy]
        rfl
    · rw [List.getElem?_append_right (by rw [List.length_map]; exact Nat.le_of_not_lt hi), List.getElem?_replicate] at e
      split at e <;> cases e
  · unfold L2.start at e
    unfold env0
    by_cases hi : i < vs.length
    · rw [List.getElem?_append_left (by rw [List.length_map, ← hl]; exact hi), List.getElem?_map, List.getElem?_eq_getElem (by rw [← hl]; exact hi)]
      exact ⟨_, rfl⟩
    · rw [List.getElem?_append_right (by rw [List.length_map]; exact Nat.le_of_not_lt hi), List.getElem?_replicate] at e
      split at e <;> cases e
theorem rl_start {d : Fn} {cl : FC} {ι : Nat → Addr} {S : Store} {H : Hp} {as : List Val} {vs : List V} {N : List Str} (G : Rg W w ι S H) (r : RVs W ι S.length H as vs) (hs : d.slots = N.length) : Rl W w cl ι (env0 d as) S (L2.start N vs) H :=
  rl_startG (fun n o e => ro_see e (G.ob n o e) fun _ _ h => h.elim) G.inj G.tab r hs
theorem Rl.toGn {ι : Nat → Addr} {env : Env} {S : Store} {σ : L2.St} {H : Hp} (R : Rl W w noCl ι env S σ H) : Rg W w ι S H := ⟨fun n o e => ro_see e (R.ob n o e) fun a y h => (vw_no h).elim, R.inj, R.tab⟩
theorem restC_len : ∀ S T : Store, (restC S T).length = T.length
  | [], [] => rfl
  | _ :: _, [] => rfl
  | [], _ :: _ => rfl
  | o :: S, p :: T => by
    show (restC S T).length + 1 = T.length + 1
    rw [restC_len S T]
theorem restC_at : ∀ {S T : Store} {n : Nat} {o : Ob}, (restC S T)[n]? = some o → ∃ p, T[n]? = some p ∧ o = Ob.back S[n]? p
  | [], [], n, o, h => by simp [restC] at h
  | _ :: _, [], n, o, h => by simp [restC] at h
  | [], p :: T, n, o, h => ⟨o, h, by cases n <;> rfl⟩
  | q :: S, p :: T, 0, o, h => ⟨p, rfl, (Option.some.inj (show some (Ob.back (some q) p) = some o from h)).symm⟩
  | q :: S, p :: T, n + 1, o, h => restC_at (S := S) (T := T) (n := n) h
theorem Rg.rest {ι ι' : Nat → Addr} {S S' : Store} {H H' : Hp} (G0 : Rg W w ι S H) (f : Fw ι S H ι' S' H') (G : Rg W w ι' S' H') : Rg W w ι' (restC S S') H' := by
  have tb : ∀ {q : Option Ob} {p : Ob}, Trk (Ob.back q p) → Trk p := fun {q p} t => by
    cases q with
    | none => exact t
    | some o => cases o <;> first | exact t | exact t.elim
  refine ⟨fun n o e => ?_, fun m n o o' e e' t t' he => ?_, G.tab⟩
  · obtain ⟨p, e1, e2⟩ := restC_at e
    rw [restC_len, e2]
    cases hs : S[n]? with
    | none => exact G.ob n p e1
    | some q =>
      cases q with
      | clo g vs => exact (G0.ob n _ hs).stayU f.le f.ag f.kp (fun _ _ h => h) (List.getElem?_eq_some_iff.mp hs).1 (fun t => t)
      | _ => exact G.ob n p e1
  · obtain ⟨p, e1, e2⟩ := restC_at e
    obtain ⟨p', e1', e2'⟩ := restC_at e'
    rw [e2] at t
    rw [e2'] at t'
    exact G.inj m n p p' e1 e1' (tb t) (tb t') he
end
end Pyd
set_option Elab.async false
set_option linter.all false
set_option maxRecDepth 100000
set_option maxHeartbeats 1000000
namespace Pyd
open PySem PySem.Spec PyProof.Rows L2
section
variable {c : Addr → Option Obj} {H H' : Hp}
theorem Held.out (C : Held c H) {b : Addr} (n : H b = none) : c b = none := by
  cases q : c b with
  | none => rfl
  | some o => rw [C.at_ b o q] at n; cases n
theorem Held.split (C : Held c H) {b : Addr} {u : HO} (e : H b = some u) : (∃ o, c b = some o ∧ u = .frz o (FixO b o)) ∨ (c b = none ∧ remF c H b = some u) := by
  cases q : c b with
  | none => exact .inr ⟨rfl, by rw [remF_out q]; exact e⟩
  | some o => rw [C.at_ b o q] at e; exact .inl ⟨o, rfl, (Option.some.inj e).symm⟩
theorem Held.rem {b : Addr} (n : H b = none) : remF c H b = none := by
  cases q : c b with
  | none => rw [remF_out q]; exact n
  | some o => exact remF_in q
theorem ce_fwd {P : Program} {w : World} {outer : List PySem.Env} {s s' : Shared} {Q Q' : VK} {u : Value} (C : Held c H) (hk : HOk P w H s.heap) (hf : ∀ b ∈ frs outer, H b = none) (h : CE outer P w (remF c H) s Q' u s')
    (hq : ∀ y H', (∀ a o, c a = some o → H' a = none) → Q' y H' → Q y (addF c H')) : CE outer P w H s Q u s' := by
  obtain ⟨v, H', os, bare, un, hok, r, q⟩ := h
  have at0 : ∀ a o, c a = some o → s.heap.get? a = some o := fun a o e => (hk a _ (C.at_ a o e)).1
  have nf : ∀ a o, c a = some o → a ∉ frs outer := fun a o e hb => by
    have := hf a hb
    rw [C.at_ a o e] at this; cases this
  have C' : CellsOf c H' s'.heap := ⟨fun a o e => un.keep a o (at0 a o e) (remF_in e) (nf a o e) (by simp), fun a o e => un.free a o (at0 a o e) (remF_in e) (by simp), C.cell⟩
  refine ⟨v, addF c H', os, bare, ⟨fun b o e n hb hx => un.keep b o e (Held.rem n) hb hx, fun b o e n hb hx => un.slot b o e (Held.rem n) hb hx, fun b o e n hx => ?_, un.there, fun b xs e => ?_, fun b o u e => ?_, fun b ps e => ?_⟩, C'.hok hok, r, hq v H' (fun a o e => C'.un a o e) q⟩
  · rw [addF_out (C.out n)]; exact un.free b o e (Held.rem n) hx
  · rcases C.split e with ⟨o, _, z⟩ | ⟨z, e⟩
    · cases z
    · rw [addF_out z]; exact un.tups b xs e
  · rcases C.split e with ⟨o', z1, z⟩ | ⟨z, e⟩
    · cases z; exact addF_in z1
    · rw [addF_out z]; exact un.frzs b o u e
  · rcases C.split e with ⟨o, _, z⟩ | ⟨z, e⟩
    · cases z
    · rw [addF_out z]; exact un.tbls b ps e
theorem cx_fwd {P : Program} {w : World} {outer : List PySem.Env} {s s' : Shared} {E E' : XK} {u : Value} (C : Held c H) (hk : HOk P w H s.heap) (hf : ∀ b ∈ frs outer, H b = none) (h : L2.CX P w outer (remF c H) s E' u s')
    (hq : ∀ cls d H', (∀ a o, c a = some o → H' a = none) → E' cls d H' → E cls d (addF c H')) : L2.CX P w outer H s E u s' := by
  obtain ⟨a, B, H', cls, d, e, fl, hok, un, na, os, ag, q⟩ := h
  have at0 : ∀ a o, c a = some o → s.heap.get? a = some o := fun a o e => (hk a _ (C.at_ a o e)).1
  have nf : ∀ a o, c a = some o → a ∉ frs outer := fun a o e hb => by
    have := hf a hb
    rw [C.at_ a o e] at this; cases this
  have C' : CellsOf c H' B := ⟨fun a o e => un.keep a o (at0 a o e) (remF_in e) (nf a o e), fun a o e => un.free a o (at0 a o e) (remF_in e), C.cell⟩
  refine ⟨a, B, addF c H', cls, d, e, fl, C'.hok hok, ⟨fun b o e n hb => un.keep b o e (Held.rem n) hb, un.slot, fun b o e n => ?_, un.there, fun b xs e => ?_, fun b o u e => ?_, fun b ps e => ?_⟩, ?_, os, ag, hq cls d H' (fun a o e => C'.un a o e) q⟩
  · rw [addF_out (C.out n)]; exact un.free b o e (Held.rem n)
  · rcases C.split e with ⟨o, _, z⟩ | ⟨z, e⟩
    · cases z
    · rw [addF_out z]; exact un.tups b xs e
  · rcases C.split e with ⟨o', z1, z⟩ | ⟨z, e⟩
    · cases z; exact addF_in z1
    · rw [addF_out z]; exact un.frzs b o u e
  · rcases C.split e with ⟨o, _, z⟩ | ⟨z, e⟩
    · cases z
    · rw [addF_out z]; exact un.tbls b ps e
  · cases z : c a with
    | none => rw [addF_out z]; exact na
    | some o =>
      have h1 := C'.at_ a o z
      rw [fl.2.1] at h1; cases h1
end
def capF (cl : List (Str × Addr)) (fr : List Str) (H : Hp) : Addr → Option Obj := fun a => if fr.any (fun y => cl.lookup y == some a) = true then (match H a with
  | some (.frz o _) => some o
  | _ => none) else none
section
variable {W : Wd} {w : World} {ι : Nat → Addr} {N : Nat} {H : Hp} {fr : List Str} {vs : List Val} {cl : List (Str × Addr)}
theorem CloC.frz (C : CloC W noV ι N H fr vs cl) {y : Str} {a : Addr} (e : cl.lookup y = some a) : ∃ (j : Nat) (v : Val) (x : V) (o : Obj) (z : Value), fr[j]? = some y ∧ vs[j]? = some v ∧ RV W ι N H v x ∧ H a = some (.frz o (FixO a o)) ∧ o.data = .cell (some z) ∧ L2.RelV x z := by
  obtain ⟨j, hj⟩ := List.mem_iff_getElem?.mp (C.sub y a e)
  have hl : j < vs.length := by rw [C.len]; exact (List.getElem?_eq_some_iff.mp hj).1
  obtain ⟨b, h1, x, h2, h3⟩ := C.has j y vs[j] hj (List.getElem?_eq_getElem hl)
  rw [e] at h1; cases h1
  rcases h3 with h3 | ⟨o, z, h3, h4, h5⟩
  · exact h3.elim
  · exact ⟨j, _, x, o, z, hj, List.getElem?_eq_getElem hl, h2, h3, h4, h5⟩
theorem capF_in {a : Addr} {o : Obj} (e : capF cl fr H a = some o) : ∃ y, y ∈ fr ∧ cl.lookup y = some a ∧ ∃ u, H a = some (.frz o u) := by
  unfold capF at e
  split at e
  · rename_i h
    obtain ⟨y, hy, h⟩ := List.any_eq_true.mp h
    split at e
    · rename_i o' u hu; cases e; exact ⟨y, hy, by simpa using h, u, hu⟩
    · cases e
  · cases e
theorem capF_of (C : CloC W noV ι N H fr vs cl) {y : Str} {a : Addr} (e : cl.lookup y = some a) : ∃ o z, capF cl fr H a = some o ∧ o.data = .cell (some z) := by
  obtain ⟨j, v, x, o, z, h1, _, _, h2, h3, _⟩ := C.frz e
  refine ⟨o, z, ?_, h3⟩
  unfold capF
  rw [if_pos (List.any_eq_true.mpr ⟨y, List.mem_of_getElem? h1, by simp [e]⟩), h2]
theorem capF_held (C : CloC W noV ι N H fr vs cl) : Held (capF cl fr H) H := by
  refine ⟨fun a o e => ?_, fun a o e => ?_⟩
  · obtain ⟨y, _, h, u, hu⟩ := capF_in e
    obtain ⟨_, _, _, o', _, _, _, _, h2, _⟩ := C.frz h
    rw [h2] at hu
    cases hu
    exact h2
  · obtain ⟨y, _, h, u, hu⟩ := capF_in e
    obtain ⟨_, _, _, o', z, _, _, _, h2, h3, _⟩ := C.frz h
    rw [h2] at hu
    cases hu
    exact ⟨_, h3⟩
theorem RVs.ofGet : ∀ {vs : List Val} {xs : List V}, xs.length = vs.length → (∀ (j : Nat) (v : Val) (x : V), vs[j]? = some v → xs[j]? = some x → RV W ι N H v x) → RVs W ι N H vs xs
  | [], [], _, _ => rfl
  | [], _ :: _, h, _ => by simp at h
  | _ :: _, [], h, _ => by simp at h
  | v :: vs, x :: xs, h, g => ⟨x, xs, rfl, g 0 v x rfl rfl, RVs.ofGet (by simpa using h) fun j v' x' e1 e2 => g (j + 1) v' x' (by simpa using e1) (by simpa using e2)⟩
theorem CloC.vals (C : CloC W noV ι N H fr vs cl) : ∃ xs : List V, RVs W ι N H vs xs ∧ ∀ (j : Nat) (y : Str) (x : V), fr[j]? = some y → xs[j]? = some x → ∃ a o z, cl.lookup y = some a ∧ capF cl fr H a = some o ∧ o.data = .cell (some z) ∧ L2.RelV x z := by
  have one : ∀ j : Fin vs.length, ∃ x, RV W ι N H vs[j] x ∧ ∀ y, fr[j.val]? = some y → ∃ a o z, cl.lookup y = some a ∧ capF cl fr H a = some o ∧ o.data = .cell (some z) ∧ L2.RelV x z := fun j => by
    have hl : j.val < fr.length := by rw [← C.len]; exact j.isLt
    obtain ⟨a, h1, x, h2, h3⟩ := C.has j.val fr[j.val] vs[j] (List.getElem?_eq_getElem hl) (List.getElem?_eq_getElem j.isLt)
    refine ⟨x, h2, fun y hy => ?_⟩
    rw [List.getElem?_eq_getElem hl] at hy
    cases hy
    rcases h3 with h3 | ⟨o, z, h3, h4, h5⟩
    · exact h3.elim
    · obtain ⟨o', z', h6, h7⟩ := capF_of C h1
      have h8 := (capF_held C).at_ a o' h6
      rw [h3] at h8
      cases h8
      exact ⟨a, o, z, h1, h6, h4, h5⟩
  refine ⟨List.ofFn fun j => (one j).choose, RVs.ofGet (by simp) fun j v x e1 e2 => ?_, fun j y x e1 e2 => ?_⟩
  · have hj : j < vs.length := (List.getElem?_eq_some_iff.mp e1).1
    rw [List.getElem?_ofFn, dif_pos hj] at e2
    rw [List.getElem?_eq_getElem hj] at e1
    cases e1
    cases e2
    exact (one ⟨j, hj⟩).choose_spec.1
  · have hj : j < vs.length := by rw [C.len]; exact (List.getElem?_eq_some_iff.mp e1).1
    rw [List.getElem?_ofFn, dif_pos hj] at e2
    cases e2
    exact (one ⟨j, hj⟩).choose_spec.2 y e1
theorem clo_start {d : Fn} {S : Store} {as cs : List Val} {us xs : List V} {Nn : List Str} (G : Rg W w ι S H) (C : CloC W noV ι S.length H fr cs cl) (ra : RVs W ι S.length H as us) (rc : RVs W ι S.length H cs xs) (hs : d.slots = Nn.length) :
    Rl W w ⟨fun _ => none, capF cl fr H⟩ ι (env0 d (as ++ cs)) S (L2.start Nn (us ++ xs)) (remF (capF cl fr H) H) := by
  have hd := capF_held C
  refine rl_startG (fun n o e => ?_) G.inj (G.tab.kpw hd.kpw fun P ps e => hd.keep e fun o z => (nomatch z)) ((RVs.append ra rc).monoW (Nat.le_refl _) (fun _ _ => rfl) hd.kpw) hs
  refine (G.ob n o e).stayW (Nat.le_refl _) (fun _ _ => rfl) hd.kpw (List.getElem?_eq_some_iff.mp e).1 (fun u h fn => ?_) (fun dx h => hd.keep h fun o z => (nomatch z)) fun a v ⟨y, r, q⟩ => ⟨y, r.monoW (Nat.le_refl _) (fun _ _ => rfl) hd.kpw, ?_⟩
  · rcases hd.split h with ⟨o, q, z⟩ | ⟨_, h⟩
    · obtain ⟨v, hv⟩ := hd.cell _ o q
      exact absurd hv (fn.1 o z v)
    · exact h
  · rcases q with q | ⟨o, z, h1, h2, h3⟩
    · exact q.elim
    · rcases hd.split h1 with ⟨o', q, z'⟩ | ⟨_, h⟩
      · cases z'
        exact .inl (.inr ⟨o, z, q, h2, h3⟩)
      · exact .inr ⟨o, z, h, h2, h3⟩
theorem clo_end {cf : Addr → Option Obj} {ι' : Nat → Addr} {env : Env} {S' : Store} {σ' : L2.St} {H' : Hp} (R : Rl W w ⟨fun _ => none, cf⟩ ι' env S' σ' H') (hn : ∀ a o, cf a = some o → H' a = none) : Rg W w ι' S' (addF cf H') ∧ Kp H' (addF cf H') := by
  have up : ∀ b u, H' b = some u → addF cf H' b = some u := fun b u e => by
    cases q : cf b with
    | none => rw [addF_out q]; exact e
    | some o => rw [hn b o q] at e; cases e
  have kp : Kp H' (addF cf H') := ⟨fun b xs e => up b _ e, fun b o u e => up b _ e⟩
  refine ⟨⟨fun n o e => ?_, R.inj, R.tab.kp kp fun P ps e => up P _ e⟩, kp⟩
  refine (R.ob n o e).stayW (Nat.le_refl _) (fun _ _ => rfl) kp.weak (List.getElem?_eq_some_iff.mp e).1 (fun u h _ => up _ u h) (fun dx h => up _ _ h) fun a v ⟨y, r, q⟩ => ⟨y, r.mono (Nat.le_refl _) (fun _ _ => rfl) kp, .inr ?_⟩
  rcases q with (⟨i, h, _⟩ | ⟨o, z, h1, h2, h3⟩) | ⟨o, z, h1, h2, h3⟩
  · exact nomatch (show (none : Option Addr) = some a from h)
  · exact ⟨o, z, addF_in h1, h2, h3⟩
  · exact ⟨o, z, up _ _ h1, h2, h3⟩
theorem startF_eq {Nn : List Str} {us xs : List V} : NdefX.startF Nn us (xs.map some) = L2.start Nn (us ++ xs) := by
  unfold NdefX.startF L2.start
  rw [List.map_append, List.append_assoc, List.length_map, List.length_append, Nat.sub_sub]
abbrev qF (cf : Addr → Option Obj) (Q : VK) : VK := fun y H' => (∀ a o, cf a = some o → H' a = none) → Q y (addF cf H')
abbrev eF (cf : Addr → Option Obj) (E : XK) : XK := fun c d H' => (∀ a o, cf a = some o → H' a = none) → E c d (addF cf H')
theorem env0_rem {P : Program} {K : PySem.W.Frag} {mg : Str → Option Value} {base : Heap} {A : Around} {outer : List PySem.Env} {s : Shared} {cf : Addr → Option Obj} (hd : Held cf H) (e0 : Env0 P w K mg base A outer s H) : Env0 P w K mg base A outer s (remF cf H) :=
  ⟨e0.frames, e0.mod, fun b o e => ⟨(e0.bs b o e).1, Held.rem (e0.bs b o e).2⟩, e0.bsz, e0.funs, fun b hb => Held.rem (e0.frf b hb), hd.hok e0.hok, e0.bare⟩
theorem cells_at0 {P : Program} {h : Heap} {xs : List V} (C : CloC W noV ι N H fr vs cl) (hok : HOk P w H h) (hl : xs.length = fr.length) (hx : ∀ (j : Nat) (y : Str) (x : V), fr[j]? = some y → xs[j]? = some x → ∃ a o z, cl.lookup y = some a ∧ capF cl fr H a = some o ∧ o.data = .cell (some z) ∧ L2.RelV x z) :
    NdefX.CellsAt cl fr (xs.map some) h (remF (capF cl fr H) H) := by
  have hd := capF_held C
  have at0 : ∀ a o, capF cl fr H a = some o → h.get? a = some o := fun a o e => (hok a _ (hd.at_ a o e)).1
  refine ⟨by rw [List.length_map, hl], fun y a e => ?_, C.inj, fun j y e => ?_⟩
  · obtain ⟨o, z, h1, h2⟩ := capF_of C e
    exact ⟨remF_in h1, some z, o, at0 a o h1, h2⟩
  · have hj : j < xs.length := by rw [hl]; exact (List.getElem?_eq_some_iff.mp e).1
    obtain ⟨a, o, z, h1, h2, h3, h4⟩ := hx j y xs[j] e (List.getElem?_eq_getElem hj)
    refine ⟨a, h1, fun v hv => ?_⟩
    rw [List.getElem?_map, List.getElem?_eq_getElem hj] at hv
    cases hv
    exact ⟨z, h4, o, at0 a o h2, h3⟩
theorem RX.upK {H H' : Hp} {k : Nat} {fs : List Val} {cls : Value} {dd : Option Addr} (up : ∀ b u, H b = some u → H' b = some u) (kp : Kp H H') (h : RX W ι N H k fs cls dd) : RX W ι N H' k fs cls dd := by
  obtain ⟨C, e, m, q, hq, hx, h⟩ := h
  refine ⟨C, e, m, q, hq, hx, ?_⟩
  cases dd with
  | none => exact h
  | some x =>
    obtain ⟨ys, r, l, z⟩ := h
    exact ⟨ys, r.mono (Nat.le_refl _) (fun _ _ => rfl) kp, l, up _ _ z⟩
theorem end_clo {cf : Addr → Option Obj} {b : Bool} {pb : M Fl} {S : Store} {σ : L2.St} {Q : VK} {E : XK} (G0 : Rg W w ι S H) (hd : Held cf H) (g : GsG W w ι S H (endR b S ((pb >>= fun r => retM r) S)) Q E) :
    GsS W w ⟨fun _ => none, cf⟩ (fun c d _ H => eF cf E c d H) ι S σ (remF cf H) (pb S) { nx := fun _ H' => qF cf Q .non H', rt := qF cf Q } := by
  let T := fun S' : Store => if b = true then S' else restC S (dropC S')
  have L : ∀ {S' : Store}, (T S').length = S'.length := fun {S'} => by
    show (if b = true then S' else restC S (dropC S')).length = _
    by_cases h : b = true
    · rw [if_pos h]
    · rw [if_neg h, restC_len]; exact dropC_len
  have F : ∀ {ι' : Nat → Addr} {S' : Store} {H' : Hp}, Fw ι S (remF cf H) ι' S' H' → (∀ a o, cf a = some o → H' a = none) → Kp H' (addF cf H') → Fw ι S H ι' S' (addF cf H') := fun {ι' S' H'} f hn kp =>
    ⟨f.le, f.ag, fun c xs e => by
      rcases hd.split e with ⟨o, _, z⟩ | ⟨_, e⟩
      · cases z
      · exact kp.tup _ _ (f.kp.tup _ _ e), fun c o u e => by
      rcases hd.split e with ⟨o', z1, z⟩ | ⟨_, e⟩
      · cases z; exact addF_in z1
      · exact kp.frz _ _ _ (f.kp.frz _ _ _ e)⟩
  have G : ∀ {ι' : Nat → Addr} {env : Env} {S' : Store} {σ' : L2.St} {H' : Hp}, Fw ι S (remF cf H) ι' S' H' → Rl W w ⟨fun _ => none, cf⟩ ι' env S' σ' H' → (∀ a o, cf a = some o → H' a = none) → Fw ι S H ι' (T S') (addF cf H') ∧ Rg W w ι' (T S') (addF cf H') ∧ Kp H' (addF cf H') := fun {ι' env S' σ' H'} f R hn => by
    obtain ⟨g1, kp⟩ := clo_end R hn
    have f1 := F f hn kp
    have fT : Fw ι S H ι' (T S') (addF cf H') := ⟨by rw [L]; exact f1.le, f1.ag, f1.kp⟩
    refine ⟨fT, ?_, kp⟩
    show Rg W w ι' (if b = true then S' else restC S (dropC S')) _
    by_cases h : b = true
    · rw [if_pos h]; exact g1
    · rw [if_neg h]
      exact G0.rest (f1.trans fw_drop) (clo_end R.dropped hn).1
  have up : ∀ {H' : Hp}, (∀ a o, cf a = some o → H' a = none) → ∀ b u, H' b = some u → addF cf H' b = some u := fun {H'} hn b u e => by
    cases q : cf b with
    | none => rw [addF_out q]; exact e
    | some o => rw [hn b o q] at e; cases e
  rw [bind_ap] at g
  have e1 : ∀ v S', endR b S (.ok v S') = .ok v (T S') := fun v S' => by unfold endR; show _ = Res.ok v (if b = true then _ else _); split <;> rfl
  have e2 : ∀ c fs S', endR b S (.ex c fs S') = .ex c fs (T S') := fun c fs S' => by unfold endR; show _ = Res.ex c fs (if b = true then _ else _); split <;> rfl
  have e3 : endR b S .no = .no := by unfold endR; split <;> rfl
  cases hx : pb S with
  | no => rw [hx] at g; dsimp only at g; rw [e3] at g; exact g
  | ex c fs S' =>
    rw [hx] at g; dsimp only at g; rw [e2] at g
    exact fun ι' e' σ' H' cls dd f' R' rx hn => let ⟨fT, gT, kp⟩ := G f' R' hn; g ι' _ cls dd fT gT (by rw [L]; exact rx.upK (up hn) kp)
  | ok fl S' =>
    rw [hx] at g; dsimp only at g
    cases fl with
    | rt v =>
      have g : GsG W w ι S H (endR b S (.ok v S')) Q E := g
      rw [e1] at g
      exact fun ι' e' σ' H' y f' R' ry hn => let ⟨fT, gT, kp⟩ := G f' R' hn; g ι' _ y fT gT (by rw [L]; exact ry.mono (Nat.le_refl _) (fun _ _ => rfl) kp)
    | nx e' =>
      have g : GsG W w ι S H (endR b S (.ok .non S')) Q E := g
      rw [e1] at g
      exact fun ι' σ' H' f' R' hn => let ⟨fT, gT, kp⟩ := G f' R' hn; g ι' _ .non fT gT rfl
    | bk e' =>
      have g : GsG W w ι S H (endR b S .no) Q E := g
      rw [e3] at g; exact g.elim
    | ct e' =>
      have g : GsG W w ι S H (endR b S .no) Q E := g
      rw [e3] at g; exact g.elim
theorem cap_ok {P : Program} {base : Heap} {Nn : List Str} {F : NdefX.NF} {a : Addr} {A : Around} {outer : List PySem.Env} {s : Shared} {E : XK} (C : CloC W noV ι N H fr vs F.cl) (e0 : Env0 P w W.K W.mg base A outer s H) :
    ClOk (NdefX.ncx (L2.CX P w) P w W.K W.mg base Nn F a A outer s (remF (capF F.cl fr H) H) E) ⟨fun _ => none, capF F.cl fr H⟩ := by
  have hd := capF_held C
  refine ⟨fun i b h => (nomatch (show (none : Option Addr) = some b from h)), fun i b h => (nomatch (show (none : Option Addr) = some b from h)), fun b o h => ?_⟩
  have h : capF F.cl fr H b = some o := h
  have hb := hd.at_ b o h
  obtain ⟨y, _, hy, _⟩ := capF_in h
  refine ⟨⟨(e0.hok b _ hb).1, remF_in h, fun z => absurd (show b ∈ ([] : List Addr) from z) (by simp)⟩, ⟨y, hy⟩, ⟨?_, fun z => ?_⟩, hd.cell b o h⟩
  · show base.get? b = none
    cases q : base.get? b with
    | none => rfl
    | some o' => rw [(e0.bs b o' q).2] at hb; cases hb
  · have := e0.frf b z
    rw [hb] at this; cases this
theorem clo_stmts {P : Program} {base : Heap} {k f : Nat} {d : Fn} {C C' : Orc} {b : Bool} {I : InnF} {A : Around} {outer : List PySem.Env} {s : Shared} {H : Hp} {a : Addr} {us : List Value} {vs : List V} {Q : VK} {E : XK} {ι : Nat → Addr} {S : Store} {as cs : List Val} {n : Nat} {cl : List (Str × Addr)} {c' : Addr} {body : List Stmt} {Nn : List Str} (hB : I.body = .stmts body) (Sc : NdefX.NScope Nn I.ps I.fr I.scope)
    (hbd : ∀ (cl : List (Str × Addr)) (c : Addr) (doc pm ctv : Value) (us : List Value), us.length = I.ps.length → bindArgs (I.fd cl c doc pm ctv) ⟨us, []⟩ = pure (I.ps.zip us)) (ar : d.arity = I.ps.length) (sl : d.slots = Nn.length) (hfr : d.free.length = I.fr.length)
    (hC : ∀ as cs S, C f as cs S = if (decide (as.length = d.arity) && decide (cs.length = d.free.length)) = true then endR b S ((exSs W.P d.body C' (env0 d (as ++ cs)) >>= fun r => retM r) S) else .no)
    (hbody : ∀ (F : NdefX.NF) (a : Addr) (A : Around) (outer : List PySem.Env) (s : Shared) (H0 : Hp) (E' : XK) (cf : Addr → Option Obj), F.scope = I.scope → F.qual = I.qual → RoomG k (A.deeper (NdefX.envF F a s.heap.objs.size)) →
      ClOk (NdefX.ncx (L2.CX P w) P w W.K W.mg base Nn F a A outer s H0 E') ⟨fun _ => none, cf⟩ → PSs (NdefX.ncx (L2.CX P w) P w W.K W.mg base Nn F a A outer s H0 E') body (tS W w ⟨fun _ => none, cf⟩ (fun c d _ H => E' c d H) (exSs W.P d.body C'))) :
    RoomG (k + 1) A → Env0 P w W.K W.mg base A outer s H → Vals vs us → Rg W w ι S H → ι n = a → RVs W ι S.length H as vs → as.length = d.arity → GsG W w ι S H (C f as cs S) Q E → FnH H (ι n) I cl c' → CodeH H c' I.qual → CloC W noV ι S.length H I.fr cs cl →
    codeAny (model P w) A (.call (.ref a) ⟨us, []⟩) (CR (L2.CX P w) outer P w H s Q E) s := by
  intro hr e0 r G ha ra hl g hF hCo hc
  subst ha
  obtain ⟨nme, qual, params, bd, scope, psn, frn⟩ := I
  have hB : bd = .stmts body := hB
  subst hB
  obtain ⟨o, od, osl, doc, pm, ctv, hHa, ho⟩ := hF
  obtain ⟨xs, rx, hx⟩ := hc.vals
  have hd := capF_held hc
  let F : NdefX.NF := ⟨nme, qual, params, body, scope, cl, c'⟩
  have hob : s.heap.get? (ι n) = some o := (e0.hok _ _ hHa).1
  rw [ho] at hob
  obtain ⟨oc, ovs, t, h1, h2, h3⟩ := hCo
  have hrec : s.heap.CodeRec (.ref c') qual := ⟨c', oc, ovs, t, rfl, (e0.hok _ _ h1).1, h2, h3⟩
  have lim : s.heap.NoLimit := e0.mod.nolimit.keeps fun b o e => (e0.bs b o e).1
  have hul : vs.length = psn.length := by rw [ra.length, hl, ar]
  refine codeAny_call_function hr.r.depth hob rfl Sc.co Sc.gen rfl hrec ?_
  rw [hbd cl c' doc pm ctv us (by rw [← r.length]; exact hul)]
  refine wpAny_pure (wpAny_newFunctionEnv Sc.nocell (fun ⟨n, _⟩ hy => Sc.par n (List.of_mem_zip hy).1) (fun h₁ hns hsb => ⟨lim.fresh _ hsb, ?_⟩) Sc.kind)
  show codeAny _ _ (.func F.body (NdefX.envF F (ι n) s.heap.objs.size)) _ _
  refine codeAny_func ?_
  have kp : ∀ b o, s.heap.get? b = some o → h₁.get? b = some o := fun b o e => hsb.extBut b o (Nat.ne_of_lt (Heap.lt_size e)) (Heap.get?_push_of_some _ e)
  have xl : xs.length = frn.length := by rw [rx.length]; exact hc.len
  have I0 : L2.Inv (NdefX.ncx (L2.CX P w) P w W.K W.mg base Nn F (ι n) A outer s (remF (capF cl frn H) H) (eF (capF cl frn H) E)) [] (NdefX.startF Nn vs (xs.map some)) (remF (capF cl frn H) H) { s with heap := h₁, toks := s.toks + (psn.zip us).length } :=
    NdefX.inv_startN (F := F) Sc hr.r.hd (env0_rem hd e0) hul r (cells_at0 hc e0.hok xl hx) hns kp
  rw [startF_eq] at I0
  have hb := hbody F (ι n) A outer s (remF (capF cl frn H) H) (eF (capF cl frn H) E) (capF cl frn H) rfl rfl (hr.deeper _) (cap_ok (F := F) hc e0)
  rw [hC] at g
  have hcl : cs.length = d.free.length := by rw [hfr]; exact hc.len
  rw [if_pos (by rw [hl, hcl]; simp)] at g
  refine wpAny_mono (hb.run [] _ _ _ { nx := fun _ H' => qF (capF cl frn H) Q .non H', rt := qF (capF cl frn H) Q } I0 ⟨ι, env0 d (as ++ cs), S, clo_start G hc ra rx sl, end_clo G hd g⟩) (fun fl s' hs => ?_) fun e s' hs => wpAny_mono hs (fun _ s'' z => cx_fwd hd e0.hok e0.frf z fun _ _ _ hn q => q hn) fun _ s'' z => cx_fwd hd e0.hok e0.frf z fun _ _ _ hn q => q hn
  have fin : ∀ {σ' : L2.St} {H' : Hp} {v : V} {u : Value}, L2.Inv (NdefX.ncx (L2.CX P w) P w W.K W.mg base Nn F (ι n) A outer s (remF (capF cl frn H) H) (eF (capF cl frn H) E)) [] σ' H' s' → L2.RelV v u → qF (capF cl frn H) Q v H' → CE outer P w H s Q u s' :=
    fun {σ' H' v u} J rv q => ce_fwd hd e0.hok e0.frf ⟨v, H', J.os, J.bare, J.base, J.hok, rv, q⟩ fun _ _ hn q => q hn
  cases fl with
  | ret u =>
    obtain ⟨v, σ', H', J, rv, q⟩ := hs
    exact fin J rv q
  | next =>
    obtain ⟨σ', H', J, q⟩ := hs
    exact fin (v := V.non) (u := Value.none) J rfl q
  | brk =>
    obtain ⟨_, _, _, q⟩ := hs
    exact False.elim q
  | cont =>
    obtain ⟨_, _, _, q⟩ := hs
    exact False.elim q
theorem clo_expr {P : Program} {base : Heap} {k f : Nat} {d : Fn} {C C' : Orc} {b : Bool} {I : InnF} {A : Around} {outer : List PySem.Env} {s : Shared} {H : Hp} {a : Addr} {us : List Value} {vs : List V} {Q : VK} {E : XK} {ι : Nat → Addr} {S : Store} {as cs : List Val} {n : Nat} {cl : List (Str × Addr)} {c' : Addr} {body : Expr} {p : Pyd.E} {Nn : List Str} (hB : I.body = .expr body) (hp : d.body = .cons (.ret p) .nil) (Sc : NdefX.NScope Nn I.ps I.fr I.scope)
    (hbd : ∀ (cl : List (Str × Addr)) (c : Addr) (doc pm ctv : Value) (us : List Value), us.length = I.ps.length → bindArgs (I.fd cl c doc pm ctv) ⟨us, []⟩ = pure (I.ps.zip us)) (ar : d.arity = I.ps.length) (sl : d.slots = Nn.length) (hfr : d.free.length = I.fr.length)
    (hC : ∀ as cs S, C f as cs S = if (decide (as.length = d.arity) && decide (cs.length = d.free.length)) = true then endR b S ((exSs W.P d.body C' (env0 d (as ++ cs)) >>= fun r => retM r) S) else .no)
    (hbody : ∀ (F : NdefX.NF) (a : Addr) (A : Around) (outer : List PySem.Env) (s : Shared) (H0 : Hp) (E' : XK) (cf : Addr → Option Obj), F.scope = I.scope → F.qual = I.qual → RoomG k (A.deeper (NdefX.envF F a s.heap.objs.size)) →
      ClOk (NdefX.ncx (L2.CX P w) P w W.K W.mg base Nn F a A outer s H0 E') ⟨fun _ => none, cf⟩ → PE (NdefX.ncx (L2.CX P w) P w W.K W.mg base Nn F a A outer s H0 E') body (tG W w ⟨fun _ => none, cf⟩ (fun c d _ H => E' c d H) (rv W) (evE W.P C' p))) :
    RoomG (k + 1) A → Env0 P w W.K W.mg base A outer s H → Vals vs us → Rg W w ι S H → ι n = a → RVs W ι S.length H as vs → as.length = d.arity → GsG W w ι S H (C f as cs S) Q E → FnH H (ι n) I cl c' → CodeH H c' I.qual → CloC W noV ι S.length H I.fr cs cl →
    codeAny (model P w) A (.call (.ref a) ⟨us, []⟩) (CR (L2.CX P w) outer P w H s Q E) s := by
  intro hr e0 r G ha ra hl g hF hCo hc
  subst ha
  obtain ⟨nme, qual, params, bd, scope, psn, frn⟩ := I
  have hB : bd = .expr body := hB
  subst hB
  obtain ⟨o, od, osl, doc, pm, ctv, hHa, ho⟩ := hF
  obtain ⟨xs, rx, hx⟩ := hc.vals
  have hd := capF_held hc
  let F : NdefX.NF := ⟨nme, qual, params, [], scope, cl, c'⟩
  have hob : s.heap.get? (ι n) = some o := (e0.hok _ _ hHa).1
  rw [ho] at hob
  obtain ⟨oc, ovs, t, h1, h2, h3⟩ := hCo
  have hrec : s.heap.CodeRec (.ref c') qual := ⟨c', oc, ovs, t, rfl, (e0.hok _ _ h1).1, h2, h3⟩
  have lim : s.heap.NoLimit := e0.mod.nolimit.keeps fun b o e => (e0.bs b o e).1
  have hul : vs.length = psn.length := by rw [ra.length, hl, ar]
  refine PySem.W.kla_callFunE hr.r.depth hob rfl Sc.co Sc.gen rfl hrec ?_
  rw [hbd cl c' doc pm ctv us (by rw [← r.length]; exact hul)]
  refine wpAny_pure (wpAny_newFunctionEnv Sc.nocell (fun ⟨n, _⟩ hy => Sc.par n (List.of_mem_zip hy).1) (fun h₁ hns hsb => ⟨lim.fresh _ hsb, ?_⟩) Sc.kind)
  show codeAny _ _ (.expr body (NdefX.envF F (ι n) s.heap.objs.size)) _ _
  have kp : ∀ b o, s.heap.get? b = some o → h₁.get? b = some o := fun b o e => hsb.extBut b o (Nat.ne_of_lt (Heap.lt_size e)) (Heap.get?_push_of_some _ e)
  have xl : xs.length = frn.length := by rw [rx.length]; exact hc.len
  have I0 : L2.Inv (NdefX.ncx (L2.CX P w) P w W.K W.mg base Nn F (ι n) A outer s (remF (capF cl frn H) H) (eF (capF cl frn H) E)) [] (NdefX.startF Nn vs (xs.map some)) (remF (capF cl frn H) H) { s with heap := h₁, toks := s.toks + (psn.zip us).length } :=
    NdefX.inv_startN (F := F) Sc hr.r.hd (env0_rem hd e0) hul r (cells_at0 hc e0.hok xl hx) hns kp
  rw [startF_eq] at I0
  have hb := hbody F (ι n) A outer s (remF (capF cl frn H) H) (eF (capF cl frn H) E) (capF cl frn H) rfl rfl (hr.deeper _) (cap_ok (F := F) hc e0)
  rw [hC] at g
  have hcl : cs.length = d.free.length := by rw [hfr]; exact hc.len
  rw [if_pos (by rw [hl, hcl]; simp)] at g
  have ge := end_clo (σ := L2.start Nn (vs ++ xs)) G hd g
  rw [hp] at ge
  have ge2 : Gs W w ⟨fun _ => none, capF cl frn H⟩ (fun c d _ H' => eF (capF cl frn H) E c d H') (rv W) ι (env0 d (as ++ cs)) S (L2.start Nn (vs ++ xs)) (remF (capF cl frn H) H) (evE W.P C' p (env0 d (as ++ cs)) S) (qF (capF cl frn H) Q) := by
    have ex : exSs W.P (.cons (.ret p) .nil) C' (env0 d (as ++ cs)) S = (match evE W.P C' p (env0 d (as ++ cs)) S with
      | .ok x S' => .ok (.rt x) S'
      | .ex c fs S' => .ex c fs S'
      | .no => .no) := by
      show (match (evE W.P C' p (env0 d (as ++ cs)) >>= fun x => (pure (.rt x) : M Fl)) S with
        | .ok (.nx e) S' => exSs W.P .nil C' e S'
        | x => x) = _
      rw [bind_ap]
      cases evE W.P C' p (env0 d (as ++ cs)) S <;> rfl
    rw [ex] at ge
    cases hx : evE W.P C' p (env0 d (as ++ cs)) S with
    | no => rw [hx] at ge; exact ge
    | ex c fs S' => rw [hx] at ge; exact fun ι' H' cls dd f' R' rx => ge ι' _ _ H' cls dd f' R' rx
    | ok x S' => rw [hx] at ge; exact fun ι' H' y f' R' rx => ge ι' _ _ H' y f' R' rx
  refine PySem.W.kla_codeExpr (wpAny_mono (hb.run [] _ _ _ (qF (capF cl frn H) Q) I0 ⟨ι, env0 d (as ++ cs), S, clo_start G hc ra rx sl, ge2⟩) (fun u s' hs => ?_) fun e s' hs => wpAny_mono hs (fun _ s'' z => cx_fwd hd e0.hok e0.frf z fun _ _ _ hn q => q hn) fun _ s'' z => cx_fwd hd e0.hok e0.frf z fun _ _ _ hn q => q hn)
  obtain ⟨v, H', J, rv, q⟩ := hs
  exact ce_fwd hd e0.hok e0.frf ⟨v, H', J.os, J.bare, J.base, J.hok, rv, q⟩ fun _ _ hn q => q hn
def CloB (W : Wd) (w : World) (P : Program) (base : Heap) (k : Nat) (d : Fn) (C' : Orc) (I : InnF) (Nn : List Str) : Prop := match I.body with
  | .stmts body => ∀ (F : NdefX.NF) (a : Addr) (A : Around) (outer : List PySem.Env) (s : Shared) (H0 : Hp) (E' : XK) (cf : Addr → Option Obj), F.scope = I.scope → F.qual = I.qual → RoomG k (A.deeper (NdefX.envF F a s.heap.objs.size)) →
      ClOk (NdefX.ncx (L2.CX P w) P w W.K W.mg base Nn F a A outer s H0 E') ⟨fun _ => none, cf⟩ → PSs (NdefX.ncx (L2.CX P w) P w W.K W.mg base Nn F a A outer s H0 E') body (tS W w ⟨fun _ => none, cf⟩ (fun c d _ H => E' c d H) (exSs W.P d.body C'))
  | .expr body => ∃ p, d.body = .cons (.ret p) .nil ∧ ∀ (F : NdefX.NF) (a : Addr) (A : Around) (outer : List PySem.Env) (s : Shared) (H0 : Hp) (E' : XK) (cf : Addr → Option Obj), F.scope = I.scope → F.qual = I.qual → RoomG k (A.deeper (NdefX.envF F a s.heap.objs.size)) →
      ClOk (NdefX.ncx (L2.CX P w) P w W.K W.mg base Nn F a A outer s H0 E') ⟨fun _ => none, cf⟩ → PE (NdefX.ncx (L2.CX P w) P w W.K W.mg base Nn F a A outer s H0 E') body (tG W w ⟨fun _ => none, cf⟩ (fun c d _ H => E' c d H) (rv W) (evE W.P C' p))
theorem cloG_of {P : Program} {base : Heap} {k f : Nat} {d : Fn} {C C' : Orc} {b : Bool}
    (hC : ∀ as cs S, C f as cs S = if (decide (as.length = d.arity) && decide (cs.length = d.free.length)) = true then endR b S ((exSs W.P d.body C' (env0 d (as ++ cs)) >>= fun r => retM r) S) else .no)
    (h : ∀ I, W.inn f I → ∃ Nn, NdefX.NScope Nn I.ps I.fr I.scope ∧ (∀ (cl : List (Str × Addr)) (c : Addr) (doc pm ctv : Value) (us : List Value), us.length = I.ps.length → bindArgs (I.fd cl c doc pm ctv) ⟨us, []⟩ = pure (I.ps.zip us)) ∧ d.arity = I.ps.length ∧ d.slots = Nn.length ∧ d.free.length = I.fr.length ∧ CloB W w P base k d C' I Nn) :
    CloG P w W base (k + 1) f d C := by
  refine ⟨fun A outer s H a us vs Q E hr e0 r ⟨ι, S, as, n, cs, G, hn, ha, ra, hl, g⟩ => ?_⟩
  obtain ⟨I, cl, c', hI, hF, hCo, hc⟩ := G.ob n _ hn
  obtain ⟨Nn, Sc, hbd, ar, sl, hfr, hB⟩ := h I hI
  unfold CloB at hB
  split at hB
  · rename_i body hb
    exact clo_stmts hb Sc hbd ar sl hfr hC hB hr e0 r G ha ra hl g hF hCo hc
  · rename_i body hb
    obtain ⟨p, hp, hB⟩ := hB
    exact clo_expr hb hp Sc hbd ar sl hfr hC hB hr e0 r G ha ra hl g hF hCo hc
end
end Pyd
set_option Elab.async false
set_option linter.all false
set_option maxRecDepth 100000
set_option maxHeartbeats 1000000
namespace Pyd
open PySem PySem.Spec PyProof.Rows L2
section
variable {X : Cx} {pins : List (Addr × Obj)} {σ : L2.St} {H : Hp} {s : Shared}
theorem hold_new (I : L2.Inv X pins σ H s) {a : Addr} {o : Obj} (he : s.heap.get? a = some o) (hd : ∀ v, o.data ≠ .cell v) (hn : H a = none) (h0 : X.s_0.heap.get? a = none) (hL : a ≠ X.env.locals) (hp : ∀ p ∈ X.pn ++ pins, p.1 ≠ a) :
    L2.Inv X pins σ (upd H a (.frz o (FixO a o))) s := by
  have ne : ∀ {b : Addr} {u : HO}, H b = some u → b ≠ a := fun h => ne_of_none h hn
  refine ⟨I.ok, I.os, I.bare, ⟨I.base.keep, I.base.slot, fun b u e n x => ?_, I.base.there, fun b xs e => ?_, fun b u v e => ?_, fun b ps e => ?_⟩, I.loc, I.cell, ?_, fun x c e => ?_, fun p hp' => ?_, fun b u e => ?_, I.len⟩
  · have : b ≠ a := fun z => by rw [z, h0] at e; cases e
    rw [upd_ne this]; exact I.base.free b u e n x
  · have h := I.base.tups b xs e
    rw [upd_ne (ne h)]; exact h
  · have h := I.base.frzs b u v e
    rw [upd_ne (ne h)]; exact h
  · obtain ⟨more, h⟩ := I.base.tbls b ps e
    exact ⟨more, by rw [upd_ne (ne h)]; exact h⟩
  · rw [upd_ne (Ne.symm hL)]; exact I.free
  · have : c ≠ a := fun z => by
      obtain ⟨v, hv⟩ := I.cell x c e
      rw [z] at hv
      obtain ⟨o', h1, h2⟩ := hv
      rw [he] at h1
      cases h1
      exact hd _ h2
    rw [upd_ne this]; exact I.freeC x c e
  · obtain ⟨p1, p2, p3⟩ := I.pin p hp'
    exact ⟨p1, by rw [upd_ne (hp p hp')]; exact p2, p3⟩
  · by_cases hb : b = a
    · subst hb
      rw [upd_same] at e
      cases e
      exact ⟨he, he, ⟨o, he⟩, fun h1 h2 e1 k => k o e1⟩
    · rw [upd_ne hb] at e
      exact (I.hok b u e).stay (fun _ _ _ z => z) (fun c z => by rw [upd_ne (ne z)]; exact z) (fun c xs z => by rw [upd_ne (ne z)]; exact z)
theorem hold_dict (I : L2.Inv X pins σ H s) {a : Addr} {fs : List (Str × V)} (ha : H a = some (.xd fs)) : ∃ od, s.heap.get? a = some od ∧ L2.Inv X pins σ (upd H a (.frz od (.xd fs))) s := by
  have hx : ObjOk X.prog X.w H s.heap a (.xd fs) := I.hok a _ ha
  obtain ⟨od, hod⟩ : ∃ od, s.heap.get? a = some od := by obtain ⟨mA, ⟨od, _, _, e, _⟩, _⟩ := hx; exact ⟨od, e⟩
  refine ⟨od, hod, ?_⟩
  have nn : ∀ {b : Addr}, H b = none → b ≠ a := fun h z => by rw [z, ha] at h; cases h
  refine ⟨I.ok, I.os, I.bare, ⟨I.base.keep, I.base.slot, fun b u e n x => ?_, I.base.there, fun b xs e => ?_, fun b u v e => ?_, fun b ps e => ?_⟩, I.loc, I.cell, ?_, fun x c e => ?_, fun p hp' => ?_, fun b u e => ?_, I.len⟩
  · have h := I.base.free b u e n x
    rw [upd_ne (nn h)]; exact h
  · have h := I.base.tups b xs e
    rw [upd_ne (fun z => by rw [z, ha] at h; cases h)]; exact h
  · have h := I.base.frzs b u v e
    rw [upd_ne (fun z => by rw [z, ha] at h; cases h)]; exact h
  · obtain ⟨more, h⟩ := I.base.tbls b ps e
    exact ⟨more, by rw [upd_ne (fun z => by rw [z, ha] at h; cases h)]; exact h⟩
  · rw [upd_ne (nn I.free)]; exact I.free
  · rw [upd_ne (nn (I.freeC x c e))]; exact I.freeC x c e
  · obtain ⟨p1, p2, p3⟩ := I.pin p hp'
    exact ⟨p1, by rw [upd_ne (nn p2)]; exact p2, p3⟩
  · by_cases hb : b = a
    · subst hb
      rw [upd_same] at e
      cases e
      exact ⟨hod, hx⟩
    · rw [upd_ne hb] at e
      exact (I.hok b u e).stay (fun _ _ _ z => z) (fun c z => by rw [upd_ne (fun q => by rw [q, ha] at z; cases z)]; exact z) (fun c xs z => by rw [upd_ne (fun q => by rw [q, ha] at z; cases z)]; exact z)
theorem to_suite (I : L2.Inv X pins σ H s) (a : Addr) : L2.Inv (X.suite a (X.pn ++ pins)) [] σ H s :=
  ⟨I.ok.suite _ _, I.os, I.bare, I.base, I.loc, I.cell, I.free, I.freeC, fun p hp => I.pin p (by rw [List.append_nil] at hp; exact hp), I.hok, I.len⟩
theorem of_suite {a : Addr} {pn' : List (Addr × Obj)} (I : L2.Inv (X.suite a (X.pn ++ pins)) pn' σ H s) (ok : X.Ok) : L2.Inv X pins σ H s :=
  ⟨ok, I.os, I.bare, I.base, I.loc, I.cell, I.free, I.freeC, fun p hp => I.pin p (List.mem_append_left _ hp), I.hok, I.len⟩
end
theorem dropSlot {W : Wd} {w : World} {cl : FC} {ι : Nat → Addr} {env : Env} {S : Store} {σ : L2.St} {H : Hp} (R : Rl W w cl ι env S σ H) {i : Nat} (hi : NoCell cl i) : Rl W w cl ι (env.set i none) S (σ.set i none) H := by
  refine ⟨by rw [List.length_set, List.length_set]; exact R.len, fun j v hj e => ?_, cs_set hi R.cs, fun n o e => ro_see e (R.ob n o e) (vw_set hi), R.inj, R.tab⟩
  rw [List.length_set] at hj
  by_cases hij : i = j
  · subst hij
    rw [List.getElem?_set_self (Nat.lt_of_lt_of_le hj R.len)] at e; cases e
  · rw [List.getElem?_set_ne hij] at e
    obtain ⟨y, hy, r⟩ := R.slot j v hj e
    exact ⟨y, by rw [List.getElem?_set_ne hij]; exact hy, r⟩
def tTry (tk : TK) (te : TE) : TS := match tk with
  | .ex => tDrop te
  | .ret => tRet te
  | .asg j => tAsg te (gName j)
section
variable {W : Wd} {w : World} {X : Cx} {cl : FC} {EX : WX} {ι : Nat → Addr} {env : Env} {S S' : Store} {σ : L2.St} {H : Hp}
theorem caught (R : Rl W w cl ι env S σ H) {k : Nat} {fs : List Val} {C : Value} {d : Option Addr} {pins : List (Addr × Obj)} {s : Shared} (I : L2.Inv X pins σ H s) (rx : RX W ι S.length H k fs C d)
    {a : Addr} {o : Obj} (he : s.heap.get? a = some o) (hz : Zc C d o) (hd : ∃ vs, o.data = .fields vs) (hn : H a = none) (h0 : X.s_0.heap.get? a = none) (hL : a ≠ X.env.locals) (hp : ∀ p ∈ X.pn ++ pins, p.1 ≠ a) :
    ∃ H', L2.Inv X pins σ H' s ∧ Fw ι S H (newι ι S.length a) (S ++ [.exc k fs]) H' ∧ Rl W w cl (newι ι S.length a) env (S ++ [.exc k fs]) σ H' := by
  obtain ⟨C', rfl, hm, kc, hk, hx, hf⟩ := rx
  have ag : ∀ n, n < S.length → newι ι S.length a n = ι n := fun n h => newι_old h
  have hl : (S ++ [Ob.exc k fs]).length = S.length + 1 := by simp
  have ncell : ∀ v, o.data ≠ .cell v := fun v z => by obtain ⟨vs, e⟩ := hd; rw [e] at z; cases z
  have main : ∀ H1, L2.Inv X pins σ H1 s → Kp H H1 → H1 a = none → Rl W w cl ι env S σ H1 → (match d with | none => kc.fields = [] ∧ fs = [] | some dx => ∃ od ys, H1 dx = some (.frz od (.xd ((kc.fields.map W.nm.an).zip ys))) ∧ RVs W ι S.length H1 fs ys ∧ fs.length = kc.fields.length) →
      ∃ H', L2.Inv X pins σ H' s ∧ Fw ι S H (newι ι S.length a) (S ++ [.exc k fs]) H' ∧ Rl W w cl (newι ι S.length a) env (S ++ [.exc k fs]) σ H' := by
    intro H1 I1 k1 n1 R1 hf1
    have k2 : Kp H1 (upd H1 a (.frz o (FixO a o))) := Kp.new n1
    refine ⟨_, hold_new I1 he ncell n1 h0 hL hp, ⟨by rw [hl]; exact Nat.le_succ _, ag, k1.trans k2⟩, R1.alloc k2 (fun b u e => by rw [upd_ne (ne_of_none e n1)]; exact e) n1 ?_⟩
    refine ⟨kc, C', o, hk, hx, hm, by rw [newι_new]; exact upd_same, hz.1, hd, ?_⟩
    rw [hz.2]
    cases d with
    | none => exact hf1
    | some dx =>
      obtain ⟨od, ys, b1, b2, b3⟩ := hf1
      exact ⟨od, ys, k2.frz _ _ _ b1, b2.mono (Nat.le_succ _) ag k2, b3⟩
  cases d with
  | none => exact main H I (Kp.refl H) hn R hf
  | some dx =>
    obtain ⟨ys, b1, b2, b3⟩ := hf
    obtain ⟨od, _, I1⟩ := hold_dict I b3
    obtain ⟨R1, k1⟩ := R.hold (u := .frz od (.xd ((kc.fields.map W.nm.an).zip ys))) b3
    exact main _ I1 k1 (by rw [upd_ne (fun z => by rw [z, b3] at hn; cases hn)]; exact hn) R1 ⟨od, ys, upd_same, b1.mono (Nat.le_refl _) (fun _ _ => rfl) k1, b2⟩
def wTry (W : Wd) (w : World) (cl : FC) (pe : Env → M Val) (ι : Nat → Addr) (env : Env) (S : Store) (σ : L2.St) (H : Hp) : WX := fun cls d σ' H' =>
  σ' = σ ∧ ∃ k f S' ι', pe env S = .ex k f S' ∧ Fw ι S H ι' S' H' ∧ Rl W w cl ι' env S' σ H' ∧ RX W ι' S'.length H' k f cls d
theorem tryEnd_ok {tk : TK} {pe : Env → M Val} {c i : Nat} {f : Env → M Fl} {D : Ends} (htk : ∀ j, tk = .asg j → j < σ.length ∧ NoCell cl j) (R : Rl W w cl ι env S σ H) (g : GsS W w cl EX ι S σ H (tryM W.P tk pe c i f env S) D) :
    tTry tk (tG W w cl (wTry W w cl pe ι env S σ H) (rv W) pe) D σ H := by
  have key : ∀ Q : VK, (∀ x S', pe env S = .ok x S' → ∀ ι' H' y, Fw ι S H ι' S' H' → Rl W w cl ι' env S' σ H' → RV W ι' S'.length H' x y → Q y H') → tG W w cl (wTry W w cl pe ι env S σ H) (rv W) pe σ H Q := by
    intro Q q
    refine ⟨ι, env, S, R, ?_⟩
    unfold tryM at g
    cases hp : pe env S with
    | ok x S' => exact fun ι' H' y f' R' r => q x S' hp ι' H' y f' R' r
    | ex k fs S' => exact fun ι' H' cls d f' R' r => ⟨rfl, k, fs, S', ι', hp, f', R', r⟩
    | no => rw [hp] at g; exact g.elim
  unfold tryM at g
  cases tk with
  | ex =>
    refine key _ fun x S' hp ι' H' y f' R' r => ?_
    rw [hp] at g
    exact g ι' σ H' f' R'
  | ret =>
    refine key _ fun x S' hp ι' H' y f' R' r => ?_
    rw [hp] at g
    exact g ι' env σ H' y f' R' r
  | asg j =>
    refine key _ fun x S' hp ι' H' y f' R' r => ?_
    rw [hp] at g
    have g : GsS W w cl EX ι S σ H ((need (decide (j < env.length)) >>= fun _ => pure (.nx (env.set j (some x)))) S') D := g
    obtain ⟨hl, g⟩ := GsS.need g
    exact g ι' _ H' f' (R'.setSlot (htk j rfl).2 (htk j rfl).1 r)
structure Catches (W : Wd) (c : Nat) (cv : Value) : Prop where
  ex : ∀ c' k C', W.P.cl c' = some k → k.exc = true → W.mg (W.nm.cn c') = some (.ref C') → PySem.W.exmOne W.K (.ref C') cv = some (k.up.contains c)
theorem s_try (G : Good W w X) (hs : X.stack = X.env :: X.outer) (hf : X.env.frame = some X.env.locals) (hN : X.N.Nodup) (hex : X.ex = []) {x n : Str} {cv : Value} {c i : Nat} {body suite : List Stmt} {b₀ : Stmt} {np pos pos' : Pos} {tk : TK} {pe : Env → M Val} {f : Env → M Fl}
    (hi : X.N[i]? = some n) (hln : X.env.kindOf n = some .local) (hc : Names X x cv) (Tk : Takes X EX) (hm : Catches W c cv) (hci : NoCell cl i) (htk : ∀ j, tk = .asg j → j < X.N.length ∧ NoCell cl j)
    (hb : ∀ (EX' : WX) (pn : List (Addr × Obj)) (xe : Value → Shared → Prop), Takes (X.tr pn xe) EX' → PassesOwn (model X.prog X.w) X.A X.env xe → PSs (X.tr pn xe) body (tTry tk (tG W w cl EX' (rv W) pe)))
    (hsu : ∀ (a : Addr) (pn : List (Addr × Obj)), PSs (X.suite a pn) (b₀ :: suite) (tS W w cl EXF f)) :
    PS X (.Try body [.ExceptHandler (some (.Name x np)) (some n) (b₀ :: suite) pos'] [] [] pos) (tS W w cl EX (tryM W.P tk pe c i f)) := by
  refine ⟨fun pins s σ H D I ⟨ι, env, S, R, g⟩ => ?_⟩
  have ok := I.ok
  have hfr : X.A.frames = some (X.env :: X.outer) := by rw [ok.frames, hs]
  have hloc : L2.Loc X.env.scope n := .inl hln
  have il : i < σ.length := ix_lt I hi
  refine wpAny_Try_except ?_
  refine wpAny_mono ((hb (wTry W w cl pe ι env S σ H) (X.pn ++ pins) (fun e s₁ => wpAny (model X.prog X.w) X.A (noteFrame e X.env) (fun _ s₂ => wpAny (model X.prog X.w) X.A (setFlight e none) (fun _ s₃ =>
    wpAny (model X.prog X.w) X.A (handleBy e X.env [.ExceptHandler (some (.Name x np)) (some n) (b₀ :: suite) pos']) (SP X pins D) X.xe s₃) X.xe s₂) X.xe s₁) (fun u s' xx => ?_) PassesOwn.looking).run [] s σ H D (I.toTry _) (tryEnd_ok (fun j q => by rw [I.len]; exact htk j q) R g)) (fun fl s1 hsp => ?_) (fun e s1 he => he)
  · obtain ⟨a, B, sI, pins', σ', H', cls, d, rfl, J', nb, up, sky, na, os, ag, hσ, k, fs, S', ι', hpe, fw, R', rx⟩ := xx
    subst hσ
    have J : L2.Inv X pins σ' H' sI := J'.ofTry ok
    unfold tryM at g
    rw [hpe] at g
    obtain ⟨C', rfl, hmg, kc, hk, hkx, hdf⟩ := id rx
    dsimp only at g
    rw [hk] at g
    dsimp only at g
    have hexm := hm.ex k kc C' hk hkx hmg
    rw [← G.K] at hexm
    rw [hs] at sky
    refine Sky.land Zc.steady hfr hf sky fun h3 fl3 up3 => ?_
    have J3 : L2.Inv X pins σ' H' { s' with heap := h3 } := J.landed nb fl3.1 (up.trans up3) os ag
    obtain ⟨oe3, vs3, he3, hz3, hd3⟩ := fl3.there
    have nfr : a ∉ frs (X.env :: X.outer) := fun hm => by
      obtain ⟨_, o', e', hnf⟩ := fl3.2.2.1.mem hm
      rw [he3] at e'; cases e'
      exact hnf _ hd3
    have nL : a ≠ X.env.locals := fun z => nfr (List.mem_filterMap.mpr ⟨X.env, List.mem_cons_self, by rw [hf, z]⟩)
    have noI : sI.heap.get? a = none := by
      cases q : sI.heap.get? a with
      | none => rfl
      | some o =>
        have z := nb a o q (by show a ∉ frs X.stack; rw [hs]; exact nfr)
        rw [fl3.2.1] at z; cases z
    have no0 : X.s_0.heap.get? a = none := by
      cases q : X.s_0.heap.get? a with
      | none => rfl
      | some o =>
        obtain ⟨o', z⟩ := J.base.there a o q (by rw [hex]; exact fun z => nomatch z)
        rw [noI] at z; cases z
    have nopin : ∀ p ∈ X.pn ++ pins, p.1 ≠ a := fun p hp z => by
      have := (J.pin p hp).1
      rw [z, noI] at this; cases this
    refine wpAny_handleBy_cons (codeAny_handlers_test ?_) (by intro q; cases q)
    have LT : PySem.W.Looks (model X.prog X.w) h3 (typeOf (.ref a)) (.ref C') := fun A Q E s k q => wpAny_typeOf_ref (k _ _ he3) (by rw [hz3.1]; exact q)
    have LM := PySem.W.exm_one (M := model X.prog X.w) J3.kIn LT hexm
    have S3 : L2.Inv (X.suite a (X.pn ++ pins)) [] σ' H' { s' with heap := h3 } := to_suite J3 a
    have test : ∀ {Q : Value → Shared → Prop} {E : Value → Shared → Prop}, Q cv { s' with heap := h3 } → wpAny (model X.prog X.w) (X.A.mark (some (.ref a))) (eval (.Name x np) X.env) Q E { s' with heap := h3 } := fun {Q E} q => by
      obtain ⟨hg, hdbg, hm | ⟨hm, hv, hnn⟩⟩ := hc
      · exact ld_glob (X := X.suite a (X.pn ++ pins)) S3 hg hm q hdbg
      · exact ld_blt (X := X.suite a (X.pn ++ pins)) S3 hg hm hv q hnn hdbg
    refine test (LM.here ?_)
    cases hup : kc.up.contains c with
    | true =>
      rw [hup, if_pos rfl] at g
      refine codeAny_handlers_suite_as ?_
      refine HandSPX.lands_againZ fl3 fun h4 fl4 up4 => ?_
      have J4 : L2.Inv X pins σ' H' { s' with heap := h4 } := J.landed nb fl4.1 ((up.trans up3).trans up4) os ag
      obtain ⟨oe4, vs4, he4, hz4, hd4⟩ := fl4.there
      obtain ⟨H2, J5, f5, R5⟩ := caught R' J4 rx he4 hz4 ⟨_, hd4⟩ na no0 nL nopin
      refine store_ok (X := X.suite a (X.pn ++ pins)) (v := .ref a) (to_suite J5 a) hN hi hloc rfl (fun s5 S5 => ?_) (.inr hln)
      have hl5 : (S' ++ [Ob.exc k fs]).length = S'.length + 1 := by simp
      have R6 : Rl W w cl (newι ι' S'.length a) (env.set i (some (.loc S'.length))) (S' ++ [.exc k fs]) (σ'.set i (some (.ref a))) H2 := R5.setSlot hci il ⟨by rw [hl5]; exact Nat.lt_succ_self _, by rw [newι_new]⟩
      have f6 := fw.trans f5
      have go : tS W w cl EXF f { nx := fun σ' H' => D.nx (σ'.set i none) H', rt := D.rt, bk := fun σ' H' => D.bk (σ'.set i none) H', ct := fun σ' H' => D.ct (σ'.set i none) H' } (σ'.set i (some (.ref a))) H2 := by
        refine ⟨_, _, _, R6, ?_⟩
        cases hsu : f (env.set i (some (.loc S'.length))) (S' ++ [.exc k fs]) with
        | no => rw [hsu] at g; exact g.elim
        | ex c fs S2 => rw [hsu] at g; exact g.elim
        | ok fl S2 =>
          rw [hsu] at g
          cases fl with
          | nx e => exact fun ι3 σ3 H3 f3 R3 => g ι3 _ H3 (f6.trans f3) (dropSlot R3 hci)
          | bk e => exact fun ι3 σ3 H3 f3 R3 => g ι3 _ H3 (f6.trans f3) (dropSlot R3 hci)
          | ct e => exact fun ι3 σ3 H3 f3 R3 => g ι3 _ H3 (f6.trans f3) (dropSlot R3 hci)
          | rt v => exact fun ι3 e σ3 H3 y f3 R3 r => g ι3 e σ3 H3 y (f6.trans f3) R3 r
      refine wpAny_mono ((hsu a (X.pn ++ pins)).run [] s5 _ H2 _ S5 go) (fun fl s6 hsp => ?_) (fun _ _ z => False.elim z)
      have end_ : ∀ {σ6 : L2.St} {H6 : Hp} {Q : Shared → Prop}, L2.Inv (X.suite a (X.pn ++ pins)) [] σ6 H6 s6 → (∀ s7, L2.Inv X pins (σ6.set i none) H6 s7 → Q s7) →
          wpAny (model X.prog X.w) X.A (do bindName X.env n .none; unbindBehindTheSuite X.env n pos') (fun _ s7 => Q s7) X.xe s6 := fun {σ6 H6 Q} S6 hq => gone_ok (of_suite S6 ok) hN hi hln hq
      cases fl with
      | next => obtain ⟨σ6, H6, S6, q6⟩ := hsp; exact end_ S6 fun s7 J7 => ⟨_, _, J7, q6⟩
      | brk => obtain ⟨σ6, H6, S6, q6⟩ := hsp; exact end_ S6 fun s7 J7 => ⟨_, _, J7, q6⟩
      | cont => obtain ⟨σ6, H6, S6, q6⟩ := hsp; exact end_ S6 fun s7 J7 => ⟨_, _, J7, q6⟩
      | ret u => obtain ⟨v6, σ6, H6, S6, r6, q6⟩ := hsp; exact end_ S6 fun s7 J7 => ⟨_, _, _, J7, r6, q6⟩
    | false =>
      rw [hup, if_neg (by decide)] at g
      show wpAny _ X.A (handleBy (.ref a) X.env []) _ _ _
      refine wpAny_handleBy_nil ?_
      obtain ⟨_, _, _, oe, vs, T, oT, ts', he, hz, hd, h1, hr⟩ := id fl3
      unfold PySem.passOn
      refine wpAny_bind (wpAny_field he hd h1 ?_)
      rw [if_neg (show ¬ ((Value.ref T == Value.none) = true) from by simp)]
      have fin : wpAny (model X.prog X.w) X.A (setFlight (.ref a) X.env.frame) (fun _ s4 => wpAny (model X.prog X.w) X.A (throw (.ref a) : Sem Flow) (SP X pins D) X.xe s4) X.xe { s' with heap := h3 } := by
        rw [hf]
        refine HandSPX.setFlight_upZ fl3 fun h4 hh4 up4 => wpAny_throw (Tk _ _ ?_)
        exact ⟨a, B, sI, pins, σ', H', .ref C', d, rfl, J, nb, (up.trans up3).trans up4, .inr (.inr (by rw [hs]; exact hh4)), na, os, ag, g ι' env σ' H' _ d fw R' rx⟩
      first
        | exact wpAny_bind (wpAny_pure (wpAny_bind fin))
        | exact wpAny_bind fin
  · cases fl with
    | next => obtain ⟨σ', H', J', q⟩ := hsp; exact wpAny_execs_nil ⟨σ', H', J'.ofTry ok, q⟩
    | brk => obtain ⟨σ', H', J', q⟩ := hsp; exact ⟨σ', H', J'.ofTry ok, q⟩
    | cont => obtain ⟨σ', H', J', q⟩ := hsp; exact ⟨σ', H', J'.ofTry ok, q⟩
    | ret u => obtain ⟨v, σ', H', J', r, q⟩ := hsp; exact ⟨v, σ', H', J'.ofTry ok, r, q⟩
end
end Pyd
set_option Elab.async false
set_option linter.all false
set_option maxRecDepth 100000
set_option maxHeartbeats 1000000
namespace Pyd
open PySem PySem.Spec PyProof.Rows L2
theorem mform {args : List Expr} {pos : Pos} {env : PySem.Env} (hp : plainArgs args = true) (hl : args.length < 30) : methodCallForm (args.length + ([] : List Keyword).length) (backTo pos (starEach args env)) (backToKw pos (keywordEach [] env)) = true := by
  have h1 : (backTo pos (starEach args env)).all (fun x => !x.1) = true := by
    have := plain_any (pos := pos) (env := env) hp
    rw [List.any_eq_false] at this
    rw [List.all_eq_true]
    intro x hx
    simpa using this x hx
  unfold methodCallForm
  rw [h1]
  show (true && true && decide (args.length + 0 + 0 < 30)) = true
  simpa using hl
theorem call_line {o : Expr} {m : Str} {apos pos : Pos} {env : PySem.Env} {args : List Expr} (hb : attributeBase o m env (eval o env) = eval o env) (hp : plainArgs args = true) (hn : args.length < 30) (hl : (apos.endLine == pos.line) = true) :
    eval (.Call (.Attribute o m apos) args [] pos) env = (do
      let ov ← eval o env
      standAt apos.atName
      let (f, first) ← holding [ov] (getMethod ov m (plainOf o env))
      callWith pos f first (backTo pos (starEach args env)) (backToKw pos (keywordEach [] env))) := by
  rw [arm_eval_Call, hb]
  have : ∀ ov, methodCall o m apos pos env ov (args.length + ([] : List Keyword).length) (backTo pos (starEach args env)) (backToKw pos (keywordEach [] env)) = _ := fun ov => mcall_line (mform hp hn) hl
  first
  | exact congrArg _ (funext fun ov => congrArg _ (funext fun _ => this ov))
  | simp only [this]
def init0B (self : Str) : List Stmt → Bool
  | [.Expr (.Call (.Attribute (.Name v _) m p2) [.Name s _] [] p4) _] => (v == ("ValueError" : Str) && m == ("__init__" : Str) && s == self) && (p2.endLine == p4.line)
  | _ => false
theorem init0B_ok {self : Str} {body : List Stmt} (h : init0B self body = true) : ∃ p1 p2 p3 p4 p5, body = [.Expr (.Call (.Attribute (.Name "ValueError" p1) "__init__" p2) [.Name self p3] [] p4) p5] ∧ (p2.endLine == p4.line) = true := by
  unfold init0B at h
  split at h
  · rename_i v p1 m p2 s p3 p4 p5
    rw [Bool.and_eq_true] at h
    obtain ⟨h, hl⟩ := h
    simp only [Bool.and_eq_true, beq_iff_eq] at h
    obtain ⟨⟨rfl, rfl⟩, rfl⟩ := h
    exact ⟨_, _, _, _, _, rfl, hl⟩
  · cases h
def init1B (B self arg fld : Str) : List Stmt → Bool
  | [.Expr (.Call (.Attribute (.Name v _) m p2) [.Name s _] [] p4) _, .Assign [.Attribute (.Name s2 _) f _] (.Name a _) _] =>
    (v == B && m == ("__init__" : Str) && s == self && s2 == self && f == fld && a == arg) && (p2.endLine == p4.line)
  | _ => false
theorem init1B_ok {B self arg fld : Str} {body : List Stmt} (h : init1B B self arg fld body = true) : ∃ p1 p2 p3 p4 p5 p6 p7 p8 p9, body = [.Expr (.Call (.Attribute (.Name B p1) "__init__" p2) [.Name self p3] [] p4) p5, .Assign [.Attribute (.Name self p6) fld p7] (.Name arg p8) p9] ∧ (p2.endLine == p4.line) = true := by
  unfold init1B at h
  split at h
  · rename_i v p1 m p2 s p3 p4 p5 s2 p6 f p7 a p8 p9
    rw [Bool.and_eq_true] at h
    obtain ⟨h, hl⟩ := h
    simp only [Bool.and_eq_true, beq_iff_eq] at h
    obtain ⟨⟨⟨⟨⟨rfl, rfl⟩, rfl⟩, rfl⟩, rfl⟩, rfl⟩ := h
    exact ⟨_, _, _, _, _, _, _, _, _, rfl, hl⟩
  · cases h
def spI0 (K : PySem.W.Frag) : Sp := fun vs H Q E => ∃ a C, vs = [.ref a] ∧ OexC K C ∧ H a = some (exo a C none) ∧ Q .non H
def spI1 (K : PySem.W.Frag) (fld : Str) : Sp := fun vs H Q E => ∃ a C v, vs = [.ref a, v] ∧ OexC K C ∧ PySem.W.findIn K (.ref C) fld = some none ∧ H a = some (exo a C none) ∧
  ∀ dx, H dx = none → dx ≠ a → Q .non (upd (upd H dx (exd dx [(fld, v)])) a (exo a C (some dx)))
section
variable {P : Program} {w : World} {K : PySem.W.Frag} {mg : Str → Option Value} {base : Heap} {f : Addr} {fd : FuncData} {x qual self fl : Str} {params : Arguments} {body : List Stmt} {scope : Scope} {k : Nat}
theorem init0_ok (F : FunD K x qual params body scope [] [] f fd) (S : FnScope [self] [self] scope) (hb : init0B self body = true) (g : scope.names.lookup ("ValueError" : Str) = some .globalImplicit) (l : scope.names.lookup self = some .local)
    (hd : (self == ("__debug__" : Str)) = false) (hcd : (self == ("__classdict__" : Str)) = false) (hm : mg "ValueError" = none) (vV : PySem.W.findCls K (.type "ValueError") (.type "type") "__init__" = some (.val (.builtin "ValueError.__init__"))) :
    FnOk P w K mg base (L2.CX P w) (k + 1) f fd [self] (spI0 K) := by
  refine F.ok S (fun vs H Q E ⟨a, C, e, _⟩ => by rw [e]; rfl) fun cdv A outer s H vs Q E hr ⟨a, C, e, T, ha, q⟩ => ?_
  subst e
  obtain ⟨p1, p2, p3, p4, p5, rfl, hl⟩ := init0B_ok hb
  refine ⟨_, pss_one (ps_expr (pe_veinit g hm vV (pa_cons (pe_var (i := 0) rfl (.inl l) hd hcd) pa_nil (by rfl)) (call_line rfl rfl (by show 1 < 30; decide) hl) (by rfl) (by rfl)) (by rfl)), ?_⟩
  exact ⟨.ref a, rfl, a, C, [], rfl, by decide, T, ha, q⟩
end
section
variable {X : Cx} {k : Nat} {B fB : Addr} {fd : FuncData} {self x : Str} {mc : Value} {p1 p2 pos : Pos} {e : Expr} {es : List Expr} {ta : TA}
theorem pe_binit (hg : Gl X x) (hm : X.mg x = some (.ref B)) (hdb : (x == ("__debug__" : Str)) = false) (rd : PySem.W.readsIn X.K B mc = true) (ga : PySem.W.specialIn X.K (.ref B) "__getattribute__" = some (some (.builtin "type.__getattribute__"))) (at_ : PySem.W.findCls X.K (.ref B) mc "__init__" = some (.val (.ref fB)))
    (F : FnOk X.prog X.w X.K X.mg X.base (L2.CX X.prog X.w) k fB fd [self] (spI0 X.K)) (hr : Room k X.A) (hb : L2.Binds X.K fd [self] []) (hx : Passes (L2.CX X.prog X.w) X (fun _ _ _ => False)) (hk : PySem.W.keepIn X.K (.ref fB) = true) (ha : PA X (e :: es) ta) (hp : plainArgs (e :: es) = true) (hn : (e :: es).length < 30) (hl : (p2.endLine == pos.line) = true) :
    PE X (.Call (.Attribute (.Name x p1) "__init__" p2) (e :: es) [] pos) (fun σ H Q => ta σ H fun vs H1 => spI0 X.K vs H1 Q (fun _ _ _ => False)) := by
  refine ⟨fun pins s σ H Q I h => ?_⟩
  refine PySem.W.methodCall_KW (ld_glob I hg hm ?_ hdb) (call_line rfl hp hn hl)
  refine PySem.W.method_cls I.kIn ga (PySem.W.cls_value I.kIn rd at_ rfl ?_)
  show wpAny _ _ (callWith pos (.ref fB) [] (backTo pos (starEach (e :: es) X.env)) []) _ _ _
  refine PySem.W.callWith_K (h₀ := X.base) I.ok.mod.kin hk (thn (ha.run pos pins _ σ H _ (I.tok _) h) fun us s1 ⟨vs, H1, I1, r1, q⟩ => ⟨I1.kIn, ?_⟩) (star_cons hp) (plain_any (plain_tail hp))
  exact run_fn F hr hb (dvs := []) (ds := []) .nil hx I1 r1 (by rw [List.append_nil]; exact q)
end
section
variable {P : Program} {w : World} {K : PySem.W.Frag} {mg : Str → Option Value} {base : Heap} {f B fB : Addr} {fd fdB : FuncData} {x qual bn self arg fld selfB : Str} {params : Arguments} {body : List Stmt} {scope : Scope} {k : Nat} {mc : Value}
theorem init1_ok (F : FunD K x qual params body scope [] [] f fd) (S : FnScope [self, arg] [self, arg] scope) (hb : init1B bn self arg fld body = true) (g : scope.names.lookup bn = some .globalImplicit) (l1 : scope.names.lookup self = some .local) (l2 : scope.names.lookup arg = some .local)
    (hdb : (bn == ("__debug__" : Str)) = false) (hd : (self == ("__debug__" : Str)) = false) (hcd : (self == ("__classdict__" : Str)) = false) (hd2 : (arg == ("__debug__" : Str)) = false) (hcd2 : (arg == ("__classdict__" : Str)) = false)
    (hm : mg bn = some (.ref B)) (rd : PySem.W.readsIn K B mc = true) (ga : PySem.W.specialIn K (.ref B) "__getattribute__" = some (some (.builtin "type.__getattribute__"))) (at_ : PySem.W.findCls K (.ref B) mc "__init__" = some (.val (.ref fB)))
    (FB : FnOk P w K mg base (L2.CX P w) k fB fdB [selfB] (spI0 K)) (hbB : L2.Binds K fdB [selfB] []) (hk : PySem.W.keepIn K (.ref fB) = true) :
    FnOk P w K mg base (L2.CX P w) (k + 1) f fd [self, arg] (spI1 K fld) := by
  refine F.ok S (fun vs H Q E ⟨a, C, v, e, _⟩ => by rw [e]; rfl) fun cdv A outer s H vs Q E hr ⟨a, C, v, e, T, hno, ha, q⟩ => ?_
  subst e
  obtain ⟨p1, p2, p3, p4, p5, p6, p7, p8, p9, rfl, hl⟩ := init1B_ok hb
  have px : Passes (L2.CX P w) (cxOf (L2.CX P w) P w K mg base [self, arg] qual scope f cdv A outer s H E) (fun _ _ _ => False) := passes_call (takes_of rfl rfl rfl rfl) (fun _ _ _ _ h => False.elim h)
  refine ⟨_, pss_cons (ps_expr (pe_binit (X := cxOf (L2.CX P w) P w K mg base [self, arg] qual scope f cdv A outer s H E) g hm hdb rd ga at_ FB hr hbB px hk (pa_cons (pe_var (i := 0) rfl (.inl l1) hd hcd) pa_nil (by rfl)) rfl (by show 1 < 30; decide) hl) (by rfl))
    (pss_one (ps_ost (pe_var (i := 0) rfl (.inl l1) hd hcd) (pe_var (i := 1) rfl (.inl l2) hd2 hcd2) (by rfl))), ?_⟩
  refine ⟨.ref a, rfl, a, C, rfl, T, ha, ?_⟩
  exact ⟨v, rfl, .ref a, rfl, a, C, rfl, T, hno, .inl ⟨ha, fun dx h1 h2 => q dx h1 h2⟩⟩
end
section
variable {X : Cx} {pins : List (Addr × Obj)} {σ : L2.St} {H : Hp}
theorem mk_bare {hp hp2 h2 : Heap} {g1 g2 : Array GenState} {d1 d2 : Drawn} {t1 t2 : Nat} {os1 os2 : OsState} {a C : Addr} {Q : XK} (T : Raises X (.ref C)) (I1 : L2.Inv X pins σ H ⟨hp, g1, d1, t1, os1⟩) (ha : hp.objs.size ≤ a) (k : ∀ b o, hp.get? b = some o → hp2.get? b = some o)
    (un : Un (frs X.stack) [] (upd H a (exo a C none)) (upd H a (exo a C none)) hp2 h2) (hok : HOk X.prog X.w (upd H a (exo a C none)) h2) (ho : os2 = os1) (hb : AllBare g2) (q : Q (.ref C) none H) : MkP X pins σ Q (.ref a) ⟨h2, g2, d2, t2, os2⟩ := by
  obtain ⟨t0, hoe⟩ := exo_at hok upd_same
  have hn : H a = none := I1.hok.fresh ha
  obtain ⟨G, G1, G2⟩ := restrict h2 fun b => decide (b ≠ a)
  have gk : ∀ b, b ≠ a → G.get? b = h2.get? b := fun b hb => G1 b (decide_eq_true hb)
  have ge : G.get? a = none := G2 a (by simp)
  have old : ∀ {b : Addr} {o : Obj}, hp.get? b = some o → b ≠ a := fun {b o} z => Nat.ne_of_lt (Nat.lt_of_lt_of_le (Heap.lt_size z) ha)
  have up : ∀ {b : Addr}, b ≠ a → H b = none → upd H a (exo a C none) b = none := fun {b} hb n => by rw [upd_ne hb]; exact n
  have U : Un (frs X.stack) [] H H hp G := {
    keep := fun b o z n hf hx => by rw [gk b (old z)]; exact un.keep b o (k b o z) (up (old z) n) hf hx
    slot := fun b o z n hf hx => by rw [gk b (old z)]; exact un.slot b o (k b o z) (up (old z) n) hf hx
    free := fun b o z n hx => n
    there := fun b o z hx => by rw [gk b (old z)]; exact un.there b o (k b o z) hx
    tups := fun b xs z => z
    frzs := fun b o v z => z
    tbls := fun b ps z => ⟨#[], by rw [z]; simp⟩ }
  have hok3 : HOk X.prog X.w H G := fun b o z => by
    have hba : b ≠ a := ne_of_none z hn
    have hb2 : upd H a (exo a C none) b = some o := by rw [upd_ne hba]; exact z
    have noa : ∀ {c : Addr}, upd H a (exo a C none) c = some (.own b) → c ≠ a := fun {c} hc => at_ne upd_same hc exo_own
    refine (hok b o hb2).stay (fun c v hc y => ?_) (fun c hc => by rw [upd_ne (noa hc)] at hc; exact hc) (fun c xs hc => ?_)
    · have hca : c ≠ a := by
        rcases hc with hc | hc
        · rw [hc]; exact hba
        · exact noa hc
      rw [gk c hca]; exact y
    · have : c ≠ a := at_ne upd_same hc exo_tup
      rw [upd_ne this] at hc; exact hc
  have J : L2.Inv X pins σ H ⟨G, g2, d2, t2, os2⟩ := I1.call' (ch := []) ho U hok3 hb (fun b z => absurd z (by simp))
  refine ⟨a, _, _, ⟨G, g2, d2, t2, os2⟩, _, .ref C, none, rfl, J, fun b o z => ?_, ge, hoe, ⟨rfl, rfl⟩, rfl, rfl, hn, rfl, hb, T, q⟩
  by_cases hba : b = a
  · rw [hba, ge] at z; cases z
  · exact (gk b hba).symm.trans z
structure MakF (K : PySem.W.Frag) (C f : Addr) : Prop where
  ox : OexC K C
  kp : PySem.W.keepIn K (.ref C) = true
  it : PySem.W.findIn K (.ref C) "__init__" = some (some (.ref f))
  ty : PySem.W.typeIn K (.ref f) = some (.type "function")
theorem pmk0 {x self : Str} {C f : Addr} {k : Nat} {fd : FuncData} {p pos : Pos} (T : MakF X.K C f) (F1 : FnOk X.prog X.w X.K X.mg X.base (L2.CX X.prog X.w) k f fd [self] (spI0 X.K)) (hr : Room (k + 1) X.A) (hb : L2.Binds X.K fd [self] [])
    (hx : Passes (L2.CX X.prog X.w) X (fun _ _ _ => False)) (hg : Gl X x) (hm : X.mg x = some (.ref C)) (hdb : (x == ("__debug__" : Str)) = false) : PMk X (.Call (.Name x p) [] [] pos) (fun _ H Q => Q (.ref C) none H) := by
  intro pins s σ H Q I h
  obtain ⟨nm, q, N, bs, bm, sn, sub, ab, col, dd, k0, k1, k2, k3, k5, hC, hbm⟩ := T.ox.cls
  refine wpAny_Call_Name_kw (ld_glob I hg hm ?_ hdb)
  refine PySem.W.callWith_K0 I.kIn T.kp ?_
  show wpAny _ _ (call (.ref C) []) _ _ _
  obtain ⟨hp, g, dr, tk, os⟩ := s
  have hsz : hp.objs.size ≤ hp.objs.size + 1 := Nat.le_succ _
  have hn : H (hp.objs.size + 1) = none := I.hok.fresh hsz
  have kk : ∀ b o, hp.get? b = some o → ((hp.push (PySem.W.kdv_tup [])).push (PySem.HandSPX.excO C hp.objs.size)).get? b = some o := fun b o e => Heap.get?_push_of_some _ (Heap.get?_push_of_some _ e)
  have hget : ((hp.push (PySem.W.kdv_tup [])).push (PySem.HandSPX.excO C hp.objs.size)).get? (hp.objs.size + 1) = some (PySem.HandSPX.excO C hp.objs.size) := by heap_get
  have I2 : L2.Inv X pins σ (upd H (hp.objs.size + 1) (exo (hp.objs.size + 1) C none)) ⟨(hp.push (PySem.W.kdv_tup [])).push (PySem.HandSPX.excO C hp.objs.size), g, dr, tk, os⟩ :=
    I.laid (t' := tk) (a := hp.objs.size + 1) (o := exo (hp.objs.size + 1) C none) (h' := (hp.push (PySem.W.kdv_tup [])).push (PySem.HandSPX.excO C hp.objs.size)) kk hsz (exo_ok hget)
  have r2 : Vals [V.ref (hp.objs.size + 1)] [Value.ref (hp.objs.size + 1)] := .cons rfl .nil
  have hb' := hb ⟨(hp.push (PySem.W.kdv_tup [])).push (PySem.HandSPX.excO C hp.objs.size), g, dr, tk, os⟩ [Value.ref (hp.objs.size + 1)] I2.kIn rfl
  rw [List.append_nil] at hb'
  refine wpAny_call (PySem.HandSPX.call_own F.excBase_ValueError (fun Y => PySem.HandSPX.refsVE_contains Y bm hbm) (I.kIn _ _ hC) (PySem.W.looks_findIn I.kIn T.it) (fun self => PySem.W.bind_fn I.kIn self T.ty) (Nat.zero_le _)
    (codeAny_mono (F1.run _ X.stack _ _ ⟨[Value.ref (hp.objs.size + 1)], []⟩ [Value.ref (hp.objs.size + 1)] _ (fun v H2 => v = .non ∧ H2 = upd H (hp.objs.size + 1) (exo (hp.objs.size + 1) C none)) (fun _ _ _ => False) (hr.make C [] []) (I2.env0.make C [] []) hb' r2 ⟨_, C, rfl, T.ox, upd_same, rfl, rfl⟩) fun r s' hq' => ?_))
  cases r with
  | error er => exact hx pins σ _ _ er s' I2 hq'
  | ok fl =>
    cases fl with
    | ret u =>
      obtain ⟨v, H2, os2, bare2, un2, hok2, rv, ev, eH⟩ := hq'
      subst ev eH
      obtain ⟨h2, g2, d2, t2, os'⟩ := s'
      exact ⟨rv, mk_bare (raises_own T.ox.exC T.ox.tyC) I hsz kk un2 hok2 os2 bare2 h⟩
    | next => exact False.elim hq'
    | brk => exact False.elim hq'
    | cont => exact False.elim hq'
end
section
variable {W : Wd} {w : World} {X : Cx} {cl : FC} {EX : WX} {ι : Nat → Addr} {env : Env} {S S' : Store} {σ : L2.St} {H : Hp} {k : Nat}
theorem s_raise0 (G : Good W w X) (hc : X.calm = true) (tk : Takes X EX) {c : Nat} {q : Cl} {C f : Addr} {self : Str} {fd : FuncData} {p pos pos' : Pos} (hq : W.P.cl c = some q) (hx : q.exc = true) (hfl : q.fields = []) (hmg : W.mg (W.nm.cn c) = some (.ref C))
    (T : MakF W.K C f) (F1 : FnOk X.prog X.w X.K X.mg X.base (L2.CX X.prog X.w) k f fd [self] (spI0 X.K)) (hr : Room (k + 1) X.A) (hb : L2.Binds X.K fd [self] []) (hg : Gl X (W.nm.cn c)) (hdb : (W.nm.cn c == ("__debug__" : Str)) = false) :
    PS X (.Raise (some (.Call (.Name (W.nm.cn c) p) [] [] pos)) none pos') (tS W w cl EX (fun _ => throwX c [])) :=
  PS_imp (ps_raise hc tk (pmk0 (by rw [G.K]; exact T) F1 hr hb (passes_call tk fun _ _ _ _ h => False.elim h) hg (by rw [G.mg]; exact hmg) hdb)) fun D σ H ⟨ι, env, S, R, g⟩ =>
    g ι env σ H _ _ (Fw.refl _ _ _) R ⟨C, rfl, hmg, q, hq, hx, hfl, rfl⟩
theorem s_raise1 (G : Good W w X) (hc : X.calm = true) (tk : Takes X EX) {c fld : Nat} {q : Cl} {C f : Addr} {self arg : Str} {fd : FuncData} {p pos pos' : Pos} {e : Expr} {pe : Env → M Val} (hq : W.P.cl c = some q) (hx : q.exc = true) (hfl : q.fields = [fld]) (hmg : W.mg (W.nm.cn c) = some (.ref C))
    (T : MakF W.K C f) (hno : PySem.W.findIn W.K (.ref C) (W.nm.an fld) = some none) (F1 : FnOk X.prog X.w X.K X.mg X.base (L2.CX X.prog X.w) k f fd [self, arg] (spI1 X.K (W.nm.an fld))) (hr : Room (k + 1) X.A) (hb : L2.Binds X.K fd [self, arg] []) (hg : Gl X (W.nm.cn c)) (hdb : (W.nm.cn c == ("__debug__" : Str)) = false)
    (hp : plainArgs [e] = true) (he : PE X e (tG W w cl EX (rv W) pe)) :
    PS X (.Raise (some (.Call (.Name (W.nm.cn c) p) [e] [] pos)) none pos') (tS W w cl EX (fun env => pe env >>= fun x => throwX c [x])) := by
  have T' : MakF X.K C f := by rw [G.K]; exact T
  refine PS_imp (ps_raise hc tk (pmk_oex (dvs := []) (ds := []) T'.ox T'.it T'.ty F1 hr hb .nil (passes_call tk fun _ _ _ _ h => False.elim h) hg (by rw [G.mg]; exact hmg) (pa_cons he pa_nil (star_cons hp)) hdb (star_cons hp) rfl)) fun D σ H h => ?_
  obtain ⟨ι, env, S, R, g⟩ := tS.bind (RA := rv W) h
  refine ⟨ι, env, S, R, g.mono fun y H1 ⟨ι1, S1, a, f1, R1, ra, g1⟩ => ⟨by show 1 ≤ 1000; decide, fun b hb => ⟨b, C, y, rfl, T'.ox, by rw [G.K]; exact hno, upd_same, fun dx h1 h2 => ⟨rfl, dx, [(W.nm.an fld, y)], upd_same, ?_, ?_, ?_⟩⟩⟩⟩
  · rw [upd_ne h2]; exact upd_same
  · rw [upd_ne h2] at h1; exact h1
  · have hd : H1 dx = none := by rw [upd_ne h2] at h1; exact h1
    have e1 : upd (del (upd (upd (upd H1 b (exo b C none)) dx (exd dx [(W.nm.an fld, y)])) b (exo b C (some dx))) b) dx (.xd [(W.nm.an fld, y)]) = upd H1 dx (.xd [(W.nm.an fld, y)]) := by
      funext z
      by_cases hz : z = dx
      · subst hz; rw [upd_same, upd_same]
      · rw [upd_ne hz, upd_ne hz]
        by_cases hzb : z = b
        · subst hzb; rw [del_same]; exact hb.symm
        · rw [del_ne hzb, upd_ne hzb, upd_ne hz, upd_ne hzb]
    rw [e1]
    have kp : Kp H1 (upd H1 dx (.xd [(W.nm.an fld, y)])) := Kp.new hd
    have R2 : Rl W w cl ι1 env S1 σ (upd H1 dx (.xd [(W.nm.an fld, y)])) := R1.grow kp fun b u e => by rw [upd_ne (ne_of_none e hd)]; exact e
    have ra2 := ra.mono (Nat.le_refl _) (fun _ _ => rfl) kp
    refine g1 ι1 env σ _ _ _ ⟨Nat.le_refl _, fun _ _ => rfl, kp⟩ R2 ⟨C, rfl, hmg, q, hq, hx, [y], ⟨y, [], rfl, ra2, rfl⟩, by rw [hfl]; rfl, ?_⟩
    rw [hfl]; exact upd_same
end
end Pyd
set_option Elab.async false
set_option linter.all false
set_option maxRecDepth 100000
set_option maxHeartbeats 1000000
namespace Pyd
open PySem PySem.Spec PyProof.Rows L2
structure MethF (W : Wd) (c : Nat) (k : Cl) (C : Addr) (m f : Nat) : Prop where
  mt : L2.Meth W.K C (W.nm.mn m) (W.fa f)
  no : ∀ g ∈ k.fields, W.nm.an g ≠ W.nm.mn m
  md : W.md f = true
  fn : ∃ d, W.P.fn f = some d
section
variable {W : Wd} {w : World} {X : Cx} {cl : FC} {EX : WX} {k : Nat} {C : Orc}
theorem RFs.lookNone {ι : Nat → Addr} {N : Nat} {H : Hp} {m : Str} : ∀ {fs : List (Nat × Val)} {gs : List (Str × V)}, RFs W ι N H fs gs → (∀ p ∈ fs, W.nm.an p.1 ≠ m) → gs.lookup m = none
  | [], _, h, _ => by cases h; rfl
  | (g, x) :: fs, _, ⟨y, hs, e, r, rs⟩, h => by
    subst e
    have h1 := h _ List.mem_cons_self
    rw [List.lookup_cons, beq_eq_false_iff_ne.mpr (Ne.symm h1)]
    exact RFs.lookNone rs fun p hp => h p (List.mem_cons_of_mem _ hp)
theorem methOf_bind {α β : Type} {RA : Rf α β} {x : Val} {m : Nat} {kk : Nat → M α} {ι : Nat → Addr} {env : Env} {S : Store} {σ : L2.St} {H : Hp} {Q : β → Hp → Prop} (g : Gs W w cl EX RA ι env S σ H ((methOf W.P x m >>= kk) S) Q) :
    ∃ n c fs q f, x = .loc n ∧ S[n]? = some (.ins c fs) ∧ W.P.cl c = some q ∧ q.meths.lookup m = some f ∧ Gs W w cl EX RA ι env S σ H (kk f S) Q := by
  rw [bind_ap] at g
  cases x with
  | loc n =>
    have e : methOf W.P (.loc n) m S = (match S[n]? with
      | some (.ins c fs) => (match W.P.cl c with
        | some q => (match q.meths.lookup m with
          | some f => .ok f S
          | none => .no)
        | none => .no)
      | _ => .no) := rfl
    rw [e] at g
    cases hn : S[n]? with
    | none => rw [hn] at g; exact g.elim
    | some o =>
      rw [hn] at g
      cases o with
      | ins c fs =>
        dsimp only at g
        cases hc : W.P.cl c with
        | none => rw [hc] at g; exact g.elim
        | some q =>
          rw [hc] at g
          dsimp only at g
          cases hm : q.meths.lookup m with
          | none => rw [hm] at g; exact g.elim
          | some f => rw [hm] at g; exact ⟨n, c, fs, q, f, rfl, hn, hc, hm, g⟩
      | _ => exact g.elim
  | _ => exact g.elim
theorem e_mcall (G : Good W w X) (O : WOk W) (K : Calls W w X cl EX k C) (hM : ∀ c q Ca m f, W.P.cl c = some q → q.exc = false → q.meths.lookup m = some f → W.mg (W.nm.cn c) = some (.ref Ca) → MethF W c q Ca m f) {m : Nat} {o : Expr} {es : List Expr} {pa : Env → M Val} {pe : Env → M (List Val)} {apos pos : Pos}
    (hb : attributeBase o (W.nm.mn m) X.env (eval o X.env) = eval o X.env) (hl : (apos.endLine == pos.line) = true) (hn : es.length < 30) (ho : PE X o (tG W w cl EX (rv W) pa)) (hp : es = [] ∨ plainArgs es = true) (hnil : es = [] → ∀ env S, pe env S = .ok [] S) (ha : PA X es (tG W w cl EX (rvs W) pe)) :
    PE X (.Call (.Attribute o (W.nm.mn m) apos) es [] pos) (tG W w cl EX (rv W) (fun env => pa env >>= fun v => methOf W.P v m >>= fun f => pe env >>= fun vs => callE C f (v :: vs))) := by
  have hp' : plainArgs es = true := hp.elim (fun z => by rw [z]; rfl) id
  refine ⟨fun pins s σ H Q I h => ?_⟩
  obtain ⟨ι, env, S, R, g⟩ := tG.bind h
  refine PySem.W.methodCall_KW (thn (ho.run pins s σ H _ I ⟨ι, env, S, R, g⟩) fun u s1 ⟨v, H1, I1, r1, ι1, S1, a, f1, R1, ra, g1⟩ => ?_) (call_line hb hp' hn hl)
  obtain ⟨n, c, fs, q, f, e1, hn1, hc, hm, g2⟩ := methOf_bind g1
  subst e1
  obtain ⟨hlt, e2⟩ := ra
  subst e2
  obtain rfl : u = Value.ref (ι1 n) := r1
  obtain ⟨q', Ca, dx, gs, h1, h2, h3, h4, h5, h6, h7⟩ := R1.ob n _ hn1
  obtain rfl : q' = q := Option.some.inj (h1.symm.trans hc)
  have MF := hM c q' Ca m f hc h2 hm h6
  have CF := O.cls c q' Ca hc h2 h6
  obtain ⟨d, hd⟩ := MF.fn
  have mt := MF.mt
  have cc := CF.cls
  rw [← G.K] at mt cc
  refine getmeth_ok I1 h4 cc mt (RFs.lookNone h7 fun p hp => MF.no _ (h3 p hp)) ?_
  cases es with
  | nil =>
    have g3 : Gs W w cl EX (rv W) ι1 env S1 σ H1 (C f [.loc n] [] S1) Q := by
      have g3 : Gs W w cl EX (rv W) ι1 env S1 σ H1 ((pe env >>= fun vs => callE C f (.loc n :: vs)) S1) Q := g2
      rw [bind_ap, hnil rfl] at g3
      exact g3
    exact PySem.W.callWith_K0 (first := [.ref (ι1 n)]) I1.kIn mt.kp (run_f (us := [.ref (ι1 n)]) (vs := [V.ref (ι1 n)]) K.w (K.fn f d hd MF.md) hd K.ar rfl (K.room.mono (by omega)) (K.px σ) K.ok I1 (.cons rfl .nil) R1 (as := [.loc n]) ⟨_, _, rfl, ⟨hlt, rfl⟩, rfl⟩ g3)
  | cons e0 er =>
    refine PySem.W.callWith_K (first := [.ref (ι1 n)]) (h₀ := X.base) I1.ok.mod.kin mt.kp (thn (ha.run pos pins s1 σ H1 _ I1 ⟨ι1, env, S1, R1, Gs.bind g2⟩) fun us s2 ⟨vs, H2, I2, r, ι2, S2, as, f2, R2, rs, g3⟩ => ⟨I2.kIn, ?_⟩) (star_cons hp') (plain_any (plain_tail hp'))
    have main := run_f (us := .ref (ι1 n) :: us) (vs := V.ref (ι1 n) :: vs) K.w (K.fn f d hd MF.md) hd K.ar rfl (K.room.mono (by omega)) (K.px σ) K.ok I2 (.cons rfl r) R2 (as := .loc n :: as) ⟨_, _, rfl, ⟨Nat.lt_of_lt_of_le hlt f2.le, by rw [f2.ag n hlt]⟩, rs⟩ g3
    exact main
end
end Pyd
set_option Elab.async false
set_option linter.all false
set_option maxRecDepth 100000
set_option maxHeartbeats 1000000
namespace Pyd
open PySem PySem.Spec PyProof.Rows L2
structure Mkr where
  q : Str
  pl : Nat → Nat → Str
  inn : Nat → InnF → Bool
  fr : Nat → List Str
structure Sc where
  N : List Str
  sc : Scope
  fn : Str → Bool
  nm : Nms
  P : Prog
  df : Nat → Bool
  hot : Bool
  c0 : Bool
  lk : Option Mkr
def ndB (x : Str) : Bool := !(x == ("__debug__" : Str))
def visB (S : Sc) (x : Str) : Bool := match S.sc.names.lookup x with
  | some .local => true
  | some .cell => true
  | some .free => true
  | _ => false
def glB (S : Sc) (x : Str) : Bool := match S.sc.names.lookup x with
  | some .globalImplicit => true
  | _ => false
def varB (S : Sc) (i : Nat) (x : Str) : Bool := (S.N[i]? == some x) && visB S x && ndB x && !(x == ("__classdict__" : Str))
def stoB (S : Sc) (i : Nat) (x : Str) : Bool := (S.N[i]? == some x) && (match S.sc.names.lookup x with
  | some .local => true
  | some .cell => S.fn x
  | _ => false)
def stoV (S : Sc) (i : Nat) (x : Str) : Bool := stoB S i x && (S.c0 || (match S.sc.names.lookup x with
  | some .local => true
  | _ => false))
def strB (x : Str) (s : List Nat) : Bool := (x.cps.toList == s) && decide (s.length ≤ LINE) && s.all (· < 128)
def cstB (v : Val) (e : Expr) : Bool := match v, e with
  | .non, .Constant .none _ _ => true
  | .bl b, .Constant (.bool c) _ _ => b == c
  | .int i, .Constant (.int j) _ _ => decide (i = j)
  | .str s, .Constant (.str x) _ _ => strB x s
  | _, _ => false
def baseB : Expr → Bool
  | .Call (.Name _ _) [] [] _ => false
  | _ => true
def plainIxB : Expr → Bool
  | .Slice .. => false
  | _ => true
def noSetB : Expr → Bool
  | .Set .. => false
  | _ => true
def opB : Bop → Operator → Bool
  | .add, .Add => true
  | .sub, .Sub => true
  | .mul, .Mult => true
  | .fdiv, .FloorDiv => true
  | .mod, .Mod => true
  | .pow, .Pow => true
  | _, _ => false
def copB : Cop → CmpOp → Bool
  | .eq, .Eq => true
  | .ne, .NotEq => true
  | .lt, .Lt => true
  | .le, .LtE => true
  | .gt, .Gt => true
  | .ge, .GtE => true
  | .is, .Is => true
  | .isN, .IsNot => true
  | .mem, .In => true
  | .nmem, .NotIn => true
  | _, _ => false
def tyB (S : Sc) (t : Ty) (e : Expr) : Bool := match e with
  | .Name x _ => glB S x && ndB x && (match t with
    | .int => x == ("int" : Str)
    | .bool => x == ("bool" : Str)
    | .str => x == ("str" : Str)
    | .tuple => x == ("tuple" : Str)
    | .list => x == ("list" : Str)
    | .dict => x == ("dict" : Str)
    | .valueError => x == ("ValueError" : Str)
    | .cls c => (x == S.nm.cn c) && (S.P.cl c).isSome)
  | _ => false
def b1B (hot : Bool) : Bi → Option Str
  | .abs => some "abs"
  | .int => some "int"
  | .len => some "len"
  | .repr => some "repr"
  | _ => none
def b2B (hot : Bool) : Bi → Option Str
  | .max2 => if hot then none else some "max"
  | .min2 => if hot then none else some "min"
  | _ => none
def mkB (hot : Bool) : Mk → Option Str
  | .tuple => some "tuple"
  | .list => if hot then none else some "list"
  | .sum => if hot then none else some "sum"
  | .max => if hot then none else some "max"
  | .min => if hot then none else some "min"
  | .all => if hot then none else some "all"
  | .any => if hot then none else some "any"
  | _ => none
def meB : Me → Option Str
  | .append => some "append"
  | .extend => some "extend"
  | .index => some "index"
  | .count => some "count"
  | .pop1 => some "pop"
  | .join => some "join"
  | _ => none
def Sc.inner (S : Sc) (scope : Scope) : Sc := { S with lk := none, sc := relS scope S.sc, fn := fun x => match scope.names.lookup x with
  | some .cell => true
  | _ => false }
def notIfe : E → Bool
  | .ife _ _ _ => false
  | _ => true
def ownP (S : Sc) (own : List Nat) : List (Str × Nat) := own.map fun i => (S.N[i]?.getD Str.empty, i)
mutual
def tgIs : Tg → List Nat
  | .v i => [i]
  | .cv i => [i]
  | .tup ts => tgsIs ts
  | _ => []
def tgsIs : Tgs → List Nat
  | .nil => []
  | .cons t ts => tgIs t ++ tgsIs ts
end
def subB (a b : List Nat) : Bool := a.all fun i => b.contains i
def noStarB : List Expr → Bool
  | [] => true
  | .Starred .. :: _ => false
  | _ :: r => noStarB r
def parB (p : Arguments) : Bool := p.posonlyargs.isEmpty && p.vararg.isNone && p.kwonlyargs.isEmpty && p.kw_defaults.isEmpty && p.kwarg.isNone && p.defaults.isEmpty && p.args.all fun a => a.annotation.isNone
def parN (p : Arguments) : List Str := p.args.map (·.arg)
def innL (m : Mkr) (f : Nat) (params : Arguments) (body : Expr) (scope : Scope) : InnF := ⟨"<lambda>", m.q ++ "<lambda>", params, .expr body, scope, parN params, m.fr f⟩
def innS (m : Mkr) (f : Nat) (name : Str) (params : Arguments) (body : List Stmt) (scope : Scope) : InnF := ⟨name, m.q ++ name, params, .stmts body, scope, parN params, m.fr f⟩
def isFree : NameKind → Bool
  | .free => true
  | _ => false
def lamB (S : Sc) (m : Mkr) (f : Nat) (js : List Nat) (I : InnF) (pos : Pos) : Bool :=
  m.inn f I && (m.pl pos.line pos.col == I.qual) && decide ((js.map fun i => S.N[i]?) = I.fr.map some) && (I.scope.names.all fun y => !isFree y.2 || ((match S.sc.names.lookup y.1 with
    | some .cell => true
    | _ => false) && I.fr.contains y.1)) && (I.fr.all fun y => I.scope.names.any fun z => z.1 == y && isFree z.2) && parB I.params
mutual
def chkE : E → Sc → Expr → Bool
  | .v i => fun S e => match e with
    | .Name x _ => varB S i x
    | _ => false
  | .cst v => fun _ e => cstB v e
  | .glo g => fun S e => match e with
    | .Name x _ => (x == S.nm.gn g) && glB S x && ndB x
    | _ => false
  | .tup es => fun S e => match e with
    | .Tuple xs _ _ => chkEs es S xs
    | _ => false
  | .lst es => fun S e => match e with
    | .List xs _ => chkEs es S xs
    | _ => false
  | .dic .nil => fun _ e => match e with
    | .Dict [] [] _ => true
    | _ => false
  | .bin op a b => fun S e => match e with
    | .BinOp x o y _ => opB op o && chkE a S x && chkE b S y
    | _ => false
  | .cmp op a b => fun S e => match e with
    | .Compare x [o] [y] _ => copB op o && !behindInMarks o y && chkE a S x && chkE b S y
    | _ => false
  | .cmp2 op op' a b c => fun S e => match e with
    | .Compare x [o, o'] [y, z] _ => copB op o && copB op' o' && !lastMarks [o, o'] [y, z] && chkE a S x && chkE b S y && chkE c S z
    | _ => false
  | .and a b => fun S e => match e with
    | .BoolOp .And [x, y] _ => notIfe a && notIfe b && chkE a S x && chkE b S y
    | .BoolOp .And (x :: y :: z :: r) pos => notIfe a && notIfe b && chkE a S x && chkE b S (.BoolOp .And (y :: z :: r) pos)
    | _ => false
  | .or a b => fun S e => match e with
    | .BoolOp .Or [x, y] _ => notIfe a && notIfe b && chkE a S x && chkE b S y
    | .BoolOp .Or (x :: y :: z :: r) pos => notIfe a && notIfe b && chkE a S x && chkE b S (.BoolOp .Or (y :: z :: r) pos)
    | _ => false
  | .not a => fun S e => match e with
    | .UnaryOp .Not x _ => notIfe a && chkE a S x
    | _ => false
  | .neg a => fun S e => match e with
    | .UnaryOp .USub x _ => chkE a S x
    | _ => false
  | .ife c a b => fun S e => match e with
    | .IfExp z x y _ => notIfe c && chkE c S z && chkE a S x && chkE b S y
    | _ => false
  | .idx a b => fun S e => match e with
    | .Subscript x y _ => plainIxB y && chkE a S x && chkE b S y
    | _ => false
  | .sl a lo hi => fun S e => match e with
    | .Subscript x (.Slice l h none _) _ => chkE a S x && chkO lo S l && chkO hi S h
    | _ => false
  | .rev a => fun S e => match e with
    | .Subscript x (.Slice none none (some (.UnaryOp .USub (.Constant (.int 1) _ _) _)) _) _ => chkE a S x
    | _ => false
  | .attr a f => fun S e => match e with
    | .Attribute x n _ => (n == S.nm.an f) && baseB x && chkE a S x
    | _ => false
  | .call f es => fun S e => match e with
    | .Call (.Name x _) xs [] _ => !S.hot && (x == S.nm.gn f) && glB S x && ndB x && S.df f && (S.P.fn f).isSome && chkEs es S xs
    | _ => false
  | .new c es => fun S e => match e with
    | .Call (.Name x _) (y :: ys) [] _ => !S.hot && (x == S.nm.cn c) && glB S x && ndB x && (match S.P.cl c with
      | some k => !k.exc && (match k.init with
        | some f => (S.P.fn f).isSome
        | none => false)
      | none => false) && chkEs es S (y :: ys)
    | _ => false
  | .isi a t => fun S e => match e with
    | .Call (.Name x _) [y, z] [] _ => (x == ("isinstance" : Str)) && glB S x && plainArgs [y, z] && chkE a S y && tyB S t z
    | _ => false
  | .b1 b a => fun S e => match e with
    | .Call (.Name x _) [y] [] _ => (b1B S.hot b == some x) && glB S x && plainArgs [y] && chkE a S y
    | _ => false
  | .b2 b a c => fun S e => match e with
    | .Call (.Name x _) [y, z] [] _ => (b2B S.hot b == some x) && glB S x && plainArgs [y, z] && chkE a S y && chkE c S z
    | _ => false
  | .mk k a => fun S e => match e with
    | .Call (.Name x _) [y] [] _ => (mkB S.hot k == some x) && glB S x && plainArgs [y] && chkE a S y
    | _ => false
  | .me1 m a b => fun S e => match e with
    | .Call (.Attribute x n apos) [y] [] pos => (meB m == some n) && baseB x && (apos.endLine == pos.line) && plainArgs [y] && chkE a S x && chkE b S y
    | _ => false
  | .me0 m a => fun S e => match e with
    | .Call (.Attribute x n apos) [] [] pos => (match m with
      | .pop0 => n == ("pop" : Str)
      | _ => false) && baseB x && (apos.endLine == pos.line) && chkE a S x
    | _ => false
  | .comp own elt t it cd => fun S e => match e with
    | .ListComp el [⟨tg, iter, ifs, 0⟩] scope _ => S.c0 && !S.hot && blkC S.N S.sc scope (ownP S own) && noSetB iter && subB (tgIs t) own && chkI it S iter tg && chkT t (S.inner scope) tg && chkB cd (S.inner scope) ifs && chkE elt (S.inner scope) el
    | _ => false
  | .comp2 own own2 elt t it t2 it2 cd => fun S e => match e with
    | .ListComp el [⟨tg, iter, [], 0⟩, ⟨tg2, iter2, ifs, 0⟩] scope _ => S.c0 && !S.hot && blkC S.N S.sc scope (ownP S own) && noSetB iter && noSetB iter2 && subB (tgIs t) own && subB (tgIs t2) own2 && subB own2 own &&
      chkI it S iter tg && chkT t (S.inner scope) tg && chkI it2 (S.inner scope) iter2 tg2 && chkT t2 (S.inner scope) tg2 && chkB cd (S.inner scope) ifs && chkE elt (S.inner scope) el
    | _ => false
  | .drp e => fun S x => match x with
    | .ListComp _ _ _ _ => !S.hot && chkE e { S with c0 := true, lk := none } x
    | _ => false
  | .dic (.cons _ _ _) => fun _ _ => false
  | .callv a es => fun S e => match e with
    | .Call (.Name x p) xs [] _ => !S.hot && chkE a S (.Name x p) && chkEs es S xs
    | _ => false
  | .mcall a m es => fun S e => match e with
    | .Call (.Attribute x n apos) xs [] pos => !S.hot && (n == S.nm.mn m) && baseB x && (apos.endLine == pos.line) && decide (xs.length < 30) && chkE a S x && chkEs es S xs
    | _ => false
  | .mki _ _ => fun _ _ => false
  | .sortk _ _ => fun _ _ => false
  | .dcomp _ _ _ _ _ _ => fun _ _ => false
  | .dcomp2 _ _ _ _ _ _ _ _ => fun _ _ => false
  | .lam f js => fun S e => match e, S.lk with
    | .Lambda params body scope pos, some m => !S.hot && lamB S m f js (innL m f params body scope) pos
    | _, _ => false
def chkEs : Es → Sc → List Expr → Bool
  | .nil => fun _ xs => match xs with
    | [] => true
    | _ => false
  | .cons e es => fun S xs => match xs with
    | x :: r => plainArgs (x :: r) && chkE e S x && chkEs es S r
    | _ => false
def chkO : Eo → Sc → Option Expr → Bool
  | .none => fun _ x => match x with
    | none => true
    | _ => false
  | .some e => fun S x => match x with
    | some y => chkE e S y
    | _ => false
def chkB : Eo → Sc → List Expr → Bool
  | .none => fun _ xs => match xs with
    | [] => true
    | _ => false
  | .some e => fun S xs => match xs with
    | [x] => notIfe e && chkE e S x
    | _ => false
def chkI : It → Sc → Expr → Expr → Bool
  | .e a => fun S e _ => chkE a S e
  | .r1 a => fun S e _ => match e with
    | .Call (.Name x _) [y] [] _ => (x == ("range" : Str)) && glB S x && plainArgs [y] && chkE a S y
    | _ => false
  | .r2 a b => fun S e _ => match e with
    | .Call (.Name x _) [y, z] [] _ => (x == ("range" : Str)) && glB S x && plainArgs [y, z] && chkE a S y && chkE b S z
    | _ => false
  | .en a => fun S e tg => match e, tg with
    | .Call (.Name x _) [y] [] _, .Tuple _ _ _ => (x == ("enumerate" : Str)) && glB S x && plainArgs [y] && chkE a S y
    | _, _ => false
  | .z2 a b => fun S e tg => match e, tg with
    | .Call (.Name x _) [y, z] [] _, .Tuple _ _ _ => (x == ("zip" : Str)) && glB S x && plainArgs [y, z] && chkE a S y && chkE b S z
    | _, _ => false
  | .r3 _ _ _ => fun _ _ _ => false
  | .z3 _ _ _ => fun _ _ _ => false
  | .items _ => fun _ _ _ => false
  | .vals _ => fun _ _ _ => false
def chkT : Tg → Sc → Expr → Bool
  | .v i => fun S e => match e with
    | .Name x _ => stoV S i x
    | _ => false
  | .tup ts => fun S e => match e with
    | .Tuple xs _ _ => !S.hot && noStarB xs && decide (xs.length = tgsLen ts) && chkTs ts S xs
    | _ => false
  | .sub a i => fun S e => match e with
    | .Subscript x y _ => plainIxB y && chkE a S x && chkE i S y
    | _ => false
  | .cv i => fun S e => match e with
    | .Name x _ => stoB S i x
    | _ => false
  | .attr _ _ => fun _ _ => false
def chkTs : Tgs → Sc → List Expr → Bool
  | .nil => fun _ xs => match xs with
    | [] => true
    | _ => false
  | .cons t ts => fun S xs => match xs with
    | x :: r => chkT t S x && chkTs ts S r
    | _ => false
end
end Pyd
set_option Elab.async false
set_option linter.all false
set_option maxRecDepth 100000
set_option maxHeartbeats 1000000
namespace Pyd
open PySem PySem.Spec PyProof.Rows L2
def bltNames : List Str := ["abs", "int", "len", "repr", "max", "min", "tuple", "list", "sum", "all", "any", "isinstance", "range", "enumerate", "zip", "bool", "str", "dict", "ValueError"]
structure Facts (W : Wd) (df : Nat → Bool) : Prop where
  ok : WOk W
  blt : ∀ x ∈ bltNames, W.mg x = none
  fn : ∀ f, df f = true → (W.mg (W.nm.gn f) = some (.ref (W.fa f)) ∧ PySem.W.keepIn W.K (.ref (W.fa f)) = true) ∧ W.md f = true
  gv : ∀ g v, W.P.val g = some v → ∃ u y, W.mg (W.nm.gn g) = some u ∧ RelV y u ∧ ∀ ι N H, RV W ι N H v y
  cls : ∀ c k, W.P.cl c = some k → ∃ C, W.mg (W.nm.cn c) = some (.ref C)
  new : ∀ c k f, W.P.cl c = some k → k.exc = false → k.init = some f → ∃ C, NewF W c k C f
  eq : ∀ c q C f, W.P.cl c = some q → q.exc = false → q.eq = some f → W.mg (W.nm.cn c) = some (.ref C) → EqF W c C f ∧ ∃ d, W.P.fn f = some d
  er0 : ∀ c q, W.P.cl c = some q → q.exc = true → q.fields = [] → ∃ C f fd self, W.mg (W.nm.cn c) = some (.ref C) ∧ MakF W.K C f ∧ L2.Binds W.K fd [self] [] ∧ ∀ P w base, FnOk P w W.K W.mg base (L2.CX P w) 2 f fd [self] (spI0 W.K)
  er1 : ∀ c q fld, W.P.cl c = some q → q.exc = true → q.fields = [fld] → ∃ C f fd self arg, W.mg (W.nm.cn c) = some (.ref C) ∧ MakF W.K C f ∧ PySem.W.findIn W.K (.ref C) (W.nm.an fld) = some none ∧ L2.Binds W.K fd [self, arg] [] ∧ ∀ P w base, FnOk P w W.K W.mg base (L2.CX P w) 2 f fd [self, arg] (spI1 W.K (W.nm.an fld))
  mt : ∀ c q Ca m f, W.P.cl c = some q → q.exc = false → q.meths.lookup m = some f → W.mg (W.nm.cn c) = some (.ref Ca) → MethF W c q Ca m f
  ca : ∀ c q, W.P.cl c = some q → q.exc = true → ∃ C, W.mg (W.nm.cn c) = some (.ref C) ∧ Catches W c (.ref C)
structure MkOk (W : Wd) (X : Cx) (cl : FC) (m : Mkr) : Prop where
  inn : ∀ f I, m.inn f I = true → W.inn f I
  q : X.env.qual = m.q
  tab : ∃ c P, LamX.TabB X.base X.mg c P ∧ X.env.code = .ref c ∧ (P, m.pl) ∈ W.T ∧ ∀ p ∈ W.T, p.1 = P → p.2 = m.pl
  own : ∀ i y a, X.N[i]? = some y → X.env.scope.names.lookup y = some .cell → X.env.cells.lookup y = some a → cl.own i = some a
  nof : ∀ y, X.env.scope.names.lookup y ≠ some .free
structure Ctx (W : Wd) (w : World) (cl : FC) (k : Nat) (C : Orc) (S : Sc) (X : Cx) (EX : WX) : Prop where
  N : X.N = S.N
  sc : X.env.scope = S.sc
  nd : X.N.Nodup
  fn : ∀ x, S.fn x = true → X.fn x = true
  nm : S.nm = W.nm
  P : S.P = W.P
  G : Good W w X
  F : Facts W S.df
  cool : S.hot = false → X.calm = true ∧ Calls W w X cl EX k C
  eq : InstEq W w X cl EX C
  c0 : S.c0 = true → cl = noCl
  nc : ∀ i x, S.N[i]? = some x → S.sc.names.lookup x = some .local → cl.own i = none
  lk : ∀ m, S.lk = some m → MkOk W X cl m
section
variable (W : Wd) (w : World) (k : Nat) (C : Orc)
def OkE (p : E) : Prop := ∀ (cl : FC) (S : Sc) (X : Cx) (EX : WX) (e : Expr), Ctx W w cl k C S X EX → chkE p S e = true → PE X e (tG W w cl EX (rv W) (evE W.P C p)) ∧ (notIfe p = true → PT X e (tG W w cl EX rbl (tru (evE W.P C p)))) ∧
  (∀ op vs pos, e = .BoolOp op vs pos → PW X e (tG W w cl EX rbl (tru (evE W.P C p))))
def OkEs (p : Es) : Prop := ∀ (cl : FC) (S : Sc) (X : Cx) (EX : WX) (es : List Expr), Ctx W w cl k C S X EX → chkEs p S es = true → PA X es (tG W w cl EX (rvs W) (evEs W.P C p)) ∧ (es = [] ∨ plainArgs es = true)
def OkO (p : Eo) : Prop := ∀ (cl : FC) (S : Sc) (X : Cx) (EX : WX) (e : Option Expr), Ctx W w cl k C S X EX → chkO p S e = true → PO X e (tG W w cl EX rO (evO W.P C p))
def OkB (p : Eo) : Prop := ∀ (cl : FC) (S : Sc) (X : Cx) (EX : WX) (es : List Expr), Ctx W w cl k C S X EX → chkB p S es = true → PTs X es (tG W w cl EX rbl (evB W.P C p))
def OkI (p : It) : Prop := ∀ (cl : FC) (S : Sc) (X : Cx) (EX : WX) (e tg : Expr), Ctx W w cl k C S X EX → chkI p S e tg = true → PI X tg e (tG W w cl EX (rI W w) (evI W.P C p))
def OkT (p : Tg) : Prop := ∀ (cl : FC) (S : Sc) (X : Cx) (EX : WX) (e : Expr), Ctx W w cl k C S X EX → chkT p S e = true → PG X e (gT W w cl EX (tgIs p) (evT W.P C p))
def OkTs (p : Tgs) : Prop := ∀ (cl : FC) (S : Sc) (X : Cx) (EX : WX) (es : List Expr), Ctx W w cl k C S X EX → chkTs p S es = true → noStarB es = true → PGs X es (gTs W w cl EX (tgsIs p) (evTs W.P C p))
end
section
variable {W : Wd} {w : World} {cl : FC} {k : Nat} {C : Orc} {S : Sc} {X : Cx} {EX : WX}
theorem Ctx.gl (K : Ctx W w cl k C S X EX) {x : Str} (h : glB S x = true) : Gl X x := by
  show X.env.scope.names.lookup x = _
  rw [K.sc]
  unfold glB at h
  split at h
  · assumption
  · cases h
theorem Ctx.vis (K : Ctx W w cl k C S X EX) {x : Str} (h : visB S x = true) : Vis X.env.scope x := by
  unfold Vis
  rw [K.sc]
  unfold visB at h
  split at h
  · exact .inl (by assumption)
  · exact .inr (.inl (by assumption))
  · exact .inr (.inr (by assumption))
  · cases h
theorem isSome_ok {α : Type} {o : Option α} (h : o.isSome = true) : ∃ a, o = some a := Option.isSome_iff_exists.mp h
theorem notB {b : Bool} (h : (!b) = true) : b = false := by simpa using h
theorem nd_ok {x : Str} (h : ndB x = true) : (x == ("__debug__" : Str)) = false := by
  unfold ndB at h
  simpa using h
theorem and2 {a b : Bool} (h : (a && b) = true) : a = true ∧ b = true := Bool.and_eq_true_iff.mp h
theorem eqB {x y : Str} (h : (x == y) = true) : x = y := beq_iff_eq.mp h
theorem Ctx.var (K : Ctx W w cl k C S X EX) {i : Nat} {x : Str} {pos : Pos} (h : varB S i x = true) : PE X (.Name x pos) (tG W w cl EX (rv W) (fun env => get? (slotV env i))) := by
  unfold varB at h
  obtain ⟨h, h4⟩ := and2 h
  obtain ⟨h, h3⟩ := and2 h
  obtain ⟨h1, h2⟩ := and2 h
  exact e_var (by rw [K.N]; exact beq_iff_eq.mp h1) (K.vis h2) (nd_ok h3) (by simpa using h4)
theorem cst_ok {v : Val} {e : Expr} (h : cstB v e = true) : PE X e (tG W w cl EX (rv W) (fun _ => pure v)) := by
  unfold cstB at h
  split at h
  · exact e_cst pe_non fun _ _ _ => rfl
  · cases beq_iff_eq.mp h
    exact e_cst pe_bl fun _ _ _ => rfl
  · cases of_decide_eq_true h
    exact e_cst pe_int fun _ _ _ => rfl
  · rename_i s x j pos
    unfold strB at h
    obtain ⟨h, h3⟩ := and2 h
    obtain ⟨h1, h2⟩ := and2 h
    have e : x = tx s := by
      have := beq_iff_eq.mp h1
      cases x with
      | mk a =>
        have h : a.toList = s := this
        subst h
        rfl
    subst e
    exact e_cst pe_str fun _ _ _ => ⟨⟨of_decide_eq_true h2, h3⟩, rfl⟩
  · cases h
theorem Ctx.op (K : Ctx W w cl k C S X EX) {op : Bop} {o : Operator} (h : opB op o = true) : OpR X (binaryOp o) (rV2 W w cl EX (binop op)) := by
  unfold opB at h
  split at h
  · exact o_add K.G
  · exact o_sub
  · exact o_mul K.G
  · exact o_fdiv
  · exact o_mod
  · exact o_pow
  · cases h
theorem Ctx.cop (K : Ctx W w cl k C S X EX) {op : Cop} {o : CmpOp} (h : copB op o = true) : OpS X (compareOp o) (rS2 W w cl EX (fun a b => vbl (cmpV W.P C op a b))) := by
  unfold copB at h
  split at h
  · exact o_eqne K.G C K.eq false
  · exact o_eqne K.G C K.eq true
  · exact toS (o_lt K.G C)
  · exact toS (o_le K.G C)
  · exact toS (o_gt K.G C)
  · exact toS (o_ge K.G C)
  · exact toS (o_is C)
  · exact toS (o_isN C)
  · exact toS (o_mem K.G C)
  · exact toS (o_nmem K.G C)
  · cases h
theorem base_ok {o : Expr} {f : Str} {env : PySem.Env} (h : baseB o = true) : attributeBase o f env (eval o env) = eval o env := by
  cases o with
  | Call f args kws pos =>
    cases f <;> cases args <;> cases kws <;> first | rfl | exact nomatch h
  | _ => rfl
theorem ix_ok {b : Expr} (h : plainIxB b = true) : PlainIx b := by
  intro o i
  cases b <;> first | rfl | exact nomatch h
theorem noSet_ok {iter : Expr} (h : noSetB iter = true) (env : PySem.Env) (x : Value) : foldedSetIterable iter env x = pure x := by
  cases iter <;> first | rfl | exact nomatch h
theorem val3 {p : E} {e : Expr} (K : Ctx W w cl k C S X EX) (h : PE X e (tG W w cl EX (rv W) (evE W.P C p))) (he : ∀ whole, isTrue e X.env whole = (do let v ← whole; standAt e.pos; holding [v] (truthy v))) (hn : ∀ op vs pos, e ≠ .BoolOp op vs pos) :
    PE X e (tG W w cl EX (rv W) (evE W.P C p)) ∧ (notIfe p = true → PT X e (tG W w cl EX rbl (tru (evE W.P C p)))) ∧ (∀ op vs pos, e = .BoolOp op vs pos → PW X e (tG W w cl EX rbl (tru (evE W.P C p)))) :=
  ⟨h, fun _ => t_val K.G.K h he, fun op vs pos z => absurd z (hn op vs pos)⟩
theorem c_v (i : Nat) : OkE W w k C (.v i) := by
  intro cl S X EX e K h
  rw [chkE] at h; dsimp only at h
  split at h
  · exact val3 K (K.var h) (fun _ => rfl) (fun _ _ _ z => nomatch z)
  · cases h
theorem c_cst (v : Val) : OkE W w k C (.cst v) := by
  intro cl S X EX e K h
  rw [chkE] at h; dsimp only at h
  have hs : (∃ c j pos, e = .Constant c j pos) := by
    unfold cstB at h
    split at h <;> first | exact ⟨_, _, _, rfl⟩ | cases h
  obtain ⟨c, j, pos, rfl⟩ := hs
  exact val3 K (cst_ok h) (fun _ => rfl) (fun _ _ _ z => nomatch z)
theorem c_glo (g : Nat) : OkE W w k C (.glo g) := by
  intro cl S X EX e K h
  rw [chkE] at h; dsimp only at h
  split at h
  · obtain ⟨h, h3⟩ := and2 h
    obtain ⟨h1, h2⟩ := and2 h
    cases eqB h1
    refine val3 K ?_ (fun _ => rfl) (fun _ _ _ z => nomatch z)
    cases hv : W.P.val g with
    | none =>
      refine ⟨fun pins s σ H Q I ⟨ι, env, Sx, R, q⟩ => ?_⟩
      have q : Gs W w cl EX (rv W) ι env Sx σ H (get? (W.P.val g) Sx) Q := q
      rw [hv] at q
      exact q.elim
    | some v =>
      obtain ⟨u, y, a, b, c⟩ := K.F.gv g v hv
      have h2 := K.gl h2
      have h3 := nd_ok h3
      rw [K.nm] at h2 h3 ⊢
      refine PE_imp (pe_glob h2 (by rw [K.G.mg]; exact a) b h3) fun σ H Q ⟨ι, env, Sx, R, q⟩ => ?_
      have q : Gs W w cl EX (rv W) ι env Sx σ H (get? (W.P.val g) Sx) Q := q
      rw [hv] at q
      have q : Gs W w cl EX (rv W) ι env Sx σ H (.ok v Sx) Q := q
      exact q.here R (c _ _ _)
  · cases h
theorem c_tup {es : Es} (ih : OkEs W w k C es) : OkE W w k C (.tup es) := by
  intro cl S X EX e K h
  rw [chkE] at h; dsimp only at h
  split at h
  · exact val3 K (e_tup (ih cl S X EX _ K h).1) (fun _ => rfl) (fun _ _ _ z => nomatch z)
  · cases h
theorem c_lst {es : Es} (ih : OkEs W w k C es) : OkE W w k C (.lst es) := by
  intro cl S X EX e K h
  rw [chkE] at h; dsimp only at h
  split at h
  · exact val3 K (e_lst (ih cl S X EX _ K h).1) (fun _ => rfl) (fun _ _ _ z => nomatch z)
  · cases h
theorem c_dic0 : OkE W w k C (.dic .nil) := by
  intro cl S X EX e K h
  rw [chkE] at h; dsimp only at h
  split at h
  · exact val3 K e_dic0 (fun _ => rfl) (fun _ _ _ z => nomatch z)
  · cases h
theorem c_bin {op : Bop} {a b : E} (ha : OkE W w k C a) (hb : OkE W w k C b) : OkE W w k C (.bin op a b) := by
  intro cl S X EX e K h
  rw [chkE] at h; dsimp only at h
  split at h
  · obtain ⟨h, h3⟩ := and2 h
    obtain ⟨h1, h2⟩ := and2 h
    exact val3 K (e_bin (K.op h1) (ha cl S X EX _ K h2).1 (hb cl S X EX _ K h3).1) (fun _ => rfl) (fun _ _ _ z => nomatch z)
  · cases h
theorem c_cmp {op : Cop} {a b : E} (ha : OkE W w k C a) (hb : OkE W w k C b) : OkE W w k C (.cmp op a b) := by
  intro cl S X EX e K h
  rw [chkE] at h; dsimp only at h
  split at h
  · obtain ⟨h, h4⟩ := and2 h
    obtain ⟨h, h3⟩ := and2 h
    obtain ⟨h1, h2⟩ := and2 h
    have h2 := notB h2
    exact ⟨e_cmp (K.cop h1) (ha cl S X EX _ K h3).1 (hb cl S X EX _ K h4).1 h2, fun _ => t_cmp (K.cop h1) (ha cl S X EX _ K h3).1 (hb cl S X EX _ K h4).1 h2, fun _ _ _ z => nomatch z⟩
  · cases h
theorem c_cmp2 {op op' : Cop} {a b c : E} (ha : OkE W w k C a) (hb : OkE W w k C b) (hc : OkE W w k C c) : OkE W w k C (.cmp2 op op' a b c) := by
  intro cl S X EX e K h
  rw [chkE] at h; dsimp only at h
  split at h
  · obtain ⟨h, h6⟩ := and2 h
    obtain ⟨h, h5⟩ := and2 h
    obtain ⟨h, h4⟩ := and2 h
    obtain ⟨h, h3⟩ := and2 h
    obtain ⟨h1, h2⟩ := and2 h
    have h3 := notB h3
    exact ⟨e_cmp2 (K.cop h1) (K.cop h2) (ha cl S X EX _ K h4).1 (hb cl S X EX _ K h5).1 (hc cl S X EX _ K h6).1 h3, fun _ => t_cmp2 (K.cop h1) (K.cop h2) (ha cl S X EX _ K h4).1 (hb cl S X EX _ K h5).1 (hc cl S X EX _ K h6).1 h3, fun _ _ _ z => nomatch z⟩
  · cases h
theorem c_and {a b : E} (ha : OkE W w k C a) (hb : OkE W w k C b) : OkE W w k C (.and a b) := by
  intro cl S X EX e K h
  rw [chkE] at h; dsimp only at h
  split at h
  · obtain ⟨h, h4⟩ := and2 h
    obtain ⟨h, h3⟩ := and2 h
    obtain ⟨h1, h2⟩ := and2 h
    have A := ha cl S X EX _ K h3
    have B := hb cl S X EX _ K h4
    have pw := w_and (pos := by assumption) (A.2.1 h1) (pw_and1 (B.2.1 h2))
    exact ⟨e_and A.1 (pe_one B.1), fun _ => pw.pt, fun _ _ _ _ => pw⟩
  · obtain ⟨h, h4⟩ := and2 h
    obtain ⟨h, h3⟩ := and2 h
    obtain ⟨h1, h2⟩ := and2 h
    have A := ha cl S X EX _ K h3
    have B := hb cl S X EX _ K h4
    have pw := w_and (A.2.1 h1) (B.2.2 _ _ _ rfl)
    exact ⟨e_and A.1 B.1, fun _ => pw.pt, fun _ _ _ _ => pw⟩
  · cases h
theorem c_or {a b : E} (ha : OkE W w k C a) (hb : OkE W w k C b) : OkE W w k C (.or a b) := by
  intro cl S X EX e K h
  rw [chkE] at h; dsimp only at h
  split at h
  · obtain ⟨h, h4⟩ := and2 h
    obtain ⟨h, h3⟩ := and2 h
    obtain ⟨h1, h2⟩ := and2 h
    have A := ha cl S X EX _ K h3
    have B := hb cl S X EX _ K h4
    have pw := w_or (pos := by assumption) (A.2.1 h1) (pw_or1 (B.2.1 h2))
    exact ⟨e_or A.1 (pe_one B.1), fun _ => pw.pt, fun _ _ _ _ => pw⟩
  · obtain ⟨h, h4⟩ := and2 h
    obtain ⟨h, h3⟩ := and2 h
    obtain ⟨h1, h2⟩ := and2 h
    have A := ha cl S X EX _ K h3
    have B := hb cl S X EX _ K h4
    have pw := w_or (A.2.1 h1) (B.2.2 _ _ _ rfl)
    exact ⟨e_or A.1 B.1, fun _ => pw.pt, fun _ _ _ _ => pw⟩
  · cases h
theorem c_not {a : E} (ha : OkE W w k C a) : OkE W w k C (.not a) := by
  intro cl S X EX e K h
  rw [chkE] at h; dsimp only at h
  split at h
  · obtain ⟨h1, h2⟩ := and2 h
    have A := ha cl S X EX _ K h2
    exact ⟨e_not A.1, fun _ => t_not (A.2.1 h1), fun _ _ _ z => nomatch z⟩
  · cases h
theorem c_neg {a : E} (ha : OkE W w k C a) : OkE W w k C (.neg a) := by
  intro cl S X EX e K h
  rw [chkE] at h; dsimp only at h
  split at h
  · exact val3 K (e_neg (ha cl S X EX _ K h).1) (fun _ => rfl) (fun _ _ _ z => nomatch z)
  · cases h
theorem c_ife {c a b : E} (hc : OkE W w k C c) (ha : OkE W w k C a) (hb : OkE W w k C b) : OkE W w k C (.ife c a b) := by
  intro cl S X EX e K h
  rw [chkE] at h; dsimp only at h
  split at h
  · obtain ⟨h, h4⟩ := and2 h
    obtain ⟨h, h3⟩ := and2 h
    obtain ⟨h1, h2⟩ := and2 h
    exact ⟨e_ife ((hc cl S X EX _ K h2).2.1 h1) (ha cl S X EX _ K h3).1 (hb cl S X EX _ K h4).1, fun z => (nomatch z), fun _ _ _ z => (nomatch z)⟩
  · cases h
theorem c_idx {a b : E} (ha : OkE W w k C a) (hb : OkE W w k C b) : OkE W w k C (.idx a b) := by
  intro cl S X EX e K h
  rw [chkE] at h; dsimp only at h
  split at h
  · obtain ⟨h, h3⟩ := and2 h
    obtain ⟨h1, h2⟩ := and2 h
    exact val3 K (e_idx K.G.K (ha cl S X EX _ K h2).1 (hb cl S X EX _ K h3).1 (ix_ok h1)) (fun _ => rfl) (fun _ _ _ z => nomatch z)
  · cases h
theorem c_sl {a : E} {lo hi : Eo} (ha : OkE W w k C a) (hl : OkO W w k C lo) (hh : OkO W w k C hi) : OkE W w k C (.sl a lo hi) := by
  intro cl S X EX e K h
  rw [chkE] at h; dsimp only at h
  split at h
  · obtain ⟨h, h3⟩ := and2 h
    obtain ⟨h1, h2⟩ := and2 h
    exact val3 K (e_sl K.G.K (ha cl S X EX _ K h1).1 (hl cl S X EX _ K h2) (hh cl S X EX _ K h3)) (fun _ => rfl) (fun _ _ _ z => nomatch z)
  · cases h
theorem c_rev {a : E} (ha : OkE W w k C a) : OkE W w k C (.rev a) := by
  intro cl S X EX e K h
  rw [chkE] at h; dsimp only at h
  split at h
  · exact val3 K (e_rev K.G.K (ha cl S X EX _ K h).1) (fun _ => rfl) (fun _ _ _ z => nomatch z)
  · cases h
theorem c_attr {a : E} {f : Nat} (ha : OkE W w k C a) : OkE W w k C (.attr a f) := by
  intro cl S X EX e K h
  rw [chkE] at h; dsimp only at h
  split at h
  · obtain ⟨h, h3⟩ := and2 h
    obtain ⟨h1, h2⟩ := and2 h
    cases eqB h1
    rw [K.nm]
    exact val3 K (e_fld K.G K.F.ok (ha cl S X EX _ K h3).1 (base_ok h2)) (fun _ => rfl) (fun _ _ _ z => nomatch z)
  · cases h
theorem c_call {f : Nat} {es : Es} (ih : OkEs W w k C es) : OkE W w k C (.call f es) := by
  intro cl S X EX e K h
  rw [chkE] at h; dsimp only at h
  split at h
  · rename_i x px xs pos
    obtain ⟨h, h7⟩ := and2 h
    obtain ⟨h, h6⟩ := and2 h
    obtain ⟨h, h5⟩ := and2 h
    obtain ⟨h, h4⟩ := and2 h
    obtain ⟨h, h3⟩ := and2 h
    obtain ⟨h1, h2⟩ := and2 h
    cases eqB h2
    obtain ⟨d, hd⟩ := isSome_ok h6
    rw [K.P] at hd
    obtain ⟨hc, KC⟩ := K.cool (notB h1)
    obtain ⟨⟨m1, m2⟩, m3⟩ := K.F.fn f h5
    have g3 := K.gl h3
    have n4 := nd_ok h4
    have A := ih cl S X EX _ K h7
    rw [K.nm] at g3 n4 ⊢
    refine val3 K ?_ (fun _ => rfl) (fun _ _ _ z => nomatch z)
    cases xs with
    | nil =>
      cases es with
      | nil => exact e_call0 KC hd m3 (by rw [K.G.mg]; exact m1) (by rw [K.G.K]; exact m2) g3 n4
      | cons a b => (rw [chkEs] at h7; cases h7)
    | cons x0 xr => exact e_call KC hd m3 (by rw [K.G.mg]; exact m1) (by rw [K.G.K]; exact m2) g3 n4 (A.2.resolve_left (fun z => nomatch z)) A.1
  · cases h
theorem c_callv {a : E} {es : Es} (ha : OkE W w k C a) (ih : OkEs W w k C es) : OkE W w k C (.callv a es) := by
  intro cl S X EX e K h
  rw [chkE] at h; dsimp only at h
  split at h
  · rename_i x px xs pos
    obtain ⟨h, h3⟩ := and2 h
    obtain ⟨h1, h2⟩ := and2 h
    obtain ⟨hc, KC⟩ := K.cool (notB h1)
    have B := (ha cl S X EX _ K h2).1
    have A := ih cl S X EX _ K h3
    refine val3 K ?_ (fun _ => rfl) (fun _ _ _ z => nomatch z)
    cases xs with
    | nil =>
      cases es with
      | nil => exact e_callv0 K.G.K K.G.mg KC B
      | cons a b => (rw [chkEs] at h3; cases h3)
    | cons x0 xr => exact e_callv K.G.K K.G.mg KC B (A.2.resolve_left (fun z => nomatch z)) A.1
  · cases h
theorem c_mcall {a : E} {es : Es} (m : Nat) (ha : OkE W w k C a) (ih : OkEs W w k C es) : OkE W w k C (.mcall a m es) := by
  intro cl S X EX e K h
  rw [chkE] at h; dsimp only at h
  split at h
  · obtain ⟨h, h7⟩ := and2 h
    obtain ⟨h, h6⟩ := and2 h
    obtain ⟨h, h5⟩ := and2 h
    obtain ⟨h, h4⟩ := and2 h
    obtain ⟨h, h3⟩ := and2 h
    obtain ⟨h1, h2⟩ := and2 h
    cases eqB h2
    obtain ⟨hc, KC⟩ := K.cool (notB h1)
    have A := ih cl S X EX _ K h7
    refine val3 K ?_ (fun _ => rfl) (fun _ _ _ z => nomatch z)
    rw [K.nm]
    exact e_mcall K.G K.F.ok KC K.F.mt (base_ok h3) h4 (of_decide_eq_true h5) (ha cl S X EX _ K h6).1 A.2 (fun z env Sx => by
      subst z
      cases es with
      | nil => rfl
      | cons a b => (rw [chkEs] at h7; cases h7)) A.1
  · cases h
theorem c_new {c : Nat} {es : Es} (ih : OkEs W w k C es) : OkE W w k C (.new c es) := by
  intro cl S X EX e K h
  rw [chkE] at h; dsimp only at h
  split at h
  · rename_i x px y ys pos
    obtain ⟨h, h7⟩ := and2 h
    obtain ⟨h, h6⟩ := and2 h
    obtain ⟨h, h4⟩ := and2 h
    obtain ⟨h, h3⟩ := and2 h
    obtain ⟨h1, h2⟩ := and2 h
    cases eqB h2
    obtain ⟨hc, KC⟩ := K.cool (notB h1)
    have g3 := K.gl h3
    have n4 := nd_ok h4
    have A := ih cl S X EX _ K h7
    rw [K.P] at h6
    rw [K.nm] at g3 n4 ⊢
    refine val3 K ?_ (fun _ => rfl) (fun _ _ _ z => nomatch z)
    cases hq : W.P.cl c with
    | none => rw [hq] at h6; cases h6
    | some q =>
      rw [hq] at h6
      obtain ⟨a1, a2⟩ := and2 h6
      cases hi : q.init with
      | none => rw [hi] at a2; cases a2
      | some f =>
        rw [hi] at a2
        obtain ⟨d, hd⟩ := isSome_ok a2
        obtain ⟨Ca, NF⟩ := K.F.new c q f hq (notB a1) hi
        exact e_new K.G KC NF hd g3 n4 (A.2.resolve_left (fun z => nomatch z)) A.1
  · cases h
theorem blt_ok (K : Ctx W w cl k C S X EX) {x : Str} (h : x ∈ bltNames) : X.mg x = none := by rw [K.G.mg]; exact K.F.blt x h
theorem ty_ok (K : Ctx W w cl k C S X EX) {t : Ty} {e : Expr} (h : tyB S t e = true) : ∃ c, PE X e (tC c) ∧ ClsVal W t c := by
  unfold tyB at h
  split at h
  · rename_i x pos
    obtain ⟨h, h3⟩ := and2 h
    obtain ⟨h1, h2⟩ := and2 h
    have g := K.gl h1
    have n := nd_ok h2
    cases t with
    | int => cases eqB h3; exact ⟨.ty "int", pe_bltn g (blt_ok K (by decide)) (by first | rfl | decide +kernel) (u := .type "int") rfl (by decide) n, _, rfl, .ty _, trivial⟩
    | bool => cases eqB h3; exact ⟨.ty "bool", pe_bltn g (blt_ok K (by decide)) (by first | rfl | decide +kernel) (u := .type "bool") rfl (by decide) n, _, rfl, .ty _, trivial⟩
    | str => cases eqB h3; exact ⟨.ty "str", pe_bltn g (blt_ok K (by decide)) (by first | rfl | decide +kernel) (u := .type "str") rfl (by decide) n, _, rfl, .ty _, trivial⟩
    | tuple => cases eqB h3; exact ⟨.ty "tuple", pe_bltn g (blt_ok K (by decide)) (by first | rfl | decide +kernel) (u := .type "tuple") rfl (by decide) n, _, rfl, .ty _, trivial⟩
    | list => cases eqB h3; exact ⟨.ty "list", pe_bltn g (blt_ok K (by decide)) (by first | rfl | decide +kernel) (u := .type "list") rfl (by decide) n, _, rfl, .ty _, trivial⟩
    | dict => cases eqB h3; exact ⟨.ty "dict", pe_bltn g (blt_ok K (by decide)) (by first | rfl | decide +kernel) (u := .type "dict") rfl (by decide) n, _, rfl, .ty _, trivial⟩
    | valueError => cases eqB h3; exact ⟨.ty "ValueError", pe_bltn g (blt_ok K (by decide)) (by first | rfl | decide +kernel) (u := .type "ValueError") rfl (by decide) n, _, rfl, .ty _, trivial⟩
    | cls c =>
      obtain ⟨e1, e2⟩ := and2 h3
      cases eqB e1
      obtain ⟨q, hq⟩ := isSome_ok e2
      rw [K.P] at hq
      obtain ⟨Ca, hm⟩ := K.F.cls c q hq
      rw [K.nm] at g n ⊢
      exact ⟨.ref Ca, pe_glob g (by rw [K.G.mg]; exact hm) (u := .ref Ca) rfl n, _, hm, .own _, q, hq⟩
  · cases h
theorem ck_isi {a : E} {t : Ty} (ha : OkE W w k C a) : OkE W w k C (.isi a t) := by
  intro cl S X EX e K h
  rw [chkE] at h; dsimp only at h
  split at h
  · obtain ⟨h, h5⟩ := and2 h
    obtain ⟨h, h4⟩ := and2 h
    obtain ⟨h, h3⟩ := and2 h
    obtain ⟨h1, h2⟩ := and2 h
    cases eqB h1
    obtain ⟨c, hc, hv⟩ := ty_ok K h5
    exact val3 K (e_isi K.G K.F.ok (K.gl h2) (blt_ok K (by decide)) h3 (ha cl S X EX _ K h4).1 hc hv) (fun _ => rfl) (fun _ _ _ z => nomatch z)
  · cases h
theorem c_b1 {b : Bi} {a : E} (ha : OkE W w k C a) : OkE W w k C (.b1 b a) := by
  intro cl S X EX e K h
  rw [chkE] at h; dsimp only at h
  split at h
  · obtain ⟨h, h4⟩ := and2 h
    obtain ⟨h, h3⟩ := and2 h
    obtain ⟨h1, h2⟩ := and2 h
    have h1 := beq_iff_eq.mp h1
    have A := (ha cl S X EX _ K h4).1
    have g := K.gl h2
    refine val3 K ?_ (fun _ => rfl) (fun _ _ _ z => nomatch z)
    cases b <;> first
      | (cases h1; done)
      | (cases h1
         first
         | exact e_b1 b_abs g (blt_ok K (by decide)) (by first | rfl | decide +kernel) (by decide) (by decide) h3 A
         | exact e_ty1 b_int g (blt_ok K (by decide)) (by first | rfl | decide +kernel) (by decide) (by decide) h3 A
         | exact e_b1 (b_len K.G.K) g (blt_ok K (by decide)) (by first | rfl | decide +kernel) (by decide) (by decide) h3 A
         | exact e_b1 (b_repr K.G K.F.ok) g (blt_ok K (by decide)) (by first | rfl | decide +kernel) (by decide) (by decide) h3 A)
  · cases h
theorem c_b2 {b : Bi} {a c : E} (ha : OkE W w k C a) (hc : OkE W w k C c) : OkE W w k C (.b2 b a c) := by
  intro cl S X EX e K h
  rw [chkE] at h; dsimp only at h
  split at h
  · obtain ⟨h, h5⟩ := and2 h
    obtain ⟨h, h4⟩ := and2 h
    obtain ⟨h, h3⟩ := and2 h
    obtain ⟨h1, h2⟩ := and2 h
    have h1 := beq_iff_eq.mp h1
    have A := (ha cl S X EX _ K h4).1
    have B := (hc cl S X EX _ K h5).1
    have g := K.gl h2
    refine val3 K ?_ (fun _ => rfl) (fun _ _ _ z => nomatch z)
    cases hh : S.hot with
    | true => rw [hh] at h1; cases b <;> cases h1
    | false =>
      rw [hh] at h1
      have cm := (K.cool hh).1
      cases b <;> first
        | (cases h1; done)
        | (cases h1
           first
           | exact e_b2 (b_max2 K.G cm) g (blt_ok K (by decide)) (by first | rfl | decide +kernel) (by decide) (by decide) h3 A B
           | exact e_b2 (b_min2 K.G cm) g (blt_ok K (by decide)) (by first | rfl | decide +kernel) (by decide) (by decide) h3 A B)
  · cases h
theorem c_mk {m : Mk} {a : E} (ha : OkE W w k C a) : OkE W w k C (.mk m a) := by
  intro cl S X EX e K h
  rw [chkE] at h; dsimp only at h
  split at h
  · obtain ⟨h, h4⟩ := and2 h
    obtain ⟨h, h3⟩ := and2 h
    obtain ⟨h1, h2⟩ := and2 h
    have h1 := beq_iff_eq.mp h1
    have A := (ha cl S X EX _ K h4).1
    have g := K.gl h2
    refine val3 K ?_ (fun _ => rfl) (fun _ _ _ z => nomatch z)
    cases hh : S.hot with
    | true =>
      rw [hh] at h1
      cases m <;> first
        | (cases h1; done)
        | (cases h1; exact e_ty1 (m_tuple K.G.K) g (blt_ok K (by decide)) (by first | rfl | decide +kernel) (by decide) (by decide) h3 A)
    | false =>
      rw [hh] at h1
      have cm := (K.cool hh).1
      cases m <;> first
        | (cases h1; done)
        | (cases h1
           first
           | exact e_ty1 (m_tuple K.G.K) g (blt_ok K (by decide)) (by first | rfl | decide +kernel) (by decide) (by decide) h3 A
           | exact e_ty1 (m_list K.G cm) g (blt_ok K (by decide)) (by first | rfl | decide +kernel) (by decide) (by decide) h3 A
           | exact e_b1 (m_sum K.G cm) g (blt_ok K (by decide)) (by first | rfl | decide +kernel) (by decide) (by decide) h3 A
           | exact e_b1 (m_max K.G cm) g (blt_ok K (by decide)) (by first | rfl | decide +kernel) (by decide) (by decide) h3 A
           | exact e_b1 (m_min K.G cm) g (blt_ok K (by decide)) (by first | rfl | decide +kernel) (by decide) (by decide) h3 A
           | exact e_b1 (m_all K.G cm) g (blt_ok K (by decide)) (by first | rfl | decide +kernel) (by decide) (by decide) h3 A
           | exact e_b1 (m_any K.G cm) g (blt_ok K (by decide)) (by first | rfl | decide +kernel) (by decide) (by decide) h3 A)
  · cases h
theorem c_me1 {m : Me} {a b : E} (ha : OkE W w k C a) (hb : OkE W w k C b) : OkE W w k C (.me1 m a b) := by
  intro cl S X EX e K h
  rw [chkE] at h; dsimp only at h
  split at h
  · obtain ⟨h, h6⟩ := and2 h
    obtain ⟨h, h5⟩ := and2 h
    obtain ⟨h, h4⟩ := and2 h
    obtain ⟨h, h3⟩ := and2 h
    obtain ⟨h1, h2⟩ := and2 h
    have h1 := beq_iff_eq.mp h1
    have A := (ha cl S X EX _ K h5).1
    have B := (hb cl S X EX _ K h6).1
    refine val3 K ?_ (fun _ => rfl) (fun _ _ _ z => nomatch z)
    cases m <;> first
      | (cases h1; done)
      | (cases h1
         first
         | exact e_me K.G.K (ty := isLstV) F.plainAttrs_list F.slot_list_append F.type_list_append y_append (ty_lst K.G.K) A B h4 (base_ok h2) h3
         | exact e_me K.G.K (ty := isLstV) F.plainAttrs_list F.slot_list_extend F.type_list_extend y_extend (ty_lst K.G.K) A B h4 (base_ok h2) h3
         | exact e_disp (e_me K.G.K (ty := isStrV) F.plainAttrs_str F.slot_str_index F.type_str_index y_index (ty_str K.G.K) A B h4 (base_ok h2) h3) (e_me K.G.K (ty := isLstV) F.plainAttrs_list F.slot_list_index F.type_list_index (y_lindex K.G) (ty_lst K.G.K) A B h4 (base_ok h2) h3) (idx_disp _ _)
         | exact e_me K.G.K (ty := isLstV) F.plainAttrs_list F.slot_list_count F.type_list_count (y_lcount K.G) (ty_lst K.G.K) A B h4 (base_ok h2) h3
         | exact e_me K.G.K (ty := isLstV) F.plainAttrs_list F.slot_list_pop F.type_list_pop y_pop1 (ty_lst K.G.K) A B h4 (base_ok h2) h3
         | exact e_me K.G.K (ty := isStrV) F.plainAttrs_str F.slot_str_join F.type_str_join (y_join K.G.K) (ty_str K.G.K) A B h4 (base_ok h2) h3)
  · cases h
theorem c_me0 {m : Me} {a : E} (ha : OkE W w k C a) : OkE W w k C (.me0 m a) := by
  intro cl S X EX e K h
  rw [chkE] at h; dsimp only at h
  split at h
  · obtain ⟨h, h4⟩ := and2 h
    obtain ⟨h, h3⟩ := and2 h
    obtain ⟨h1, h2⟩ := and2 h
    refine val3 K ?_ (fun _ => rfl) (fun _ _ _ z => nomatch z)
    split at h1
    · cases eqB h1
      exact e_me0 K.G.K (ty := isLstV) F.plainAttrs_list F.slot_list_pop F.type_list_pop y_pop0 (ty_lst K.G.K) (ha cl S X EX _ K h4).1 (base_ok h2) h3
    · cases h1
  · cases h
theorem c_nil : OkEs W w k C .nil := by
  intro cl S X EX es K h
  rw [chkEs] at h; dsimp only at h
  split at h
  · exact ⟨a_nil fun _ _ => rfl, .inl rfl⟩
  · cases h
theorem c_cons {e : E} {es : Es} (he : OkE W w k C e) (hs : OkEs W w k C es) : OkEs W w k C (.cons e es) := by
  intro cl S X EX xs K h
  rw [chkEs] at h; dsimp only at h
  split at h
  · obtain ⟨h, h3⟩ := and2 h
    obtain ⟨h1, h2⟩ := and2 h
    exact ⟨a_cons h1 (he cl S X EX _ K h2).1 (hs cl S X EX _ K h3).1, .inr h1⟩
  · cases h
theorem c_onone : OkO W w k C .none := by
  intro cl S X EX e K h
  rw [chkO] at h; dsimp only at h
  split at h
  · exact o_none fun _ _ => rfl
  · cases h
theorem c_osome {e : E} (he : OkE W w k C e) : OkO W w k C (.some e) := by
  intro cl S X EX x K h
  rw [chkO] at h; dsimp only at h
  split at h
  · exact o_some (he cl S X EX _ K h).1
  · cases h
theorem c_bnone : OkB W w k C .none := by
  intro cl S X EX es K h
  rw [chkB] at h; dsimp only at h
  split at h
  · refine ⟨fun pins s σ H Q I ⟨ι, env, Sx, R, g⟩ => pts_nil.run pins s σ H Q I ?_⟩
    have g : Gs W w cl EX rbl ι env Sx σ H (.ok true Sx) Q := g
    exact g.here (RA := rbl) R rfl
  · cases h
theorem c_bsome {e : E} (he : OkE W w k C e) : OkB W w k C (.some e) := by
  intro cl S X EX es K h
  rw [chkB] at h; dsimp only at h
  split at h
  · obtain ⟨h1, h2⟩ := and2 h
    exact pts_one ((he cl S X EX _ K h2).2.1 h1)
  · cases h
theorem c_ie {a : E} (ha : OkE W w k C a) : OkI W w k C (.e a) := by
  intro cl S X EX e tg K h
  rw [chkI] at h; dsimp only at h
  exact i_val K.G.K (ha cl S X EX _ K h).1
theorem c_r1 {a : E} (ha : OkE W w k C a) : OkI W w k C (.r1 a) := by
  intro cl S X EX e tg K h
  rw [chkI] at h; dsimp only at h
  split at h
  · obtain ⟨h, h4⟩ := and2 h
    obtain ⟨h, h3⟩ := and2 h
    obtain ⟨h1, h2⟩ := and2 h
    cases eqB h1
    exact i_r1 (K.gl h2) (blt_ok K (by decide)) h3 (ha cl S X EX _ K h4).1
  · cases h
theorem c_r2 {a b : E} (ha : OkE W w k C a) (hb : OkE W w k C b) : OkI W w k C (.r2 a b) := by
  intro cl S X EX e tg K h
  rw [chkI] at h; dsimp only at h
  split at h
  · obtain ⟨h, h5⟩ := and2 h
    obtain ⟨h, h4⟩ := and2 h
    obtain ⟨h, h3⟩ := and2 h
    obtain ⟨h1, h2⟩ := and2 h
    cases eqB h1
    exact i_r2 (K.gl h2) (blt_ok K (by decide)) h3 (ha cl S X EX _ K h4).1 (hb cl S X EX _ K h5).1
  · cases h
theorem c_en {a : E} (ha : OkE W w k C a) : OkI W w k C (.en a) := by
  intro cl S X EX e tg K h
  rw [chkI] at h; dsimp only at h
  split at h
  · obtain ⟨h, h4⟩ := and2 h
    obtain ⟨h, h3⟩ := and2 h
    obtain ⟨h1, h2⟩ := and2 h
    cases eqB h1
    exact i_enm K.G.K (K.gl h2) (blt_ok K (by decide)) h3 (ha cl S X EX _ K h4).1
  · cases h
theorem c_z2 {a b : E} (ha : OkE W w k C a) (hb : OkE W w k C b) : OkI W w k C (.z2 a b) := by
  intro cl S X EX e tg K h
  rw [chkI] at h; dsimp only at h
  split at h
  · obtain ⟨h, h5⟩ := and2 h
    obtain ⟨h, h4⟩ := and2 h
    obtain ⟨h, h3⟩ := and2 h
    obtain ⟨h1, h2⟩ := and2 h
    cases eqB h1
    exact i_z2 K.G.K (K.gl h2) (blt_ok K (by decide)) h3 (ha cl S X EX _ K h4).1 (hb cl S X EX _ K h5).1
  · cases h
theorem Ctx.loc (K : Ctx W w cl k C S X EX) {i : Nat} {x : Str} (h1 : S.N[i]? = some x) (h2 : S.c0 = true ∨ S.sc.names.lookup x = some .local) : NoCell cl i := by
  rcases h2 with h | h
  · rw [K.c0 h]; rfl
  · exact K.nc i x h1 h
theorem Ctx.sto (K : Ctx W w cl k C S X EX) {i : Nat} {x : Str} (h : stoV S i x = true) : NoCell cl i := by
  unfold stoV at h
  obtain ⟨h, h2⟩ := and2 h
  unfold stoB at h
  have h1 := (and2 h).1
  refine K.loc (beq_iff_eq.mp h1) ?_
  cases hc : S.c0 with
  | true => exact .inl rfl
  | false =>
    rw [hc] at h2
    have h2 : (match S.sc.names.lookup x with | some .local => true | _ => false) = true := h2
    split at h2
    · exact .inr (by assumption)
    · cases h2
theorem c_tv (i : Nat) : OkT W w k C (.v i) := by
  intro cl S X EX e K h
  rw [chkT] at h; dsimp only at h
  split at h
  · rename_i x pos
    have hc := K.sto h
    have h := (and2 h).1
    unfold stoB at h
    obtain ⟨h1, h2⟩ := and2 h
    have hi : X.N[i]? = some x := by rw [K.N]; exact beq_iff_eq.mp h1
    split at h2
    · rename_i hl
      rw [← K.sc] at hl
      exact g_var K.nd hi (.inl hl) (.inr hl) hc
    · rename_i hl
      rw [← K.sc] at hl
      exact g_var K.nd hi (.inr hl) (.inl (K.fn x h2)) hc
    · cases h2
  · cases h
theorem c_tcv (i : Nat) : OkT W w k C (.cv i) := by
  intro cl S X EX e K h
  rw [chkT] at h; dsimp only at h
  split at h
  · rename_i x pos
    unfold stoB at h
    obtain ⟨h1, h2⟩ := and2 h
    have hi : X.N[i]? = some x := by rw [K.N]; exact beq_iff_eq.mp h1
    split at h2
    · rename_i hl
      rw [← K.sc] at hl
      exact g_cvar K.nd hi (.inl hl) (.inr hl)
    · rename_i hl
      rw [← K.sc] at hl
      exact g_cvar K.nd hi (.inr hl) (.inl (K.fn x h2))
    · cases h2
  · cases h
theorem each_len {env : PySem.Env} : ∀ {xs : List Expr}, (assignEach xs env).length = xs.length
  | [] => rfl
  | x :: r => by
    have ih := each_len (env := env) (xs := r)
    cases x <;> (show (_ :: _ : List _).length = _; rw [List.length_cons, List.length_cons, ih])
theorem each_nostar {env : PySem.Env} : ∀ {xs : List Expr}, noStarB xs = true → (assignEach xs env).findIdx? (·.1) = none
  | [], _ => rfl
  | x :: r, h => by
    have main : ∀ g : Value → Sem Unit, noStarB r = true → ((false, g) :: assignEach r env).findIdx? (·.1) = none := fun g h => by
      rw [List.findIdx?_cons, each_nostar (env := env) (xs := r) h]; rfl
    cases x <;> first
      | exact main _ h
      | exact nomatch h
theorem each_cons {env : PySem.Env} {x : Expr} {r : List Expr} (h : noStarB (x :: r) = true) : (assignEach (x :: r) env).map (·.2) = assign x env :: (assignEach r env).map (·.2) := by
  cases x <;> first | rfl | exact nomatch h
theorem nostar_tail {x : Expr} {r : List Expr} (h : noStarB (x :: r) = true) : noStarB r = true := by
  cases x <;> first | exact h | exact nomatch h
theorem c_ttup {ts : Tgs} (ih : OkTs W w k C ts) : OkT W w k C (.tup ts) := by
  intro cl S X EX e K h
  rw [chkT] at h; dsimp only at h
  split at h
  · obtain ⟨h, h4⟩ := and2 h
    obtain ⟨h, h3⟩ := and2 h
    obtain ⟨h1, h2⟩ := and2 h
    exact g_tup K.G.K (K.cool (notB h1)).1 (ih cl S X EX _ K h4 h2) (by rw [each_len]; exact of_decide_eq_true h3) (each_nostar h2)
  · cases h
theorem c_tsub {a i : E} (ha : OkE W w k C a) (hi : OkE W w k C i) : OkT W w k C (.sub a i) := by
  intro cl S X EX e K h
  rw [chkT] at h; dsimp only at h
  split at h
  · rename_i x y pos
    obtain ⟨h, h3⟩ := and2 h
    obtain ⟨h1, h2⟩ := and2 h
    refine g_sub (ha cl S X EX _ K h2).1 (hi cl S X EX _ K h3).1 fun v => ?_
    cases y <;> first | rfl | exact nomatch h1
  · cases h
theorem c_tnil : OkTs W w k C .nil := by
  intro cl S X EX es K h hs
  rw [chkTs] at h; dsimp only at h
  split at h
  · exact g_nil
  · cases h
theorem c_tcons {t : Tg} {ts : Tgs} (ht : OkT W w k C t) (hts : OkTs W w k C ts) : OkTs W w k C (.cons t ts) := by
  intro cl S X EX es K h hs
  rw [chkTs] at h; dsimp only at h
  split at h
  · obtain ⟨h1, h2⟩ := and2 h
    exact g_cons (ht cl S X EX _ K h1) (hts cl S X EX _ K h2 (nostar_tail hs)) (each_cons hs)
  · cases h
theorem takesF (X : Cx) : Takes X EXF := fun u s' ⟨_, _, _, _, _, _, _, _, _, _, _, _, _, _, _, _, z⟩ => z.elim
theorem ClOk.no {X : Cx} : ClOk X noCl := ⟨fun i a h => (noCl_ne h).elim, fun i a h => (noCl_ne h).elim, fun a o h => nomatch (show (none : Option Obj) = some o from h)⟩
theorem Ctx.inner (K : Ctx W w noCl k C S X EX) (hh : S.hot = false) (scope : Scope) (s : Shared) (H : Hp) (Ca : Addr) (cll : List (Str × Addr)) (fp : List Addr) : Ctx W w noCl k C (S.inner scope) (X.blk s H scope (compEnvC scope cll Ca X.env) fp) EXF := by
  obtain ⟨hc, KC⟩ := K.cool hh
  have G : Good W w (X.blk s H scope (compEnvC scope cll Ca X.env) fp) := ⟨K.G.K, K.G.mg, K.G.w, K.G.gd, K.G.hu⟩
  have KC' : Calls W w (X.blk s H scope (compEnvC scope cll Ca X.env) fp) noCl EXF k C := ⟨ClOk.no, KC.w, KC.ar, fun f d h hm => ⟨(KC.fn f d h hm).ex⟩, KC.clo, KC.cloA, KC.cloF, KC.room, fun σ => passAt (takesF _) σ⟩
  refine ⟨K.N, ?_, K.nd, fun x h => ?_, K.nm, K.P, G, K.F, fun _ => ⟨hc, KC'⟩, inst_eq G K.F.ok KC' K.F.eq, fun _ => rfl, fun _ _ _ _ => rfl, fun m z => nomatch (show (none : Option Mkr) = some m from z)⟩
  · show relS scope X.env.scope = relS scope S.sc
    rw [K.sc]
  · show (scope.names.lookup x == some .cell) = true
    have h : (match scope.names.lookup x with | some .cell => true | _ => false) = true := h
    split at h
    · rename_i e; rw [e]; rfl
    · cases h
theorem Ctx.drop (K : Ctx W w cl k C S X EX) (hh : S.hot = false) : Ctx W w noCl k C { S with c0 := true, lk := none } X EX := by
  obtain ⟨hc, KC⟩ := K.cool hh
  have KC' : Calls W w X noCl EX k C := ⟨ClOk.no, KC.w, KC.ar, KC.fn, KC.clo, KC.cloA, KC.cloF, KC.room, KC.px⟩
  exact ⟨K.N, K.sc, K.nd, K.fn, K.nm, K.P, K.G, K.F, fun _ => ⟨hc, KC'⟩, inst_eq K.G K.F.ok KC' K.F.eq, fun _ => rfl, fun _ _ _ _ => rfl, fun m z => nomatch (show (none : Option Mkr) = some m from z)⟩
theorem ownP_ix {own : List Nat} : (ownP S own).map (·.2) = own := by
  unfold ownP
  rw [List.map_map]
  exact List.map_id' own
theorem sub_ok {a b : List Nat} (h : subB a b = true) : ∀ i ∈ a, i ∈ b := fun i hi => by
  have := List.all_eq_true.mp h i hi
  simpa using this
theorem c_comp {own : List Nat} {elt : E} {t : Tg} {it : It} {cd : Eo} (he : OkE W w k C elt) (ht : OkT W w k C t) (hi : OkI W w k C it) (hcd : OkB W w k C cd) : OkE W w k C (.comp own elt t it cd) := by
  intro cl S X EX e K h
  rw [chkE] at h; dsimp only at h
  split at h
  · rename_i el tg iter ifs scope pos
    obtain ⟨h, h8⟩ := and2 h
    obtain ⟨h, h7⟩ := and2 h
    obtain ⟨h, h6⟩ := and2 h
    obtain ⟨h, h5⟩ := and2 h
    obtain ⟨h, h4⟩ := and2 h
    obtain ⟨h, h3⟩ := and2 h
    obtain ⟨h1, h2⟩ := and2 h
    obtain ⟨h0, h1⟩ := and2 h1
    have hc0 := K.c0 h0
    subst hc0
    have hh := notB h1
    have hb : BlkOk X.N X.env.scope scope (ownP S own) := by rw [K.N, K.sc]; exact blkOk_by h2
    have eo : (ownP S own).map (·.2) = own := ownP_ix
    refine val3 K ?_ (fun _ => rfl) (fun _ _ _ z => nomatch z)
    have main := e_comp (W := W) (w := w) (EX := EX) (pos := pos) (ps := evI W.P C it) (f := evT W.P C t) (pc := evB W.P C cd) (pe := evE W.P C elt) (is := tgIs t) (K.cool hh).1 K.nd (hi noCl S X EX _ _ K h5) hb
      (fun s H Ca cll fp => ht _ _ _ _ _ (K.inner hh scope s H Ca cll fp) h6) (fun s H Ca cll fp => hcd _ _ _ _ _ (K.inner hh scope s H Ca cll fp) h7) (fun s H Ca cll fp => (he _ _ _ _ _ (K.inner hh scope s H Ca cll fp) h8).1) (noSet_ok h3 _) (by rw [eo]; exact sub_ok h4)
    rw [eo] at main
    exact main
  · cases h
theorem c_comp2 {own own2 : List Nat} {elt : E} {t t2 : Tg} {it it2 : It} {cd : Eo} (he : OkE W w k C elt) (ht : OkT W w k C t) (hi : OkI W w k C it) (ht2 : OkT W w k C t2) (hi2 : OkI W w k C it2) (hcd : OkB W w k C cd) : OkE W w k C (.comp2 own own2 elt t it t2 it2 cd) := by
  intro cl S X EX e K h
  rw [chkE] at h; dsimp only at h
  split at h
  · rename_i el tg iter tg2 iter2 ifs scope pos
    obtain ⟨h, h13⟩ := and2 h
    obtain ⟨h, h12⟩ := and2 h
    obtain ⟨h, h11⟩ := and2 h
    obtain ⟨h, h10⟩ := and2 h
    obtain ⟨h, h9⟩ := and2 h
    obtain ⟨h, h8⟩ := and2 h
    obtain ⟨h, h7⟩ := and2 h
    obtain ⟨h, h6⟩ := and2 h
    obtain ⟨h, h5⟩ := and2 h
    obtain ⟨h, h4⟩ := and2 h
    obtain ⟨h, h3⟩ := and2 h
    obtain ⟨h1, h2⟩ := and2 h
    obtain ⟨h0, h1⟩ := and2 h1
    have hc0 := K.c0 h0
    subst hc0
    have hh := notB h1
    have hb : BlkOk X.N X.env.scope scope (ownP S own) := by rw [K.N, K.sc]; exact blkOk_by h2
    have eo : (ownP S own).map (·.2) = own := ownP_ix
    refine val3 K ?_ (fun _ => rfl) (fun _ _ _ z => nomatch z)
    have main := e_comp2 (W := W) (w := w) (EX := EX) (pos := pos) (ps := evI W.P C it) (f := evT W.P C t) (ps1 := evI W.P C it2) (f1 := evT W.P C t2) (pc := evB W.P C cd) (pe := evE W.P C elt) (is := tgIs t) (is1 := tgIs t2) (own2 := own2) (K.cool hh).1 K.nd (hi noCl S X EX _ _ K h8) hb (by rw [eo]; exact sub_ok h7)
      (fun s H Ca cll fp => ht _ _ _ _ _ (K.inner hh scope s H Ca cll fp) h9) (fun s H Ca cll fp => hi2 _ _ _ _ _ _ (K.inner hh scope s H Ca cll fp) h10) (fun s H Ca cll fp => ht2 _ _ _ _ _ (K.inner hh scope s H Ca cll fp) h11) (fun s H Ca cll fp => hcd _ _ _ _ _ (K.inner hh scope s H Ca cll fp) h12)
      (fun s H Ca cll fp => (he _ _ _ _ _ (K.inner hh scope s H Ca cll fp) h13).1) (noSet_ok h3 _) (fun env => noSet_ok h4 env) (by rw [eo]; exact sub_ok h5) (sub_ok h6)
    rw [eo] at main
    exact main
  · cases h
theorem c_drp {p : E} (he : OkE W w k C p) : OkE W w k C (.drp p) := by
  intro cl S X EX e K h
  rw [chkE] at h; dsimp only at h
  split at h
  · obtain ⟨h1, h2⟩ := and2 h
    exact val3 K (e_drop (he noCl _ X EX _ (K.drop (notB h1)) h2).1) (fun _ => rfl) (fun _ _ _ z => nomatch z)
  · cases h
theorem any_free {l : List (Str × NameKind)} {y : Str} (h : (l.any fun z => z.1 == y && isFree z.2) = true) : (y, NameKind.free) ∈ l := by
  obtain ⟨⟨a, k⟩, hz, e⟩ := List.any_eq_true.mp h
  obtain ⟨e1, e2⟩ := and2 e
  have e1 : a = y := beq_iff_eq.mp e1
  subst e1
  cases k <;> first | exact hz | exact nomatch e2
theorem lam_ok (M : MkOk W X cl m) (hN : X.N = S.N) (hs : X.env.scope = S.sc) {f : Nat} {js : List Nat} {I : InnF} {pos : Pos} (h : lamB S m f js I pos = true) : LamF W X f I pos ∧ LamJ X cl I js ∧ parB I.params = true := by
  unfold lamB at h
  obtain ⟨h, h6⟩ := and2 h
  obtain ⟨h, h5⟩ := and2 h
  obtain ⟨h, h4⟩ := and2 h
  obtain ⟨h, h3⟩ := and2 h
  obtain ⟨h1, h2⟩ := and2 h
  have h3 := of_decide_eq_true h3
  have fre : ∀ y ∈ I.scope.names, y.2 = .free → S.sc.names.lookup y.1 = some .cell ∧ y.1 ∈ I.fr := fun y hy e => by
    have := List.all_eq_true.mp h4 y hy
    rw [e] at this
    obtain ⟨a, b⟩ := and2 (show ((match S.sc.names.lookup y.1 with | some .cell => true | _ => false) && I.fr.contains y.1) = true from this)
    refine ⟨?_, by simpa using b⟩
    split at a
    · assumption
    · cases a
  obtain ⟨c, P, t1, t2, t3, t4⟩ := M.tab
  refine ⟨⟨M.inn f I h1, ⟨c, P, m.pl, t1, t2, t3, beq_iff_eq.mp h2, t4⟩, fun y hy e => .inl (by rw [hs]; exact (fre y hy e).1), fun y => ⟨fun hy => any_free (List.all_eq_true.mp h5 y hy), fun hy => (fre _ hy rfl).2⟩⟩, ⟨M.own, fun y a k _ => absurd k (M.nof y), ?_, fun j y i e1 e2 => ?_⟩, h6⟩
  · have := congrArg List.length h3
    simpa using this
  · have := congrArg (fun l : List (Option Str) => l[j]?) h3
    simp only [List.getElem?_map, e1, e2, Option.map_some] at this
    rw [hN]
    exact Option.some.inj this
theorem par_dfl {p : Arguments} {env : PySem.Env} (h : parB p = true) : p.defaults = [] ∧ p.kw_defaults = [] ∧ defaultsOf p env = ([], []) := by
  unfold parB at h
  obtain ⟨h, h7⟩ := and2 h
  obtain ⟨h, h6⟩ := and2 h
  obtain ⟨h, h5⟩ := and2 h
  obtain ⟨h, h4⟩ := and2 h
  have a := List.isEmpty_iff.mp h6
  have b := List.isEmpty_iff.mp h4
  refine ⟨a, b, ?_⟩
  rw [defaultsOf_eq, a, b] <;> rfl
theorem c_lam (f : Nat) (js : List Nat) : OkE W w k C (.lam f js) := by
  intro cl S X EX e K h
  rw [chkE] at h; dsimp only at h
  split at h
  · rename_i params body scope pos m hm
    obtain ⟨h1, h2⟩ := and2 h
    have M := K.lk m hm
    obtain ⟨L, J, hp⟩ := lam_ok M K.N K.sc h2
    refine val3 K ?_ (fun _ => rfl) (fun _ _ _ z => nomatch z)
    exact e_lam (K.cool (notB h1)).2.ok L J rfl (by rw [M.q] <;> rfl) rfl rfl rfl (par_dfl hp).2.2
  · cases h
theorem c_bad {p : E} (h : ∀ S e, chkE p S e = false) : OkE W w k C p := fun cl S X EX e K z => by rw [h] at z; cases z
mutual
theorem snE : ∀ p : E, OkE W w k C p
  | .v i => c_v i
  | .drp e => c_drp (snE e)
  | .cst v => c_cst v
  | .glo g => c_glo g
  | .tup es => c_tup (snEs es)
  | .lst es => c_lst (snEs es)
  | .dic .nil => c_dic0
  | .dic (.cons _ _ _) => c_bad fun _ _ => rfl
  | .bin _ a b => c_bin (snE a) (snE b)
  | .cmp _ a b => c_cmp (snE a) (snE b)
  | .cmp2 _ _ a b c => c_cmp2 (snE a) (snE b) (snE c)
  | .and a b => c_and (snE a) (snE b)
  | .or a b => c_or (snE a) (snE b)
  | .not a => c_not (snE a)
  | .neg a => c_neg (snE a)
  | .ife c a b => c_ife (snE c) (snE a) (snE b)
  | .idx a b => c_idx (snE a) (snE b)
  | .sl a lo hi => c_sl (snE a) (snO lo) (snO hi)
  | .rev a => c_rev (snE a)
  | .attr a _ => c_attr (snE a)
  | .call _ es => c_call (snEs es)
  | .new _ es => c_new (snEs es)
  | .callv a es => c_callv (snE a) (snEs es)
  | .mcall a m es => c_mcall m (snE a) (snEs es)
  | .isi a _ => ck_isi (snE a)
  | .b1 _ a => c_b1 (snE a)
  | .b2 _ a c => c_b2 (snE a) (snE c)
  | .mk _ a => c_mk (snE a)
  | .mki _ _ => c_bad fun _ _ => rfl
  | .sortk _ _ => c_bad fun _ _ => rfl
  | .me1 _ a b => c_me1 (snE a) (snE b)
  | .me0 _ a => c_me0 (snE a)
  | .comp _ elt t it cd => c_comp (snE elt) (snT t) (snI it) (snB cd)
  | .comp2 _ _ elt t it t2 it2 cd => c_comp2 (snE elt) (snT t) (snI it) (snT t2) (snI it2) (snB cd)
  | .dcomp _ _ _ _ _ _ => c_bad fun _ _ => rfl
  | .dcomp2 _ _ _ _ _ _ _ _ => c_bad fun _ _ => rfl
  | .lam f js => c_lam f js
theorem snEs : ∀ p : Es, OkEs W w k C p
  | .nil => c_nil
  | .cons e es => c_cons (snE e) (snEs es)
theorem snO : ∀ p : Eo, OkO W w k C p
  | .none => c_onone
  | .some e => c_osome (snE e)
theorem snB : ∀ p : Eo, OkB W w k C p
  | .none => c_bnone
  | .some e => c_bsome (snE e)
theorem snI : ∀ p : It, OkI W w k C p
  | .e a => c_ie (snE a)
  | .r1 a => c_r1 (snE a)
  | .r2 a b => c_r2 (snE a) (snE b)
  | .en a => c_en (snE a)
  | .z2 a b => c_z2 (snE a) (snE b)
  | .r3 _ _ _ => fun _ _ _ _ _ _ _ h => nomatch h
  | .z3 _ _ _ => fun _ _ _ _ _ _ _ h => nomatch h
  | .items _ => fun _ _ _ _ _ _ _ h => nomatch h
  | .vals _ => fun _ _ _ _ _ _ _ h => nomatch h
theorem snT : ∀ p : Tg, OkT W w k C p
  | .v i => c_tv i
  | .tup ts => c_ttup (snTs ts)
  | .sub a i => c_tsub (snE a) (snE i)
  | .cv i => c_tcv i
  | .attr _ _ => fun _ _ _ _ _ _ h => nomatch h
theorem snTs : ∀ p : Tgs, OkTs W w k C p
  | .nil => c_tnil
  | .cons t ts => c_tcons (snT t) (snTs ts)
end
end
end Pyd
set_option Elab.async false
set_option linter.all false
set_option maxRecDepth 100000
set_option maxHeartbeats 1000000
namespace Pyd
open PySem PySem.Spec PyProof.Rows L2
def noCompB : Expr → Bool
  | .ListComp .. => false
  | .SetComp .. => false
  | .DictComp .. => false
  | _ => true
def isTupB : Expr → Bool
  | .Tuple .. => true
  | _ => false
def isListB : Expr → Bool
  | .List .. => true
  | _ => false
def isNameB : Expr → Bool
  | .Name .. => true
  | _ => false
def starB : Expr → Bool
  | .Starred .. => true
  | _ => false
def locB (S : Sc) (x : Str) : Bool := match S.sc.names.lookup x with
  | some .local => true
  | _ => false
def swapC (S : Sc) (y : Str) (py : Pos) (pos : Pos) (scope : Scope) : Bool :=
  locB S y && (py.line == pos.line) && !(scope.names.any fun (n, k) => n == y && (k == .local || k == .cell))
def plainAsgB (tg x : Expr) : Bool :=
  (noCompB x || !isNameB tg) && !starB tg && !((isTupB tg || isListB tg) && isTupB x && !(match x with
    | .Tuple vs _ _ => vs.all (foldedForSure 8)
    | _ => false))
def compE : E → Bool
  | .comp _ _ _ _ _ => true
  | .comp2 _ _ _ _ _ _ _ _ => true
  | _ => false
def augB : Bop → Operator → Bool
  | .add, .Add => true
  | .sub, .Sub => true
  | _, _ => false
def par2B (S : Sc) (i j : Nat) (x y : Str) (px py : Pos) (es : List Expr) : Bool :=
  (S.N[i]? == some x) && (S.N[j]? == some y) && !(i == j) && locB S x && locB S y && (py.line == px.line) && decide ([x, y].eraseDups.length = 2) && !(es.any starB) && !(es.all (foldedForSure 8)) && !(es.all (constantsAlone 8))
def par3B (S : Sc) (i j l : Nat) (x y z : Str) (px py pz : Pos) (es : List Expr) : Bool :=
  (S.N[i]? == some x) && (S.N[j]? == some y) && (S.N[l]? == some z) && !(i == j) && !(i == l) && !(j == l) && locB S x && locB S y && locB S z && (py.line == px.line) && (pz.line == px.line) && decide ([x, y, z].eraseDups.length = 3) && !(es.any starB) && !(es.all (foldedForSure 8)) && !(es.all (constantsAlone 8))
mutual
def chkS : St → Sc → Stmt → Bool
  | .pass => fun _ s => match s with
    | .Pass _ => true
    | _ => false
  | .brk => fun _ s => match s with
    | .Break _ => true
    | _ => false
  | .cont => fun _ s => match s with
    | .Continue _ => true
    | _ => false
  | .ex e => fun S s => match s with
    | .Expr x _ => noCompB x && chkE e S x
    | _ => false
  | .asg t e => fun S s => match s with
    | .Assign [tg] x _ => (plainAsgB tg x && chkE e S x && chkT t S tg) || (match t, tg, x with
      | .v i, .Name y py, .ListComp _ _ scope pos => swapC S y py pos scope && (S.N[i]? == some y) && (match e with
        | .drp e => compE e && !S.hot && chkE e { S with c0 := true, lk := none } x
        | e => compE e && chkE e S x)
      | _, _, _ => false)
    | _ => false
  | .par is es => fun S s => match is, s with
    | [i, j], .Assign [.Tuple [.Name x px, .Name y py] _ _] (.Tuple [a, b] _ _) _ => !S.hot && par2B S i j x y px py [a, b] && chkEs es S [a, b]
    | [i, j, l], .Assign [.Tuple [.Name x px, .Name y py, .Name z pz] _ _] (.Tuple [a, b, c] _ _) _ => !S.hot && par3B S i j l x y z px py pz [a, b, c] && chkEs es S [a, b, c]
    | _, _ => false
  | .augv i op e => fun S s => match s with
    | .AugAssign (.Name x _) o y _ => augB op o && stoV S i x && chkE e S y
    | _ => false
  | .asga a f e => fun S s => match s with
    | .Assign [.Attribute o n _] x _ => (n == S.nm.an f) && chkE a S o && chkE e S x
    | _ => false
  | .ret e => fun S s => match s with
    | .Return (some x) _ => chkE e S x
    | _ => false
  | .retN => fun _ s => match s with
    | .Return none _ => true
    | _ => false
  | .ifs c a b => fun S s => match s with
    | .If x y z _ => notIfe c && chkE c S x && chkSs a S y && chkSs b S z
    | _ => false
  | .for_ t it b => fun S s => match s with
    | .For tg iter body [] _ => !S.hot && noSetB iter && chkI it S iter tg && chkT t S tg && chkSs b S body
    | _ => false
  | .while_ c b => fun S s => match s with
    | .While x body [] _ => !S.hot && notIfe c && chkE c S x && chkSs b S body
    | _ => false
  | .raise c .none => fun S s => match s with
    | .Raise (some (.Call (.Name x _) [] [] _)) none _ => !S.hot && (x == S.nm.cn c) && glB S x && ndB x && (match S.P.cl c with
      | some q => q.exc && q.fields.isEmpty
      | none => false)
    | _ => false
  | .raise c (.some e) => fun S s => match s with
    | .Raise (some (.Call (.Name x _) [y] [] _)) none _ => !S.hot && (x == S.nm.cn c) && glB S x && ndB x && plainArgs [y] && (match S.P.cl c with
      | some q => q.exc && decide (q.fields.length = 1)
      | none => false) && chkE e S y
    | _ => false
  | .try_ tk e c i b => fun S s => match s with
    | .Try [st] [.ExceptHandler (some (.Name x _)) (some n) (b0 :: bs) _] [] [] _ => !S.hot && (x == S.nm.cn c) && glB S x && ndB x && (match S.P.cl c with
      | some q => q.exc
      | none => false) && (S.N[i]? == some n) && locB S n && (match tk, st with
      | .ex, .Expr y _ => noCompB y && chkE e S y
      | .ret, .Return (some y) _ => chkE e S y
      | .asg j, .Assign [.Name z _] y _ => noCompB y && stoV S j z && chkE e S y
      | _, _ => false) && chkSs b { S with hot := true, lk := none } (b0 :: bs)
    | _ => false
  | .augs _ _ _ _ => fun _ _ => false
  | .auga _ _ _ _ => fun _ _ => false
  | .fn t f js => fun S s => match s, S.lk with
    | .FunctionDef name params body [] none [] scope none bnd pos, some m => !S.hot && (bnd == name) && lamB S m f js (innS m f name params body scope) pos && (match t with
      | .v i => stoV S i name
      | .cv i => stoB S i name
      | _ => false)
    | _, _ => false
def chkSs : Sts → Sc → List Stmt → Bool
  | .nil => fun _ ss => match ss with
    | [] => true
    | _ => false
  | .cons s r => fun S ss => match ss with
    | x :: y => chkS s S x && chkSs r S y
    | _ => false
end
end Pyd
set_option Elab.async false
set_option linter.all false
set_option maxRecDepth 100000
set_option maxHeartbeats 1000000
namespace Pyd
open PySem PySem.Spec PyProof.Rows L2
theorem drop_ok {x : Expr} {line : Nat} {env : PySem.Env} (h : noCompB x = true) : swapsWith x none line env = pure false := by
  cases x <;> first | rfl | exact nomatch h
theorem sole_ok {tg x : Expr} {line : Nat} {env : PySem.Env} (h : (noCompB x || !isNameB tg) = true) : swapsWithSole [tg] x line env = pure false := by
  cases x <;> first | rfl | (cases tg <;> first | rfl | exact nomatch h)
theorem each_one {tg : Expr} {env : PySem.Env} (h : starB tg = false) : (assignEach [tg] env).map (·.2) = [assign tg env] := by
  cases tg <;> first | rfl | exact nomatch h
theorem stores_folded {ts vs : List Expr} {k2 : Nat} {p1 p2 : Pos} {env : PySem.Env} (hf : vs.all (foldedForSure 8) = true) : ∀ k, swappedStores [.Tuple ts k p1] (.Tuple vs k2 p2) env = pure none := by
  intro k
  unfold swappedStores
  simp only [hf, if_true]
  repeat (first | rfl | split)
theorem stores_foldedL {ts vs : List Expr} {k2 : Nat} {p1 p2 : Pos} {env : PySem.Env} (hf : vs.all (foldedForSure 8) = true) : swappedStores [.List ts p1] (.Tuple vs k2 p2) env = pure none := by
  unfold swappedStores
  simp only [hf, if_true]
  repeat (first | rfl | split)
theorem stores_ok {tg x : Expr} {env : PySem.Env} (h : (!((isTupB tg || isListB tg) && isTupB x && !(match x with
    | .Tuple vs _ _ => vs.all (foldedForSure 8)
    | _ => false))) = true) : swappedStores [tg] x env = pure none := by
  cases x with
  | Tuple vs k2 p2 =>
    cases tg with
    | Tuple ts k p => exact stores_folded (by simpa [isTupB, isListB] using h) k
    | List ts p => exact stores_foldedL (by simpa [isTupB, isListB] using h)
    | _ => rfl
  | _ => cases tg <;> rfl
theorem asga_sw {x o : Expr} {n : Str} {p : Pos} {line : Nat} {env : PySem.Env} : swapsWith x (some (.Attribute o n p)) line env = pure false := by
  cases x <;> rfl
theorem sole_tup {ts : List Expr} {k : Nat} {p : Pos} {x : Expr} {line : Nat} {env : PySem.Env} : swapsWithSole [.Tuple ts k p] x line env = pure false := by
  cases x <;> rfl
theorem par2_sw {x y : Str} {px py pt p2 : Pos} {kt k2 : Nat} {a b : Expr} {env : PySem.Env} (hk : env.scope.kind = .function) (hx : env.scope.names.lookup x = some .local) (hy : env.scope.names.lookup y = some .local) (hl : (py.line == px.line) = true) (hd : [x, y].eraseDups.length = 2)
    (h1 : [a, b].any starB = false) (h2 : [a, b].all (foldedForSure 8) = false) (h3 : [a, b].all (constantsAlone 8) = false) : swappedStores [.Tuple [.Name x px, .Name y py] kt pt] (.Tuple [a, b] k2 p2) env = pure (some [x, y]) := by
  have eb : (env.blockKind != .function) = false := by
    unfold Env.blockKind
    rw [hk]; rfl
  have ex : env.kindOf x = some .local := hx
  have ey : env.kindOf y = some .local := hy
  unfold swappedStores
  dsimp only [Expr.pos, List.head?_cons, Option.map_some, Option.getD_some]
  simp only [List.filterMap_cons, ex, ey, hl, beq_self_eq_true, Bool.and_self, if_true, List.filterMap_nil]
  refine (if_neg ?_).trans ((if_neg ?_).trans ((if_neg ?_).trans ((if_neg ?_).trans (if_neg ?_))))
  · rw [eb]; exact Bool.false_ne_true
  · intro z
    rw [List.any_eq_true] at z
    obtain ⟨e, he, hz⟩ := z
    have : starB e = true := by cases e <;> first | rfl | exact hz
    have := List.any_eq_true.mpr ⟨e, he, this⟩
    rw [h1] at this
    cases this
  · rw [hd]; exact Bool.false_ne_true
  · rw [h2]; exact Bool.false_ne_true
  · rw [h3]; exact Bool.false_ne_true
theorem par3_sw {x y z : Str} {px py pz pt p2 : Pos} {kt k2 : Nat} {a b c : Expr} {env : PySem.Env} (hk : env.scope.kind = .function) (hx : env.scope.names.lookup x = some .local) (hy : env.scope.names.lookup y = some .local) (hz : env.scope.names.lookup z = some .local) (hl : (py.line == px.line) = true) (hl2 : (pz.line == px.line) = true) (hd : [x, y, z].eraseDups.length = 3)
    (h1 : [a, b, c].any starB = false) (h2 : [a, b, c].all (foldedForSure 8) = false) (h3 : [a, b, c].all (constantsAlone 8) = false) : swappedStores [.Tuple [.Name x px, .Name y py, .Name z pz] kt pt] (.Tuple [a, b, c] k2 p2) env = pure (some [x, y, z]) := by
  have eb : (env.blockKind != .function) = false := by
    unfold Env.blockKind
    rw [hk]; rfl
  have ex : env.kindOf x = some .local := hx
  have ey : env.kindOf y = some .local := hy
  have ez : env.kindOf z = some .local := hz
  unfold swappedStores
  dsimp only [Expr.pos, List.head?_cons, Option.map_some, Option.getD_some]
  simp only [List.filterMap_cons, ex, ey, ez, hl, hl2, beq_self_eq_true, Bool.and_self, if_true, List.filterMap_nil]
  refine (if_neg ?_).trans ((if_neg ?_).trans ((if_neg ?_).trans ((if_neg ?_).trans (if_neg ?_))))
  · rw [eb]; exact Bool.false_ne_true
  · intro z
    rw [List.any_eq_true] at z
    obtain ⟨e, he, hz⟩ := z
    have : starB e = true := by cases e <;> first | rfl | exact hz
    have := List.any_eq_true.mpr ⟨e, he, this⟩
    rw [h1] at this
    cases this
  · rw [hd]; exact Bool.false_ne_true
  · rw [h2]; exact Bool.false_ne_true
  · rw [h3]; exact Bool.false_ne_true
end Pyd
set_option Elab.async false
set_option linter.all false
set_option maxRecDepth 100000
set_option maxHeartbeats 1000000
namespace Pyd
open PySem PySem.Spec PyProof.Rows L2
section
variable (W : Wd) (w : World) (cl : FC) (k : Nat)
structure CtxS (C : Orc) (S : Sc) (X : Cx) (EX : WX) : Prop where
  b : Ctx W w cl k C S X EX
  kd : S.sc.kind = .function
  rm : S.hot = false → RoomG 3 X.A
  cool : S.hot = false → PassesOwn (model X.prog X.w) X.A X.env X.xe ∧ Takes X EX ∧ X.stack = X.env :: X.outer ∧ X.env.frame = some X.env.locals ∧ X.ex = []
def OkS (p : St) : Prop := ∀ (C : Orc) (S : Sc) (X : Cx) (EX : WX) (s : Stmt), CtxS W w cl k C S X EX → chkS p S s = true → PS X s (tS W w cl EX (exS W.P p C))
def OkSs (p : Sts) : Prop := ∀ (C : Orc) (S : Sc) (X : Cx) (EX : WX) (ss : List Stmt), CtxS W w cl k C S X EX → chkSs p S ss = true → PSs X ss (tS W w cl EX (exSs W.P p C))
end
section
variable {W : Wd} {w : World} {cl : FC} {k : Nat} {C : Orc} {S : Sc} {X : Cx} {EX : WX}
theorem loc_ok (K : Ctx W w cl k C S X EX) {x : Str} (h : locB S x = true) : X.env.scope.names.lookup x = some .local := by
  unfold locB at h
  rw [K.sc]
  split at h
  · assumption
  · cases h
theorem sto_ok (K : Ctx W w cl k C S X EX) {i : Nat} {x : Str} (h : stoB S i x = true) : X.N[i]? = some x ∧ L2.Loc X.env.scope x ∧ (X.fn x = true ∨ X.env.scope.names.lookup x = some .local) := by
  unfold stoB at h
  obtain ⟨h1, h2⟩ := and2 h
  refine ⟨by rw [K.N]; exact beq_iff_eq.mp h1, ?_⟩
  split at h2
  · rename_i hl
    rw [← K.sc] at hl
    exact ⟨.inl hl, .inr hl⟩
  · rename_i hl
    rw [← K.sc] at hl
    exact ⟨.inr hl, .inl (K.fn x h2)⟩
  · cases h2
theorem ix_n (K : Ctx W w cl k C S X EX) {i : Nat} {x : Str} (h : (S.N[i]? == some x) = true) : X.N[i]? = some x := by rw [K.N]; exact beq_iff_eq.mp h
theorem nc_ok (K : Ctx W w cl k C S X EX) {i : Nat} {x : Str} (h : (S.N[i]? == some x) = true) (h2 : locB S x = true) : NoCell cl i :=
  K.loc (beq_iff_eq.mp h) (.inr (by
    unfold locB at h2
    split at h2
    · assumption
    · cases h2))
theorem k_pass : OkS W w cl k .pass := by
  intro C S X EX s K h
  rw [chkS] at h; dsimp only at h
  split at h
  · exact s_pass
  · cases h
theorem k_brk : OkS W w cl k .brk := by
  intro C S X EX s K h
  rw [chkS] at h; dsimp only at h
  split at h
  · exact s_brk
  · cases h
theorem k_cont : OkS W w cl k .cont := by
  intro C S X EX s K h
  rw [chkS] at h; dsimp only at h
  split at h
  · exact s_cont
  · cases h
theorem k_ex (e : E) : OkS W w cl k (.ex e) := by
  intro C S X EX s K h
  rw [chkS] at h; dsimp only at h
  split at h
  · obtain ⟨h1, h2⟩ := and2 h
    exact s_ex (snE e cl S X EX _ K.b h2).1 (drop_ok h1)
  · cases h
theorem k_ret (e : E) : OkS W w cl k (.ret e) := by
  intro C S X EX s K h
  rw [chkS] at h; dsimp only at h
  split at h
  · exact s_ret (snE e cl S X EX _ K.b h).1
  · cases h
theorem k_retN : OkS W w cl k .retN := by
  intro C S X EX s K h
  rw [chkS] at h; dsimp only at h
  split at h
  · exact s_retN
  · cases h
theorem comp_c0 {e : E} {el : Expr} {gs : List Comprehension} {scope : Scope} {lpos : Pos} (h1 : compE e = true) (h4 : chkE e S (.ListComp el gs scope lpos) = true) : S.c0 = true := by
  cases e with
  | comp own elt t' it cd =>
    rw [chkE] at h4; dsimp only at h4
    split at h4
    · obtain ⟨h, h8⟩ := and2 h4
      obtain ⟨h, h7⟩ := and2 h
      obtain ⟨h, h6⟩ := and2 h
      obtain ⟨h, h5⟩ := and2 h
      obtain ⟨h, h4⟩ := and2 h
      obtain ⟨h, h3⟩ := and2 h
      obtain ⟨h1, h2⟩ := and2 h
      exact (and2 h1).1
    · cases h4
  | comp2 own own2 elt t' it t2 it2 cd =>
    rw [chkE] at h4; dsimp only at h4
    split at h4
    · obtain ⟨h, h13⟩ := and2 h4
      obtain ⟨h, h12⟩ := and2 h
      obtain ⟨h, h11⟩ := and2 h
      obtain ⟨h, h10⟩ := and2 h
      obtain ⟨h, h9⟩ := and2 h
      obtain ⟨h, h8⟩ := and2 h
      obtain ⟨h, h7⟩ := and2 h
      obtain ⟨h, h6⟩ := and2 h
      obtain ⟨h, h5⟩ := and2 h
      obtain ⟨h, h4⟩ := and2 h
      obtain ⟨h, h3⟩ := and2 h
      obtain ⟨h1, h2⟩ := and2 h
      exact (and2 h1).1
    · cases h4
  | _ => cases h1
theorem asg_comp (K : Ctx W w noCl k C S X EX) {e : E} {i : Nat} {y : Str} {py pos : Pos} {el : Expr} {gs : List Comprehension} {scope : Scope} {lpos : Pos} (h1 : compE e = true) (h4 : chkE e S (.ListComp el gs scope lpos) = true)
    (hy : X.N[i]? = some y) (ly : X.env.scope.names.lookup y = some .local) (hsw : swapsWith (.ListComp el gs scope lpos) (some (.Name y py)) pos.line X.env = pure true) :
    PS X (.Assign [.Name y py] (.ListComp el gs scope lpos) pos) (tS W w noCl EX (exS W.P (.asg (.v i) e) C)) ∧ ∀ cl, NoCell cl i → PS X (.Assign [.Name y py] (.ListComp el gs scope lpos) pos) (tS W w cl EX (exS W.P (.asg (.v i) (.drp e)) C)) := by
  cases e with
  | comp own elt t' it cd =>
    rw [chkE] at h4; dsimp only at h4
    split at h4
    · rename_i el' tg' iter ifs scope' pos' heq
      cases heq
      obtain ⟨h, h8⟩ := and2 h4
      obtain ⟨h, h7⟩ := and2 h
      obtain ⟨h, h6⟩ := and2 h
      obtain ⟨h, h5⟩ := and2 h
      obtain ⟨h, h4⟩ := and2 h
      obtain ⟨h, h3⟩ := and2 h
      obtain ⟨h1, h2⟩ := and2 h
      have hh := notB (and2 h1).2
      have hb : BlkOk X.N X.env.scope scope (ownP S own) := by rw [K.N, K.sc]; exact blkOk_by h2
      have eo : (ownP S own).map (·.2) = own := ownP_ix
      have m1 := s_asgLc (W := W) (w := w) (EX := EX) (ps := evI W.P C it) (f := evT W.P C t') (pc := evB W.P C cd) (pe := evE W.P C elt) (is := tgIs t') (K.cool hh).1 K.nd hy ly hsw (snI it _ S X EX _ _ K h5) hb
        (fun s H Ca cll fp => snT t' _ _ _ _ _ (K.inner hh scope s H Ca cll fp) h6) (fun s H Ca cll fp => snB cd _ _ _ _ _ (K.inner hh scope s H Ca cll fp) h7) (fun s H Ca cll fp => (snE elt _ _ _ _ _ (K.inner hh scope s H Ca cll fp) h8).1) (noSet_ok h3 _) (by rw [eo]; exact sub_ok h4)
      have m2 := fun (cl : FC) (hnc : NoCell cl i) => s_asgLcD (W := W) (w := w) (cl := cl) (EX := EX) (ps := evI W.P C it) (f := evT W.P C t') (pc := evB W.P C cd) (pe := evE W.P C elt) (is := tgIs t') (K.cool hh).1 K.nd hy ly hnc hsw (snI it _ S X EX _ _ K h5) hb
        (fun s H Ca cll fp => snT t' _ _ _ _ _ (K.inner hh scope s H Ca cll fp) h6) (fun s H Ca cll fp => snB cd _ _ _ _ _ (K.inner hh scope s H Ca cll fp) h7) (fun s H Ca cll fp => (snE elt _ _ _ _ _ (K.inner hh scope s H Ca cll fp) h8).1) (noSet_ok h3 _) (by rw [eo]; exact sub_ok h4)
      rw [eo] at m1 m2
      exact ⟨m1, m2⟩
    · cases h4
  | comp2 own own2 elt t' it t2 it2 cd =>
    rw [chkE] at h4; dsimp only at h4
    split at h4
    · rename_i el' tg' iter tg2 iter2 ifs scope' pos' heq
      cases heq
      obtain ⟨h, h13⟩ := and2 h4
      obtain ⟨h, h12⟩ := and2 h
      obtain ⟨h, h11⟩ := and2 h
      obtain ⟨h, h10⟩ := and2 h
      obtain ⟨h, h9⟩ := and2 h
      obtain ⟨h, h8⟩ := and2 h
      obtain ⟨h, h7⟩ := and2 h
      obtain ⟨h, h6⟩ := and2 h
      obtain ⟨h, h5⟩ := and2 h
      obtain ⟨h, h4⟩ := and2 h
      obtain ⟨h, h3⟩ := and2 h
      obtain ⟨h1, h2⟩ := and2 h
      have hh := notB (and2 h1).2
      have hb : BlkOk X.N X.env.scope scope (ownP S own) := by rw [K.N, K.sc]; exact blkOk_by h2
      have eo : (ownP S own).map (·.2) = own := ownP_ix
      have m1 := s_asgLc2 (W := W) (w := w) (EX := EX) (ps := evI W.P C it) (f := evT W.P C t') (ps1 := evI W.P C it2) (f1 := evT W.P C t2) (pc := evB W.P C cd) (pe := evE W.P C elt) (is := tgIs t') (is1 := tgIs t2) (own2 := own2) (K.cool hh).1 K.nd hy ly hsw (snI it _ S X EX _ _ K h8) hb (by rw [eo]; exact sub_ok h7)
        (fun s H Ca cll fp => snT t' _ _ _ _ _ (K.inner hh scope s H Ca cll fp) h9) (fun s H Ca cll fp => snI it2 _ _ _ _ _ _ (K.inner hh scope s H Ca cll fp) h10) (fun s H Ca cll fp => snT t2 _ _ _ _ _ (K.inner hh scope s H Ca cll fp) h11) (fun s H Ca cll fp => snB cd _ _ _ _ _ (K.inner hh scope s H Ca cll fp) h12)
        (fun s H Ca cll fp => (snE elt _ _ _ _ _ (K.inner hh scope s H Ca cll fp) h13).1) (noSet_ok h3 _) (fun env => noSet_ok h4 env) (by rw [eo]; exact sub_ok h5) (sub_ok h6)
      have m2 := fun (cl : FC) (hnc : NoCell cl i) => s_asgLc2D (W := W) (w := w) (cl := cl) (EX := EX) (ps := evI W.P C it) (f := evT W.P C t') (ps1 := evI W.P C it2) (f1 := evT W.P C t2) (pc := evB W.P C cd) (pe := evE W.P C elt) (is := tgIs t') (is1 := tgIs t2) (own2 := own2) (K.cool hh).1 K.nd hy ly hnc hsw (snI it _ S X EX _ _ K h8) hb (by rw [eo]; exact sub_ok h7)
        (fun s H Ca cll fp => snT t' _ _ _ _ _ (K.inner hh scope s H Ca cll fp) h9) (fun s H Ca cll fp => snI it2 _ _ _ _ _ _ (K.inner hh scope s H Ca cll fp) h10) (fun s H Ca cll fp => snT t2 _ _ _ _ _ (K.inner hh scope s H Ca cll fp) h11) (fun s H Ca cll fp => snB cd _ _ _ _ _ (K.inner hh scope s H Ca cll fp) h12)
        (fun s H Ca cll fp => (snE elt _ _ _ _ _ (K.inner hh scope s H Ca cll fp) h13).1) (noSet_ok h3 _) (fun env => noSet_ok h4 env) (by rw [eo]; exact sub_ok h5) (sub_ok h6)
      rw [eo] at m1 m2
      exact ⟨m1, m2⟩
    · cases h4
  | _ => cases h1
theorem k_asga (a : E) (f : Nat) (e : E) : OkS W w cl k (.asga a f e) := by
  intro C S X EX s K h
  rw [chkS] at h; dsimp only at h
  split at h
  · obtain ⟨h, h3⟩ := and2 h
    obtain ⟨h1, h2⟩ := and2 h
    cases eqB h1
    rw [K.b.nm]
    exact s_asga K.b.G K.b.F.ok (snE e cl S X EX _ K.b h3).1 (snE a cl S X EX _ K.b h2).1 asga_sw
  · cases h
theorem k_augv (i : Nat) (op : Bop) (e : E) : OkS W w cl k (.augv i op e) := by
  intro C S X EX s K h
  rw [chkS] at h; dsimp only at h
  split at h
  · obtain ⟨h, h3⟩ := and2 h
    obtain ⟨h1, h2⟩ := and2 h
    obtain ⟨a1, a2, a3⟩ := sto_ok K.b (and2 h2).1
    refine s_augv ?_ K.b.nd a1 a2 a3 (K.b.sto h2) (snE e cl S X EX _ K.b h3).1
    unfold augB at h1
    split at h1
    · exact .inl ⟨rfl, rfl⟩
    · exact .inr ⟨rfl, rfl⟩
    · cases h1
  · cases h
theorem k_ifs (c : E) {a b : Sts} (ha : OkSs W w cl k a) (hb : OkSs W w cl k b) : OkS W w cl k (.ifs c a b) := by
  intro C S X EX s K h
  rw [chkS] at h; dsimp only at h
  split at h
  · obtain ⟨h, h4⟩ := and2 h
    obtain ⟨h, h3⟩ := and2 h
    obtain ⟨h1, h2⟩ := and2 h
    exact s_if ((snE c cl S X EX _ K.b h2).2.1 h1) (ha C S X EX _ K h3) (hb C S X EX _ K h4)
  · cases h
theorem k_for (t : Tg) (it : It) {b : Sts} (hb : OkSs W w cl k b) : OkS W w cl k (.for_ t it b) := by
  intro C S X EX s K h
  rw [chkS] at h; dsimp only at h
  split at h
  · obtain ⟨h, h5⟩ := and2 h
    obtain ⟨h, h4⟩ := and2 h
    obtain ⟨h, h3⟩ := and2 h
    obtain ⟨h1, h2⟩ := and2 h
    exact s_for (K.cool (notB h1)).1 (K.b.cool (notB h1)).1 (snI it cl S X EX _ _ K.b h3) (snT t cl S X EX _ K.b h4) (hb C S X EX _ K h5) (noSet_ok h2 _)
  · cases h
theorem k_while (c : E) {b : Sts} (hb : OkSs W w cl k b) : OkS W w cl k (.while_ c b) := by
  intro C S X EX s K h
  rw [chkS] at h; dsimp only at h
  split at h
  · obtain ⟨h, h4⟩ := and2 h
    obtain ⟨h, h3⟩ := and2 h
    obtain ⟨h1, h2⟩ := and2 h
    exact s_while (K.cool (notB h1)).1 ((snE c cl S X EX _ K.b h3).2.1 h2) (hb C S X EX _ K h4)
  · cases h
theorem k_nil : OkSs W w cl k .nil := by
  intro C S X EX ss K h
  rw [chkSs] at h; dsimp only at h
  split at h
  · exact s_nil
  · cases h
theorem k_cons {s : St} {r : Sts} (hs : OkS W w cl k s) (hr : OkSs W w cl k r) : OkSs W w cl k (.cons s r) := by
  intro C S X EX ss K h
  rw [chkSs] at h; dsimp only at h
  split at h
  · obtain ⟨h1, h2⟩ := and2 h
    exact s_seq (hs C S X EX _ K h1) (hr C S X EX _ K h2)
  · cases h
theorem k_raise0 (c : Nat) : OkS W w cl k (.raise c .none) := by
  intro C S X EX s K h
  rw [chkS] at h; dsimp only at h
  split at h
  · obtain ⟨h, h5⟩ := and2 h
    obtain ⟨h, h4⟩ := and2 h
    obtain ⟨h, h3⟩ := and2 h
    obtain ⟨h1, h2⟩ := and2 h
    cases eqB h2
    have g := K.b.gl h3
    have n := nd_ok h4
    rw [K.b.P] at h5
    rw [K.b.nm] at g n ⊢
    cases hq : W.P.cl c with
    | none => rw [hq] at h5; cases h5
    | some q =>
      rw [hq] at h5
      obtain ⟨q1, q2⟩ := and2 h5
      have q2 : q.fields = [] := List.isEmpty_iff.mp q2
      obtain ⟨Ca, f, fd, self, m, M, B, F⟩ := K.b.F.er0 c q hq q1 q2
      have F1 := F X.prog X.w X.base
      rw [← K.b.G.K, ← K.b.G.mg] at F1
      exact s_raise0 K.b.G (K.b.cool (notB h1)).1 (K.cool (notB h1)).2.1 hq q1 q2 m M F1 (K.rm (notB h1)).r (by rw [K.b.G.K]; exact B) g n
  · cases h
theorem k_raise1 (c : Nat) (e : E) : OkS W w cl k (.raise c (.some e)) := by
  intro C S X EX s K h
  rw [chkS] at h; dsimp only at h
  split at h
  · obtain ⟨h, h7⟩ := and2 h
    obtain ⟨h, h6⟩ := and2 h
    obtain ⟨h, h5⟩ := and2 h
    obtain ⟨h, h4⟩ := and2 h
    obtain ⟨h, h3⟩ := and2 h
    obtain ⟨h1, h2⟩ := and2 h
    cases eqB h2
    have g := K.b.gl h3
    have n := nd_ok h4
    have A := (snE e cl S X EX _ K.b h7).1
    rw [K.b.P] at h6
    rw [K.b.nm] at g n ⊢
    cases hq : W.P.cl c with
    | none => rw [hq] at h6; cases h6
    | some q =>
      rw [hq] at h6
      obtain ⟨q1, q2⟩ := and2 h6
      have q2 : q.fields.length = 1 := of_decide_eq_true q2
      obtain ⟨fld, q2⟩ := List.length_eq_one_iff.mp q2
      obtain ⟨Ca, f, fd, self, arg, m, M, no, B, F⟩ := K.b.F.er1 c q fld hq q1 q2
      have F1 := F X.prog X.w X.base
      rw [← K.b.G.K, ← K.b.G.mg] at F1
      exact s_raise1 K.b.G (K.b.cool (notB h1)).1 (K.cool (notB h1)).2.1 hq q1 q2 m M no F1 (K.rm (notB h1)).r (by rw [K.b.G.K]; exact B) g n h5 A
  · cases h
theorem k_bad {p : St} (h : ∀ S s, chkS p S s = false) : OkS W w cl k p := fun C S X EX s K z => by rw [h] at z; cases z
theorem k_asg (t : Tg) (e : E) : OkS W w cl k (.asg t e) := by
  intro C S X EX s K h
  rw [chkS] at h; dsimp only at h
  split at h
  · rename_i tg x pos
    rw [Bool.or_eq_true] at h
    rcases h with h | h
    · obtain ⟨h, h3⟩ := and2 h
      obtain ⟨h1, h2⟩ := and2 h
      unfold plainAsgB at h1
      obtain ⟨h1, h6⟩ := and2 h1
      obtain ⟨h4, h5⟩ := and2 h1
      exact s_asg (snE e cl S X EX _ K.b h2).1 (snT t cl S X EX _ K.b h3) (sole_ok h4) (stores_ok h6) (each_one (notB h5))
    · split at h
      · rename_i i y py el gs scope lpos
        obtain ⟨h, h4⟩ := and2 h
        obtain ⟨h2, h3⟩ := and2 h
        unfold swapC at h2
        obtain ⟨h2, s3⟩ := and2 h2
        obtain ⟨s1, s2⟩ := and2 h2
        have ly := loc_ok K.b s1
        have hk : X.env.scope.kind = .function := by rw [K.b.sc]; exact K.kd
        have hy := ix_n K.b h3
        have hsw : swapsWith (.ListComp el gs scope lpos) (some (.Name y py)) pos.line X.env = pure true := sw_true hk ly s2 (notB s3)
        split at h4
        · rename_i e'
          obtain ⟨h4, h5⟩ := and2 h4
          obtain ⟨h1, hh⟩ := and2 h4
          exact (asg_comp (K.b.drop (notB hh)) h1 h5 hy ly hsw).2 cl (K.b.loc (beq_iff_eq.mp h3) (.inr (by rw [← K.b.sc]; exact ly)))
        · obtain ⟨h1, h5⟩ := and2 h4
          have h0 : S.c0 = true := comp_c0 h1 h5
          have hc0 := K.b.c0 h0
          subst hc0
          exact (asg_comp K.b h1 h5 hy ly hsw).1
      · cases h
  · cases h
theorem beqN {i j : Nat} (h : (!(i == j)) = true) : i ≠ j := by simpa using h
theorem k_par (is : List Nat) (es : Es) : OkS W w cl k (.par is es) := by
  intro C S X EX s K h
  rw [chkS] at h; dsimp only at h
  split at h
  · obtain ⟨h, h3⟩ := and2 h
    obtain ⟨h1, h2⟩ := and2 h
    unfold par2B at h2
    obtain ⟨h2, a10⟩ := and2 h2
    obtain ⟨h2, a9⟩ := and2 h2
    obtain ⟨h2, a8⟩ := and2 h2
    obtain ⟨h2, a7⟩ := and2 h2
    obtain ⟨h2, a6⟩ := and2 h2
    obtain ⟨h2, a5⟩ := and2 h2
    obtain ⟨h2, a4⟩ := and2 h2
    obtain ⟨h2, a3⟩ := and2 h2
    obtain ⟨a1, a2⟩ := and2 h2
    have hk : X.env.scope.kind = .function := by rw [K.b.sc]; exact K.kd
    exact s_par2 (K.b.cool (notB h1)).1 K.b.nd (ix_n K.b a1) (ix_n K.b a2) (beqN a3) (loc_ok K.b a4) (loc_ok K.b a5) (nc_ok K.b a1 a4) (nc_ok K.b a2 a5) (snEs es cl S X EX _ K.b h3).1
      (par2_sw hk (loc_ok K.b a4) (loc_ok K.b a5) a6 (of_decide_eq_true a7) (notB a8) (notB a9) (notB a10)) sole_tup
  · obtain ⟨h, h3⟩ := and2 h
    obtain ⟨h1, h2⟩ := and2 h
    unfold par3B at h2
    obtain ⟨h2, a15⟩ := and2 h2
    obtain ⟨h2, a14⟩ := and2 h2
    obtain ⟨h2, a13⟩ := and2 h2
    obtain ⟨h2, a12⟩ := and2 h2
    obtain ⟨h2, a11⟩ := and2 h2
    obtain ⟨h2, a10⟩ := and2 h2
    obtain ⟨h2, a9⟩ := and2 h2
    obtain ⟨h2, a8⟩ := and2 h2
    obtain ⟨h2, a7⟩ := and2 h2
    obtain ⟨h2, a6⟩ := and2 h2
    obtain ⟨h2, a5⟩ := and2 h2
    obtain ⟨h2, a4⟩ := and2 h2
    obtain ⟨h2, a3⟩ := and2 h2
    obtain ⟨a1, a2⟩ := and2 h2
    have hk : X.env.scope.kind = .function := by rw [K.b.sc]; exact K.kd
    exact s_par3 (K.b.cool (notB h1)).1 K.b.nd (ix_n K.b a1) (ix_n K.b a2) (ix_n K.b a3) (beqN a4) (beqN a5) (beqN a6) (loc_ok K.b a7) (loc_ok K.b a8) (loc_ok K.b a9) (nc_ok K.b a1 a7) (nc_ok K.b a2 a8) (nc_ok K.b a3 a9) (snEs es cl S X EX _ K.b h3).1
      (par3_sw hk (loc_ok K.b a7) (loc_ok K.b a8) (loc_ok K.b a9) a10 a11 (of_decide_eq_true a12) (notB a13) (notB a14) (notB a15)) sole_tup
  · cases h
theorem set_sw {x : Expr} {z : Str} {p : Pos} {line : Nat} {env : PySem.Env} (h : noCompB x = true) : swapsWith x (some (.Name z p)) line env = pure false := by
  cases x <;> first | rfl | exact nomatch h
theorem Ctx.tr (K : Ctx W w cl k C S X EX) (hh : S.hot = false) {EX' : WX} {pn : List (Addr × Obj)} {xe : Value → Shared → Prop} (tk : Takes (X.tr pn xe) EX') : Ctx W w cl k C S (X.tr pn xe) EX' := by
  obtain ⟨hc, KC⟩ := K.cool hh
  have G : Good W w (X.tr pn xe) := ⟨K.G.K, K.G.mg, K.G.w, K.G.gd, K.G.hu⟩
  have KC' : Calls W w (X.tr pn xe) cl EX' k C := ⟨⟨KC.ok.at_, KC.ok.nb, KC.ok.cap⟩, KC.w, KC.ar, fun f d h hm => ⟨(KC.fn f d h hm).ex⟩, KC.clo, KC.cloA, KC.cloF, KC.room, fun σ => passAt tk σ⟩
  exact ⟨K.N, K.sc, K.nd, K.fn, K.nm, K.P, G, K.F, fun _ => ⟨hc, KC'⟩, inst_eq G K.F.ok KC' K.F.eq, K.c0, K.nc, fun m z => let M := K.lk m z; ⟨M.inn, M.q, M.tab, M.own, M.nof⟩⟩
theorem Ctx.suite (K : Ctx W w cl k C S X EX) (a : Addr) (pn : List (Addr × Obj)) : Ctx W w cl k noC { S with hot := true, lk := none } (X.suite a pn) EXF :=
  ⟨K.N, K.sc, K.nd, K.fn, K.nm, K.P, ⟨K.G.K, K.G.mg, K.G.w, K.G.gd, K.G.hu⟩, K.F, fun z => (nomatch z), fun ne pins s σ H x y v u Q ι env S σ' n c f fs b k kd S2 hσ hk I rx ry R ra rb hn hc hf g => g.elim, K.c0, K.nc, fun m z => nomatch (show (none : Option Mkr) = some m from z)⟩
theorem k_try (tk : TK) (e : E) (c i : Nat) {b : Sts} (hb : OkSs W w cl k b) : OkS W w cl k (.try_ tk e c i b) := by
  intro C S X EX s K h
  rw [chkS] at h; dsimp only at h
  split at h
  · rename_i st x px n b0 bs p1 p2
    obtain ⟨h, h9⟩ := and2 h
    obtain ⟨h, h8⟩ := and2 h
    obtain ⟨h, h7⟩ := and2 h
    obtain ⟨h, h6⟩ := and2 h
    obtain ⟨h, h5⟩ := and2 h
    obtain ⟨h, h4⟩ := and2 h
    obtain ⟨h, h3⟩ := and2 h
    obtain ⟨h1, h2⟩ := and2 h
    cases eqB h2
    have hh := notB h1
    have g := K.b.gl h3
    have nd := nd_ok h4
    obtain ⟨pass, tks, hs, hf, hex⟩ := K.cool hh
    rw [K.b.P] at h5
    rw [K.b.nm] at g nd ⊢
    cases hq : W.P.cl c with
    | none => rw [hq] at h5; cases h5
    | some q =>
      rw [hq] at h5
      obtain ⟨Ca, m, ca⟩ := K.b.F.ca c q hq h5
      have htk : ∀ j, tk = .asg j → j < X.N.length ∧ NoCell cl j := by
        intro j hj
        rw [hj] at h8
        split at h8
        · rename_i e1 _; cases e1
        · rename_i e1 _; cases e1
        · rename_i e1 _
          cases e1
          obtain ⟨h8, a3⟩ := and2 h8
          obtain ⟨a1, a2⟩ := and2 h8
          obtain ⟨b1, b2, b3⟩ := sto_ok K.b (and2 a2).1
          exact ⟨(List.getElem?_eq_some_iff.mp b1).1, K.b.sto a2⟩
        · cases h8
      refine s_try K.b.G hs hf K.b.nd hex (ix_n K.b h6) (loc_ok K.b h7) ⟨g, nd, .inl (by rw [K.b.G.mg]; exact m)⟩ tks ca (nc_ok K.b h6 h7) htk (fun EX' pn xe tk' ps => ?_) fun a pn => hb noC { S with hot := true, lk := none } (X.suite a pn) EXF _ ⟨K.b.suite a pn, K.kd, fun z => (nomatch z), fun z => (nomatch z)⟩ h9
      have KT := K.b.tr hh tk'
      split at h8
      · obtain ⟨a1, a2⟩ := and2 h8
        exact pss_one (ps_expr (snE e _ _ _ _ _ KT a2).1 (drop_ok a1))
      · exact pss_one (ps_ret (snE e _ _ _ _ _ KT h8).1)
      · rename_i j z pz y py
        obtain ⟨h8, a3⟩ := and2 h8
        obtain ⟨a1, a2⟩ := and2 h8
        obtain ⟨b1, b2, b3⟩ := sto_ok KT (and2 a2).1
        exact pss_one (ps_set KT.nd b1 b2 (snE e _ _ _ _ _ KT a3).1 (set_sw a1) b3)
      · cases h8
  · cases h
theorem par_ann {p : Arguments} {env : PySem.Env} (h : parB p = true) : annTrees p none env = [] := by
  unfold parB at h
  obtain ⟨h, h7⟩ := and2 h
  obtain ⟨h, h6⟩ := and2 h
  obtain ⟨h, h5⟩ := and2 h
  obtain ⟨h, h4⟩ := and2 h
  obtain ⟨h, h3⟩ := and2 h
  obtain ⟨h1, h2⟩ := and2 h
  obtain ⟨a1, a2, a3, a4, a5, a6, a7⟩ := p
  have e1 : a1 = [] := List.isEmpty_iff.mp h1
  have e2 : a3 = none := Option.isNone_iff_eq_none.mp h2
  have e3 : a4 = [] := List.isEmpty_iff.mp h3
  have e5 : a6 = none := Option.isNone_iff_eq_none.mp h5
  subst e1 e2 e3 e5
  have key : ∀ l : List Arg, (l.all fun a => a.annotation.isNone) = true → annotationsOf l env = [] := fun l => by
    induction l with
    | nil => intro _; rfl
    | cons a l ih =>
      intro h
      obtain ⟨b1, b2⟩ := and2 (show (a.annotation.isNone && l.all fun a => a.annotation.isNone) = true from h)
      obtain ⟨x, ann, ps⟩ := a
      have : ann = none := Option.isNone_iff_eq_none.mp b1
      subst this
      exact ih b2
  have h7 : (a2.all fun a => a.annotation.isNone) = true := h7
  unfold annTrees
  show annotationsOf (a2 ++ [] ++ [] ++ [] ++ []) env ++ [] = []
  rw [List.append_nil, List.append_nil, List.append_nil, List.append_nil, List.append_nil]
  exact key a2 h7
theorem k_fn (t : Tg) (f : Nat) (js : List Nat) : OkS W w cl k (.fn t f js) := by
  intro C S X EX s K h
  rw [chkS] at h; dsimp only at h
  split at h
  · rename_i name params body scope bnd pos m hm
    obtain ⟨h, h4⟩ := and2 h
    obtain ⟨h, h3⟩ := and2 h
    obtain ⟨h1, h2⟩ := and2 h
    cases eqB h2
    have M := K.b.lk m hm
    obtain ⟨L, J, hp⟩ := lam_ok M K.b.N K.b.sc h3
    obtain ⟨d1, d2, _⟩ := par_dfl (env := X.env) hp
    split at h4
    · obtain ⟨a1, a2, a3⟩ := sto_ok K.b (and2 h4).1
      exact s_fn (K.b.cool (notB h1)).2.ok L J rfl (by rw [M.q] <;> rfl) rfl rfl rfl d1 d2 (par_ann hp) K.b.nd a1 a2 a3 (st_var (K.b.sto h4))
    · obtain ⟨a1, a2, a3⟩ := sto_ok K.b h4
      exact s_fn (K.b.cool (notB h1)).2.ok L J rfl (by rw [M.q] <;> rfl) rfl rfl rfl d1 d2 (par_ann hp) K.b.nd a1 a2 a3 st_cvar
    · cases h4
  · cases h
mutual
theorem snS : ∀ p : St, OkS W w cl k p
  | .pass => k_pass
  | .brk => k_brk
  | .cont => k_cont
  | .ex e => k_ex e
  | .asg t e => k_asg t e
  | .asga a f e => k_asga a f e
  | .par is es => k_par is es
  | .augv i op e => k_augv i op e
  | .augs _ _ _ _ => k_bad fun _ _ => rfl
  | .auga _ _ _ _ => k_bad fun _ _ => rfl
  | .ret e => k_ret e
  | .retN => k_retN
  | .ifs c a b => k_ifs c (snSs a) (snSs b)
  | .for_ t it b => k_for t it (snSs b)
  | .while_ c b => k_while c (snSs b)
  | .raise c .none => k_raise0 c
  | .raise c (.some e) => k_raise1 c e
  | .try_ tk e c i b => k_try tk e c i (snSs b)
  | .fn t f js => k_fn t f js
theorem snSs : ∀ p : Sts, OkSs W w cl k p
  | .nil => k_nil
  | .cons s r => k_cons (snS s) (snSs r)
end
end
end Pyd
set_option Elab.async false
set_option linter.all false
set_option maxRecDepth 100000
set_option maxHeartbeats 1000000
namespace Pyd
open PySem PySem.Spec PyProof.Rows L2
theorem zip_look' : ∀ {ps : List Str} {us : List Value}, ps.Nodup → us.length = ps.length → ∀ (pre : List (Str × Value)), (∀ x ∈ ps, pre.lookup x = none) → ps.filterMap (fun n => ((pre ++ ps.zip us).lookup n).map (n, ·)) = ps.zip us
  | [], us, _, _, pre, _ => by simp
  | p :: ps, [], _, h, pre, _ => by simp at h
  | p :: ps, u :: us, nd, h, pre, hp => by
    have nd' := List.nodup_cons.mp nd
    have e1 : (pre ++ (p, u) :: ps.zip us).lookup p = some u := by
      rw [List.lookup_append, hp p List.mem_cons_self]
      simp [List.lookup_cons]
    have ih := zip_look' (us := us) nd'.2 (by simpa using h) (pre ++ [(p, u)]) (fun x hx => by
      rw [List.lookup_append, hp x (List.mem_cons_of_mem _ hx)]
      have hne : (x == p) = false := by
        cases e : (x == p) with
        | false => rfl
        | true => exact absurd (by rw [← beq_iff_eq.mp e]; exact hx) nd'.1
      simp [List.lookup_cons, hne])
    rw [List.append_assoc] at ih
    rw [List.zip_cons_cons, List.filterMap_cons, e1]
    simp only [Option.map_some]
    exact congrArg _ ih
theorem miss_none {ps : List Str} {us : List Value} (h : us.length = ps.length) : ps.filter (fun n => ((ps.zip us).lookup n).isNone) = [] := by
  rw [List.filter_eq_nil_iff]
  intro x hx
  have key : ∀ {ps : List Str} {us : List Value}, us.length = ps.length → ∀ x ∈ ps, ((ps.zip us).lookup x).isSome = true := by
    intro ps
    induction ps with
    | nil => intro us _ x hx; cases hx
    | cons p ps ih =>
      intro us h x hx
      cases us with
      | nil => simp at h
      | cons u us =>
        rw [List.zip_cons_cons, List.lookup_cons]
        by_cases e : (x == p) = true
        · rw [e]; rfl
        · rw [Bool.eq_false_iff.mpr e]
          rcases List.mem_cons.mp hx with z | z
          · subst z; simp at e
          · exact ih (by simpa using h) x z
  have := key h x hx
  rw [Option.isSome_iff_ne_none] at this
  simpa [Option.isNone_iff_eq_none] using this
theorem bind_plain {I : InnF} (h : parB I.params = true) (hp : I.ps = parN I.params) (nd : I.ps.Nodup) (cl : List (Str × Addr)) (c : Addr) (doc pm ctv : Value) (us : List Value) (hl : us.length = I.ps.length) : bindArgs (I.fd cl c doc pm ctv) ⟨us, []⟩ = pure (I.ps.zip us) := by
  unfold parB at h
  obtain ⟨h, h7⟩ := and2 h
  obtain ⟨h, h6⟩ := and2 h
  obtain ⟨h, h5⟩ := and2 h
  obtain ⟨h, h4⟩ := and2 h
  obtain ⟨h, h3⟩ := and2 h
  obtain ⟨h1, h2⟩ := and2 h
  obtain ⟨nme, qual, ⟨a1, a2, a3, a4, a5, a6, a7⟩, bd, scope, ps, fr⟩ := I
  have e1 : a1 = [] := List.isEmpty_iff.mp h1
  have e2 : a3 = none := Option.isNone_iff_eq_none.mp h2
  have e3 : a4 = [] := List.isEmpty_iff.mp h3
  have e4 : a5 = [] := List.isEmpty_iff.mp h4
  have e5 : a6 = none := Option.isNone_iff_eq_none.mp h5
  have e6 : a7 = [] := List.isEmpty_iff.mp h6
  subst e1 e2 e3 e4 e5 e6
  have hp : ps = a2.map (·.arg) := hp
  have nd : ps.Nodup := nd
  have hl : us.length = ps.length := hl
  subst hp
  have f1 := zip_look' nd hl [] (fun _ _ => rfl)
  have f2 := miss_none hl
  rw [List.nil_append] at f1
  unfold bindArgs InnF.fd
  have e0 : (seqItems? Value.none : Sem _) = pure none := rfl
  simp [e0, hl, f2, List.take_of_length_le, List.drop_of_length_le]
  rw [← List.filterMap_map, f1]
def innB (nm : Nms) (P : Prog) (df : Nat → Bool) (Nf : Nat → List Str) (f : Nat) (I : InnF) : Bool := match P.fn f with
  | some d => NdefX.nscB (Nf f) I.ps I.fr I.scope && parB I.params && decide (I.ps = parN I.params) && decide I.ps.Nodup && decide (d.arity = I.ps.length) && decide (d.slots = (Nf f).length) && decide (d.free.length = I.fr.length) &&
    (match I.body with
    | .stmts body => chkSs d.body ⟨Nf f, I.scope, fun _ => false, nm, P, df, false, false, none⟩ body
    | .expr body => (match d.body with
      | .cons (.ret p) .nil => chkE p ⟨Nf f, I.scope, fun _ => false, nm, P, df, false, false, none⟩ body
      | _ => false))
  | none => false
structure InnOk (nm : Nms) (P : Prog) (df : Nat → Bool) (Nn : List Str) (d : Fn) (I : InnF) : Prop where
  sc : NdefX.NScope Nn I.ps I.fr I.scope
  bd : ∀ (cl : List (Str × Addr)) (c : Addr) (doc pm ctv : Value) (us : List Value), us.length = I.ps.length → bindArgs (I.fd cl c doc pm ctv) ⟨us, []⟩ = pure (I.ps.zip us)
  ar : d.arity = I.ps.length
  sl : d.slots = Nn.length
  fr : d.free.length = I.fr.length
  ck : match I.body with
    | .stmts body => chkSs d.body ⟨Nn, I.scope, fun _ => false, nm, P, df, false, false, none⟩ body = true
    | .expr body => ∃ p, d.body = .cons (.ret p) .nil ∧ chkE p ⟨Nn, I.scope, fun _ => false, nm, P, df, false, false, none⟩ body = true
theorem innB_ok {nm : Nms} {P : Prog} {df : Nat → Bool} {Nf : Nat → List Str} {f : Nat} {d : Fn} {I : InnF} (hd : P.fn f = some d) (h : innB nm P df Nf f I = true) : InnOk nm P df (Nf f) d I := by
  unfold innB at h
  rw [hd] at h
  dsimp only at h
  obtain ⟨h, h8⟩ := and2 h
  obtain ⟨h, h7⟩ := and2 h
  obtain ⟨h, h6⟩ := and2 h
  obtain ⟨h, h5⟩ := and2 h
  obtain ⟨h, h4⟩ := and2 h
  obtain ⟨h, h3⟩ := and2 h
  obtain ⟨h1, h2⟩ := and2 h
  refine ⟨NdefX.nscope_by h1, bind_plain h2 (of_decide_eq_true h3) (of_decide_eq_true h4), of_decide_eq_true h5, of_decide_eq_true h6, of_decide_eq_true h7, ?_⟩
  split at h8
  · exact h8
  · split at h8
    · rename_i p hp
      exact ⟨p, hp, h8⟩
    · cases h8
end Pyd
set_option Elab.async false
set_option linter.all false
set_option maxRecDepth 100000
set_option maxHeartbeats 1000000
namespace Pyd
open PySem PySem.Spec PyProof.Rows L2
structure FD where
  N : List Str
  ps : List Str
  x : Str
  qual : Str
  params : Arguments
  body : List Stmt
  scope : Scope
def FD.sc (D : FD) (W : Wd) (df : Nat → Bool) (c0 : Bool) (m : Option Mkr) : Sc := ⟨D.N, D.scope, fun _ => true, W.nm, W.P, df, false, c0, m⟩
def TBs (TP : List (Addr × Addr)) (base : Heap) (mg : Str → Option Value) : Prop := ∀ p ∈ TP, LamX.TabB base mg p.1 p.2
structure MkF (W : Wd) (TP : List (Addr × Addr)) (D : FD) (fd : FuncData) (m : Mkr) : Prop where
  inn : ∀ f I, m.inn f I = true → W.inn f I
  q : D.qual ++ ".<locals>." = m.q
  tab : ∃ c P, fd.code = .ref c ∧ (c, P) ∈ TP ∧ (P, m.pl) ∈ W.T ∧ ∀ p ∈ W.T, p.1 = P → p.2 = m.pl
structure FunF (W : Wd) (TP : List (Addr × Addr)) (df : Nat → Bool) (f : Nat) (d : Fn) (D : FD) (m : Option Mkr) : Prop where
  fun_ : ∃ fd, FunD W.K D.x D.qual D.params D.body D.scope [] [] (W.fa f) fd ∧ L2.Binds W.K fd D.ps [] ∧ ∀ m', m = some m' → MkF W TP D fd m'
  sc : FnScope D.N D.ps D.scope
  ar : d.arity = D.ps.length
  sl : d.slots = D.N.length
  fr : d.free = []
  cel : m.isSome = true → d.cells.isEmpty = true → ∀ y, D.scope.names.lookup y ≠ some .cell
  ck : chkSs d.body (D.sc W df d.cells.isEmpty m) D.body = true
theorem callN_eq {P : Prog} {n f : Nat} {d : Fn} (hd : P.fn f = some d) (vs cs : List Val) (S : Store) : callN P (n + 1) f vs cs S = callD P d (callN P n) vs cs S := by
  show (match P.fn f with
    | some d => callD P d (callN P n) vs cs S
    | none => .no) = _
  rw [hd]
theorem callD_bad {P : Prog} {C : Orc} {d : Fn} {vs : List Val} (cs : List Val) (S : Store) (h : vs.length ≠ d.arity) : callD P d C vs cs S = .no := by
  unfold callD
  rw [need_bind, decide_eq_false h]
  rfl
theorem callD_ap {P : Prog} {C : Orc} {d : Fn} (hf : d.free = []) (vs : List Val) (S : Store) : callD P d C vs [] S = if decide (vs.length = d.arity) = true then endR d.cells.isEmpty S ((exSs P d.body C (env0 d vs) >>= fun r => retM r) S) else .no := by
  unfold callD
  rw [need_bind, hf]
  by_cases h : decide (vs.length = d.arity) = true
  · rw [if_pos h, h, if_pos (by decide), List.append_nil, List.isEmpty_nil, Bool.and_true]
    unfold endR
    by_cases hc : d.cells.isEmpty = true
    · rw [if_pos hc, if_pos hc]; rfl
    · rw [if_neg hc, if_neg hc]; rfl
  · rw [if_neg h, if_neg (by rw [Bool.eq_false_iff.mpr h]; decide)]
theorem callD_apC {P : Prog} {C : Orc} {d : Fn} (vs cs : List Val) (S : Store) : callD P d C vs cs S = if (decide (vs.length = d.arity) && decide (cs.length = d.free.length)) = true then endR (d.cells.isEmpty && d.free.isEmpty) S ((exSs P d.body C (env0 d (vs ++ cs)) >>= fun r => retM r) S) else .no := by
  unfold callD
  rw [need_bind]
  by_cases h : (decide (vs.length = d.arity) && decide (cs.length = d.free.length)) = true
  · rw [if_pos h, if_pos h]
    unfold endR
    by_cases hc : (d.cells.isEmpty && d.free.isEmpty) = true
    · rw [if_pos hc, if_pos hc]; rfl
    · rw [if_neg hc, if_neg hc]; rfl
  · rw [if_neg h, if_neg h]
theorem callN_ar {W : Wd} (n : Nat) : ArOk W (callN W.P n) := by
  intro f d vs S hd r hr hn
  subst hr
  cases n with
  | zero => exact hn.elim
  | succ n =>
    rw [callN_eq hd] at hn
    by_cases hl : vs.length = d.arity
    · exact hl
    · rw [callD_bad _ _ hl] at hn
      exact hn.elim
theorem callN_arC {P : Prog} {f : Nat} {d : Fn} (hd : P.fn f = some d) (n : Nat) (as cs : List Val) (S : Store) (h : callN P n f as cs S ≠ .no) : as.length = d.arity := by
  cases n with
  | zero => exact absurd rfl h
  | succ n =>
    rw [callN_eq hd] at h
    by_cases hl : as.length = d.arity
    · exact hl
    · rw [callD_bad _ _ hl] at h; exact absurd rfl h
theorem callN_fn {P : Prog} {f : Nat} {as cs : List Val} {S : Store} (n : Nat) (h : callN P n f as cs S ≠ .no) : ∃ d, P.fn f = some d := by
  cases n with
  | zero => exact absurd rfl h
  | succ n =>
    cases hd : P.fn f with
    | some d => exact ⟨d, rfl⟩
    | none =>
      refine absurd ?_ h
      show (match P.fn f with
        | some d => callD P d (callN P n) as cs S
        | none => .no) = _
      rw [hd]
def rho (n : Nat) : Nat := 1 + 3 * n
section
variable {W : Wd} {w : World} {df : Nat → Bool}
def ProgOk (W : Wd) (w : World) (TP : List (Addr × Addr)) (n : Nat) : Prop := ∀ f d, W.P.fn f = some d →
  (W.md f = true → ∃ fd ps, L2.Binds W.K fd ps [] ∧ ps.length = d.arity ∧ ∀ (P : Program) (base : Heap), TBs TP base W.mg → FnG P w W.K W.mg base (rho n) (W.fa f) fd ps (spG W w d.arity fun as S => callN W.P n f as [] S)) ∧
  ∀ (P : Program) (base : Heap), TBs TP base W.mg → CloG P w W base (rho n) f d (callN W.P n)
theorem end_ok {cl : FC} {b : Bool} {pb : M Fl} {ι : Nat → Addr} {S : Store} {σ : L2.St} {H : Hp} {Q : VK} {E : XK} (G0 : Rg W w ι S H) (hb : b = true → cl = noCl) (g : GsG W w ι S H (endR b S ((pb >>= fun r => retM r) S)) Q E) :
    GsS W w cl (fun c d _ H => E c d H) ι S σ H (pb S) { nx := fun _ H' => Q .non H', rt := Q } := by
  have F : ∀ {ι' : Nat → Addr} {S' : Store} {H' : Hp}, Fw ι S H ι' S' H' → Fw ι S H ι' (if b = true then S' else restC S (dropC S')) H' := fun {ι' S' H'} f => by
    by_cases h : b = true
    · rw [if_pos h]; exact f
    · rw [if_neg h]; exact ⟨by rw [restC_len, dropC_len]; exact f.le, f.ag, f.kp⟩
  have G : ∀ {ι' : Nat → Addr} {env : Env} {S' : Store} {σ' : L2.St} {H' : Hp}, Fw ι S H ι' S' H' → Rl W w cl ι' env S' σ' H' → Rg W w ι' (if b = true then S' else restC S (dropC S')) H' := fun {ι' env S' σ' H'} f R => by
    by_cases h : b = true
    · rw [if_pos h]
      have := hb h
      subst this
      exact R.toGn
    · rw [if_neg h]; exact G0.rest (f.trans fw_drop) R.toNo.toGn
  have L : ∀ {S' : Store}, (if b = true then S' else restC S (dropC S')).length = S'.length := fun {S'} => by
    by_cases h : b = true
    · rw [if_pos h]
    · rw [if_neg h, restC_len]; exact dropC_len
  rw [bind_ap] at g
  have e1 : ∀ v S', endR b S (.ok v S') = .ok v (if b = true then S' else restC S (dropC S')) := fun v S' => by unfold endR; split <;> rfl
  have e2 : ∀ c fs S', endR b S (.ex c fs S') = .ex c fs (if b = true then S' else restC S (dropC S')) := fun c fs S' => by unfold endR; split <;> rfl
  have e3 : endR b S .no = .no := by unfold endR; split <;> rfl
  cases hx : pb S with
  | no => rw [hx] at g; dsimp only at g; rw [e3] at g; exact g
  | ex c fs S' =>
    rw [hx] at g; dsimp only at g; rw [e2] at g
    exact fun ι' e' σ' H' cls dd f' R' rx => g ι' H' cls dd (F f') (G f' R') (by rw [L]; exact rx)
  | ok fl S' =>
    rw [hx] at g; dsimp only at g
    cases fl with
    | rt v =>
      have g : GsG W w ι S H (endR b S (.ok v S')) Q E := g
      rw [e1] at g
      exact fun ι' e' σ' H' y f' R' ry => g ι' H' y (F f') (G f' R') (by rw [L]; exact ry)
    | nx e' =>
      have g : GsG W w ι S H (endR b S (.ok .non S')) Q E := g
      rw [e1] at g
      exact fun ι' σ' H' f' R' => g ι' H' .non (F f') (G f' R') rfl
    | bk e' =>
      have g : GsG W w ι S H (endR b S .no) Q E := g
      rw [e3] at g; exact g.elim
    | ct e' =>
      have g : GsG W w ι S H (endR b S .no) Q E := g
      rw [e3] at g; exact g.elim
theorem calls_of {X : Cx} {cl : FC} {EX : WX} {TP : List (Addr × Addr)} {n : Nat} (ih : ProgOk W w TP n) (hcl : ClOk X cl) (hw : X.w = w) (hK : X.K = W.K) (hmg : X.mg = W.mg) (hT : TBs TP X.base W.mg) (hr : RoomG (rho n + 2) X.A) (px : ∀ σ : L2.St, PassesAt (L2.CX X.prog X.w) X σ (WE EX σ)) : Calls W w X cl EX (rho n) (callN W.P n) :=
  ⟨hcl, hw, callN_ar n, fun f' d' h' hm => ⟨let ⟨fd', ps', b1, b2, b3⟩ := (ih f' d' h').1 hm; ⟨fd', ps', by rw [hK]; exact b1, b2, by rw [hw, hK, hmg]; exact b3 X.prog X.base hT⟩⟩, fun f d h => (by rw [hw]; exact (ih f d h).2 X.prog X.base hT), fun f d h as cs S => callN_arC h n as cs S, fun f cs vs S h => callN_fn n h, hr, px⟩
theorem cloB_of {P : Program} {base : Heap} {TP : List (Addr × Addr)} {n : Nat} {d : Fn} {I : InnF} {Nn : List Str} (ih : ProgOk W w TP n) (F : Facts W df) (hT : TBs TP base W.mg) (O : InnOk W.nm W.P df Nn d I) : CloB W w P base (rho n + 2) d (callN W.P n) I Nn := by
  have main : ∀ (F' : NdefX.NF) (a : Addr) (A : Around) (outer : List PySem.Env) (s : Shared) (H0 : Hp) (E' : XK) (cf : Addr → Option Obj), F'.scope = I.scope → F'.qual = I.qual → RoomG (rho n + 2) (A.deeper (NdefX.envF F' a s.heap.objs.size)) →
      ClOk (NdefX.ncx (L2.CX P w) P w W.K W.mg base Nn F' a A outer s H0 E') ⟨fun _ => none, cf⟩ → CtxS W w ⟨fun _ => none, cf⟩ (rho n) (callN W.P n) ⟨Nn, I.scope, fun _ => false, W.nm, W.P, df, false, false, none⟩ (NdefX.ncx (L2.CX P w) P w W.K W.mg base Nn F' a A outer s H0 E') (fun c d _ H => E' c d H) := fun F' a A outer s H0 E' cf hs hq hr hcl => by
    have G : Good W w (NdefX.ncx (L2.CX P w) P w W.K W.mg base Nn F' a A outer s H0 E') := ⟨rfl, rfl, rfl, hr.g, by
      have := hr.r.un
      show (A.deeper _).units + 100 < cLine
      omega⟩
    have tk : Takes (NdefX.ncx (L2.CX P w) P w W.K W.mg base Nn F' a A outer s H0 E') (fun c d _ H => E' c d H) := takes_of rfl rfl rfl rfl
    have KC : Calls W w (NdefX.ncx (L2.CX P w) P w W.K W.mg base Nn F' a A outer s H0 E') ⟨fun _ => none, cf⟩ (fun c d _ H => E' c d H) (rho n) (callN W.P n) := calls_of ih hcl rfl rfl rfl hT hr fun σ => passAt tk σ
    exact ⟨⟨rfl, hs, O.sc.nd, fun x h => (nomatch h), rfl, rfl, G, F, fun _ => ⟨rfl, KC⟩, inst_eq G F.ok KC F.eq, fun z => (nomatch z), fun _ _ _ _ => rfl, fun m z => nomatch (show (none : Option Mkr) = some m from z)⟩, O.sc.kind, fun _ => hr.mono (by unfold rho; omega), fun _ => ⟨passes_of rfl, tk, rfl, rfl, rfl⟩⟩
  have ck := O.ck
  unfold CloB
  split at ck
  · rename_i body hb
    try rw [hb]
    exact fun F' a A outer s H0 E' cf hs hq hr hcl => snSs d.body _ _ _ _ _ (main F' a A outer s H0 E' cf hs hq hr hcl) ck
  · rename_i body hb
    try rw [hb]
    obtain ⟨p, hp, ck⟩ := ck
    exact ⟨p, hp, fun F' a A outer s H0 E' cf hs hq hr hcl => (snE p _ _ _ _ _ (main F' a A outer s H0 E' cf hs hq hr hcl).b ck).1⟩
theorem prog_ok {TP : List (Addr × Addr)} {Nf : Nat → List Str} (F : Facts W df) (hf : ∀ f d, W.P.fn f = some d → W.md f = true → ∃ D m, FunF W TP df f d D m) (hi : ∀ f I, W.inn f I → innB W.nm W.P df Nf f I = true) : ∀ n, ProgOk W w TP n := by
  intro n
  induction n with
  | zero =>
    intro f d hd
    refine ⟨fun hm => ?_, fun P base hT => ⟨fun A outer s H a us vs Q E hr e0 r ⟨ι, S, as, n, cs, _, _, _, _, _, g⟩ => g.elim⟩⟩
    obtain ⟨D, m, ⟨fd, FD, B, _⟩, sc, ar, sl, fr, cel, ck⟩ := hf f d hd hm
    exact ⟨fd, D.ps, B, ar.symm, fun P base hT => ⟨fun vs H Q E ⟨ι, S, as, _, _, _, g⟩ => g.elim, fun A outer s H args us vs Q E hr e0 hb r ⟨ι, S, as, _, _, _, g⟩ => g.elim⟩⟩
  | succ n ih =>
    intro f d hd
    refine ⟨fun hm => ?_, fun P base hT => cloG_of (k := rho n + 2) (b := d.cells.isEmpty && d.free.isEmpty) (C' := callN W.P n) (fun as cs S => by rw [callN_eq hd, callD_apC]) fun I hI => ?_⟩
    · obtain ⟨D, m, ⟨fd, FD, B, hmk⟩, sc, ar, sl, fr, cel, ck⟩ := hf f d hd hm
      refine ⟨fd, D.ps, B, ar.symm, fun P base hT => ?_⟩
      refine fnG_of (k := rho n + 2) FD sc (fun vs H Q E ⟨ι, S, as, _, ra, hl, _⟩ => by rw [ra.length, hl, ar]) fun cdv hcd A outer s H vs Q E hr e0 ⟨ι, S, as, Gr, ra, hl, g⟩ => ?_
      have G : Good W w (cxOf (L2.CX P w) P w W.K W.mg base D.N D.qual D.scope (W.fa f) cdv A outer s H E) := ⟨rfl, rfl, rfl, hr.g, by
        have := hr.r.un
        show (A.deeper _).units + 100 < cLine
        omega⟩
      have tk : Takes (cxOf (L2.CX P w) P w W.K W.mg base D.N D.qual D.scope (W.fa f) cdv A outer s H E) (fun c d _ H => E c d H) := takes_of rfl rfl rfl rfl
      obtain ⟨cl, hcl, c0, nc, own⟩ : ∃ cl : FC, ClOk (cxOf (L2.CX P w) P w W.K W.mg base D.N D.qual D.scope (W.fa f) cdv A outer s H E) cl ∧ (d.cells.isEmpty = true → cl = noCl) ∧ (∀ i x, D.N[i]? = some x → D.scope.names.lookup x = some .local → cl.own i = none) ∧
          (d.cells.isEmpty = false → ∀ i y a, D.N[i]? = some y → D.scope.names.lookup y = some .cell → (envOfC D.qual D.scope s.heap.objs.size (W.fa f) cdv).cells.lookup y = some a → cl.own i = some a) := by
        by_cases hc : d.cells.isEmpty = true
        · exact ⟨noCl, ClOk.no, fun _ => rfl, fun _ _ _ _ => rfl, fun z => by rw [hc] at z; cases z⟩
        · refine ⟨⟨clX D.N (envOfC D.qual D.scope s.heap.objs.size (W.fa f) cdv), fun _ => none⟩, ⟨fun i a h => clX_at h, fun i a h => ?_, fun a o h => nomatch (show (none : Option Obj) = some o from h)⟩, fun z => absurd z hc, fun i x h1 h2 => clX_loc h1 h2, fun _ i y a h1 h2 h3 => ?_⟩
          · obtain ⟨x, h1, h2, h3⟩ := clX_at h
            have ge : s.heap.objs.size ≤ a := Nat.le_of_succ_le (cells_ge D.scope.names (s.heap.objs.size + 1) (s.heap.objs.size + 1) [] (Nat.le_refl _) (fun _ _ z => nomatch z) x a h2)
            refine ⟨Heap.get?_none_of_le (Nat.le_trans e0.bsz ge), fun hb => ?_⟩
            obtain ⟨_, o, ho, _⟩ := e0.funs.mem hb
            exact absurd (Nat.lt_of_lt_of_le (Heap.lt_size ho) ge) (Nat.lt_irrefl _)
          · show clX D.N _ i = some a
            unfold clX
            rw [h1]
            dsimp only
            have h2' : (envOfC D.qual D.scope s.heap.objs.size (W.fa f) cdv).scope.names.lookup y = some .cell := h2
            rw [h2']
            exact h3
      have KC : Calls W w (cxOf (L2.CX P w) P w W.K W.mg base D.N D.qual D.scope (W.fa f) cdv A outer s H E) cl (fun c d _ H => E c d H) (rho n) (callN W.P n) := calls_of ih hcl rfl rfl rfl hT hr fun σ => passAt tk σ
      have mk : ∀ m', m = some m' → MkOk W (cxOf (L2.CX P w) P w W.K W.mg base D.N D.qual D.scope (W.fa f) cdv A outer s H E) cl m' := fun m' hm' => by
        obtain ⟨i1, i2, c, Pt, i3, i4, i5, i6⟩ := hmk m' hm'
        refine ⟨i1, i2, ⟨c, Pt, hT _ i4, hcd.symm.trans i3, i5, i6⟩, fun i y a h1 h2 h3 => ?_, fun y z => ?_⟩
        · cases hc : d.cells.isEmpty with
          | true => exact absurd h2 (cel (by rw [hm'] <;> rfl) hc y)
          | false => exact own hc i y a h1 h2 h3
        · exact sc.nofree _ (PySem.mem_of_lookup z) rfl
      have K : CtxS W w cl (rho n) (callN W.P n) (D.sc W df d.cells.isEmpty m) (cxOf (L2.CX P w) P w W.K W.mg base D.N D.qual D.scope (W.fa f) cdv A outer s H E) (fun c d _ H => E c d H) :=
        ⟨⟨rfl, rfl, sc.nd, fun _ _ => rfl, rfl, rfl, G, F, fun _ => ⟨rfl, KC⟩, inst_eq G F.ok KC F.eq, c0, nc, mk⟩, sc.kind, fun _ => hr.mono (by unfold rho; omega), fun _ => ⟨passes_of rfl, tk, rfl, rfl, rfl⟩⟩
      refine ⟨_, snSs d.body _ _ _ _ _ K ck, ι, env0 d as, S, rl_start Gr ra sl, ?_⟩
      have e := callN_eq (n := n) hd as [] S
      rw [callD_ap fr] at e
      by_cases hb : decide (as.length = d.arity) = true
      · rw [if_pos hb] at e
        have g : GsG W w ι S H (callN W.P (n + 1) f as [] S) Q E := g
        rw [e] at g
        exact end_ok Gr c0 g
      · rw [if_neg hb] at e
        have g : GsG W w ι S H (callN W.P (n + 1) f as [] S) Q E := g
        rw [e] at g
        exact g.elim
    · have O := innB_ok hd (hi f I hI)
      exact ⟨Nf f, O.sc, O.bd, O.ar, O.sl, O.fr, cloB_of ih F hT O⟩
end
end Pyd
set_option Elab.async false
set_option linter.all false
set_option maxRecDepth 100000
set_option maxHeartbeats 1000000
namespace Pyd
open PySem PySem.Spec PyProof.Rows L2
theorem law_callG {P : Program} {w : World} {K : PySem.W.Frag} {mg mb : Str → Option Value} {k : Nat} {fa a : Addr} {TP : List (Addr × Addr)} {fd : FuncData} {x : Str} {sp : Sp} {s₁ : Shared} {vs : List Value} {ns : List Int}
    (KX : K.In s₁.heap) (hns : s₁.heap.Ns mainGlobals mg) (hb : s₁.heap.Ns builtinsNs mb) (hbb : ∀ x : Str, x ≠ "__name__" → mb x = bootBuiltins x) (hlim : s₁.heap.NoLimit) (hg : s₁.gens = #[])
    (hT : ∀ p ∈ TP, s₁.heap.get? p.2 = some { cls := .none, data := .fields #[] }) (nT : ∀ p ∈ TP, K.lookup p.2 = none) (C : ∀ p ∈ TP, PySem.W.CodeHd s₁.heap p.1 p.2)
    (hbm : ∃ (bm : Addr) (ob : Obj), mg "__builtins__" = some (.ref bm) ∧ bm ≠ builtinsNs ∧ s₁.heap.get? bm = some ob ∧ ob.cls = .type "module" ∧ ob.dict = some builtinsNs ∧ ob.data = .plain)
    (ha : s₁.heap.get? a = some { cls := .type "list", data := .seq vs.toArray }) (hi : IntsAre vs ns) (hl : ns.length ≤ sizeLine) (hr : RoomG k callerA)
    (F : ∀ base : Heap, (∀ p ∈ TP, LamX.TabB base mg p.1 p.2) → FnG P w K mg base k fa fd [x] sp) (hbind : BindsTo s₁ fd ⟨[.ref a], []⟩ [(x, .ref a)])
    (hsp : ∀ H : Hp, (∀ p ∈ TP, H p.2 = some (.tbl #[])) → ((∃ o, H a = some (.frz o (.lst (ns.map V.int)))) ∨ SqL K (fun _ => none) a (ns.map V.int)) → sp [.ref a] H (fun v _ => v = .bl true) fun _ _ _ => False) :
    codeAny (model P w) callerA (.call (.ref fa) ⟨[.ref a], []⟩) (fun r s' => r = .ok (.ret (.bool true)) ∧ OldK s₁.heap s'.heap ∧ s'.os = s₁.os ∧ AllBare s'.gens) s₁ := by
  have rv := vals_ints hi
  have lenV := hi.length
  have isT : ∀ b : Addr, b ∈ TP.map (·.2) → s₁.heap.get? b = some { cls := .none, data := .fields #[] } := fun b hb => by
    obtain ⟨p, hp, e⟩ := List.mem_map.mp hb
    rw [← e]
    exact hT p hp
  have aT : a ∉ TP.map (·.2) := fun z => by
    have q := isT a z
    rw [ha] at q
    have z' : Data.seq vs.toArray _ = Data.fields #[] := congrArg Obj.data (Option.some.inj q)
    cases z'
  have memT : ∀ p ∈ TP, p.2 ∈ TP.map (·.2) := fun p hp => List.mem_map.mpr ⟨p, hp, rfl⟩
  have core : ∀ H : Hp, (∀ p ∈ TP, H p.2 = some (.tbl #[])) → (∀ b, H b = none ∨ b ∈ TP.map (·.2) ∨ (b = a ∧ ∃ o, H b = some (.frz o (.lst (ns.map V.int))))) → HOk P w H s₁.heap → (H a ≠ none → K.lookup a = none) → sp [.ref a] H (fun v _ => v = .bl true) (fun _ _ _ => False) →
      codeAny (model P w) callerA (.call (.ref fa) ⟨[.ref a], []⟩) (fun r s' => r = .ok (.ret (.bool true)) ∧ OldK s₁.heap s'.heap ∧ s'.os = s₁.os ∧ AllBare s'.gens) s₁ := by
    intro H hH hO hok hK hq
    have base_of : ∀ {b : Addr} {o : Obj}, s₁.heap.get? b = some o → H b = none → (hidT s₁.heap H).get? b = some o := fun e n => hidT_get e n
    have noD : ∀ {b : Addr} {o : Obj}, s₁.heap.get? b = some o → (∀ vs n, o.data ≠ .seq vs n) → o.data ≠ .fields #[] → H b = none := fun {b o} e h1 h2 => by
      rcases hO b with h | h | ⟨h, _⟩
      · exact h
      · rw [isT b h] at e
        cases e
        exact (h2 rfl).elim
      · rw [h, ha] at e
        cases e
        exact (h1 _ _ rfl).elim
    have noA : ∀ {b : Addr} {o : Obj} {es : Array DictEntry} {ep : Nat}, s₁.heap.get? b = some o → o.data = .dict es ep → H b = none := fun {b o es ep} e d => noD e (fun vs n z => by rw [d] at z; cases z) (fun z => by rw [d] at z; cases z)
    have nsK : ∀ {b : Addr} {m : Str → Option Value}, s₁.heap.Ns b m → (hidT s₁.heap H).Ns b m := fun {b m} ⟨o, es, ep, e, d, r⟩ => ⟨o, es, ep, base_of e (noA e d), d, r⟩
    have hKb : K.In (hidT s₁.heap H) := fun b o e => base_of (KX b o e) (by
      rcases hO b with h | h | ⟨h, o', h'⟩
      · exact h
      · obtain ⟨p, hp, ep⟩ := List.mem_map.mp h
        rw [← ep, nT p hp] at e
        cases e
      · rw [h] at e h'
        rw [hK (by rw [h']; exact fun z => nomatch z)] at e
        cases e)
    have hM : L2.Mod K mg (hidT s₁.heap H) := ⟨hKb, nsK hns, ⟨mb, nsK hb, hbb⟩, let ⟨mc, h1, h2⟩ := hlim; ⟨mc, nsK h1, h2⟩⟩
    have TB : ∀ p ∈ TP, LamX.TabB (hidT s₁.heap H) mg p.1 p.2 := fun p hp => by
      have hTp := hT p hp
      refine ⟨?_, ?_, fun z => ?_⟩
      · obtain ⟨o, us, file, tf, flags, tg, inF, text, tt, e1, r1, r2, r3, r4, r5, r6, r7, r8, hne⟩ := C p hp
        refine ⟨o, us, file, tf, flags, tg, inF, text, tt, base_of e1 (noD e1 (fun vs n z => ?_) fun z => ?_), r1, r2, r3, r4, r5, r6, r7, r8, hne⟩
        · rw [r2] at z
          cases z
        · rw [r2] at z
          cases z
          simp at r3
      · obtain ⟨bm, ob, b1, b2, b3, b4, b5, b6⟩ := hbm
        have nG : bm ≠ mainGlobals := fun q => by
          obtain ⟨o, es, ep, e, hd, _⟩ := hns
          rw [q, e] at b3
          cases b3
          rw [hd] at b6
          cases b6
        have nP : bm ≠ p.2 := fun q => by
          rw [q, hTp] at b3
          cases b3
          cases b6
        refine ⟨bm, ob, b1, b2, nG, nP, base_of b3 (noD b3 (fun vs n z => ?_) fun z => ?_), b4, b5, b6⟩
        · rw [b6] at z
          cases z
        · rw [b6] at z
          cases z
      · obtain ⟨o, es, ep, e, hd, _⟩ := hns
        rw [z, hTp] at e
        cases e
        cases hd
    have e0 : Env0 P w K mg (hidT s₁.heap H) callerA [] s₁ H := ⟨rfl, hM, fun b o e => of_hidT e, Nat.le_of_eq (hidT_size _ _), trivial, fun b hb => absurd (show b ∈ ([] : List Addr) from hb) (by simp), hok, .of_eq hg⟩
    refine codeAny_mono ((F _ TB).run callerA [] s₁ H ⟨[.ref a], []⟩ [.ref a] [.ref a] _ _ hr e0 hbind (.cons rfl .nil) hq) fun r s' h => ?_
    cases r with
    | error e => obtain ⟨_, _, _, _, _, _, _, _, _, _, _, _, z⟩ := h; exact z.elim
    | ok fl =>
      cases fl with
      | next => exact False.elim h
      | brk => exact False.elim h
      | cont => exact False.elim h
      | ret u =>
        obtain ⟨v, H', os, bare, un, hok', r', q⟩ := h
        have q' : v = .bl true := q
        subst q'
        obtain rfl : u = Value.bool true := r'
        have key : ∀ b o, b ∉ TP.map (·.2) → s₁.heap.get? b = some o → s'.heap.get? b = some o := fun b o nb e => by
          rcases hO b with q | q | ⟨_, ob, z⟩
          · exact un.keep b o e q (by intro z; exact absurd (show b ∈ ([] : List Addr) from z) (by simp)) (by simp)
          · exact absurd q nb
          · have z2 := un.frzs b ob _ z
            obtain ⟨e1, _⟩ := hok b _ z
            obtain ⟨e2, _⟩ := hok' b _ z2
            rw [e] at e1; cases e1
            exact e2
        have grown : ∀ p ∈ TP, ∃ more : Array Value, s'.heap.get? p.2 = some { cls := .none, data := .fields more } := fun p hp => by
          obtain ⟨more, z⟩ := un.tbls p.2 #[] (hH p hp)
          exact ⟨_, hok' p.2 _ z⟩
        refine ⟨rfl, ⟨fun b o e => ?_, fun b o e => ?_⟩, os, bare⟩
        · by_cases hb : b ∈ TP.map (·.2)
          · obtain ⟨p, hp, ep⟩ := List.mem_map.mp hb
            obtain ⟨more, hm⟩ := grown p hp
            rw [← ep] at e ⊢
            rw [hT p hp] at e
            cases e
            exact .inr (.inl ⟨((C p hp).tab (hT p hp)).isCodeTable, rfl, #[], more, rfl, by rw [Array.empty_append]; exact hm⟩)
          · exact .inl (key b o hb e)
        · by_cases hb : b ∈ TP.map (·.2)
          · obtain ⟨p, hp, ep⟩ := List.mem_map.mp hb
            obtain ⟨more, hm⟩ := grown p hp
            rw [← ep]
            exact ⟨_, hm⟩
          · exact ⟨o, key b o hb e⟩
  cases hk : K.lookup a with
  | some o =>
    have e := KX a o hk
    rw [ha] at e
    cases e
    have at_ : ∀ b, b ∉ TP.map (·.2) → (fun b => if b ∈ TP.map (·.2) then some (HO.tbl #[]) else none : Hp) b = none := fun b hb => if_neg hb
    refine core (fun b => if b ∈ TP.map (·.2) then some (.tbl #[]) else none) (fun p hp => if_pos (memT p hp)) (fun b => ?_) (fun b u z => ?_) (fun z => absurd (at_ a aT) z) (hsp _ (fun p hp => if_pos (memT p hp)) (.inr (.inr ⟨_, vs.toArray, _, hk, rfl, rfl, rfl, by rw [List.size_toArray, lenV]; exact hl, by simpa using rv⟩)))
    · by_cases hb : b ∈ TP.map (·.2)
      · exact .inr (.inl hb)
      · exact .inl (at_ b hb)
    · by_cases hb : b ∈ TP.map (·.2)
      · have z' := (if_pos hb).symm.trans z
        cases z'
        exact isT b hb
      · have z' := (if_neg hb).symm.trans z
        cases z'
  | none =>
    have pT : ∀ p ∈ TP, (fun b => if b = a then some (.frz { cls := .type "list", data := .seq vs.toArray } (.lst (ns.map V.int))) else if b ∈ TP.map (·.2) then some (.tbl #[]) else none : Hp) p.2 = some (.tbl #[]) := fun p hp => (if_neg (show ¬ p.2 = a from fun z => aT (by rw [← z]; exact memT p hp))).trans (if_pos (memT p hp))
    refine core (fun b => if b = a then some (.frz { cls := .type "list", data := .seq vs.toArray } (.lst (ns.map V.int))) else if b ∈ TP.map (·.2) then some (.tbl #[]) else none) pT (fun b => ?_) (fun b u z => ?_) (fun _ => hk) (hsp _ pT (.inl ⟨_, if_pos rfl⟩))
    · by_cases hb : b = a
      · exact .inr (.inr ⟨hb, _, if_pos hb⟩)
      · by_cases hb2 : b ∈ TP.map (·.2)
        · exact .inr (.inl hb2)
        · exact .inl ((if_neg hb).trans (if_neg hb2))
    · by_cases hb : b = a
      · have z' := (if_pos hb).symm.trans z
        cases z'
        rw [hb]
        exact ⟨ha, by rw [List.length_map]; exact hl, vs, _, rv, ha⟩
      · have z1 := (if_neg hb).symm.trans z
        by_cases hb2 : b ∈ TP.map (·.2)
        · have z' := (if_pos hb2).symm.trans z1
          cases z'
          exact isT b hb2
        · have z' := (if_neg hb2).symm.trans z1
          cases z'
theorem rvs_ints {W : Wd} {ι : Nat → Addr} {N : Nat} {H : Hp} : ∀ ns : List Int, RVs W ι N H (ns.map Val.int) (ns.map V.int)
  | [] => rfl
  | i :: ns => ⟨V.int i, ns.map V.int, rfl, rfl, rvs_ints ns⟩
theorem sp_start {W : Wd} {w : World} {P : Prog} {m lw : Nat} {ns : List Int} {a : Addr} {H : Hp} (ht : TabsH W.T H) (h : (∃ o, H a = some (.frz o (.lst (ns.map V.int)))) ∨ SqL W.K (fun _ => none) a (ns.map V.int)) {S' : Store} (law : callN P m lw [.loc 0] [] [.rol (ns.map Val.int)] = .ok (.bl true) S') :
    spG W w 1 (fun as S => callN P m lw as [] S) [.ref a] H (fun v _ => v = .bl true) fun _ _ _ => False := by
  refine ⟨fun _ => a, [.rol (ns.map Val.int)], [.loc 0], ⟨fun n o e => ?_, fun m n o o' e e' t t' _ => ?_, ht⟩, ⟨_, [], rfl, ⟨Nat.zero_lt_one, rfl⟩, rfl⟩, rfl, ?_⟩
  · cases n with
    | zero => cases e; exact ⟨ns.map V.int, h, rvs_ints ns⟩
    | succ n => cases e
  · cases m with
    | zero => cases e; exact t.elim
    | succ m => cases e
  · show GsG W w _ _ H (callN P m lw [.loc 0] [] [.rol (ns.map Val.int)]) _ _
    rw [law]
    intro ι' H' y f G r
    exact r
theorem tabH_nil {H : Hp} {P : Addr} {nm : Nat → Nat → Str} (h : H P = some (.tbl #[])) : TabH H P nm := ⟨#[], h, True.intro, fun pos cv hc => by
  have z : codeAmong pos [] = some cv := hc
  simp [codeAmong] at z⟩
structure TabF (W : Wd) (h : Heap) (TP : List (Addr × Addr)) : Prop where
  hd : ∀ p ∈ TP, PySem.W.codeHdIn W.K p.1 p.2 = true
  out : ∀ p ∈ TP, W.K.lookup p.2 = none
  empty : ∀ p ∈ TP, h.get? p.2 = some { cls := .none, data := .fields #[] }
  T : ∀ p ∈ W.T, ∃ q ∈ TP, q.2 = p.1
theorem walkG {l : PySem.W.OpenLaw} {n m : Nat} {q : Program} {loose : List Str} {XP : (Str → Option Value) → Heap → Prop} {YP : World → Heap → Prop} {d : DefRec} {P : Prog} {lw : Nat} {lf : Fn}
    (hn : l.most = some n) (hn2 : n ≤ sizeLine) (hdf : d.params.defaults = []) (hr : RoomG (rho m) callerA) (hl : P.fn lw = some lf) (h1 : lf.arity = 1)
    (F : ∀ (mg : Str → Option Value) (fa : Addr) (w : World) (h : Heap), YP w h → h.Ns mainGlobals mg → mg d.name = some (.ref fa) → ∃ (W : Wd) (df : Nat → Bool) (TP : List (Addr × Addr)) (Nf : Nat → List Str), W.K.In h ∧ W.mg = mg ∧ W.P = P ∧ W.fa lw = fa ∧ W.md lw = true ∧ TabF W h TP ∧ Facts W df ∧
      (∀ f d, W.P.fn f = some d → W.md f = true → ∃ D m, FunF W TP df f d D m) ∧ ∀ f I, W.inn f I → innB W.nm W.P df Nf f I = true)
    (law : ∀ ns : List Int, ns.length ≤ n → (∀ k ∈ ns, Builtin.Int.intBits k ≤ 1048576) → ∃ S', callN P m lw [.loc 0] [] [.rol (ns.map Val.int)] = .ok (.bl true) S') :
    PySem.W.WalkO q loose XP YP l.row.toRowW d [] (fun f vs => PySem.call f vs) := by
  refine Att.attach_callB hn hdf fun w s₀ s₁ mg mb fa o pm cd doc a vs ns G Y ho hd hcd hmg hobj hints hlen hbits hg => ?_
  obtain ⟨W, df, TP, Nf, KX, eM, eP, eF, eD, TF, FC, FF, FI⟩ := F mg fa w _ Y G.T.g hmg
  obtain ⟨S', hS⟩ := law ns hlen hbits
  obtain ⟨fd, ps, B, hps, FG⟩ := (prog_ok (w := w) FC FF FI m lw lf (by rw [eP]; exact hl)).1 eD
  rw [h1] at hps
  obtain ⟨x, rfl⟩ := List.length_eq_one_iff.mp hps
  rw [eM, eF, eP] at FG
  rw [h1] at FG
  have hb := B s₁ [.ref a] KX rfl
  refine law_callG (TP := TP) KX G.T.g G.T.b G.T.builtins G.T.nolimit hg TF.empty TF.out (fun p hp => PySem.W.codeHd_of_K KX (TF.hd p hp)) G.T.bmain hobj hints (Nat.le_trans hlen hn2) hr (fun base hT => FG l.prog base hT) hb fun H hH h => sp_start (fun p hp => ?_) h hS
  obtain ⟨q, hq, e⟩ := TF.T p hp
  rw [← e]
  exact tabH_nil (hH q hq)
theorem room_caller {m : Nat} (h : m ≤ 60) : RoomG (rho m) callerA := by
  refine ⟨⟨rfl, ?_, ?_⟩, rfl⟩
  · show callerA.depth + 3 * (1 + 3 * m) + 5 < recursionLimit
    have e1 : callerA.depth ≤ 400 := by decide
    have e2 : recursionLimit = 1000 := by rfl
    omega
  · show callerA.units + 16 * (1 + 3 * m) + 200 < cLine
    have e1 : callerA.units ≤ 100 := by decide
    have e2 : 6000 ≤ cLine := by decide
    omega
end Pyd
set_option Elab.async false
set_option linter.all false
set_option maxRecDepth 100000
set_option maxHeartbeats 1000000
namespace Pyd
open PySem PySem.Spec PyProof.Rows L2
def rpr (d : Dt) : Option (List Nat) :=
  let s := d.pd.shown.cps.toList
  if (d.pd.showable && (decide (s.length ≤ LINE) && s.all (· < 128))) = true then some s else none
theorem rpr_ok (d : Dt) (s : List Nat) (h : rpr d = some s) : (d.pd.shown = tx s ∧ d.pd.showable = true) ∧ s.length ≤ LINE ∧ s.all (· < 128) = true := by
  unfold rpr at h
  dsimp only at h
  split at h
  · rename_i hb
    obtain ⟨h1, h2⟩ := Bool.and_eq_true_iff.mp hb
    obtain ⟨h2, h3⟩ := Bool.and_eq_true_iff.mp h2
    cases h
    refine ⟨⟨?_, h1⟩, of_decide_eq_true h2, h3⟩
    generalize d.pd.shown = z
    cases z with
    | mk a => show (⟨a⟩ : Str) = ⟨a.toList.toArray⟩; rw [Array.toArray_toList]
  · cases h
end Pyd
set_option Elab.async false
set_option linter.all false
set_option maxRecDepth 100000
set_option maxHeartbeats 1000000
namespace Pyd
open PySem PySem.Spec PyProof.Rows L2
def scopeB (N ps : List Str) (sc : Scope) : Bool :=
  (match sc.kind with
    | .function => true
    | _ => false) && !sc.isCoroutine && !sc.isGenerator && decide N.Nodup && (N.take ps.length == ps) &&
  (ps.all fun x => match sc.names.lookup x with
    | some .local => true
    | some .cell => true
    | _ => false) && (sc.names.all fun y => match y.2 with
    | .free => false
    | _ => true)
theorem scopeB_ok {N ps : List Str} {sc : Scope} (h : scopeB N ps sc = true) : FnScope N ps sc := by
  unfold scopeB at h
  obtain ⟨h, h7⟩ := and2 h
  obtain ⟨h, h6⟩ := and2 h
  obtain ⟨h, h5⟩ := and2 h
  obtain ⟨h, h4⟩ := and2 h
  obtain ⟨h, h3⟩ := and2 h
  obtain ⟨h1, h2⟩ := and2 h
  refine ⟨?_, notB h2, notB h3, of_decide_eq_true h4, beq_iff_eq.mp h5, fun x hx => ?_, fun y hy e => ?_⟩
  · split at h1
    · assumption
    · cases h1
  · have := List.all_eq_true.mp h6 x hx
    split at this
    · exact .inl (by assumption)
    · exact .inr (by assumption)
    · cases this
  · have := List.all_eq_true.mp h7 y hy
    rw [e] at this
    cases this
def funB (nm : Nms) (P : Prog) (df : Nat → Bool) (m : Option Mkr) (d : Fn) (D : FD) : Bool :=
  scopeB D.N D.ps D.scope && decide (d.arity = D.ps.length) && decide (d.slots = D.N.length) && d.free.isEmpty && (m.isNone || !d.cells.isEmpty || D.scope.names.all fun y => match y.2 with
    | .cell => false
    | _ => true) && chkSs d.body ⟨D.N, D.scope, fun _ => true, nm, P, df, false, d.cells.isEmpty, m⟩ D.body
theorem funF_of {W : Wd} {TP : List (Addr × Addr)} {df : Nat → Bool} {m : Option Mkr} {f : Nat} {d : Fn} {D : FD} (h : funB W.nm W.P df m d D = true) (hF : ∃ fd, FunD W.K D.x D.qual D.params D.body D.scope [] [] (W.fa f) fd ∧ L2.Binds W.K fd D.ps [] ∧ ∀ m', m = some m' → MkF W TP D fd m') : FunF W TP df f d D m := by
  unfold funB at h
  obtain ⟨h, h7⟩ := and2 h
  obtain ⟨h, h6⟩ := and2 h
  obtain ⟨h, h5⟩ := and2 h
  obtain ⟨h, h3⟩ := and2 h
  obtain ⟨h1, h2⟩ := and2 h
  refine ⟨hF, scopeB_ok h1, of_decide_eq_true h2, of_decide_eq_true h3, List.isEmpty_iff.mp h5, fun z1 z2 y z3 => ?_, h7⟩
  rw [z2] at h6
  have h6 : (m.isNone || false || _) = true := h6
  rw [Option.isSome_iff_exists] at z1
  obtain ⟨m', z1⟩ := z1
  rw [z1] at h6
  have := List.all_eq_true.mp (show (D.scope.names.all fun y => match y.2 with | .cell => false | _ => true) = true from h6) _ (PySem.mem_of_lookup z3)
  cases this
end Pyd
set_option Elab.async false
set_option linter.all false
set_option maxRecDepth 100000
set_option maxHeartbeats 1000000
namespace Pyd
open PySem PySem.Spec PyProof.Rows L2
def oexB (K : PySem.W.Frag) (C : Addr) : Bool := match K.lookup C with
  | some ⟨.type "type", _, .cls cd, sl⟩ => (match cd.mro, sl.toList with
    | .ref C' :: bm, [_, _, _, _, some (.builtin n), _] => C' == C && n == "ValueError.__new__" && !cd.hasDel && cd.hasDict && PySem.HandSPX.refsVE bm
    | _, _ => false)
  | _ => false
theorem oexB_ok {K : PySem.W.Frag} {C : Addr} (q : oexB K C = true) : ∃ nm q N bs bm sn sub ab col dd k0 k1 k2 k3 k5, K.lookup C = some (excClassObj nm q C N bs bm true sn sub ab col dd k0 k1 k2 k3 k5 "ValueError.__new__") ∧ PySem.HandSPX.refsVE bm = true := by
  unfold oexB at q
  split at q
  · rename_i dd cd sl ho
    split at q
    · rename_i C' bm k0 k1 k2 k3 n k5 hm hs
      simp only [Bool.and_eq_true, beq_iff_eq, Bool.not_eq_true'] at q
      obtain ⟨⟨⟨⟨rfl, rfl⟩, hdel⟩, hdict⟩, ht⟩ := q
      obtain ⟨nm, bs, mro, ns, qn, hd, sn, sub, ab, col, del⟩ := cd
      dsimp only at hm hdel hdict
      subst hm hdel hdict
      have hsl : sl = #[k0, k1, k2, k3, some (.builtin "ValueError.__new__"), k5] := by
        apply Array.ext'
        simpa using hs
      subst hsl
      exact ⟨nm, qn, ns, bs, bm, sn, sub, ab, col, dd, k0, k1, k2, k3, k5, ho, ht⟩
    · cases q
  · cases q
def fO (K : PySem.W.Frag) (C : Addr) (n : Str) (v : Option Value) : Bool := decide (PySem.W.findIn K (.ref C) n = some v)
def clsB (K : PySem.W.Frag) (C : Addr) : Bool := fO K C "__class__" (some (.builtin "object.__class__")) && decide (PySem.W.specialIn K (.builtin "object.__class__") "__get__" = some (some (.builtin "getset_descriptor.__get__"))) && decide (PySem.W.takesIn K (.builtin "object.__class__") = some true) && decide (PySem.W.mroIn K C (.type "object") = some true)
def errB (K : PySem.W.Frag) (C f : Addr) (fs : List Str) : Bool :=
  (PySem.W.clsIn K C).isSome && fO K C "__getattribute__" (some (.builtin "BaseException.__getattribute__")) && fO K C "__getattr__" none && decide (PySem.W.subIn K (.ref C) (.type "BaseException") = some true) && PySem.W.hasDictIn K C && clsB K C && (fs.all fun n => fO K C n none) &&
  oexB K C && fO K C "__setattr__" (some (.builtin "object.__setattr__")) && decide (PySem.W.typeIn K (.ref C) = some (.type "type")) && PySem.W.keepIn K (.ref C) && fO K C "__init__" (some (.ref f)) && decide (PySem.W.typeIn K (.ref f) = some (.type "function"))
theorem clsB_ok {K : PySem.W.Frag} {C : Addr} (h : clsB K C = true) : PySem.W.findIn K (.ref C) "__class__" = some (some (.builtin "object.__class__")) ∧ PySem.W.specialIn K (.builtin "object.__class__") "__get__" = some (some (.builtin "getset_descriptor.__get__")) ∧ PySem.W.takesIn K (.builtin "object.__class__") = some true ∧ PySem.W.mroIn K C (.type "object") = some true := by
  unfold clsB at h
  obtain ⟨h, h4⟩ := and2 h
  obtain ⟨h, h3⟩ := and2 h
  obtain ⟨h1, h2⟩ := and2 h
  exact ⟨of_decide_eq_true h1, of_decide_eq_true h2, of_decide_eq_true h3, of_decide_eq_true h4⟩
theorem errB_ok {W : Wd} {C f : Addr} {k : Cl} (h : errB W.K C f (k.fields.map W.nm.an) = true) : ExcF W k C ∧ MakF W.K C f := by
  unfold errB at h
  obtain ⟨h, h13⟩ := and2 h
  obtain ⟨h, h12⟩ := and2 h
  obtain ⟨h, h11⟩ := and2 h
  obtain ⟨h, h10⟩ := and2 h
  obtain ⟨h, h9⟩ := and2 h
  obtain ⟨h, h8⟩ := and2 h
  obtain ⟨h, h7⟩ := and2 h
  obtain ⟨h, h6⟩ := and2 h
  obtain ⟨h, h5⟩ := and2 h
  obtain ⟨h, h4⟩ := and2 h
  obtain ⟨h, h3⟩ := and2 h
  obtain ⟨h1, h2⟩ := and2 h
  obtain ⟨c1, c2, c3, c4⟩ := clsB_ok h6
  refine ⟨⟨h1, of_decide_eq_true h2, of_decide_eq_true h3, of_decide_eq_true h4, h5, c1, c2, c3, c4, fun x hx => of_decide_eq_true (List.all_eq_true.mp h7 _ (List.mem_map.mpr ⟨x, hx, rfl⟩))⟩, ⟨⟨oexB_ok h8, of_decide_eq_true h9, of_decide_eq_true h4, of_decide_eq_true h10, h11⟩, h11, of_decide_eq_true h12, of_decide_eq_true h13⟩⟩
def ordB (K : PySem.W.Frag) (C f : Addr) (fs : List Str) : Bool :=
  PySem.W.plainGet K C Str.empty && PySem.W.hasDictIn K C && PySem.W.plainOver K C && fO K C "__setattr__" (some (.builtin "object.__setattr__")) && clsB K C && (fs.all fun n => fO K C n none) &&
  PySem.W.makesIn K C && fO K C "__init__" (some (.ref f)) && PySem.W.isFn K (.ref f) && PySem.W.keepIn K (.ref C)
theorem ordB_ok {W : Wd} {C f : Addr} {k : Cl} (h : ordB W.K C f (k.fields.map W.nm.an) = true) : ClsF W k C ∧ L2.Mk W.K C f := by
  unfold ordB at h
  obtain ⟨h, h10⟩ := and2 h
  obtain ⟨h, h9⟩ := and2 h
  obtain ⟨h, h8⟩ := and2 h
  obtain ⟨h, h7⟩ := and2 h
  obtain ⟨h, h6⟩ := and2 h
  obtain ⟨h, h5⟩ := and2 h
  obtain ⟨h, h4⟩ := and2 h
  obtain ⟨h, h3⟩ := and2 h
  obtain ⟨h1, h2⟩ := and2 h
  obtain ⟨c1, c2, c3, c4⟩ := clsB_ok h5
  exact ⟨⟨⟨h1, h2, h3, of_decide_eq_true h4⟩, fun x hx => (show PySem.W.findIn W.K (.ref C) (W.nm.an x) = some none from of_decide_eq_true (List.all_eq_true.mp h6 _ (List.mem_map.mpr ⟨x, hx, rfl⟩))), c1, c2, c3, c4⟩, ⟨h7, of_decide_eq_true h8, h9, h10⟩⟩
end Pyd
set_option Elab.async false
set_option linter.all false
set_option maxRecDepth 100000
set_option maxHeartbeats 1000000
namespace Pyd
open PySem PySem.Spec PyProof.Rows L2
def nameOf (l : List Str) (f : Nat) : Str := match l[f]? with
  | some x => x
  | none => tx (List.replicate (f + 1000) 0)
theorem nameOf_inj {l : List Str} (h1 : l.Nodup) (h2 : (l.all fun x => decide (x.cps.size < 1000)) = true) {f g : Nat} (h : nameOf l f = nameOf l g) : f = g := by
  have sh : ∀ {i : Nat} {x : Str}, l[i]? = some x → x.cps.size < 1000 := fun e => of_decide_eq_true (List.all_eq_true.mp h2 _ (List.mem_of_getElem? e))
  unfold nameOf at h
  cases hf : l[f]? with
  | some x =>
    rw [hf] at h
    cases hg : l[g]? with
    | some y =>
      rw [hg] at h
      have h : x = y := h
      subst h
      exact L2.nodup_ix h1 hf hg
    | none =>
      rw [hg] at h
      have h : x = tx (List.replicate (g + 1000) 0) := h
      have := sh hf
      rw [h] at this
      simp [tx] at this
      omega
  | none =>
    rw [hf] at h
    cases hg : l[g]? with
    | some y =>
      rw [hg] at h
      have h : tx (List.replicate (f + 1000) 0) = y := h
      have := sh hg
      rw [← h] at this
      simp [tx] at this
      omega
    | none =>
      rw [hg] at h
      have := congrArg (fun z : Str => z.cps.size) h
      simpa [tx] using this
theorem lookup_mem' {α : Type} {c : Nat} {D : α} : ∀ {l : List (Nat × α)}, l.lookup c = some D → (c, D) ∈ l
  | [], h => by cases h
  | (a, b) :: l, h => by
    rw [List.lookup_cons] at h
    by_cases e : c = a
    · subst e
      simp only [beq_self_eq_true] at h
      cases h
      exact List.mem_cons_self
    · have e1 : (c == a) = false := by simpa using e
      rw [e1] at h
      exact List.mem_cons_of_mem _ (lookup_mem' h)
def kdB (cv : Nat → Value) (L : List (Nat × Cl)) : List (Kd × Value) :=
  [(.non, .type "NoneType"), (.bl, .type "bool"), (.int, .type "int"), (.str, .type "str"), (.tup, .type "tuple"), (.lst, .type "list"), (.dic, .type "dict")] ++
    L.map fun p => (if p.2.exc = true then Kd.exc p.1 else Kd.ins p.1, cv p.1)
def tyB' (cv : Nat → Value) (L : List (Nat × Cl)) : List (Ty × Value) :=
  [(.int, .type "int"), (.bool, .type "bool"), (.str, .type "str"), (.tuple, .type "tuple"), (.list, .type "list"), (.dict, .type "dict"), (.valueError, .type "ValueError")] ++ L.map fun p => (Ty.cls p.1, cv p.1)
def kitB (K : PySem.W.Frag) (P : Prog) (cv : Nat → Value) (L : List (Nat × Cl)) : Bool := (kdB cv L).all fun p => (tyB' cv L).all fun q => match isaK P p.1 q.1 with
  | some b => decide (PySem.W.kitOne K p.2 q.2 = some b)
  | none => true
theorem kdB_mem {W : Wd} {cv : Nat → Value} {L : List (Nat × Cl)} (hL : ∀ c, W.P.cl c = L.lookup c) (hc : ∀ c q, W.P.cl c = some q → W.mg (W.nm.cn c) = some (cv c)) {k : Kd} {v : Value} (fit : KdFit W.P k) (hk : kdV W k = some v) : (k, v) ∈ kdB cv L := by
  have lt : ∀ {c q}, W.P.cl c = some q → (c, q) ∈ L := fun {c q} e => by
    rw [hL] at e
    exact lookup_mem' e
  unfold kdB
  cases k with
  | ins c =>
    obtain ⟨q, h1, h2⟩ := fit
    have e : W.mg (W.nm.cn c) = some v := hk
    rw [hc c q h1] at e
    cases e
    refine List.mem_append_right _ (List.mem_map.mpr ⟨(c, q), lt h1, ?_⟩)
    dsimp only
    rw [h2]; rfl
  | exc c =>
    obtain ⟨q, h1, h2⟩ := fit
    have e : W.mg (W.nm.cn c) = some v := hk
    rw [hc c q h1] at e
    cases e
    refine List.mem_append_right _ (List.mem_map.mpr ⟨(c, q), lt h1, ?_⟩)
    dsimp only
    rw [h2]; rfl
  | _ => cases hk; exact List.mem_append_left _ (by simp)
theorem kitB_ok {W : Wd} {cv : Nat → Value} {L : List (Nat × Cl)} (hL : ∀ c, W.P.cl c = L.lookup c) (hc : ∀ c q, W.P.cl c = some q → W.mg (W.nm.cn c) = some (cv c)) (h : kitB W.K W.P cv L = true) :
    ∀ k t b v u, KdFit W.P k → TyFit W.P t → isaK W.P k t = some b → kdV W k = some v → tyV W t = some u → PySem.W.kitOne W.K v u = some b := by
  intro k t b v u fit tf hb hk ht
  have m1 := kdB_mem hL hc fit hk
  have m2 : (t, u) ∈ tyB' cv L := by
    unfold tyB'
    cases t with
    | cls c =>
      have e : W.mg (W.nm.cn c) = some u := ht
      obtain ⟨q, hq⟩ := tf
      rw [hc c q hq] at e
      cases e
      rw [hL] at hq
      exact List.mem_append_right _ (List.mem_map.mpr ⟨(c, q), lookup_mem' hq, rfl⟩)
    | _ => cases ht; exact List.mem_append_left _ (by simp)
  have := List.all_eq_true.mp (List.all_eq_true.mp h _ m1) _ m2
  dsimp only at this
  rw [hb] at this
  exact of_decide_eq_true this
end Pyd
set_option Elab.async false
set_option linter.all false
set_option maxRecDepth 100000
set_option maxHeartbeats 1000000
namespace Pyd
open PySem PySem.Spec PyProof.Rows L2
mutual
def valB (K : PySem.W.Frag) : Val → Value → Bool
  | .non, u => match u with
    | .none => true
    | _ => false
  | .bl b, u => match u with
    | .bool c => b == c
    | _ => false
  | .int i, u => match u with
    | .int j _ => decide (i = j)
    | _ => false
  | .str s, u => match u with
    | .str x _ => strB x s
    | _ => false
  | .tup xs, u => match u with
    | .ref a => (match K.lookup a with
      | some ⟨.type "tuple", _, .seq its _, _⟩ => decide (its.size ≤ sizeLine) && valsB K xs its.toList
      | _ => false)
    | _ => false
  | .loc _, _ => false
  | .glo _, _ => false
def valsB (K : PySem.W.Frag) : List Val → List Value → Bool
  | [], us => us.isEmpty
  | x :: xs, us => match us with
    | u :: us => valB K x u && valsB K xs us
    | [] => false
end
mutual
theorem valB_ok {W : Wd} : ∀ (v : Val) (u : Value), valB W.K v u = true → ∃ y, RelV y u ∧ ∀ ι N H, RV W ι N H v y
  | .non, u, h => by
    cases u <;> first
      | exact ⟨.non, rfl, fun _ _ _ => rfl⟩
      | cases h
  | .bl b, u, h => by
    cases u with
    | bool c =>
      cases beq_iff_eq.mp (show (b == c) = true from h)
      exact ⟨.bl b, rfl, fun _ _ _ => rfl⟩
    | _ => cases h
  | .int i, u, h => by
    cases u with
    | int j t =>
      cases of_decide_eq_true (show decide (i = j) = true from h)
      exact ⟨.int i, ⟨_, rfl⟩, fun _ _ _ => rfl⟩
    | _ => cases h
  | .str s, u, h => by
    cases u with
    | str x t =>
      have h : strB x s = true := h
      unfold strB at h
      obtain ⟨h, h3⟩ := and2 h
      obtain ⟨h1, h2⟩ := and2 h
      have e : x = tx s := by
        have := beq_iff_eq.mp h1
        cases x with
        | mk a =>
          have h : a.toList = s := this
          subst h
          rfl
      subst e
      exact ⟨.str (tx s), ⟨_, rfl⟩, fun _ _ _ => ⟨⟨of_decide_eq_true h2, h3⟩, rfl⟩⟩
    | _ => cases h
  | .tup xs, u, h => by
    cases u with
    | ref a =>
      have h : (match W.K.lookup a with
        | some ⟨.type "tuple", _, .seq its _, _⟩ => decide (its.size ≤ sizeLine) && valsB W.K xs its.toList
        | _ => false) = true := h
      split at h
      · rename_i dd its n sl ho
        obtain ⟨h1, h2⟩ := and2 h
        obtain ⟨ys, r, q⟩ := valsB_ok xs _ h2
        exact ⟨.ref a, rfl, fun ι N H => ⟨a, ys, rfl, .inr ⟨_, its, n, ho, rfl, rfl, of_decide_eq_true h1, r⟩, q ι N H⟩⟩
      · cases h
    | _ => cases h
  | .loc _, u, h => by cases h
  | .glo _, u, h => by cases h
theorem valsB_ok {W : Wd} : ∀ (vs : List Val) (us : List Value), valsB W.K vs us = true → ∃ ys, Vals ys us ∧ ∀ ι N H, RVs W ι N H vs ys
  | [], us, h => by
    cases us with
    | nil => exact ⟨[], .nil, fun _ _ _ => rfl⟩
    | cons a b => cases h
  | x :: xs, us, h => by
    cases us with
    | nil => cases h
    | cons u us =>
      obtain ⟨h1, h2⟩ := and2 (show (valB W.K x u && valsB W.K xs us) = true from h)
      obtain ⟨y, r1, q1⟩ := valB_ok x _ h1
      obtain ⟨ys, r2, q2⟩ := valsB_ok xs _ h2
      exact ⟨y :: ys, .cons r1 r2, fun ι N H => ⟨y, ys, rfl, q1 ι N H, q2 ι N H⟩⟩
end
end Pyd
set_option Elab.async false
set_option linter.all false
set_option maxRecDepth 100000
set_option maxHeartbeats 1000000
namespace Pyd
open PySem PySem.Spec PyProof.Rows L2
structure MRow where
  f : Nat
  at_ : Str × Option Str
  q : Str
  pl : List ((Nat × Nat) × Str)
def MRow.plf (m : MRow) : Nat → Nat → Str := fun ln c => match m.pl.lookup (ln, c) with
  | some x => m.q ++ x
  | none => Str.empty
structure Tb where
  nm : Nms
  L : List (Nat × Cl)
  at_ : Nat → Str × Option Str
  defs : List Nat
  vals : List (Nat × Val)
  rb : Str
  e0 : FD
  e1 : List (Nat × FD)
  mks : List MRow
  inn : Nat → InnF → Prop
  md : Nat → Bool
def Tb.ga (T : Tb) (K : PySem.W.Frag) (c : Nat) : Addr := He.ga K (T.nm.cn c)
def Tb.cv (T : Tb) (K : PySem.W.Frag) (c : Nat) : Value := .ref (T.ga K c)
def Tb.wd (T : Tb) (P : Prog) (K : PySem.W.Frag) (mg : Str → Option Value) : Wd := ⟨K, mg, P, T.nm, fun f => He.fAd K (T.at_ f), T.mks.map fun m => ((He.cT K m.at_).2, m.plf), T.inn, T.md⟩
def nsO (K : PySem.W.Frag) (x : Str) (v : Option Value) : Bool := decide (PySem.W.nsIn K mainGlobals x = some v)
def Tb.clB (T : Tb) (P : Prog) (K : PySem.W.Frag) (c : Nat) (k : Cl) : Bool :=
  nsO K (T.nm.cn c) (some (.ref (T.ga K c))) &&
  (if k.exc = true then
    errB K (T.ga K c) (He.ma K (T.ga K c) "__init__") (k.fields.map T.nm.an) &&
    (T.L.all fun p => !p.2.exc || decide (PySem.W.exmOne K (.ref (T.ga K p.1)) (.ref (T.ga K c)) = some (p.2.up.contains c))) &&
    (match k.fields with
      | [] => decide (He.ma K (T.ga K c) "__init__" = He.ma K (He.ga K T.rb) "__init__")
      | [fld] => (match T.e1.lookup c with
        | some D => (match D.ps with
          | [self, arg] => init1B T.rb self arg (T.nm.an fld) D.body
          | _ => false)
        | none => false)
      | _ => true)
  else
    (match k.init with
      | some f => ordB K (T.ga K c) (He.fAd K (T.at_ f)) (k.fields.map T.nm.an) && T.md f
      | none => false) &&
    (match k.eq with
      | some f => fO K (T.ga K c) "__eq__" (some (.ref (He.fAd K (T.at_ f)))) && PySem.W.isFn K (.ref (He.fAd K (T.at_ f))) && fO K (T.ga K c) "__ne__" (some (.builtin "object.__ne__")) && ((kdB (T.cv K) T.L).all fun p => PySem.W.notFirst K (T.ga K c) p.2) && (P.fn f).isSome && T.md f
      | none => true) &&
    (k.meths.all fun p => fO K (T.ga K c) (T.nm.mn p.1) (some (.ref (He.fAd K (T.at_ p.2)))) && PySem.W.isFn K (.ref (He.fAd K (T.at_ p.2))) && PySem.W.keepIn K (.ref (He.fAd K (T.at_ p.2))) && (k.fields.all fun g => !(T.nm.an g == T.nm.mn p.1)) && T.md p.2 && (P.fn p.2).isSome))
def locS (sc : Scope) (x : Str) : Bool := (match sc.names.lookup x with
  | some .local => true
  | _ => false) && ndB x && !(x == ("__classdict__" : Str))
def gloS (sc : Scope) (x : Str) : Bool := match sc.names.lookup x with
  | some .globalImplicit => true
  | _ => false
def Tb.iniB (T : Tb) : Bool :=
  (match T.e0.ps with
    | [self] => init0B self T.e0.body && scopeB [self] [self] T.e0.scope && gloS T.e0.scope "ValueError" && locS T.e0.scope self
    | _ => false) && ndB T.rb &&
  (T.e1.all fun p => match p.2.ps with
    | [self, arg] => scopeB [self, arg] [self, arg] p.2.scope && gloS p.2.scope T.rb && locS p.2.scope self && locS p.2.scope arg
    | _ => false)
def cfB (x : Option PySem.W.CFound) (v : Value) : Bool := match x with
  | some (.val u) => decide (u = v)
  | _ => false
theorem cfB_ok {x : Option PySem.W.CFound} {v : Value} (h : cfB x v = true) : x = some (.val v) := by
  unfold cfB at h
  split at h
  · rw [of_decide_eq_true h]
  · cases h
def Tb.exB (T : Tb) (P : Prog) (K : PySem.W.Frag) : Bool :=
  (bltNames.all fun x => nsO K x none) &&
  (T.defs.all fun f => nsO K (T.nm.gn f) (some (.ref (He.fAd K (T.at_ f)))) && PySem.W.keepIn K (.ref (He.fAd K (T.at_ f))) && T.md f) &&
  (T.vals.all fun p => match p.2 with
    | .glo g => (p.1 == g) && T.defs.contains g
    | v => (match PySem.W.nsIn K mainGlobals (T.nm.gn p.1) with
      | some (some u) => valB K v u
      | _ => false)) &&
  (T.L.all fun p => T.clB P K p.1 p.2) &&
  kitB K P (T.cv K) T.L &&
  (nsO K T.rb (some (.ref (He.ga K T.rb))) && PySem.W.readsIn K (He.ga K T.rb) (.type "type") && decide (PySem.W.specialIn K (.ref (He.ga K T.rb)) "__getattribute__" = some (some (.builtin "type.__getattribute__"))) &&
    cfB (PySem.W.findCls K (.ref (He.ga K T.rb)) (.type "type") "__init__") (.ref (He.ma K (He.ga K T.rb) "__init__")) && PySem.W.keepIn K (.ref (He.ma K (He.ga K T.rb) "__init__")) &&
    cfB (PySem.W.findCls K (.type "ValueError") (.type "type") "__init__") (.builtin "ValueError.__init__"))
end Pyd
set_option Elab.async false
set_option linter.all false
set_option maxRecDepth 100000
set_option maxHeartbeats 1000000
namespace Pyd
open PySem PySem.Spec PyProof.Rows L2
section
variable {T : Tb} {P : Prog} {K : PySem.W.Frag} {mg : Str → Option Value} {h : Heap}
theorem ns_some (KX : K.In h) (G : h.Ns mainGlobals mg) {x : Str} {v : Value} (e : nsO K x (some v) = true) : mg x = some v := PySem.W.mg_of KX G (of_decide_eq_true e)
theorem ns_none (KX : K.In h) (G : h.Ns mainGlobals mg) {x : Str} (e : nsO K x none = true) : mg x = none := PySem.W.mg_none_of KX G (of_decide_eq_true e)
theorem loc_s {sc : Scope} {x : Str} (h : locS sc x = true) : sc.names.lookup x = some .local ∧ (x == ("__debug__" : Str)) = false ∧ (x == ("__classdict__" : Str)) = false := by
  unfold locS at h
  obtain ⟨h, h3⟩ := and2 h
  obtain ⟨h1, h2⟩ := and2 h
  refine ⟨?_, nd_ok h2, notB h3⟩
  split at h1
  · assumption
  · cases h1
theorem glo_s {sc : Scope} {x : Str} (h : gloS sc x = true) : sc.names.lookup x = some .globalImplicit := by
  unfold gloS at h
  split at h
  · assumption
  · cases h
theorem cl_at (hx : (T.L.all fun p => T.clB P K p.1 p.2) = true) {c : Nat} {k : Cl} (hc : T.L.lookup c = some k) : T.clB P K c k = true := List.all_eq_true.mp hx _ (lookup_mem' hc)
theorem facts_of (KX : K.In h) (G : h.Ns mainGlobals mg) (hcl : ∀ c, P.cl c = T.L.lookup c) (hval : ∀ g v, P.val g = some v → (g, v) ∈ T.vals) (hrp : P.rp = rpr) (han : ∀ f g, T.nm.an f = T.nm.an g → f = g)
    (hx : T.exB P K = true) (hi : T.iniB = true)
    (h0 : ∃ fd, FunD K T.e0.x T.e0.qual T.e0.params T.e0.body T.e0.scope [] [] (He.ma K (He.ga K T.rb) "__init__") fd ∧ L2.Binds K fd T.e0.ps [])
    (h1 : ∀ c D, T.e1.lookup c = some D → ∃ fd, FunD K D.x D.qual D.params D.body D.scope [] [] (He.ma K (T.ga K c) "__init__") fd ∧ L2.Binds K fd D.ps []) :
    Facts (T.wd P K mg) (fun f => T.defs.contains f) := by
  unfold Tb.exB at hx
  obtain ⟨hx, x6⟩ := and2 hx
  obtain ⟨hx, x5⟩ := and2 hx
  obtain ⟨hx, x4⟩ := and2 hx
  obtain ⟨hx, x3⟩ := and2 hx
  obtain ⟨x1, x2⟩ := and2 hx
  obtain ⟨x6, b6⟩ := and2 x6
  obtain ⟨x6, b5⟩ := and2 x6
  obtain ⟨x6, b4⟩ := and2 x6
  obtain ⟨x6, b3⟩ := and2 x6
  obtain ⟨b1, b2⟩ := and2 x6
  unfold Tb.iniB at hi
  obtain ⟨hi, i3⟩ := and2 hi
  obtain ⟨i1, i2⟩ := and2 hi
  have blt : ∀ x ∈ bltNames, mg x = none := fun x hm => ns_none KX G (List.all_eq_true.mp x1 x hm)
  have C : ∀ {c k}, P.cl c = some k → T.clB P K c k = true := fun e => cl_at x4 (by rw [← hcl]; exact e)
  have Cm : ∀ {c k}, P.cl c = some k → mg (T.nm.cn c) = some (.ref (T.ga K c)) := fun {c k} e => by
    have := C e
    unfold Tb.clB at this
    exact ns_some KX G (and2 this).1
  have Ca : ∀ {c k Ca}, P.cl c = some k → mg (T.nm.cn c) = some (.ref Ca) → Ca = T.ga K c := fun {c k Ca} e m => by
    rw [Cm e] at m
    cases m; rfl
  have CE : ∀ {c k}, P.cl c = some k → k.exc = true → errB K (T.ga K c) (He.ma K (T.ga K c) "__init__") (k.fields.map T.nm.an) = true ∧ (∀ c' k', P.cl c' = some k' → k'.exc = true → PySem.W.exmOne K (.ref (T.ga K c')) (.ref (T.ga K c)) = some (k'.up.contains c)) ∧
      (match k.fields with
      | [] => decide (He.ma K (T.ga K c) "__init__" = He.ma K (He.ga K T.rb) "__init__")
      | [fld] => (match T.e1.lookup c with
        | some D => (match D.ps with
          | [self, arg] => init1B T.rb self arg (T.nm.an fld) D.body
          | _ => false)
        | none => false)
      | _ => true) = true := fun {c k} e ex => by
    have := C e
    unfold Tb.clB at this
    obtain ⟨_, q⟩ := and2 this
    rw [if_pos ex] at q
    obtain ⟨q, q3⟩ := and2 q
    obtain ⟨q1, q2⟩ := and2 q
    refine ⟨q1, fun c' k' e' ex' => ?_, q3⟩
    rw [hcl] at e'
    have := List.all_eq_true.mp q2 _ (lookup_mem' e')
    dsimp only at this
    rw [ex'] at this
    exact of_decide_eq_true this
  have CO : ∀ {c k}, P.cl c = some k → k.exc = false → (∃ f, k.init = some f ∧ ordB K (T.ga K c) (He.fAd K (T.at_ f)) (k.fields.map T.nm.an) = true ∧ T.md f = true) ∧ (∀ f, k.eq = some f → EqF (T.wd P K mg) c (T.ga K c) f ∧ ∃ d, P.fn f = some d) ∧ ∀ m f, k.meths.lookup m = some f → MethF (T.wd P K mg) c k (T.ga K c) m f := fun {c k} e ex => by
    have := C e
    unfold Tb.clB at this
    obtain ⟨_, q⟩ := and2 this
    rw [if_neg (by rw [ex]; decide)] at q
    obtain ⟨q, q3⟩ := and2 q
    obtain ⟨q1, q2⟩ := and2 q
    refine ⟨?_, fun f hf => ?_, fun m f hf => ?_⟩
    · cases hi : k.init with
      | none => rw [hi] at q1; cases q1
      | some f => rw [hi] at q1; exact ⟨f, rfl, and2 q1⟩
    · rw [hf] at q2
      dsimp only at q2
      obtain ⟨q2, a6⟩ := and2 q2
      obtain ⟨q2, a5⟩ := and2 q2
      obtain ⟨q2, a4⟩ := and2 q2
      obtain ⟨q2, a3⟩ := and2 q2
      obtain ⟨a1, a2⟩ := and2 q2
      refine ⟨⟨of_decide_eq_true a1, a2, of_decide_eq_true a3, a6, fun kd t fit ht => ?_⟩, isSome_ok a5⟩
      have m1 : (kd, t) ∈ kdB (T.cv K) T.L := kdB_mem hcl (fun c q e => Cm e) fit ht
      exact List.all_eq_true.mp a4 _ m1
    · have r := List.all_eq_true.mp q3 _ (lookup_mem' hf)
      dsimp only at r
      obtain ⟨r, r6⟩ := and2 r
      obtain ⟨r, r5⟩ := and2 r
      obtain ⟨r, r4⟩ := and2 r
      obtain ⟨r, r3⟩ := and2 r
      obtain ⟨r1, r2⟩ := and2 r
      exact ⟨⟨of_decide_eq_true r1, r2, r3⟩, fun g hg => by
        have := notB (List.all_eq_true.mp r4 g hg)
        exact beq_eq_false_iff_ne.mp this, r5, isSome_ok r6⟩
  obtain ⟨fd0, FD0, B0⟩ := h0
  have F0 : ∃ self, L2.Binds K fd0 [self] [] ∧ ∀ (P' : Program) (w : World) (base : Heap), FnOk P' w K mg base (L2.CX P' w) 1 (He.ma K (He.ga K T.rb) "__init__") fd0 [self] (spI0 K) := by
    split at i1
    · rename_i self hps
      obtain ⟨i1, j4⟩ := and2 i1
      obtain ⟨i1, j3⟩ := and2 i1
      obtain ⟨j1, j2⟩ := and2 i1
      rw [hps] at B0
      obtain ⟨l1, l2, l3⟩ := loc_s j4
      exact ⟨self, B0, fun P' w base => init0_ok (k := 0) FD0 (scopeB_ok j2) j1 (glo_s j3) l1 l2 l3 (blt _ (by decide)) (cfB_ok b6)⟩
    · cases i1
  obtain ⟨self0, B0', F0⟩ := F0
  have rbm : mg T.rb = some (.ref (He.ga K T.rb)) := ns_some KX G b1
  exact {
    ok := {
      exc := fun c k Cx e ex m => by
        cases Ca e m
        exact (errB_ok (W := T.wd P K mg) (CE e ex).1).1
      an := han
      cls := fun c k Cx e ex m => by
        cases Ca e m
        obtain ⟨⟨f, _, hf, _⟩, _⟩ := CO e ex
        exact (ordB_ok (W := T.wd P K mg) hf).1
      rp := fun d s e => rpr_ok d s (by rw [← hrp]; exact e)
      kit := kitB_ok (W := T.wd P K mg) hcl (fun c q e => Cm e) x5 }
    blt := blt
    fn := fun f hf => by
      have := List.all_eq_true.mp x2 f (by simpa using hf)
      obtain ⟨this, a3⟩ := and2 this
      obtain ⟨a1, a2⟩ := and2 this
      exact ⟨⟨ns_some KX G a1, a2⟩, a3⟩
    gv := fun g v e => by
      have := List.all_eq_true.mp x3 _ (hval g v e)
      dsimp only at this
      have key : ∀ v, (match PySem.W.nsIn K mainGlobals (T.nm.gn g) with
          | some (some u) => valB K v u
          | _ => false) = true → ∃ u y, mg (T.nm.gn g) = some u ∧ RelV y u ∧ ∀ ι N H, RV (T.wd P K mg) ι N H v y := fun v q => by
        split at q
        · rename_i u hu
          obtain ⟨y, r, t⟩ := valB_ok (W := T.wd P K mg) v u q
          exact ⟨u, y, PySem.W.mg_of KX G hu, r, t⟩
        · cases q
      cases v with
      | glo g' =>
        obtain ⟨a1, a2⟩ := and2 this
        have a1 : g = g' := by simpa using a1
        subst a1
        have a2 := List.all_eq_true.mp x2 g (by simpa using a2)
        have m := ns_some KX G (and2 (and2 a2).1).1
        exact ⟨_, .ref _, m, rfl, fun ι N H => ⟨_, rfl, m⟩⟩
      | _ => exact key _ this
    cls := fun c k e => ⟨_, Cm e⟩
    new := fun c k f e ex hf => by
      obtain ⟨⟨f', h', hf', hmd⟩, _⟩ := CO e ex
      have : f' = f := Option.some.inj (h'.symm.trans hf)
      subst this
      exact ⟨T.ga K c, (ordB_ok (W := T.wd P K mg) hf').2, e, ex, Cm e, hf, hmd⟩
    eq := fun c q Cx f e ex hf m => by
      cases Ca e m
      exact (CO e ex).2.1 f hf
    mt := fun c q Cx m f e ex hf hm => by
      cases Ca e hm
      exact (CO e ex).2.2 m f hf
    er0 := fun c q e ex hfl => by
      obtain ⟨q1, _, q3⟩ := CE e ex
      rw [hfl] at q3
      have q3 := of_decide_eq_true q3
      refine ⟨T.ga K c, He.ma K (T.ga K c) "__init__", fd0, self0, Cm e, (errB_ok (W := T.wd P K mg) q1).2, B0', fun P' w base => ?_⟩
      rw [q3]
      exact (F0 P' w base).mono (by decide)
    er1 := fun c q fld e ex hfl => by
      obtain ⟨q1, _, q3⟩ := CE e ex
      rw [hfl] at q3
      dsimp only at q3
      cases hD : T.e1.lookup c with
      | none => rw [hD] at q3; cases q3
      | some D =>
        rw [hD] at q3
        dsimp only at q3
        obtain ⟨fd, FD, B⟩ := h1 c D hD
        split at q3
        · rename_i self arg hps
          have i3' := List.all_eq_true.mp i3 _ (lookup_mem' hD)
          dsimp only at i3'
          rw [hps] at i3' B
          obtain ⟨i3', k4⟩ := and2 i3'
          obtain ⟨i3', k3⟩ := and2 i3'
          obtain ⟨k1, k2⟩ := and2 i3'
          obtain ⟨l1, l2, l3⟩ := loc_s k3
          obtain ⟨l4, l5, l6⟩ := loc_s k4
          have X := errB_ok (W := T.wd P K mg) q1
          refine ⟨T.ga K c, He.ma K (T.ga K c) "__init__", fd, self, arg, Cm e, X.2, X.1.no fld (by rw [hfl]; exact List.mem_singleton.mpr rfl), B, fun P' w base => ?_⟩
          exact init1_ok (k := 1) FD (scopeB_ok k1) q3 (glo_s k2) l1 l4 (nd_ok i2) l2 l3 l5 l6 rbm b2 (of_decide_eq_true b3) (cfB_ok b4) (F0 P' w base) B0' b5
        · cases q3
    ca := fun c q e ex => ⟨T.ga K c, Cm e, ⟨fun c' k' C' e' ex' m' => by
      cases Ca e' m'
      exact (CE e ex).2.1 c' k' e' ex'⟩⟩ }
end
end Pyd
set_option Elab.async false
set_option linter.all false
set_option maxRecDepth 100000
set_option maxHeartbeats 1000000
namespace Pyd
open PySem PySem.Spec PyProof.Rows L2
def nameA (l : List (Nat × Str)) (f : Nat) : Str := match l.lookup f with
  | some x => x
  | none => tx (List.replicate (f + 1000) 0)
theorem snd_inj {l : List (Nat × Str)} (h : (l.map (·.2)).Nodup) {f g : Nat} {x : Str} (h1 : (f, x) ∈ l) (h2 : (g, x) ∈ l) : f = g := by
  obtain ⟨i, hi, e1⟩ := List.mem_iff_getElem.mp h1
  obtain ⟨j, hj, e2⟩ := List.mem_iff_getElem.mp h2
  have a : (l.map (·.2))[i]? = some x := by rw [List.getElem?_map, List.getElem?_eq_getElem hi, e1]; rfl
  have b : (l.map (·.2))[j]? = some x := by rw [List.getElem?_map, List.getElem?_eq_getElem hj, e2]; rfl
  have e := L2.nodup_ix h a b
  subst e
  rw [e1] at e2
  exact congrArg Prod.fst e2
theorem nameA_inj {l : List (Nat × Str)} (h1 : (l.map (·.2)).Nodup) (h2 : (l.all fun p => decide (p.2.cps.size < 1000)) = true) {f g : Nat} (h : nameA l f = nameA l g) : f = g := by
  have sh : ∀ {i : Nat} {x : Str}, l.lookup i = some x → x.cps.size < 1000 := fun e => of_decide_eq_true (List.all_eq_true.mp h2 _ (lookup_mem' e))
  unfold nameA at h
  cases hf : l.lookup f with
  | some x =>
    rw [hf] at h
    cases hg : l.lookup g with
    | some y =>
      rw [hg] at h
      have h : x = y := h
      subst h
      exact snd_inj h1 (lookup_mem' hf) (lookup_mem' hg)
    | none =>
      rw [hg] at h
      have h : x = tx (List.replicate (g + 1000) 0) := h
      have := sh hf
      rw [h] at this
      simp [tx] at this
      omega
  | none =>
    rw [hf] at h
    cases hg : l.lookup g with
    | some y =>
      rw [hg] at h
      have h : tx (List.replicate (f + 1000) 0) = y := h
      have := sh hg
      rw [← h] at this
      simp [tx] at this
      omega
    | none =>
      rw [hg] at h
      have := congrArg (fun z : Str => z.cps.size) h
      simpa [tx] using this
def asY (n : Nat) (g : Addr → Option Obj) : List Addr := He.asD g n ++ [cStatics]
structure SaysY (fa : List He.Fa) (fn : List He.DefD) (tf : List He.Defn) (ex : PySem.W.Frag → Bool) (h : Heap) (K : PySem.W.Frag) : Prop where
  d : He.SaysD fa fn K
  more : ex K = true
  tab : ∀ p ∈ tf, PySem.W.codeHdIn K (He.cT K p).1 (He.cT K p).2 = true ∧ K.lookup (He.cT K p).2 = none ∧ h.get? (He.cT K p).2 = some { cls := .none, data := .fields #[] }
abbrev AlY : Type := He.AlD × Bool
def obsY (n : Nat) (fa : List He.Fa) (fn : List He.DefD) (tf : List He.Defn) (ex : PySem.W.Frag → Bool) (g : Addr → Option Obj) : AlY :=
  let K := He.frT g (asY n g)
  (He.obsD fa fn K, ex K && He.tabsB g tf K)
theorem saysY_of {n : Nat} {fa : List He.Fa} {fn : List He.DefD} {tf : List He.Defn} {ex : PySem.W.Frag → Bool} {h : Heap} (e : obsY n fa fn tf ex h.get? = (He.valD fn, true)) : SaysY fa fn tf ex h (He.frT h.get? (asY n h.get?)) := by
  obtain ⟨h1, h2⟩ := and2 (congrArg (fun z : AlY => z.2) e)
  refine ⟨congrArg (fun z : AlY => z.1) e, h1, fun p hp => ?_⟩
  obtain ⟨h3, h4⟩ := and2 (List.all_eq_true.mp h2 p hp)
  refine ⟨h3, ?_⟩
  cases q : h.get? (He.cT (He.frT h.get? (asY n h.get?)) p).2 with
  | none => rw [q] at h4; cases h4
  | some o =>
    rw [q] at h4
    exact ⟨He.frT_none q h4, by rw [He.emptyTab_eq h4]⟩
def hookY (n : Nat) (fa : List He.Fa) (fn : List He.DefD) (tf : List He.Defn) (ex : PySem.W.Frag → Bool) : PySem.W.Hook where
  α := AlY
  obs := fun s => obsY n fa fn tf ex s.heap.get?
  val := fun _ => (He.valD fn, true)
  says := fun _ h => ∃ K : PySem.W.Frag, K.In h ∧ SaysY fa fn tf ex h K
  of := fun _ _ e => ⟨_, He.frT_in, saysY_of e⟩
  keeps := fun _ _ _ ⟨K, hK, c⟩ k => ⟨K, PySem.W.Frag.In.keeps hK k, ⟨c.d, c.more, fun p hp => ⟨(c.tab p hp).1, (c.tab p hp).2.1, k _ _ (c.tab p hp).2.2⟩⟩⟩
theorem obsY_eq {n : Nat} {fa : List He.Fa} {fn : List He.DefD} {tf : List He.Defn} {ex : PySem.W.Frag → Bool} {g : Addr → Option Obj} {s : Shared} (h : ∀ a, g a = s.heap.get? a) : obsY n fa fn tf ex g = (hookY n fa fn tf ex).obs s := by
  have e : g = s.heap.get? := funext h
  rw [e] <;> rfl
structure Row where
  f : Nat
  d : Fn
  D : FD
  at_ : Str × Option Str
def Row.dd (r : Row) : He.DefD := ⟨r.at_, r.D.x, r.D.qual, r.D.params, r.D.body, r.D.scope, [], []⟩
structure ERow where
  c : Nat
  cn : Str
  D : FD
def ERow.dd (e : ERow) : He.DefD := ⟨(e.cn, some "__init__"), e.D.x, e.D.qual, e.D.params, e.D.body, e.D.scope, [], []⟩
def BindP (D : FD) : Prop := ∀ (kV doc pm : Value) (an : Option Addr) (cdv ct : Value) (us : List Value), us.length = D.ps.length → bindArgs (PySem.W.fnOf D.x D.qual D.params D.body D.scope .none kV doc pm an cdv ct) ⟨us, []⟩ = pure (D.ps.zip us)
def AllP {α : Type} (p : α → Prop) : List α → Prop
  | [] => True
  | x :: xs => p x ∧ AllP p xs
theorem AllP.mem {α : Type} {p : α → Prop} : ∀ {l : List α}, AllP p l → ∀ x ∈ l, p x
  | _ :: _, ⟨h, _⟩, _, .head _ => h
  | _ :: _, ⟨_, t⟩, x, .tail _ m => AllP.mem t x m
structure IRow where
  f : Nat
  d : Fn
  N : List Str
  fr : List Str
structure Law where
  nm : Nms
  rows : List Row
  irows : List IRow
  mks : List MRow
  L : List (Nat × Cl)
  vals : List (Nat × Val)
  e0 : ERow
  e1 : List ERow
def Law.at_ (l : Law) (f : Nat) : Str × Option Str := match (l.rows.map fun r => (r.f, r.at_)).lookup f with
  | some p => p
  | none => (Str.empty, none)
def Law.fnT (l : Law) : List (Nat × Fn) := (l.rows.map fun r => (r.f, r.d)) ++ l.irows.map fun r => (r.f, r.d)
def Law.P (l : Law) : Prog := ⟨fun f => l.fnT.lookup f, fun c => l.L.lookup c, fun g => l.vals.lookup g, rpr⟩
def Law.defs (l : Law) : List Nat := (l.rows.filter fun r => r.at_.2.isNone).map (·.f)
def Law.md (l : Law) (f : Nat) : Bool := (l.rows.map (·.f)).contains f
def Law.Nf (l : Law) (f : Nat) : List Str := match (l.irows.map fun r => (r.f, r.N)).lookup f with
  | some N => N
  | none => []
def Law.frs (l : Law) (f : Nat) : List Str := match (l.irows.map fun r => (r.f, r.fr)).lookup f with
  | some N => N
  | none => []
def Law.inB (l : Law) : Nat → InnF → Bool := innB l.nm l.P (fun f => l.defs.contains f) l.Nf
def Law.T (l : Law) : Tb := ⟨l.nm, l.L, l.at_, l.defs, l.vals, l.e0.cn, l.e0.D, l.e1.map fun e => (e.c, e.D), l.mks, fun f I => l.inB f I = true, l.md⟩
def Law.fn (l : Law) : List He.DefD := l.rows.map Row.dd ++ (l.e0.dd :: l.e1.map ERow.dd)
def Law.mkr (l : Law) (f : Nat) : Option Mkr := (l.mks.find? fun m => m.f == f).map fun m => ⟨m.q, m.plf, l.inB, l.frs⟩
def Law.tf (l : Law) : List He.Defn := l.mks.map (·.at_)
def Law.exB (l : Law) (K : PySem.W.Frag) : Bool := l.T.exB l.P K && decide ((l.mks.map fun m => (He.cT K m.at_).2).Nodup)
def Law.okB (l : Law) (lw : Nat) : Bool :=
  (l.rows.all fun r => funB l.nm l.P (fun f => l.defs.contains f) (l.mkr r.f) r.d r.D) && l.T.iniB && (l.rows.all fun r => decide (l.at_ r.f = r.at_)) && (l.e1.all fun e => l.nm.cn e.c == e.cn) && l.defs.contains lw && (l.nm.gn lw == ("law" : Str)) &&
    (l.mks.all fun m => l.rows.all fun r => !(r.f == m.f) || (decide (r.at_ = m.at_) && (r.D.qual ++ ".<locals>." == m.q))) && decide (l.rows.map (·.f)).Nodup && l.md lw
def Law.bd (l : Law) : Prop := AllP (fun r : Row => BindP r.D) l.rows ∧ BindP l.e0.D ∧ AllP (fun e : ERow => BindP e.D) l.e1
theorem funD_of {fa : List He.Fa} {fn : List He.DefD} {K : PySem.W.Frag} (c : He.SaysD fa fn K) {D : FD} {at_ : Str × Option Str} (h : (⟨at_, D.x, D.qual, D.params, D.body, D.scope, [], []⟩ : He.DefD) ∈ fn) (b : BindP D) :
    ∃ fd, FunD K D.x D.qual D.params D.body D.scope [] [] (He.fAd K at_) fd ∧ L2.Binds K fd D.ps [] := by
  obtain ⟨fd, F⟩ := c.defs h
  have F : FunD K D.x D.qual D.params D.body D.scope [] [] (He.fAd K at_) fd := F
  exact ⟨fd, F, F.bindsN b⟩
theorem funD_code {K : PySem.W.Frag} {at_ : Str × Option Str} {x qual : Str} {params : Arguments} {body : List Stmt} {scope : Scope} {fd : FuncData} (F : FunD K x qual params body scope [] [] (He.fAd K at_) fd) : fd.code = .ref (He.cT K at_).1 := by
  obtain ⟨oc, od, dV, kV, doc, pm, an, cdv, ct, osl, e, lk, hcd, _, _⟩ := F.ex
  subst e
  obtain ⟨c, rfl⟩ := He.codeIn_ref hcd
  have := He.codeOf_eq (c := c) lk rfl
  show Value.ref c = .ref (He.codeOf K at_)
  rw [this]
theorem lookup_app {α : Type} {f : Nat} {a : α} : ∀ {l k : List (Nat × α)}, (l ++ k).lookup f = some a → f ∈ l.map (·.1) → l.lookup f = some a
  | [], k, h, m => by simp at m
  | (g, b) :: l, k, h, m => by
    rw [List.cons_append, List.lookup_cons] at h
    rw [List.lookup_cons]
    by_cases e : (f == g) = true
    · rw [e] at h ⊢; exact h
    · rw [Bool.eq_false_iff.mpr e] at h ⊢
      refine lookup_app h ?_
      rcases List.mem_cons.mp m with z | z
      · have z : f = g := z
        subst z; simp at e
      · exact z
theorem Law.facts {l : Law} {fa : List He.Fa} {K : PySem.W.Frag} {mg : Str → Option Value} {h : Heap} {lw : Nat} {f : Addr} (KX : K.In h) (G : h.Ns mainGlobals mg) (hfa : mg ("law" : Str) = some (.ref f)) (c : SaysY fa l.fn l.tf l.exB h K) (hok : l.okB lw = true) (hb : l.bd)
    (han : ∀ f g, l.nm.an f = l.nm.an g → f = g) :
    ∃ (W : Wd) (df : Nat → Bool) (TP : List (Addr × Addr)) (Nf : Nat → List Str), W.K.In h ∧ W.mg = mg ∧ W.P = l.P ∧ W.fa lw = f ∧ W.md lw = true ∧ TabF W h TP ∧ Facts W df ∧
      (∀ f d, W.P.fn f = some d → W.md f = true → ∃ D m, FunF W TP df f d D m) ∧ ∀ f I, W.inn f I → innB W.nm W.P df Nf f I = true := by
  unfold Law.okB at hok
  obtain ⟨hok, o9⟩ := and2 hok
  obtain ⟨hok, o8⟩ := and2 hok
  obtain ⟨hok, o7⟩ := and2 hok
  obtain ⟨hok, o6⟩ := and2 hok
  obtain ⟨hok, o5⟩ := and2 hok
  obtain ⟨hok, o4⟩ := and2 hok
  obtain ⟨hok, o3⟩ := and2 hok
  obtain ⟨o1, o2⟩ := and2 hok
  obtain ⟨b1, b2, b3⟩ := hb
  obtain ⟨hx, ht⟩ := and2 c.more
  have ht := of_decide_eq_true ht
  have F : Facts (l.T.wd l.P K mg) (fun f => l.T.defs.contains f) := by
    refine facts_of (T := l.T) (P := l.P) KX G (fun c => rfl) (fun g v e => lookup_mem' e) rfl han hx o2 ?_ fun c' D hD => ?_
    · exact funD_of c.d (D := l.e0.D) (at_ := (l.e0.cn, some "__init__")) (List.mem_append_right _ List.mem_cons_self) b2
    · obtain ⟨e, he, ee⟩ := List.mem_map.mp (lookup_mem' hD)
      cases ee
      have ec : l.nm.cn e.c = e.cn := beq_iff_eq.mp (List.all_eq_true.mp o4 e he)
      have := funD_of c.d (D := e.D) (at_ := (e.cn, some "__init__")) (List.mem_append_right _ (List.mem_cons_of_mem _ (List.mem_map.mpr ⟨e, he, rfl⟩))) (b3.mem e he)
      rw [← ec] at this
      exact this
  refine ⟨l.T.wd l.P K mg, _, l.tf.map fun p => He.cT K p, l.Nf, KX, rfl, rfl, ?_, o9, ⟨fun p hp => ?_, fun p hp => ?_, fun p hp => ?_, fun p hp => ?_⟩, F, fun f d hd hm => ?_, fun f I hI => hI⟩
  · obtain ⟨⟨m, _⟩, _⟩ := F.fn lw o5
    have e : l.nm.gn lw = ("law" : Str) := beq_iff_eq.mp o6
    have m : mg (l.nm.gn lw) = some (.ref ((l.T.wd l.P K mg).fa lw)) := m
    rw [e, hfa] at m
    cases m
    rfl
  · obtain ⟨q, hq, rfl⟩ := List.mem_map.mp hp
    exact (c.tab q hq).1
  · obtain ⟨q, hq, rfl⟩ := List.mem_map.mp hp
    exact (c.tab q hq).2.1
  · obtain ⟨q, hq, rfl⟩ := List.mem_map.mp hp
    exact (c.tab q hq).2.2
  · obtain ⟨q, hq, rfl⟩ := List.mem_map.mp (show p ∈ l.mks.map fun m => ((He.cT K m.at_).2, m.plf) from hp)
    exact ⟨He.cT K q.at_, List.mem_map.mpr ⟨q.at_, List.mem_map.mpr ⟨q, hq, rfl⟩, rfl⟩, rfl⟩
  · have hm : (l.rows.map (·.f)).contains f = true := hm
    have hm : f ∈ l.rows.map (·.f) := by simpa using hm
    have hd := lookup_app (show l.fnT.lookup f = some d from hd) (by rw [List.map_map]; exact hm)
    obtain ⟨r, hr, er⟩ := List.mem_map.mp (lookup_mem' hd)
    cases er
    have e : (l.T.wd l.P K mg).fa r.f = He.fAd K r.at_ := congrArg (He.fAd K) (of_decide_eq_true (List.all_eq_true.mp o3 r hr))
    refine ⟨r.D, l.mkr r.f, funF_of (List.all_eq_true.mp o1 r hr) ?_⟩
    obtain ⟨fd, FD, B⟩ := funD_of c.d (D := r.D) (at_ := r.at_) (List.mem_append_left _ (List.mem_map.mpr ⟨r, hr, rfl⟩)) (b1.mem r hr)
    refine ⟨fd, by rw [e]; exact FD, B, fun m' hm' => ?_⟩
    obtain ⟨m, hm1, hm2⟩ := Option.map_eq_some_iff.mp (show (l.mks.find? fun m => m.f == r.f).map _ = some m' from hm')
    subst hm2
    have hmem := List.mem_of_find?_eq_some hm1
    have hmf : m.f = r.f := beq_iff_eq.mp (List.find?_some (p := fun m : MRow => m.f == r.f) hm1)
    have q := List.all_eq_true.mp (List.all_eq_true.mp o7 m hmem) r hr
    rw [hmf, beq_self_eq_true] at q
    obtain ⟨q1, q2⟩ := and2 (show (decide (r.at_ = m.at_) && (r.D.qual ++ ".<locals>." == m.q)) = true from q)
    have q1 := of_decide_eq_true q1
    have hc := funD_code FD
    rw [q1] at hc
    refine ⟨fun f I h => h, beq_iff_eq.mp q2, ⟨(He.cT K m.at_).1, (He.cT K m.at_).2, hc, List.mem_map.mpr ⟨m.at_, List.mem_map.mpr ⟨m, hmem, rfl⟩, rfl⟩, List.mem_map.mpr ⟨m, hmem, rfl⟩, fun p hp e1 => ?_⟩⟩
    obtain ⟨m2, hm2, rfl⟩ := List.mem_map.mp (show p ∈ l.mks.map fun m => ((He.cT K m.at_).2, m.plf) from hp)
    obtain ⟨i, hi, e3⟩ := List.mem_iff_getElem.mp hm2
    obtain ⟨j, hj, e4⟩ := List.mem_iff_getElem.mp hmem
    have a : (l.mks.map fun m => (He.cT K m.at_).2)[i]? = some (He.cT K m.at_).2 := by rw [List.getElem?_map, List.getElem?_eq_getElem hi, e3]; exact congrArg some e1
    have b : (l.mks.map fun m => (He.cT K m.at_).2)[j]? = some (He.cT K m.at_).2 := by rw [List.getElem?_map, List.getElem?_eq_getElem hj, e4]; rfl
    have e5 := (List.getElem?_inj (by rw [List.length_map]; exact hi) ht).mp (a.trans b.symm)
    subst e5
    rw [e3] at e4
    rw [e4]
end Pyd
set_option linter.all false
namespace Pyd
section
variable {α β : Type}
@[inline] def Res.bnd (r : Res α) (f : α → M β) : Res β := match r with
  | .ok a S => f a S
  | .ex c fs S => .ex c fs S
  | .no => .no
@[simp] theorem bnd_ok (a : α) (S : Store) (f : α → M β) : (Res.ok a S).bnd f = f a S := id rfl
@[simp] theorem bnd_ex (c : Nat) (fs : List Val) (S : Store) (f : α → M β) : (Res.ex c fs S : Res α).bnd f = .ex c fs S := id rfl
@[simp] theorem bnd_no (f : α → M β) : (Res.no : Res α).bnd f = .no := id rfl
@[simp] theorem bind_at (x : M α) (f : α → M β) (S : Store) : (x >>= f) S = (x S).bnd f := by
  show M.bind x f S = _
  unfold M.bind Res.bnd
  cases x S <;> rfl
@[simp] theorem pure_at (a : α) (S : Store) : (pure a : M α) S = .ok a S := id rfl
@[simp] theorem fail_at (S : Store) : (fail : M α) S = .no := id rfl
@[simp] theorem throw_at (c : Nat) (fs : List Val) (S : Store) : (throwX c fs : M α) S = .ex c fs S := id rfl
@[simp] theorem alloc_at (o : Ob) (S : Store) : alloc o S = .ok (.loc S.length) (S ++ [o]) := id rfl
theorem look_at {n : Nat} {o : Ob} {S : Store} (h : S[n]? = some o) : look n S = .ok o S := by unfold look; rw [h]
@[simp] theorem put_at (n : Nat) (o : Ob) (S : Store) : put n o S = .ok () (S.set n o) := id rfl
theorem need_at (b : Bool) (S : Store) : need b S = if b = true then .ok () S else .no := id rfl
@[simp] theorem need_true (S : Store) : need true S = .ok () S := id rfl
@[simp] theorem get_some (a : α) (S : Store) : get? (some a) S = .ok a S := id rfl
@[simp] theorem get_none (S : Store) : (get? none : M α) S = .no := id rfl
end
def Ok {α : Type} (r : Res α) (Q : α → Store → Prop) : Prop := ∃ a S, r = .ok a S ∧ Q a S
section
variable {α β : Type}
theorem Ok.mono {r : Res α} {Q Q' : α → Store → Prop} (h : Ok r Q) (k : ∀ a S, Q a S → Q' a S) : Ok r Q' := by
  obtain ⟨a, S, e, q⟩ := h
  exact ⟨a, S, e, k a S q⟩
theorem Ok.bind {x : Res α} {f : α → M β} {Q : α → Store → Prop} {R : β → Store → Prop} (h : Ok x Q) (k : ∀ a S, Q a S → Ok (f a S) R) : Ok (x.bnd f) R := by
  obtain ⟨a, S, e, q⟩ := h
  subst e
  exact k a S q
@[simp] theorem ok_ok (a : α) (S : Store) (Q : α → Store → Prop) : Ok (.ok a S) Q ↔ Q a S := by
  constructor
  · rintro ⟨b, T, e, q⟩
    cases e
    exact q
  · exact fun q => ⟨a, S, rfl, q⟩
end
def Wp {α : Type} (r : Res α) (Q : α → Store → Prop) (E : Nat → List Val → Store → Prop) : Prop := match r with
  | .ok a S => Q a S
  | .ex c fs S => E c fs S
  | .no => False
section
variable {α β : Type}
@[simp] theorem wp_ok (a : α) (S : Store) (Q : α → Store → Prop) (E : Nat → List Val → Store → Prop) : Wp (.ok a S) Q E ↔ Q a S := Iff.rfl
@[simp] theorem wp_ex (c : Nat) (fs : List Val) (S : Store) (Q : α → Store → Prop) (E : Nat → List Val → Store → Prop) : Wp (.ex c fs S : Res α) Q E ↔ E c fs S := Iff.rfl
theorem Wp.bind {x : Res α} {f : α → M β} {Q : α → Store → Prop} {E E' : Nat → List Val → Store → Prop} {R : β → Store → Prop} (h : Wp x Q E') (k : ∀ a S, Q a S → Wp (f a S) R E) (e : ∀ c fs S, E' c fs S → E c fs S) : Wp (x.bnd f) R E := by
  cases x with
  | ok a S => exact k a S h
  | ex c fs S => exact e c fs S h
  | no => exact h
theorem Wp.bindO {x : Res α} {f : α → M β} {Q : α → Store → Prop} {E : Nat → List Val → Store → Prop} {R : β → Store → Prop} (h : Ok x Q) (k : ∀ a S, Q a S → Wp (f a S) R E) : Wp (x.bnd f) R E := by
  obtain ⟨a, S, rfl, q⟩ := h
  exact k a S q
theorem Wp.mono {x : Res α} {Q Q' : α → Store → Prop} {E E' : Nat → List Val → Store → Prop} (h : Wp x Q E) (k : ∀ a S, Q a S → Q' a S) (e : ∀ c fs S, E c fs S → E' c fs S) : Wp x Q' E' := by
  cases x with
  | ok a S => exact k a S h
  | ex c fs S => exact e c fs S h
  | no => exact h
theorem Wp.ok {x : Res α} {Q : α → Store → Prop} (h : Wp x Q fun _ _ _ => False) : Ok x Q := by
  cases x with
  | ok a S => exact ⟨a, S, rfl, h⟩
  | ex c fs S => exact h.elim
  | no => exact h.elim
theorem Ok.wp {x : Res α} {Q : α → Store → Prop} {E : Nat → List Val → Store → Prop} (h : Ok x Q) : Wp x Q E := by
  obtain ⟨a, S, rfl, q⟩ := h
  exact q
end
theorem callN_one {P : Prog} {n f : Nat} {d : Fn} (hn : 1 ≤ n) (hd : P.fn f = some d) (vs cs : List Val) (S : Store) : callN P n f vs cs S = callD P d (callN P (n - 1)) vs cs S := by
  cases n with
  | zero => cases hn
  | succ n =>
    show (match P.fn f with
      | some d => callD P d (callN P n) vs cs S
      | none => .no) = _
    rw [hd]
    rfl
def fin (r : Res Fl) : Res Val := r.bnd retM
@[simp] theorem fin_rt (v : Val) (S : Store) : fin (.ok (.rt v) S) = .ok v S := id rfl
@[simp] theorem fin_nx (e : Env) (S : Store) : fin (.ok (.nx e) S) = .ok .non S := id rfl
@[simp] theorem fin_ex (c : Nat) (fs : List Val) (S : Store) : fin (.ex c fs S) = .ex c fs S := id rfl
theorem callD_run {P : Prog} {C : Orc} {d : Fn} {vs : List Val} {S : Store} (h1 : vs.length = d.arity) (h2 : d.cells = []) (h3 : d.free = []) : callD P d C vs [] S = fin (exSs P d.body C (env0 d vs) S) := by
  unfold callD
  rw [bind_at, need_at]
  simp [h1, h2, h3, fin, callP]
theorem callD_runC {P : Prog} {C : Orc} {d : Fn} {vs cs : List Val} {S : Store} (h1 : vs.length = d.arity) (h3 : cs.length = d.free.length) : callD P d C vs cs S = if (d.cells.isEmpty && d.free.isEmpty) = true then fin (exSs P d.body C (env0 d (vs ++ cs)) S) else dropR S (fin (exSs P d.body C (env0 d (vs ++ cs)) S)) := by
  unfold callD
  rw [bind_at, need_at]
  by_cases h : (d.cells.isEmpty && d.free.isEmpty) = true
  · rw [if_pos h, if_pos h, if_pos (by simp [h1, h3])]; rfl
  · rw [if_neg h, if_neg h, if_pos (by simp [h1, h3])]; rfl
theorem call_runC {P : Prog} {n f : Nat} {d : Fn} (hn : 1 ≤ n) (hd : P.fn f = some d) {vs cs : List Val} {S : Store} (h1 : vs.length = d.arity) (h3 : cs.length = d.free.length) :
    callN P n f vs cs S = if (d.cells.isEmpty && d.free.isEmpty) = true then fin (exSs P d.body (callN P (n - 1)) (env0 d (vs ++ cs)) S) else dropR S (fin (exSs P d.body (callN P (n - 1)) (env0 d (vs ++ cs)) S)) := by
  rw [callN_one hn hd, callD_runC h1 h3]
theorem call_run {P : Prog} {n f : Nat} {d : Fn} (hn : 1 ≤ n) (hd : P.fn f = some d) {vs : List Val} {S : Store} (h1 : vs.length = d.arity) (h2 : d.cells = []) (h3 : d.free = []) :
    callN P n f vs [] S = fin (exSs P d.body (callN P (n - 1)) (env0 d vs) S) := by
  rw [callN_one hn hd, callD_run h1 h2 h3]
section
variable {P : Prog} {C : Orc} {env : Env} {S : Store}
def thenS (r : Res Fl) (g : Env → M Fl) : Res Fl := match r with
  | .ok (.nx e) S' => g e S'
  | x => x
@[simp] theorem thenS_nx (e : Env) (S : Store) (g : Env → M Fl) : thenS (.ok (.nx e) S) g = g e S := id rfl
@[simp] theorem thenS_rt (v : Val) (S : Store) (g : Env → M Fl) : thenS (.ok (.rt v) S) g = .ok (.rt v) S := id rfl
@[simp] theorem thenS_bk (e : Env) (S : Store) (g : Env → M Fl) : thenS (.ok (.bk e) S) g = .ok (.bk e) S := id rfl
@[simp] theorem thenS_ct (e : Env) (S : Store) (g : Env → M Fl) : thenS (.ok (.ct e) S) g = .ok (.ct e) S := id rfl
@[simp] theorem thenS_ex (c : Nat) (fs : List Val) (S : Store) (g : Env → M Fl) : thenS (.ex c fs S) g = .ex c fs S := id rfl
@[simp] theorem thenS_no (g : Env → M Fl) : thenS .no g = .no := id rfl
@[simp] theorem exSs_nil : exSs P .nil C env S = .ok (.nx env) S := id rfl
@[simp] theorem exSs_cons (s : St) (r : Sts) : exSs P (.cons s r) C env S = thenS (exS P s C env S) (exSs P r C) := by
  show seqM (exS P s C) (exSs P r C) env S = _
  unfold seqM thenS
  rfl
theorem thenS_ite (c : Prop) [Decidable c] (a b : Res Fl) (g : Env → M Fl) : thenS (if c then a else b) g = if c then thenS a g else thenS b g := by split <;> rfl
end
end Pyd
set_option linter.all false
namespace Pyd
section
variable {P : Prog} {C : Orc} {env : Env}
@[simp] theorem evE_v (i : Nat) : evE P C (.v i) env = get? (slotV env i) := id rfl
@[simp] theorem evE_cst (c : Val) : evE P C (.cst c) env = pure c := id rfl
@[simp] theorem evE_glo (g : Nat) : evE P C (.glo g) env = get? (P.val g) := id rfl
@[simp] theorem evE_tup (es : Es) : evE P C (.tup es) env = (evEs P C es env >>= fun vs => need (decide (vs.length ≤ 1000)) >>= fun _ => pure (.tup vs)) := id rfl
@[simp] theorem evE_lst (es : Es) : evE P C (.lst es) env = (evEs P C es env >>= fun vs => need (decide (vs.length ≤ 1000)) >>= fun _ => alloc (.lst vs)) := id rfl
@[simp] theorem evE_dic0 : evE P C (.dic .nil) env = alloc (.dic false []) := id rfl
@[simp] theorem evE_bin (op : Bop) (a b : E) : evE P C (.bin op a b) env = (evE P C a env >>= fun x => evE P C b env >>= fun y => binop op x y) := id rfl
@[simp] theorem evE_cmp (op : Cop) (a b : E) : evE P C (.cmp op a b) env = (evE P C a env >>= fun x => evE P C b env >>= fun y => vbl (cmpV P C op x y)) := id rfl
@[simp] theorem evE_cmp2 (op op' : Cop) (a b c : E) : evE P C (.cmp2 op op' a b c) env = (evE P C a env >>= fun x => evE P C b env >>= fun y => cmpV P C op x y >>= fun k => chM k (evE P C c env >>= fun z => vbl (cmpV P C op' y z))) := id rfl
@[simp] theorem evE_and (a b : E) : evE P C (.and a b) env = (evE P C a env >>= fun x => andM x (evE P C b env)) := id rfl
@[simp] theorem evE_or (a b : E) : evE P C (.or a b) env = (evE P C a env >>= fun x => orM x (evE P C b env)) := id rfl
@[simp] theorem evE_not (a : E) : evE P C (.not a) env = (evE P C a env >>= fun x => notV x) := id rfl
@[simp] theorem evE_neg (a : E) : evE P C (.neg a) env = (evE P C a env >>= fun x => negV x) := id rfl
@[simp] theorem evE_ife (c a b : E) : evE P C (.ife c a b) env = (tru (evE P C c) env >>= fun k => if k = true then evE P C a env else evE P C b env) := id rfl
@[simp] theorem evE_idx (a b : E) : evE P C (.idx a b) env = (evE P C a env >>= fun x => evE P C b env >>= fun y => ixV x y) := id rfl
@[simp] theorem evE_sl (a : E) (lo hi : Eo) : evE P C (.sl a lo hi) env = (evE P C a env >>= fun x => evO P C lo env >>= fun l => evO P C hi env >>= fun h => slM x l h) := id rfl
@[simp] theorem evE_rev (a : E) : evE P C (.rev a) env = (evE P C a env >>= fun x => revV x) := id rfl
@[simp] theorem evE_attr (a : E) (f : Nat) : evE P C (.attr a f) env = (evE P C a env >>= fun x => attrV P x f) := id rfl
@[simp] theorem evE_call (f : Nat) (es : Es) : evE P C (.call f es) env = (evEs P C es env >>= fun vs => callE C f vs) := id rfl
@[simp] theorem evE_new (c : Nat) (es : Es) : evE P C (.new c es) env = (evEs P C es env >>= fun vs => newV P C c vs) := id rfl
@[simp] theorem evE_callv (a : E) (es : Es) : evE P C (.callv a es) env = (evE P C a env >>= fun x => isClo x >>= fun _ => evEs P C es env >>= fun vs => callV C x vs) := id rfl
@[simp] theorem evE_mcall (a : E) (m : Nat) (es : Es) : evE P C (.mcall a m es) env = (evE P C a env >>= fun x => methOf P x m >>= fun f => evEs P C es env >>= fun vs => callE C f (x :: vs)) := id rfl
@[simp] theorem evE_lam (f : Nat) (js : List Nat) : evE P C (.lam f js) env = (get? (mapO (slotV env) js) >>= fun vs => alloc (.clo f vs)) := id rfl
@[simp] theorem evE_drp (e : E) : evE P C (.drp e) env = (dropM true >>= fun _ => evE P C e env) := id rfl
@[simp] theorem evT_cv (i : Nat) (x : Val) : evT P C (.cv i) x env = (need (decide (i < env.length)) >>= fun _ => dropM (slotV env i).isSome >>= fun _ => pure (env.set i (some x))) := id rfl
@[simp] theorem exS_fn (t : Tg) (f : Nat) (js : List Nat) : exS P (.fn t f js) C env = (evE P C (.lam f js) env >>= fun x => evT P C t x env >>= fun env => pure (.nx env)) := id rfl
@[simp] theorem dropM_true (S : Store) : dropM true S = .ok () (dropC S) := id rfl
@[simp] theorem dropM_false (S : Store) : dropM false S = .ok () S := id rfl
@[simp] theorem mapO_nil' {α β : Type} (f : α → Option β) : mapO f [] = some [] := id rfl
@[simp] theorem mapO_cons' {α β : Type} (f : α → Option β) (x : α) (xs : List α) : mapO f (x :: xs) = match f x, mapO f xs with
    | some y, some ys => some (y :: ys)
    | _, _ => none := id rfl
theorem isClo_at {n f : Nat} {cs : List Val} {S : Store} (h : S[n]? = some (.clo f cs)) : isClo (.loc n) S = .ok () S := by
  show (match S[n]? with | some (.clo _ _) => (Res.ok () S : Res Unit) | _ => Res.no) = _
  rw [h]
theorem callV_at {n f : Nat} {cs vs : List Val} {S : Store} (h : S[n]? = some (.clo f cs)) : callV C (.loc n) vs S = C f vs cs S := by
  show (match S[n]? with | some (.clo f cs) => C f vs cs S | _ => .no) = _
  rw [h]
theorem methOf_at {n c m f : Nat} {fs : List (Nat × Val)} {k : Cl} {S : Store} (h : S[n]? = some (.ins c fs)) (hc : P.cl c = some k) (hm : k.meths.lookup m = some f) : methOf P (.loc n) m S = .ok f S := by
  show (match S[n]? with | some (.ins c _) => (match P.cl c with | some d => (match d.meths.lookup m with | some f => (Res.ok f S : Res Nat) | none => Res.no) | none => Res.no) | _ => Res.no) = _
  rw [h]
  dsimp only
  rw [hc]
  dsimp only
  rw [hm]
@[simp] theorem evE_isi (a : E) (t : Ty) : evE P C (.isi a t) env = (evE P C a env >>= fun x => vbl (isaV P t x)) := id rfl
@[simp] theorem evE_b1 (b : Bi) (a : E) : evE P C (.b1 b a) env = (evE P C a env >>= fun x => bi1 P b x) := id rfl
@[simp] theorem evE_b2 (b : Bi) (a c : E) : evE P C (.b2 b a c) env = (evE P C a env >>= fun x => evE P C c env >>= fun y => bi2 b x y) := id rfl
@[simp] theorem evE_mk (k : Mk) (a : E) : evE P C (.mk k a) env = (evE P C a env >>= fun x => mkE k x) := id rfl
@[simp] theorem evE_me1 (m : Me) (a b : E) : evE P C (.me1 m a b) env = (evE P C a env >>= fun x => meTy m x >>= fun _ => evE P C b env >>= fun y => meOf m x [y]) := id rfl
@[simp] theorem evE_comp (own : List Nat) (elt : E) (t : Tg) (it : It) (cd : Eo) : evE P C (.comp own elt t it cd) env = compM own (evI P C it) (evT P C t) (evB P C cd) (evE P C elt) env := id rfl
@[simp] theorem evE_comp2 (own own2 : List Nat) (elt : E) (t : Tg) (it : It) (t2 : Tg) (it2 : It) (cd : Eo) : evE P C (.comp2 own own2 elt t it t2 it2 cd) env = compM2 own own2 (evI P C it) (evT P C t) (evI P C it2) (evT P C t2) (evB P C cd) (evE P C elt) env := id rfl
@[simp] theorem evEs_nil : evEs P C .nil env = pure [] := id rfl
@[simp] theorem evEs_cons (e : E) (es : Es) : evEs P C (.cons e es) env = (evE P C e env >>= fun v => evEs P C es env >>= fun vs => pure (v :: vs)) := id rfl
@[simp] theorem evO_none : evO P C .none env = pure none := id rfl
@[simp] theorem evO_some (e : E) : evO P C (.some e) env = (evE P C e env >>= fun v => partI (some v)) := id rfl
@[simp] theorem partI_int (i : Int) : partI (some (.int i)) = pure (some (.int i)) := id rfl
@[simp] theorem evB_none : evB P C .none env = pure true := id rfl
@[simp] theorem evB_some (e : E) : evB P C (.some e) env = tru (evE P C e) env := id rfl
@[simp] theorem evI_e (a : E) : evI P C (.e a) env = (evE P C a env >>= fun x => sbOf x >>= fun b => pure (.one b)) := id rfl
@[simp] theorem evI_r1 (a : E) : evI P C (.r1 a) env = (evE P C a env >>= fun x => r1M x) := id rfl
@[simp] theorem evI_r2 (a b : E) : evI P C (.r2 a b) env = (evE P C a env >>= fun x => evE P C b env >>= fun y => r2M x y) := id rfl
@[simp] theorem evI_en (a : E) : evI P C (.en a) env = (evE P C a env >>= fun x => sbOf x >>= fun b => pure (.enm b)) := id rfl
@[simp] theorem evI_z2 (a b : E) : evI P C (.z2 a b) env = (evE P C a env >>= fun x => evE P C b env >>= fun y => sbOf x >>= fun s => sbOf y >>= fun t => pure (.zip2 s t)) := id rfl
@[simp] theorem evT_v (i : Nat) (x : Val) : evT P C (.v i) x env = (need (decide (i < env.length)) >>= fun _ => pure (env.set i (some x))) := id rfl
@[simp] theorem evT_tup (ts : Tgs) (x : Val) : evT P C (.tup ts) x env = (tupTo x (tgsLen ts) >>= fun xs => evTs P C ts xs env) := id rfl
@[simp] theorem evT_sub (a i : E) (x : Val) : evT P C (.sub a i) x env = (evE P C a env >>= fun o => evE P C i env >>= fun k => ixPut o k x >>= fun _ => pure env) := id rfl
@[simp] theorem evTs_nil : evTs P C .nil [] env = pure env := id rfl
@[simp] theorem evTs_cons (t : Tg) (ts : Tgs) (x : Val) (xs : List Val) : evTs P C (.cons t ts) (x :: xs) env = (evT P C t x env >>= fun env => evTs P C ts xs env) := id rfl
@[simp] theorem tgsLen_nil : tgsLen .nil = 0 := id rfl
@[simp] theorem tgsLen_cons (t : Tg) (ts : Tgs) : tgsLen (.cons t ts) = tgsLen ts + 1 := id rfl
@[simp] theorem tupTo_tup (xs : List Val) (n : Nat) : tupTo (.tup xs) n = if xs.length = n then pure xs else fail := id rfl
@[simp] theorem exS_pass : exS P .pass C env = pure (.nx env) := id rfl
@[simp] theorem exS_brk : exS P .brk C env = pure (.bk env) := id rfl
@[simp] theorem exS_cont : exS P .cont C env = pure (.ct env) := id rfl
@[simp] theorem exS_ex (e : E) : exS P (.ex e) C env = (evE P C e env >>= fun _ => pure (.nx env)) := id rfl
@[simp] theorem exS_asg (t : Tg) (e : E) : exS P (.asg t e) C env = (evE P C e env >>= fun x => evT P C t x env >>= fun env => pure (.nx env)) := id rfl
@[simp] theorem exS_par (is : List Nat) (es : Es) : exS P (.par is es) C env = (evEs P C es env >>= fun vs => need (is.all fun i => decide (i < env.length)) >>= fun _ => get? (setAll is vs env) >>= fun env => pure (.nx env)) := id rfl
@[simp] theorem exS_augv (i : Nat) (op : Bop) (e : E) : exS P (.augv i op e) C env = (get? (slotV env i) >>= fun x => evE P C e env >>= fun y => augI op x y >>= fun z => need (decide (i < env.length)) >>= fun _ => pure (.nx (env.set i (some z)))) := id rfl
@[simp] theorem exS_asga (a : E) (f : Nat) (e : E) : exS P (.asga a f e) C env = (evE P C e env >>= fun x => evE P C a env >>= fun o => attrPut P o f x >>= fun _ => pure (.nx env)) := id rfl
@[simp] theorem exS_ret (e : E) : exS P (.ret e) C env = (evE P C e env >>= fun x => pure (.rt x)) := id rfl
@[simp] theorem exS_retN : exS P .retN C env = pure (.rt .non) := id rfl
@[simp] theorem exS_ifs (c : E) (a b : Sts) : exS P (.ifs c a b) C env = (tru (evE P C c) env >>= fun k => if k = true then exSs P a C env else exSs P b C env) := id rfl
@[simp] theorem exS_for (t : Tg) (it : It) (b : Sts) : exS P (.for_ t it b) C env = (evI P C it env >>= fun s => forM s (evT P C t) (exSs P b C) env) := id rfl
@[simp] theorem exS_while (c : E) (b : Sts) : exS P (.while_ c b) C env = whileP (tru (evE P C c)) (exSs P b C) env := id rfl
@[simp] theorem exS_raise0 (c : Nat) : exS P (.raise c .none) C env = throwX c [] := id rfl
@[simp] theorem exS_raise1 (c : Nat) (e : E) : exS P (.raise c (.some e)) C env = (evE P C e env >>= fun x => throwX c [x]) := id rfl
@[simp] theorem exS_try (tk : TK) (e : E) (c i : Nat) (b : Sts) : exS P (.try_ tk e c i b) C env = tryM P tk (evE P C e) c i (exSs P b noC) env := id rfl
@[simp] theorem augI_add (i j : Int) : augI .add (.int i) (.int j) = pure (.int (i + j)) := id rfl
@[simp] theorem augI_sub (i j : Int) : augI .sub (.int i) (.int j) = pure (.int (i - j)) := id rfl
@[simp] theorem slM_nn (x : Val) : slM x none none = slV x none none := id rfl
@[simp] theorem slM_in (x : Val) (i : Int) : slM x (some (.int i)) none = slV x (some i) none := id rfl
@[simp] theorem slM_ni (x : Val) (i : Int) : slM x none (some (.int i)) = slV x none (some i) := id rfl
@[simp] theorem slM_ii (x : Val) (i j : Int) : slM x (some (.int i)) (some (.int j)) = slV x (some i) (some j) := id rfl
@[simp] theorem slV_tup (xs : List Val) (lo hi : Option Int) : slV (.tup xs) lo hi = pure (.tup (cut xs lo hi)) := id rfl
@[simp] theorem slV_str (xs : List Nat) (lo hi : Option Int) : slV (.str xs) lo hi = pure (.str (cut xs lo hi)) := id rfl
@[simp] theorem revV_tup (xs : List Val) : revV (.tup xs) = pure (.tup xs.reverse) := id rfl
@[simp] theorem revV_str (xs : List Nat) : revV (.str xs) = pure (.str xs.reverse) := id rfl
@[simp] theorem sbOf_tup (xs : List Val) : sbOf (.tup xs) = pure (.tup xs) := id rfl
@[simp] theorem sbOf_str (xs : List Nat) : sbOf (.str xs) = pure (.str xs) := id rfl
theorem sbOf_lst {S : Store} {n : Nat} {xs : List Val} (h : S[n]? = some (.lst xs)) : sbOf (.loc n) S = .ok (.lst n) S := by
  show (look n >>= _) S = _
  rw [bind_at, look_at h]; rfl
theorem sbOf_rol {S : Store} {n : Nat} {xs : List Val} (h : S[n]? = some (.rol xs)) : sbOf (.loc n) S = .ok (.lst n) S := by
  show (look n >>= _) S = _
  rw [bind_at, look_at h]; rfl
@[simp] theorem r1M_int (j : Int) : r1M (.int j) = (need (small62 j) >>= fun _ => pure (.rng 0 1 j.toNat)) := id rfl
@[simp] theorem r2M_int (i j : Int) : r2M (.int i) (.int j) = (need (small62 i && small62 j) >>= fun _ => pure (.rng i 1 (j - i).toNat)) := id rfl
theorem small62_of {i : Int} (h1 : -4611686018427387904 ≤ i) (h2 : i < 4611686018427387904) : small62 i = true := by
  unfold small62
  simp only [Bool.and_eq_true, decide_eq_true_eq]
  omega
end
section
variable {P : Prog} {C : Orc} {env : Env} {S : Store}
@[simp] theorem andM_bl (b : Bool) (y : M Val) : andM (.bl b) y S = if b = true then y S else .ok (.bl false) S := by cases b <;> rfl
@[simp] theorem orM_bl (b : Bool) (y : M Val) : orM (.bl b) y S = if b = true then .ok (.bl true) S else y S := by cases b <;> rfl
@[simp] theorem notV_bl (b : Bool) : notV (.bl b) S = .ok (.bl (!b)) S := id rfl
@[simp] theorem negV_int (i : Int) : negV (.int i) S = .ok (.int (-i)) S := id rfl
@[simp] theorem chM_at (k : Bool) (z : M Val) : chM k z S = if k = true then z S else .ok (.bl false) S := by cases k <;> rfl
@[simp] theorem vbl_at (x : M Bool) : vbl x S = (x S).bnd fun b => (pure (Val.bl b) : M Val) := by
  show (x >>= fun b => pure (Val.bl b)) S = _
  rw [bind_at]
@[simp] theorem notM_at (x : M Bool) : notM x S = (x S).bnd fun b => (pure (!b) : M Bool) := by
  show (x >>= fun b => pure (!b)) S = _
  rw [bind_at]
@[simp] theorem tru_at (p : Env → M Val) : tru p env S = (p env S).bnd fun x => truth x := by
  show (p env >>= fun x => truth x) S = _
  rw [bind_at]
@[simp] theorem truth_blp (b : Bool) : truth (.bl b) S = .ok b S := id rfl
@[simp] theorem truth_int (i : Int) : truth (.int i) S = .ok (i != 0) S := id rfl
@[simp] theorem truth_non : truth .non S = .ok false S := id rfl
@[simp] theorem truth_str (s : List Nat) : truth (.str s) S = .ok (!s.isEmpty) S := id rfl
@[simp] theorem truth_tup (s : List Val) : truth (.tup s) S = .ok (!s.isEmpty) S := id rfl
@[simp] theorem callE_at (f : Nat) (vs : List Val) : callE C f vs S = C f vs [] S := id rfl
@[simp] theorem kind_non : kindV .non S = .ok .non S := id rfl
@[simp] theorem kind_bl (b : Bool) : kindV (.bl b) S = .ok .bl S := id rfl
@[simp] theorem kind_int (b : Int) : kindV (.int b) S = .ok .int S := id rfl
@[simp] theorem kind_str (b : List Nat) : kindV (.str b) S = .ok .str S := id rfl
@[simp] theorem kind_tup (b : List Val) : kindV (.tup b) S = .ok .tup S := id rfl
theorem kind_loc {n : Nat} {o : Ob} (h : S[n]? = some o) : kindV (.loc n) S = match o with
    | .lst _ => .ok .lst S
    | .rol _ => .ok .lst S
    | .dic _ _ => .ok .dic S
    | .ins c _ => .ok (.ins c) S
    | .exc c _ => .ok (.exc c) S
    | _ => .no := by
  show (look n >>= _) S = _
  rw [bind_at, look_at h, bnd_ok]
  cases o <;> rfl
@[simp] theorem isaV_at (t : Ty) (x : Val) : isaV P t x S = (kindV x S).bnd fun k => get? (isaK P k t) := by
  show (kindV x >>= fun k => get? (isaK P k t)) S = _
  rw [bind_at]
@[simp] theorem isaK_int (k : Kd) : isaK P k .int = some (match k with | .int => true | .bl => true | _ => false) := id rfl
@[simp] theorem isaK_bool (k : Kd) : isaK P k .bool = some (match k with | .bl => true | _ => false) := id rfl
@[simp] theorem isaK_str (k : Kd) : isaK P k .str = some (match k with | .str => true | _ => false) := id rfl
@[simp] theorem isaK_tuple (k : Kd) : isaK P k .tuple = some (match k with | .tup => true | _ => false) := id rfl
@[simp] theorem isaK_list (k : Kd) : isaK P k .list = some (match k with | .lst => true | _ => false) := id rfl
@[simp] theorem isaK_dict (k : Kd) : isaK P k .dict = some (match k with | .dic => true | _ => false) := id rfl
@[simp] theorem isaK_ve (k : Kd) : isaK P k .valueError = some (match k with | .exc _ => true | _ => false) := id rfl
@[simp] theorem lenV_str (s : List Nat) : lenV (.str s) S = .ok (.int s.length) S := id rfl
@[simp] theorem lenV_tup (s : List Val) : lenV (.tup s) S = .ok (.int s.length) S := id rfl
theorem lenV_lst {n : Nat} {xs : List Val} (h : S[n]? = some (.lst xs)) : lenV (.loc n) S = .ok (.int xs.length) S := by
  show (look n >>= _) S = _
  rw [bind_at, look_at h]; rfl
theorem lenV_rol {n : Nat} {xs : List Val} (h : S[n]? = some (.rol xs)) : lenV (.loc n) S = .ok (.int xs.length) S := by
  show (look n >>= _) S = _
  rw [bind_at, look_at h]; rfl
@[simp] theorem ite_ok_ok {α : Type} (c : Prop) [Decidable c] (a b : α) (S : Store) : (if c then Res.ok a S else Res.ok b S) = Res.ok (if c then a else b) S := by split <;> rfl
@[simp] theorem bnd_bnd {α β γ : Type} (x : Res α) (f : α → M β) (g : β → M γ) : (x.bnd f).bnd g = x.bnd fun a S => (f a S).bnd g := by cases x <;> rfl
@[simp] theorem thenS_bnd {α : Type} (x : Res α) (f : α → M Fl) (g : Env → M Fl) : thenS (x.bnd f) g = x.bnd fun a S => thenS (f a S) g := by cases x <;> rfl
@[simp] theorem fin_bnd {α : Type} (x : Res α) (f : α → M Fl) : fin (x.bnd f) = x.bnd fun a S => fin (f a S) := by cases x <;> rfl
@[simp] theorem wipe_nil (env : Env) : Pyd.wipe [] env = env := id rfl
@[simp] theorem wipe_cons (i : Nat) (is : List Nat) (env : Env) : Pyd.wipe (i :: is) env = Pyd.wipe is (env.set i none) := id rfl
@[simp] theorem iteM_at {α : Type} (c : Prop) [Decidable c] (f g : M α) (S : Store) : (if c then f else g) S = if c then f S else g S := by split <;> rfl
@[simp] theorem ite_bl (c : Prop) [Decidable c] (a b : Bool) : (if c then Val.bl a else Val.bl b) = Val.bl (if c then a else b) := by split <;> rfl
@[simp] theorem lt_ints (i j : Int) : cmpV P C .lt (.int i) (.int j) S = .ok (decide (i < j)) S := id rfl
@[simp] theorem gt_ints (i j : Int) : cmpV P C .gt (.int i) (.int j) S = .ok (decide (j < i)) S := id rfl
@[simp] theorem le_ints (i j : Int) : cmpV P C .le (.int i) (.int j) S = .ok (!decide (j < i)) S := id rfl
@[simp] theorem ge_ints (i j : Int) : cmpV P C .ge (.int i) (.int j) S = .ok (!decide (i < j)) S := id rfl
theorem eq_data {x y : Val} {b : Bool} (h : eqD 60 S x y = some b) : cmpV P C .eq x y S = .ok b S := by
  show eqV P C x y S = _
  unfold eqV
  rw [h]
theorem ne_data {x y : Val} {b : Bool} (h : eqD 60 S x y = some b) : cmpV P C .ne x y S = .ok (!b) S := by
  show notM (eqV P C x y) S = _
  rw [notM_at]
  unfold eqV
  rw [h]; rfl
@[simp] theorem eq_ints (i j : Int) : cmpV P C .eq (.int i) (.int j) S = .ok (i == j) S := id rfl
@[simp] theorem ne_ints (i j : Int) : cmpV P C .ne (.int i) (.int j) S = .ok (!(i == j)) S := id rfl
@[simp] theorem eq_strs (i j : List Nat) : cmpV P C .eq (.str i) (.str j) S = .ok (i == j) S := id rfl
@[simp] theorem ne_strs (i j : List Nat) : cmpV P C .ne (.str i) (.str j) S = .ok (!(i == j)) S := id rfl
@[simp] theorem eq_bls (i j : Bool) : cmpV P C .eq (.bl i) (.bl j) S = .ok (i == j) S := id rfl
@[simp] theorem ne_bls (i j : Bool) : cmpV P C .ne (.bl i) (.bl j) S = .ok (!(i == j)) S := id rfl
@[simp] theorem is_at (x y : Val) : cmpV P C .is x y S = isV x y S := id rfl
@[simp] theorem isN_at (x y : Val) : cmpV P C .isN x y S = (isV x y S).bnd fun b => (pure (!b) : M Bool) := notM_at _
@[simp] theorem mem_at (x y : Val) : cmpV P C .mem x y S = memV x y S := id rfl
@[simp] theorem nmem_at (x y : Val) : cmpV P C .nmem x y S = (memV x y S).bnd fun b => (pure (!b) : M Bool) := notM_at _
@[simp] theorem isV_non_non : isV .non .non S = .ok true S := id rfl
@[simp] theorem isV_bl_non (b : Bool) : isV (.bl b) .non S = .ok false S := id rfl
@[simp] theorem isV_int_non (b : Int) : isV (.int b) .non S = .ok false S := id rfl
@[simp] theorem isV_str_non (b : List Nat) : isV (.str b) .non S = .ok false S := id rfl
@[simp] theorem isV_tup_non (b : List Val) : isV (.tup b) .non S = .ok false S := id rfl
@[simp] theorem isV_loc_non (b : Nat) : isV (.loc b) .non S = .ok false S := id rfl
@[simp] theorem isV_bls (a b : Bool) : isV (.bl a) (.bl b) S = .ok (a == b) S := id rfl
@[simp] theorem add_ints (i j : Int) : binop .add (.int i) (.int j) S = .ok (.int (i + j)) S := id rfl
@[simp] theorem sub_ints (i j : Int) : binop .sub (.int i) (.int j) S = .ok (.int (i - j)) S := id rfl
theorem mul_ints {i j : Int} (h : (isSmall i || isSmall j) = true) : binop .mul (.int i) (.int j) S = .ok (.int (i * j)) S := by
  show (need (isSmall i || isSmall j) >>= fun _ => pure (Val.int (i * j))) S = _
  rw [h]; rfl
theorem fdiv_ints {i j : Int} (h : j ≠ 0) (h2 : j.natAbs < 1073741824) : binop .fdiv (.int i) (.int j) S = .ok (.int (i.fdiv j)) S := by
  show (need (decide (j ≠ 0) && decide (j.natAbs < 1073741824)) >>= fun _ => pure (Val.int (i.fdiv j))) S = _
  rw [decide_eq_true h, decide_eq_true h2]; rfl
theorem mod_ints {i j : Int} (h : j ≠ 0) : binop .mod (.int i) (.int j) S = .ok (.int (i.fmod j)) S := by
  show (need (decide (j ≠ 0)) >>= fun _ => pure (Val.int (i.fmod j))) S = _
  rw [decide_eq_true h]; rfl
theorem mod_pos {i j : Int} (h : 0 < j) : binop .mod (.int i) (.int j) S = .ok (.int (i % j)) S := by
  rw [mod_ints (by omega), Int.fmod_eq_emod_of_nonneg _ (by omega)]
theorem fdiv_pos {i j : Int} (h : 0 < j) (h2 : j < 1073741824) : binop .fdiv (.int i) (.int j) S = .ok (.int (i / j)) S := by
  rw [fdiv_ints (by omega) (by omega), Int.fdiv_eq_ediv_of_nonneg _ (by omega)]
theorem isSmall_of {i : Int} (h1 : -18446744073709551616 < i) (h2 : i < 18446744073709551616) : isSmall i = true := by
  unfold isSmall
  simp only [Bool.and_eq_true, decide_eq_true_eq]
  omega
theorem mul_l {i j : Int} (h1 : -18446744073709551616 < i) (h2 : i < 18446744073709551616) : binop .mul (.int i) (.int j) S = .ok (.int (i * j)) S := mul_ints (by rw [isSmall_of h1 h2]; rfl)
theorem mul_r {i j : Int} (h1 : -18446744073709551616 < j) (h2 : j < 18446744073709551616) : binop .mul (.int i) (.int j) S = .ok (.int (i * j)) S := mul_ints (by rw [isSmall_of h1 h2, Bool.or_true])
theorem mul_mod {i j q : Int} (h : 0 < q) (h2 : q < 18446744073709551616) : binop .mul (.int (i % q)) (.int j) S = .ok (.int (i % q * j)) S := by
  have h3 := Int.emod_nonneg i (b := q) (by omega)
  have h4 := Int.emod_lt_of_pos i h
  exact mul_l (by omega) (by omega)
theorem add_strs {x y : List Nat} (h : x.length + y.length ≤ LINE) : binop .add (.str x) (.str y) S = .ok (.str (x ++ y)) S := by
  show (need (decide (x.length + y.length ≤ LINE)) >>= fun _ => pure (Val.str (x ++ y))) S = _
  rw [decide_eq_true h]; rfl
theorem add_tups {x y : List Val} (h : x.length + y.length ≤ LINE) : binop .add (.tup x) (.tup y) S = .ok (.tup (x ++ y)) S := by
  show (need (decide (x.length + y.length ≤ LINE)) >>= fun _ => pure (Val.tup (x ++ y))) S = _
  rw [decide_eq_true h]; rfl
theorem add_lsts {m n : Nat} {x y : List Val} (hm : S[m]? = some (.lst x)) (hn : S[n]? = some (.lst y)) (h : x.length + y.length ≤ LINE) : binop .add (.loc m) (.loc n) S = .ok (.loc S.length) (S ++ [.lst (x ++ y)]) := by
  show (look m >>= fun a => look n >>= fun b => _) S = _
  rw [bind_at, look_at hm, bnd_ok, bind_at, look_at hn, bnd_ok]
  show (need (decide (x.length + y.length ≤ LINE)) >>= fun _ => alloc (.lst (x ++ y))) S = _
  rw [decide_eq_true h]; rfl
theorem pow_ints {i j : Int} (h : (decide (0 ≤ j) && decide (j ≤ 1000) && isSmall i) = true) : binop .pow (.int i) (.int j) S = .ok (.int (i ^ j.toNat)) S := by
  show (need (decide (0 ≤ j) && decide (j ≤ 1000) && isSmall i) >>= fun _ => pure (Val.int (i ^ j.toNat))) S = _
  rw [h]; rfl
@[simp] theorem bi_len (x : Val) : bi1 P .len x S = lenV x S := id rfl
@[simp] theorem bi_abs (i : Int) : bi1 P .abs (.int i) S = .ok (.int (if i < 0 then -i else i)) S := id rfl
@[simp] theorem bi_int (i : Int) : bi1 P .int (.int i) S = .ok (.int i) S := id rfl
@[simp] theorem bi_int_bl (k : Bool) : bi1 P .int (.bl k) S = .ok (.int (if k = true then 1 else 0)) S := id rfl
@[simp] theorem bi_max2 (i j : Int) : bi2 .max2 (.int i) (.int j) S = .ok (.int (if j > i then j else i)) S := id rfl
@[simp] theorem bi_min2 (i j : Int) : bi2 .min2 (.int i) (.int j) S = .ok (.int (if j < i then j else i)) S := id rfl
theorem repr_at {x : Val} {d : Dt} {s : List Nat} (h : toD 50 S x = some d) (h2 : P.rp d = some s) : bi1 P .repr x S = .ok (.str s) S := by
  show reprV P x S = _
  unfold reprV
  rw [h]
  dsimp only
  rw [h2]
theorem ixOf_nat {k n : Nat} (h : k < n) : ixOf (k : Int) n = some k := by
  unfold ixOf
  rw [if_pos (by omega), if_pos (by omega)]
  rfl
theorem ixOf_last {n : Nat} (h : 0 < n) : ixOf (-1) n = some (n - 1) := by
  unfold ixOf
  rw [if_neg (by omega), if_pos (by omega)]
  congr 1
  omega
theorem ix_tup {xs : List Val} {i : Int} {k : Nat} {v : Val} (h : ixOf i xs.length = some k) (e : xs[k]? = some v) : ixV (.tup xs) (.int i) S = .ok v S := by
  show (get? (ixOf i xs.length) >>= fun k => get? xs[k]?) S = _
  rw [h, bind_at, get_some, bnd_ok, e]; rfl
theorem ix_str {xs : List Nat} {i : Int} {k : Nat} {v : Nat} (h : ixOf i xs.length = some k) (e : xs[k]? = some v) : ixV (.str xs) (.int i) S = .ok (.str [v]) S := by
  show (get? (ixOf i xs.length) >>= fun k => get? xs[k]? >>= fun c => pure (Val.str [c])) S = _
  rw [h, bind_at, get_some, bnd_ok, e]; rfl
theorem ix_lst {n : Nat} {xs : List Val} {i : Int} {k : Nat} {v : Val} (hS : S[n]? = some (.lst xs)) (h : ixOf i xs.length = some k) (e : xs[k]? = some v) : ixV (.loc n) (.int i) S = .ok v S := by
  show (look n >>= _) S = _
  rw [bind_at, look_at hS, bnd_ok]
  show (get? (ixOf i xs.length) >>= fun k => get? xs[k]?) S = _
  rw [h, bind_at, get_some, bnd_ok, e]; rfl
theorem ixPut_lst {n : Nat} {xs : List Val} {i : Int} {k : Nat} {v : Val} (hS : S[n]? = some (.lst xs)) (h : ixOf i xs.length = some k) : ixPut (.loc n) (.int i) v S = .ok () (S.set n (.lst (xs.set k v))) := by
  show (look n >>= _) S = _
  rw [bind_at, look_at hS, bnd_ok]
  show (get? (ixOf i xs.length) >>= fun k => put n (.lst (xs.set k v))) S = _
  rw [h, bind_at, get_some, bnd_ok, put_at]
theorem append_lst {n : Nat} {xs : List Val} {v : Val} (hS : S[n]? = some (.lst xs)) (h : xs.length < LINE) : meOf .append (.loc n) [v] S = .ok .non (S.set n (.lst (xs ++ [v]))) := by
  show (look n >>= _) S = _
  rw [bind_at, look_at hS, bnd_ok]
  show (need (decide (xs.length < LINE)) >>= fun _ => put n (.lst (xs ++ [v])) >>= fun _ => pure Val.non) S = _
  rw [decide_eq_true h]; rfl
@[simp] theorem slotV_at (env : Env) (i : Nat) : slotV env i = (env[i]?).join := by
  unfold slotV
  cases env[i]? with
  | none => rfl
  | some o => cases o <;> rfl
end
section
variable {P : Prog} {S : Store} {m c f : Nat} {fs : List (Nat × Val)}
theorem attrPut_ins {k : Cl} {v : Val} (h : S[m]? = some (.ins c fs)) (hc : P.cl c = some k) (hf : (decide (fs.length < 40) && k.fields.contains f) = true) : attrPut P (.loc m) f v S = .ok () (S.set m (.ins c (putF f v fs))) := by
  show (look m >>= fun o => attrPutO P m f v o) S = _
  rw [bind_at, look_at h, bnd_ok]
  show (get? (P.cl c) >>= fun d => need (decide (fs.length < 40) && d.fields.contains f) >>= fun _ => put m (.ins c (putF f v fs))) S = _
  rw [hc, bind_at, get_some, bnd_ok, hf]
  rfl
theorem attrPut_set {k : Cl} {v : Val} {fs' : List (Nat × Val)} (h : m < S.length) (hc : P.cl c = some k) (hf : (decide (fs.length < 40) && k.fields.contains f) = true) (hp : putF f v fs = fs') : attrPut P (.loc m) f v (S.set m (.ins c fs)) = .ok () (S.set m (.ins c fs')) := by
  rw [attrPut_ins (c := c) (fs := fs) (by rw [List.getElem?_set_self h]) hc hf, List.set_set, hp]
theorem attrV_ins {v : Val} (h : S[m]? = some (.ins c fs)) (hf : fs.lookup f = some v) : attrV P (.loc m) f S = .ok v S := by
  show (look m >>= fun o => attrO P f o) S = _
  rw [bind_at, look_at h, bnd_ok]
  show get? (fs.lookup f) S = _
  rw [hf]; rfl
theorem attrV_exc {v : Val} {k : Cl} {vs : List Val} (h : S[m]? = some (.exc c vs)) (hc : P.cl c = some k) (hf : (k.fields.zip vs).lookup f = some v) : attrV P (.loc m) f S = .ok v S := by
  show (look m >>= fun o => attrO P f o) S = _
  rw [bind_at, look_at h, bnd_ok]
  show (get? (P.cl c) >>= fun k => get? ((k.fields.zip vs).lookup f)) S = _
  rw [hc, bind_at, get_some, bnd_ok, hf]; rfl
theorem newV_ins {C : Orc} {k : Cl} {i : Nat} {vs : List Val} (hc : P.cl c = some k) (he : k.exc = false) (hi : k.init = some i) : newV P C c vs S = match C i (.loc S.length :: vs) [] (S ++ [.ins c []]) with
    | .ok .non S' => .ok (.loc S.length) S'
    | .ok _ _ => .no
    | .ex k fs S' => .ex k fs S'
    | .no => .no := by
  unfold newV
  rw [hc]
  dsimp only
  rw [he, hi]
  rfl
end
theorem sIx_nat (n d k : Nat) : sIx n d (some (k : Int)) = min k n := by
  show (if (k : Int) < 0 then ((k : Int) + (n : Int)).toNat else min (k : Int).toNat n) = _
  rw [if_neg (by omega), Int.toNat_natCast]
theorem cut_drop {α : Type} (xs : List α) (k : Nat) : cut xs (some (k : Int)) none = xs.drop k := by
  unfold cut
  rw [sIx_nat]
  show (xs.drop (min k xs.length)).take (xs.length - min k xs.length) = _
  by_cases h : k ≤ xs.length
  · rw [Nat.min_eq_left h, List.take_of_length_le (by simp)]
  · rw [List.drop_eq_nil_of_le (by omega), List.drop_eq_nil_of_le (by omega)]
    simp
theorem cut_take {α : Type} (xs : List α) (k : Nat) : cut xs none (some (k : Int)) = xs.take k := by
  unfold cut
  rw [sIx_nat]
  show (xs.drop 0).take (min k xs.length - 0) = _
  rw [List.drop_zero, Nat.sub_zero]
  by_cases h : k ≤ xs.length
  · rw [Nat.min_eq_left h]
  · rw [Nat.min_eq_right (by omega), List.take_of_length_le (Nat.le_refl _), List.take_of_length_le (by omega)]
theorem cut_both {α : Type} (xs : List α) (j k : Nat) : cut xs (some (j : Int)) (some (k : Int)) = (xs.take k).drop j := by
  unfold cut
  rw [sIx_nat, sIx_nat]
  apply List.ext_getElem?
  intro i
  rw [List.getElem?_take, List.getElem?_drop, List.getElem?_drop, List.getElem?_take]
  by_cases h1 : j ≤ xs.length
  · rw [Nat.min_eq_left h1]
    by_cases h2 : k ≤ xs.length
    · rw [Nat.min_eq_left h2]
      by_cases h3 : i < k - j
      · rw [if_pos h3, if_pos (by omega)]
      · rw [if_neg h3, if_neg (by omega)]
    · rw [Nat.min_eq_right (by omega)]
      by_cases h3 : i < xs.length - j
      · rw [if_pos h3, if_pos (by omega)]
      · rw [if_neg h3]
        split
        · rw [List.getElem?_eq_none (by omega)]
        · rfl
  · rw [if_neg (by omega)]
    split
    · rw [List.getElem?_eq_none (by omega)]
    · rfl
@[simp] theorem cut_1 {α : Type} (xs : List α) : cut xs (some 1) none = xs.tail := (cut_drop xs 1).trans (List.drop_one)
@[simp] theorem cut_m1 {α : Type} (xs : List α) : cut xs none (some (-1)) = xs.dropLast := by
  show (xs.drop 0).take ((if (-1 : Int) < 0 then ((-1 : Int) + (xs.length : Int)).toNat else min (-1 : Int).toNat xs.length) - 0) = _
  rw [if_pos (by omega), List.drop_zero, List.dropLast_eq_take]
  congr 1
  omega
section
variable {S : Store}
theorem mk_list_tup {xs : List Val} (h : xs.length ≤ 16777216) : mkE .list (.tup xs) S = .ok (.loc S.length) (S ++ [.lst xs]) := by
  show (itemsE (.tup xs) >>= fun xs => need (decide (xs.length ≤ LINE)) >>= fun _ => alloc (.lst xs)) S = _
  rw [bind_at]
  show (need (decide (xs.length ≤ LINE)) >>= fun _ => alloc (.lst xs)) S = _
  rw [decide_eq_true h]; rfl
theorem add_tup {x y : List Val} (h : x.length + y.length ≤ 16777216) : binop .add (.tup x) (.tup y) S = .ok (.tup (x ++ y)) S := add_tups h
theorem mul_tup {x : List Val} {j : Int} (h1 : 1 ≤ j) (h2 : j ≤ 1000) (h3 : 0 < x.length) (h4 : x.length ≤ 1000) : binop .mul (.tup x) (.int j) S = .ok (.tup (rep x j.toNat)) S := by
  show (need (decide (1 ≤ j) && decide (j ≤ 1000) && decide (0 < x.length) && decide (x.length ≤ 1000)) >>= fun _ => pure (Val.tup (rep x j.toNat))) S = _
  rw [decide_eq_true h1, decide_eq_true h2, decide_eq_true h3, decide_eq_true h4]; rfl
end
@[simp] theorem at_len {α : Type} (S l : List α) : (S ++ l)[S.length]? = l[0]? := by rw [List.getElem?_append_right (Nat.le_refl _), Nat.sub_self]
@[simp] theorem at_add {α : Type} (S l : List α) (k : Nat) : (S ++ l)[S.length + k]? = l[k]? := by rw [List.getElem?_append_right (by omega), Nat.add_sub_cancel_left]
theorem add_loc (m n : Nat) (S : Store) : binop .add (.loc m) (.loc n) S = match S[m]?, S[n]? with
    | some (.lst x), some (.lst y) => if x.length + y.length ≤ 16777216 then .ok (.loc S.length) (S ++ [.lst (x ++ y)]) else .no
    | _, _ => .no := by
  show (look m >>= fun a => look n >>= fun b => _) S = _
  rw [bind_at]
  unfold look
  cases h1 : S[m]? with
  | none => rfl
  | some o =>
    dsimp only
    rw [bnd_ok, bind_at]
    cases h2 : S[n]? with
    | none => cases o <;> rfl
    | some o2 =>
      dsimp only
      rw [bnd_ok]
      cases o with
      | lst x =>
        cases o2 with
        | lst y =>
          show (need (decide (x.length + y.length ≤ LINE)) >>= fun _ => alloc (.lst (x ++ y))) S = if x.length + y.length ≤ 16777216 then .ok (.loc S.length) (S ++ [.lst (x ++ y)]) else .no
          rw [bind_at, need_at]
          by_cases h : x.length + y.length ≤ 16777216
          · rw [if_pos h, decide_eq_true (show x.length + y.length ≤ LINE from h)]; rfl
          · rw [if_neg h, decide_eq_false (show ¬ x.length + y.length ≤ LINE from h)]; rfl
        | _ => rfl
      | _ => cases o2 <;> rfl
section
variable {P : Prog} {C : Orc} {S S' : Store} {m c f : Nat} {fs : List (Nat × Val)} {k : Cl} {y : Val} {b : Bool} {kd : Kd}
theorem toD_ins (h : S[m]? = some (.ins c fs)) (n : Nat) : toD n S (.loc m) = none := by
  cases n with
  | zero => rfl
  | succ n => unfold toD; rw [h]
theorem eq_own (h : S[m]? = some (.ins c fs)) (hc : P.cl c = some k) (he : k.eq = some f) (hy : kindV y S = .ok kd S) (hr : C f [.loc m, y] [] S = .ok (.bl b) S') : cmpV P C .eq (.loc m) y S = .ok b S' := by
  show eqV P C (.loc m) y S = _
  unfold eqV eqD
  obtain ⟨a1, a2, a3, a4, a5, a6⟩ := k
  dsimp only at he
  subst he
  simp [toD_ins h, h, hc, hy, hr]
theorem ne_own (h : S[m]? = some (.ins c fs)) (hc : P.cl c = some k) (he : k.eq = some f) (hy : kindV y S = .ok kd S) (hr : C f [.loc m, y] [] S = .ok (.bl b) S') : cmpV P C .ne (.loc m) y S = .ok (!b) S' := by
  show notM (eqV P C (.loc m) y) S = _
  rw [notM_at, show eqV P C (.loc m) y S = .ok b S' from eq_own h hc he hy hr]
  rfl
end
end Pyd
set_option linter.all false
namespace Pyd
abbrev Gr (S S' : Store) : Prop := S <+: S'
theorem Gr.at {S S' : Store} (h : Gr S S') {n : Nat} {o : Ob} (e : S[n]? = some o) : S'[n]? = some o := by
  obtain ⟨G, rfl⟩ := h
  rw [List.getElem?_append_left (List.getElem?_eq_some_iff.mp e).1]
  exact e
theorem Gr.len {S S' : Store} (h : Gr S S') : S.length ≤ S'.length := h.length_le
def Sb.items (S : Store) : Sb → Option (List Val)
  | .tup xs => some xs
  | .str s => some (s.map fun c => .str [c])
  | .lst n => match S[n]? with
    | some (.lst xs) => some xs
    | some (.rol xs) => some xs
    | _ => none
def Src.items (S : Store) : Src → Option (List Val)
  | .one b => b.items S
  | .rng lo st cnt => some ((List.range cnt).map fun (i : Nat) => Val.int (lo + i * st))
  | .enm b => (b.items S).map fun xs => xs.zipIdx.map fun p => .tup [.int p.2, p.1]
  | .zip2 b c => match b.items S, c.items S with
    | some xs, some ys => some (List.zipWith (fun x y => .tup [x, y]) xs ys)
    | _, _ => none
  | .zip3 b c d => match b.items S, c.items S, d.items S with
    | some xs, some ys, some zs => some (List.zipWith (fun x p => .tup [x, p.1, p.2]) xs (List.zip ys zs))
    | _, _, _ => none
theorem Sb.items_at {S : Store} {b : Sb} {xs : List Val} (h : b.items S = some xs) {i : Nat} (hi : i ≤ xs.length) : b.at S i = some xs[i]? := by
  cases b with
  | tup ys => cases h; exact if_pos hi
  | str s => cases h; exact if_pos hi
  | lst n =>
    unfold Sb.items at h
    unfold Sb.at
    dsimp only at h ⊢
    split at h
    · rename_i ys e
      cases h
      first
        | (rw [e]; exact if_pos hi)
        | exact if_pos hi
    · rename_i ys e
      cases h
      first
        | (rw [e]; exact if_pos hi)
        | exact if_pos hi
    · cases h
theorem Sb.items_len {S : Store} {b : Sb} {xs : List Val} (h : b.items S = some xs) : b.len S = xs.length := by
  cases b with
  | tup ys => cases h; rfl
  | str s => cases h; simp [Sb.len]
  | lst n =>
    unfold Sb.items at h
    unfold Sb.len
    dsimp only at h ⊢
    split at h
    · rename_i ys e
      cases h
      first
        | rw [e]
        | rfl
    · rename_i ys e
      cases h
      first
        | rw [e]
        | rfl
    · cases h
theorem Src.items_len {S : Store} {s : Src} {xs : List Val} (h : s.items S = some xs) : s.len S = xs.length := by
  cases s with
  | one b => exact Sb.items_len h
  | rng lo st cnt => cases h; simp [Src.len]
  | enm b =>
    obtain ⟨ys, e, rfl⟩ := Option.map_eq_some_iff.mp h
    show b.len S = _
    rw [Sb.items_len e]; simp
  | zip2 b c =>
    unfold Src.items at h
    dsimp only at h
    split at h
    · rename_i ys zs e1 e2
      cases h
      show min (b.len S) (c.len S) = _
      rw [Sb.items_len e1, Sb.items_len e2]; simp
    · cases h
  | zip3 b c d =>
    unfold Src.items at h
    dsimp only at h
    split at h
    · rename_i ys zs us e1 e2 e3
      cases h
      show min (b.len S) (min (c.len S) (d.len S)) = _
      rw [Sb.items_len e1, Sb.items_len e2, Sb.items_len e3]; simp
    · cases h
theorem Src.items_at {S : Store} {s : Src} {xs : List Val} (h : s.items S = some xs) {i : Nat} (hi : i ≤ xs.length) : s.at S i = some xs[i]? := by
  cases s with
  | one b => exact Sb.items_at h hi
  | rng lo st cnt =>
    cases h
    simp only [List.length_map, List.length_range] at hi
    show some (if i < cnt then some (Val.int (lo + i * st)) else none) = _
    by_cases q : i < cnt
    · rw [if_pos q, List.getElem?_map, List.getElem?_range q]; rfl
    · rw [if_neg q, List.getElem?_eq_none (by simp; omega)]
  | enm b =>
    obtain ⟨ys, e, rfl⟩ := Option.map_eq_some_iff.mp h
    simp only [List.length_map, List.length_zipIdx] at hi
    have := Sb.items_at e hi
    unfold Src.at
    dsimp only
    rw [this]
    cases q : ys[i]? with
    | none => simp [q]
    | some v => simp [q]
  | zip2 b c =>
    unfold Src.items at h
    dsimp only at h
    split at h
    · rename_i ys zs e1 e2
      cases h
      rw [List.length_zipWith] at hi
      have h1 := Sb.items_at e1 (i := i) (by omega)
      have h2 := Sb.items_at e2 (i := i) (by omega)
      unfold Src.at
      dsimp only
      rw [h1, h2, List.getElem?_zipWith]
      cases q1 : ys[i]? with
      | none =>
        cases q2 : zs[i]? <;> rfl
      | some v => cases q2 : zs[i]? <;> rfl
    · cases h
  | zip3 b c d =>
    unfold Src.items at h
    dsimp only at h
    split at h
    · rename_i ys zs us e1 e2 e3
      cases h
      rw [List.length_zipWith, List.length_zip] at hi
      have h1 := Sb.items_at e1 (i := i) (by omega)
      have h2 := Sb.items_at e2 (i := i) (by omega)
      have h3 := Sb.items_at e3 (i := i) (by omega)
      unfold Src.at
      dsimp only
      rw [h1, h2, h3]
      simp only [List.zip, List.getElem?_zipWith]
      cases q1 : ys[i]? <;> cases q2 : zs[i]? <;> cases q3 : us[i]? <;> rfl
    · cases h
theorem le_line {n : Nat} (h : n ≤ 100000) : n ≤ LINE := Nat.le_trans h (by decide)
theorem compL_ok {s : Src} {xs : List Val} {turn : Val → M Unit} {I : Nat → Store → Prop} (hit : ∀ i S, I i S → s.items S = some xs) (step : ∀ i x S, xs[i]? = some x → I i S → Ok (turn x S) fun _ S' => I (i + 1) S') :
    ∀ (f i : Nat) (S : Store), i + f = xs.length → I i S → Ok (compL s turn f i S) fun _ S' => I xs.length S'
  | 0, i, S, e, h => by
    have hi : i = xs.length := by omega
    subst hi
    unfold compL
    rw [Src.items_at (hit _ _ h) (Nat.le_refl _), List.getElem?_eq_none (Nat.le_refl _)]
    exact ⟨(), S, rfl, h⟩
  | f + 1, i, S, e, h => by
    have hi : i < xs.length := by omega
    unfold compL
    rw [Src.items_at (hit _ _ h) (Nat.le_of_lt hi), List.getElem?_eq_getElem hi]
    obtain ⟨u, S', e1, h'⟩ := step i xs[i] S (List.getElem?_eq_getElem hi) h
    simp only [e1]
    exact compL_ok hit step f (i + 1) S' (by omega) h'
theorem compS_ok {s : Src} {xs : List Val} {turn : Val → M Unit} {I : Nat → Store → Prop} {S : Store} (h0 : I 0 S) (hit : ∀ i S, I i S → s.items S = some xs) (step : ∀ i x S, xs[i]? = some x → I i S → Ok (turn x S) fun _ S' => I (i + 1) S') :
    Ok (compS s turn S) fun _ S' => I xs.length S' := by
  show Ok (compL s turn (s.len S) 0 S) _
  rw [Src.items_len (hit 0 S h0)]
  exact compL_ok hit step _ _ _ (by omega) h0
def turnE (f : Val → Env → M Env) (pc : Env → M Bool) (pe : Env → M Val) (env : Env) (x : Val) : M (Option Val) :=
  f x env >>= fun env => pc env >>= fun b => if b = true then pe env >>= fun y => pure (some y) else pure none
@[simp] theorem turnE_at (f : Val → Env → M Env) (pc : Env → M Bool) (pe : Env → M Val) (env : Env) (x : Val) (S : Store) :
    turnE f pc pe env x S = (f x env S).bnd fun env S1 => (pc env S1).bnd fun b S2 => if b = true then (pe env S2).bnd fun y S3 => .ok (some y) S3 else .ok none S2 := by
  unfold turnE
  rw [bind_at]
  cases f x env S with
  | no => rfl
  | ex c fs S' => rfl
  | ok e S1 =>
    rw [bnd_ok, bnd_ok, bind_at]
    cases pc e S1 with
    | no => rfl
    | ex c fs S' => rfl
    | ok b S2 =>
      cases b with
      | false => rfl
      | true => show (pe e >>= fun y => pure (some y)) S2 = _; rw [bind_at]; rfl
theorem turnM_E (f : Val → Env → M Env) (pc : Env → M Bool) (pe : Env → M Val) (n : Nat) (env : Env) (x : Val) (S : Store) :
    turnM f pc pe n env x S = (turnE f pc pe env x S).bnd fun r => match r with
      | some y => pushL n y
      | none => pure () := by
  unfold turnM turnE
  rw [bind_at, bind_at]
  cases f x env S with
  | no => rfl
  | ex c fs S' => rfl
  | ok e S1 =>
    rw [bnd_ok, bnd_ok, bind_at, bind_at]
    cases pc e S1 with
    | no => rfl
    | ex c fs S' => rfl
    | ok b S2 =>
      rw [bnd_ok, bnd_ok]
      cases b with
      | false => rfl
      | true =>
        rw [if_pos rfl, if_pos rfl, bind_at, bind_at]
        cases pe e S2 <;> rfl
theorem push_ok {n : Nat} {v : Val} {xs : List Val} {S : Store} (h : S[n]? = some (.lst xs)) (hl : xs.length < LINE) : pushL n v S = .ok () (S.set n (.lst (xs ++ [v]))) := by
  show (look n >>= _) S = _
  rw [bind_at, look_at h, bnd_ok]
  show (need (decide (xs.length < LINE)) >>= fun _ => put n (.lst (xs ++ [v]))) S = _
  rw [decide_eq_true hl]; rfl
theorem comp_ok {vs : List Nat} {ps : Env → M Src} {f : Val → Env → M Env} {pc : Env → M Bool} {pe : Env → M Val} {env : Env} {S S1 : Store} {s : Src} {xs : List Val} (hs : ps env S = .ok s S1)
    (J : Nat → List Val → Store → Prop) (h0 : J 0 [] (S1 ++ [.lst []])) (hJ : ∀ k acc S', J k acc S' → S'[S1.length]? = some (.lst acc) ∧ s.items S' = some xs ∧ acc.length ≤ k) (hl : xs.length ≤ LINE)
    (step : ∀ k x acc S', xs[k]? = some x → J k acc S' → Ok (turnE f pc pe (Pyd.wipe vs env) x S') fun r S'' => match r with
      | none => J (k + 1) acc S''
      | some v => S''[S1.length]? = some (.lst acc) ∧ J (k + 1) (acc ++ [v]) (S''.set S1.length (.lst (acc ++ [v])))) :
    Ok (compM vs ps f pc pe env S) fun D S' => D = .loc S1.length ∧ ∃ ys, J xs.length ys S' := by
  unfold compM
  rw [bind_at, hs, bnd_ok, bind_at, alloc_at, bnd_ok, bind_at]
  show Ok ((compS s (turnM f pc pe S1.length (Pyd.wipe vs env)) >>= fun _ => pure (Val.loc S1.length)) (S1 ++ [.lst []])) _
  rw [bind_at]
  refine Ok.bind (compS_ok (xs := xs) (I := fun k S' => ∃ acc, J k acc S') ⟨[], h0⟩ (fun k S' ⟨acc, h⟩ => (hJ k acc S' h).2.1) fun k x S' hk ⟨acc, h⟩ => ?_) fun _ S' ⟨ys, h⟩ => ⟨_, _, rfl, rfl, ys, h⟩
  rw [turnM_E]
  refine Ok.bind (step k x acc S' hk h) fun r S'' hr => ?_
  cases r with
  | none => exact ⟨(), S'', rfl, acc, hr⟩
  | some v =>
    obtain ⟨h1, h2⟩ := hr
    have hlt : acc.length < LINE := by
      have := (hJ k acc S' h).2.2
      have := (List.getElem?_eq_some_iff.mp hk).1
      omega
    exact ⟨(), _, push_ok h1 hlt, acc ++ [v], h2⟩
theorem filterMap_take {α β : Type} (g : α → Option β) {xs : List α} {k : Nat} {x : α} (h : xs[k]? = some x) : (xs.take (k + 1)).filterMap g = (xs.take k).filterMap g ++ (g x).toList := by
  rw [List.take_succ, h, List.filterMap_append]
  cases e : g x <;> simp [e]
theorem items_gr {s : Src} {xs : List Val} {S S' : Store} (hx : s.items S = some xs) (h : Gr S S') : s.items S' = some xs := by
  have lk : ∀ {b : Sb} {ys : List Val}, b.items S = some ys → b.items S' = some ys := fun {b ys} e => by
    cases b with
    | tup zs => exact e
    | str z => exact e
    | lst n =>
      unfold Sb.items at e ⊢
      dsimp only at e ⊢
      split at e
      · rename_i q; cases e; rw [h.at q]
      · rename_i q; cases e; rw [h.at q]
      · cases e
  cases s with
  | one b => exact lk hx
  | rng lo st cnt => exact hx
  | enm b =>
    obtain ⟨ys, e, rfl⟩ := Option.map_eq_some_iff.mp hx
    exact Option.map_eq_some_iff.mpr ⟨ys, lk e, rfl⟩
  | zip2 b c =>
    unfold Src.items at hx ⊢
    dsimp only at hx ⊢
    split at hx
    · rename_i e1 e2
      rw [lk e1, lk e2]; exact hx
    · cases hx
  | zip3 b c d =>
    unfold Src.items at hx ⊢
    dsimp only at hx ⊢
    split at hx
    · rename_i e1 e2 e3
      rw [lk e1, lk e2, lk e3]; exact hx
    · cases hx
theorem comp_grow {vs : List Nat} {ps : Env → M Src} {f : Val → Env → M Env} {pc : Env → M Bool} {pe : Env → M Val} {env : Env} {S S1 : Store} {s : Src} {xs : List Val} (hs : ps env S = .ok s S1) (hx : s.items S1 = some xs) (hl : xs.length ≤ LINE)
    (g : Val → Option Val) (step : ∀ x ∈ xs, ∀ S', Gr S1 S' → ∃ G, turnE f pc pe (Pyd.wipe vs env) x S' = .ok (g x) (S' ++ G)) :
    ∃ G, compM vs ps f pc pe env S = .ok (.loc S1.length) (S1 ++ .lst (xs.filterMap g) :: G) := by
  have mono : ∀ {S'}, Gr S1 S' → s.items S' = some xs := fun h => items_gr hx h
  have key := comp_ok (xs := xs) (f := f) (pc := pc) (pe := pe) (vs := vs) hs (J := fun k acc S' => acc = (xs.take k).filterMap g ∧ k ≤ xs.length ∧ ∃ G, S' = S1 ++ .lst acc :: G) ⟨rfl, Nat.zero_le _, [], rfl⟩ (fun k acc S' ⟨h1, h2, G, h3⟩ => ⟨by subst h3; simp, mono ⟨_, h3.symm⟩, by
    rw [h1]
    refine Nat.le_trans (List.length_filterMap_le _ _) ?_
    rw [List.length_take]; omega⟩) hl (fun k x acc S' hk ⟨h1, h2, G, h3⟩ => by
    obtain ⟨G', e⟩ := step x (List.mem_of_getElem? hk) S' ⟨_, h3.symm⟩
    have hlt := (List.getElem?_eq_some_iff.mp hk).1
    refine ⟨_, _, e, ?_⟩
    cases hg : g x with
    | none => exact ⟨by rw [filterMap_take g hk, hg, h1]; simp, hlt, G ++ G', by subst h3; simp⟩
    | some v =>
      subst h3
      exact ⟨by simp, by rw [filterMap_take g hk, hg, h1]; rfl, hlt, G ++ G', by simp⟩)
  obtain ⟨D, S', e, rfl, ys, h1, _, G, h3⟩ := key
  rw [List.take_length] at h1
  subst h1 h3
  exact ⟨G, e⟩
theorem flatMap_take {α β : Type} (g : α → List β) {xs : List α} {k : Nat} {x : α} (h : xs[k]? = some x) : (xs.take (k + 1)).flatMap g = (xs.take k).flatMap g ++ g x := by
  rw [List.take_succ, h, List.flatMap_append]
  simp
theorem comp2_grow {vs own2 : List Nat} {ps : Env → M Src} {f : Val → Env → M Env} {ps2 : Env → M Src} {f2 : Val → Env → M Env} {pc : Env → M Bool} {pe : Env → M Val} {env : Env} {S S1 : Store} {s : Src} {xs : List Val} (hs : ps env S = .ok s S1) (hx : s.items S1 = some xs)
    (ys : Val → List Val) (g : Val → Val → Option Val) (hl : (xs.flatMap ys).length ≤ LINE)
    (step : ∀ x ∈ xs, ∀ S', Gr S1 S' → ∃ env1 s2 G, f x (Pyd.wipe vs env) S' = .ok env1 S' ∧ ps2 env1 S' = .ok s2 (S' ++ G) ∧ s2.items (S' ++ G) = some (ys x) ∧ (∀ S'', Gr S1 S'' → s2.items S'' = some (ys x)) ∧
      ∀ y ∈ ys x, ∀ S'', Gr S1 S'' → ∃ G, turnE f2 pc pe (Pyd.wipe own2 env1) y S'' = .ok (g x y) (S'' ++ G)) :
    ∃ G, compM2 vs own2 ps f ps2 f2 pc pe env S = .ok (.loc S1.length) (S1 ++ .lst (xs.flatMap fun x => (ys x).filterMap (g x)) :: G) := by
  have hsub : ∀ (l : List Val), (l.flatMap fun x => (ys x).filterMap (g x)).length ≤ (l.flatMap ys).length := fun l => by
    induction l with
    | nil => simp
    | cons x l ih =>
      simp only [List.flatMap_cons, List.length_append]
      have := List.length_filterMap_le (g x) (ys x)
      omega
  have key : Ok (compM2 vs own2 ps f ps2 f2 pc pe env S) fun D S' => D = .loc S1.length ∧ ∃ G, S' = S1 ++ .lst (xs.flatMap fun x => (ys x).filterMap (g x)) :: G := by
    unfold compM2
    rw [bind_at, hs, bnd_ok, bind_at, alloc_at, bnd_ok, bind_at]
    show Ok ((compS s (turn2 f ps2 f2 pc pe S1.length own2 (Pyd.wipe vs env)) >>= fun _ => pure (Val.loc S1.length)) (S1 ++ [.lst []])) _
    rw [bind_at]
    refine Ok.bind (compS_ok (xs := xs) (I := fun k S' => ∃ G, S' = S1 ++ .lst ((xs.take k).flatMap fun x => (ys x).filterMap (g x)) :: G) ⟨[], rfl⟩ (fun k S' ⟨G, h⟩ => items_gr hx ⟨_, h.symm⟩) fun k x S' hk ⟨G, h⟩ => ?_) fun _ S' ⟨G, h⟩ => ⟨_, _, rfl, rfl, G, by rw [List.take_length] at h; exact h⟩
    subst h
    obtain ⟨env1, s2, G2, e1, e2, e3, e4, e5⟩ := step x (List.mem_of_getElem? hk) (S1 ++ .lst ((xs.take k).flatMap fun x => (ys x).filterMap (g x)) :: G) ⟨_, rfl⟩
    unfold turn2
    rw [bind_at, e1, bnd_ok, bind_at, e2, bnd_ok]
    have hk2 := (List.getElem?_eq_some_iff.mp hk)
    refine (compS_ok (xs := ys x) (I := fun j S' => ∃ G, S' = S1 ++ .lst (((xs.take k).flatMap fun x => (ys x).filterMap (g x)) ++ ((ys x).take j).filterMap (g x)) :: G) ⟨G ++ G2, by simp⟩ (fun j S' ⟨G, h⟩ => e4 _ ⟨_, h.symm⟩) fun j y S' hj ⟨G, h⟩ => ?_).mono fun _ S' ⟨G, h⟩ => ⟨G, by rw [h, List.take_length, flatMap_take _ hk]⟩
    subst h
    obtain ⟨G3, e6⟩ := e5 y (List.mem_of_getElem? hj) (S1 ++ .lst (((xs.take k).flatMap fun x => (ys x).filterMap (g x)) ++ ((ys x).take j).filterMap (g x)) :: G) ⟨_, rfl⟩
    rw [turnM_E, e6, bnd_ok]
    cases hg : g x y with
    | none => exact ⟨(), _, rfl, G ++ G3, by rw [filterMap_take _ hj, hg]; simp⟩
    | some v =>
      refine ⟨(), _, push_ok (xs := ((xs.take k).flatMap fun x => (ys x).filterMap (g x)) ++ ((ys x).take j).filterMap (g x)) (by simp) ?_, G ++ G3, by rw [filterMap_take _ hj, hg]; simp⟩
      have h1 := hsub (xs.take k)
      have h2 : ((ys x).take j).length < (ys x).length := by
        have := (List.getElem?_eq_some_iff.mp hj).1
        rw [List.length_take]; omega
      have h3 := List.length_filterMap_le (g x) ((ys x).take j)
      have h4 : ((xs.take (k + 1)).flatMap ys).length ≤ (xs.flatMap ys).length := by
        conv => rhs; rw [← List.take_append_drop (k + 1) xs, List.flatMap_append, List.length_append]
        omega
      rw [flatMap_take _ hk, List.length_append] at h4
      rw [List.length_append]
      omega
  obtain ⟨D, S', e, rfl, G, rfl⟩ := key
  exact ⟨G, e⟩
theorem comp_same {vs : List Nat} {ps : Env → M Src} {f : Val → Env → M Env} {pc : Env → M Bool} {pe : Env → M Val} {env : Env} {S S1 : Store} {s : Src} {xs : List Val} (hs : ps env S = .ok s S1) (hx : s.items S1 = some xs) (hl : xs.length ≤ LINE)
    (g : Val → Option Val) (step : ∀ x ∈ xs, ∀ S', Gr S1 S' → turnE f pc pe (Pyd.wipe vs env) x S' = .ok (g x) S') :
    ∃ G, compM vs ps f pc pe env S = .ok (.loc S1.length) (S1 ++ .lst (xs.filterMap g) :: G) :=
  comp_grow hs hx hl g fun x hx S' h => ⟨[], by rw [step x hx S' h]; simp⟩
theorem forL_wp {s : Src} {xs : List Val} {body : Val → Env → M Fl} {I : Nat → Env → Store → Prop} {K : Env → Store → Prop} {R : Val → Store → Prop} {E : Nat → List Val → Store → Prop} (hit : ∀ i e S, I i e S → s.items S = some xs)
    (step : ∀ i x e S, xs[i]? = some x → I i e S → Wp (body x e S) (fun fl S' => match fl with
      | .nx e' => I (i + 1) e' S'
      | .ct e' => I (i + 1) e' S'
      | .bk e' => K e' S'
      | .rt v => R v S') E) :
    ∀ (f i : Nat) (e : Env) (S : Store), i + f = xs.length → I i e S → Wp (forL s body f i e S) (fun fl S' => match fl with
      | .nx e' => I xs.length e' S' ∨ K e' S'
      | .rt v => R v S'
      | _ => False) E
  | 0, i, e, S, q, h => by
    have hi : i = xs.length := by omega
    subst hi
    unfold forL
    rw [Src.items_at (hit _ _ _ h) (Nat.le_refl _), List.getElem?_eq_none (Nat.le_refl _)]
    exact .inl h
  | f + 1, i, e, S, q, h => by
    have hi : i < xs.length := by omega
    unfold forL
    rw [Src.items_at (hit _ _ _ h) (Nat.le_of_lt hi), List.getElem?_eq_getElem hi]
    have h' := step i xs[i] e S (List.getElem?_eq_getElem hi) h
    cases hr : body xs[i] e S with
    | no => rw [hr] at h'; exact h'.elim
    | ex c fs S' =>
      rw [hr] at h'
      simp only [hr]
      exact h'
    | ok fl S' =>
      rw [hr] at h'
      simp only [hr]
      cases fl with
      | nx e' => exact forL_wp hit step f (i + 1) e' S' (by omega) h'
      | ct e' => exact forL_wp hit step f (i + 1) e' S' (by omega) h'
      | bk e' => exact .inr h'
      | rt v => exact h'
theorem for_then {s : Src} {xs : List Val} {f : Val → Env → M Env} {b : Env → M Fl} {env : Env} {S : Store} {g : Env → M Fl} {Q : Fl → Store → Prop} {E : Nat → List Val → Store → Prop} (I : Nat → Env → Store → Prop) (K : Env → Store → Prop) (h0 : I 0 env S) (hit : ∀ i e S, I i e S → s.items S = some xs)
    (step : ∀ i x e S, xs[i]? = some x → I i e S → Wp ((f x e S).bnd fun e => b e) (fun fl S' => match fl with
      | .nx e' => I (i + 1) e' S'
      | .ct e' => I (i + 1) e' S'
      | .bk e' => K e' S'
      | .rt v => Q (.rt v) S') E)
    (k : ∀ e S', I xs.length e S' ∨ K e S' → Wp (g e S') Q E) : Wp (thenS (forM s f b env S) g) Q E := by
  have h : Wp (forM s f b env S) (fun fl S' => match fl with
      | .nx e' => I xs.length e' S' ∨ K e' S'
      | .rt v => Q (.rt v) S'
      | _ => False) E := by
    show Wp (forL s (fun x env => f x env >>= fun env => b env) (s.len S) 0 env S) _ _
    rw [Src.items_len (hit _ _ _ h0)]
    exact forL_wp hit (fun i x e S hx hI => by rw [bind_at]; exact step i x e S hx hI) _ _ _ _ (by omega) h0
  cases hr : forM s f b env S with
  | no => rw [hr] at h; exact h.elim
  | ex c fs S' => rw [hr] at h; exact h
  | ok fl S' =>
    rw [hr] at h
    cases fl with
    | nx e => exact k e S' h
    | rt v => exact h
    | bk e => exact h.elim
    | ct e => exact h.elim
theorem Wp.fin {r : Res Fl} {Q : Val → Store → Prop} {E : Nat → List Val → Store → Prop} (h : Wp r (fun fl S' => match fl with
    | .rt v => Q v S'
    | .nx _ => Q .non S'
    | _ => False) E) : Wp (Pyd.fin r) Q E := by
  cases r with
  | no => exact h
  | ex c fs S' => exact h
  | ok fl S' =>
    cases fl with
    | nx e => exact h
    | rt v => exact h
    | bk e => exact h.elim
    | ct e => exact h.elim
section
variable {S : Store} {n : Nat} {xs : List Val}
theorem lstE_at (h : S[n]? = some (.lst xs)) : lstE (.loc n) S = .ok xs S := by
  show (look n >>= _) S = _
  rw [bind_at, look_at h]; rfl
theorem mk_tuple (h : S[n]? = some (.lst xs)) : mkE .tuple (.loc n) S = .ok (.tup xs) S := by
  show (lstE (.loc n) >>= fun xs => pure (Val.tup xs)) S = _
  rw [bind_at, lstE_at h]; rfl
theorem asBls_map {α : Type} (p : α → Bool) : ∀ l : List α, asBls (l.map fun x => Val.bl (p x)) = some (l.map p)
  | [] => rfl
  | x :: l => by
    show (asBls (l.map fun x => Val.bl (p x))).map _ = _
    rw [asBls_map p l]; rfl
theorem mk_all {α : Type} {l : List α} {p : α → Bool} (h : S[n]? = some (.lst (l.map fun x => Val.bl (p x)))) : mkE .all (.loc n) S = .ok (.bl (l.all p)) S := by
  show (lstE (.loc n) >>= fun xs => get? (asBls xs) >>= fun bs => pure (Val.bl (bs.all id))) S = _
  rw [bind_at, lstE_at h, bnd_ok, asBls_map, bind_at, get_some, bnd_ok]
  show Res.ok (Val.bl ((l.map p).all id)) S = _
  rw [List.all_map]; rfl
theorem mk_any {α : Type} {l : List α} {p : α → Bool} (h : S[n]? = some (.lst (l.map fun x => Val.bl (p x)))) : mkE .any (.loc n) S = .ok (.bl (l.any p)) S := by
  show (lstE (.loc n) >>= fun xs => get? (asBls xs) >>= fun bs => pure (Val.bl (bs.any id))) S = _
  rw [bind_at, lstE_at h, bnd_ok, asBls_map, bind_at, get_some, bnd_ok]
  show Res.ok (Val.bl ((l.map p).any id)) S = _
  rw [List.any_map]; rfl
theorem asInts_map {α : Type} (p : α → Int) : ∀ l : List α, asInts (l.map fun x => Val.int (p x)) = some (l.map p)
  | [] => rfl
  | x :: l => by
    show (asInts (l.map fun x => Val.int (p x))).map _ = _
    rw [asInts_map p l]; rfl
end
theorem filterMap_some {α β : Type} (g : α → β) (l : List α) : (l.filterMap fun x => some (g x)) = l.map g := by
  induction l with
  | nil => rfl
  | cons x l ih => rw [List.filterMap_cons, ih]; rfl
theorem gv_iff {α : Type} {r : Res α} {a : α} {S : Store} : (∃ G, r = .ok a (S ++ G)) ↔ Ok r fun v S' => v = a ∧ Gr S S' := by
  constructor
  · rintro ⟨G, rfl⟩
    exact ⟨_, _, rfl, rfl, G, rfl⟩
  · rintro ⟨v, S', rfl, rfl, G, rfl⟩
    exact ⟨G, rfl⟩
theorem comp_growO {vs : List Nat} {ps : Env → M Src} {f : Val → Env → M Env} {pc : Env → M Bool} {pe : Env → M Val} {env : Env} {S S1 : Store} {s : Src} {xs : List Val} (hs : ps env S = .ok s S1) (hx : s.items S1 = some xs) (hl : xs.length ≤ LINE)
    (g : Val → Option Val) (step : ∀ x ∈ xs, ∀ S', Gr S1 S' → Ok (turnE f pc pe (Pyd.wipe vs env) x S') fun r S'' => r = g x ∧ Gr S' S'') :
    Ok (compM vs ps f pc pe env S) fun D S' => D = .loc S1.length ∧ S'[S1.length]? = some (.lst (xs.filterMap g)) ∧ Gr S1 S' := by
  obtain ⟨G, e⟩ := comp_grow hs hx hl g fun x hx S' h => gv_iff.mpr (step x hx S' h)
  exact ⟨_, _, e, rfl, by simp, _, rfl⟩
theorem comp_map {vs : List Nat} {ps : Env → M Src} {f : Val → Env → M Env} {pc : Env → M Bool} {pe : Env → M Val} {env : Env} {S S1 : Store} {s : Src} {xs : List Val} (hs : ps env S = .ok s S1) (hx : s.items S1 = some xs) (hl : xs.length ≤ LINE)
    (g : Val → Val) (step : ∀ x ∈ xs, ∀ S', Gr S1 S' → Ok (turnE f pc pe (Pyd.wipe vs env) x S') fun r S'' => r = some (g x) ∧ Gr S' S'') :
    Ok (compM vs ps f pc pe env S) fun D S' => D = .loc S1.length ∧ S'[S1.length]? = some (.lst (xs.map g)) ∧ Gr S1 S' := by
  have := comp_growO hs hx hl (fun x => some (g x)) step
  rw [filterMap_some] at this
  exact this
theorem comp_all {vs : List Nat} {ps : Env → M Src} {f : Val → Env → M Env} {pc : Env → M Bool} {pe : Env → M Val} {env : Env} {S S1 : Store} {s : Src} {xs : List Val} (hs : ps env S = .ok s S1) (hx : s.items S1 = some xs) (hl : xs.length ≤ LINE)
    (g : Val → Bool) (step : ∀ x ∈ xs, ∀ S', Gr S1 S' → Ok (turnE f pc pe (Pyd.wipe vs env) x S') fun r S'' => r = some (.bl (g x)) ∧ Gr S' S'') {β : Type} {F : Val → M β} {Q : β → Store → Prop} (k : ∀ S', Gr S1 S' → Ok (F (.bl (xs.all g)) S') Q) :
    Ok ((compM vs ps f pc pe env S).bnd fun x S => (mkE .all x S).bnd F) Q := by
  refine Ok.bind (comp_map hs hx hl (fun x => .bl (g x)) step) ?_
  rintro D S' ⟨rfl, h, gr⟩
  rw [mk_all h, bnd_ok]
  exact k S' gr
theorem comp_allW {vs : List Nat} {ps : Env → M Src} {f : Val → Env → M Env} {pc : Env → M Bool} {pe : Env → M Val} {env : Env} {S S1 : Store} {s : Src} {xs : List Val} (hs : ps env S = .ok s S1) (hx : s.items S1 = some xs) (hl : xs.length ≤ LINE)
    (g : Val → Bool) (step : ∀ x ∈ xs, ∀ S', Gr S1 S' → Ok (turnE f pc pe (Pyd.wipe vs env) x S') fun r S'' => r = some (.bl (g x)) ∧ Gr S' S'') {β : Type} {F : Val → M β} {Q : β → Store → Prop} {E : Nat → List Val → Store → Prop} (k : ∀ S', Gr S1 S' → Wp (F (.bl (xs.all g)) S') Q E) :
    Wp ((compM vs ps f pc pe env S).bnd fun x S => (mkE .all x S).bnd F) Q E := by
  refine Wp.bindO (comp_map hs hx hl (fun x => .bl (g x)) step) ?_
  rintro D S' ⟨rfl, h, gr⟩
  rw [mk_all h, bnd_ok]
  exact k S' gr
theorem map_flat {α β γ : Type} (ys : α → List β) (g : α → β → γ) (xs : List α) : (xs.flatMap fun x => (ys x).filterMap fun y => some (g x y)) = (xs.flatMap fun x => (ys x).map fun y => g x y) := by
  congr 1
  funext x
  exact filterMap_some _ _
theorem comp2_allW {vs own2 : List Nat} {ps : Env → M Src} {f : Val → Env → M Env} {ps2 : Env → M Src} {f2 : Val → Env → M Env} {pc : Env → M Bool} {pe : Env → M Val} {env : Env} {S S1 : Store} {s : Src} {xs : List Val} (hs : ps env S = .ok s S1) (hx : s.items S1 = some xs)
    (ys : Val → List Val) (g : Val → Bool) (hl : (xs.flatMap ys).length ≤ LINE)
    (step : ∀ x ∈ xs, ∀ S', Gr S1 S' → ∃ env1 s2 G, f x (Pyd.wipe vs env) S' = .ok env1 S' ∧ ps2 env1 S' = .ok s2 (S' ++ G) ∧ s2.items (S' ++ G) = some (ys x) ∧ (∀ S'', Gr S1 S'' → s2.items S'' = some (ys x)) ∧
      ∀ y ∈ ys x, ∀ S'', Gr S1 S'' → Ok (turnE f2 pc pe (Pyd.wipe own2 env1) y S'') fun r S3 => r = some (.bl (g y)) ∧ Gr S'' S3)
    {β : Type} {F : Val → M β} {Q : β → Store → Prop} {E : Nat → List Val → Store → Prop} (k : ∀ S', Gr S1 S' → Wp (F (.bl ((xs.flatMap ys).all g)) S') Q E) :
    Wp ((compM2 vs own2 ps f ps2 f2 pc pe env S).bnd fun x S => (mkE .all x S).bnd F) Q E := by
  obtain ⟨G, e⟩ := comp2_grow hs hx ys (fun _ y => some (.bl (g y))) hl fun x hx S' h => by
    obtain ⟨env1, s2, G, h1, h2, h3, h4, h5⟩ := step x hx S' h
    exact ⟨env1, s2, G, h1, h2, h3, h4, fun y hy S'' g2 => gv_iff.mpr (h5 y hy S'' g2)⟩
  rw [e, bnd_ok, map_flat ys (fun _ y => Val.bl (g y)), ← List.map_flatMap]
  rw [mk_all (l := xs.flatMap ys) (p := g) (by simp), bnd_ok]
  exact k _ ⟨_, rfl⟩
theorem mk_sum {S : Store} {n : Nat} {α : Type} {l : List α} {p : α → Int} (h : S[n]? = some (.lst (l.map fun x => Val.int (p x)))) : mkE .sum (.loc n) S = .ok (.int (l.map p).sum) S := by
  show (lstE (.loc n) >>= fun xs => get? (asInts xs) >>= fun is => pure (Val.int is.sum)) S = _
  rw [bind_at, lstE_at h, bnd_ok, bind_at, asInts_map, get_some, bnd_ok]; rfl
theorem comp_sum {vs : List Nat} {ps : Env → M Src} {f : Val → Env → M Env} {pc : Env → M Bool} {pe : Env → M Val} {env : Env} {S S1 : Store} {s : Src} {xs : List Val} (hs : ps env S = .ok s S1) (hx : s.items S1 = some xs) (hl : xs.length ≤ LINE)
    (g : Val → Int) (step : ∀ x ∈ xs, ∀ S', Gr S1 S' → Ok (turnE f pc pe (Pyd.wipe vs env) x S') fun r S'' => r = some (.int (g x)) ∧ Gr S' S'') :
    Ok ((compM vs ps f pc pe env S).bnd fun x S => mkE .sum x S) fun v S' => v = .int (xs.map g).sum ∧ Gr S1 S' := by
  refine Ok.bind (comp_map hs hx hl (fun x => .int (g x)) step) ?_
  rintro D S' ⟨rfl, h, gr⟩
  rw [mk_sum h]
  exact ⟨_, _, rfl, rfl, gr⟩
theorem comp_tuple {vs : List Nat} {ps : Env → M Src} {f : Val → Env → M Env} {pc : Env → M Bool} {pe : Env → M Val} {env : Env} {S S1 : Store} {s : Src} {xs : List Val} (hs : ps env S = .ok s S1) (hx : s.items S1 = some xs) (hl : xs.length ≤ LINE)
    (g : Val → Val) (step : ∀ x ∈ xs, ∀ S', Gr S1 S' → Ok (turnE f pc pe (Pyd.wipe vs env) x S') fun r S'' => r = some (g x) ∧ Gr S' S'') :
    Ok ((compM vs ps f pc pe env S).bnd fun x S => mkE .tuple x S) fun v S' => v = .tup (xs.map g) ∧ Gr S1 S' := by
  refine Ok.bind (comp_map hs hx hl g step) ?_
  rintro D S' ⟨rfl, h, gr⟩
  rw [mk_tuple h]
  exact ⟨_, _, rfl, rfl, gr⟩
theorem comp_sumO {vs : List Nat} {ps : Env → M Src} {f : Val → Env → M Env} {pc : Env → M Bool} {pe : Env → M Val} {env : Env} {S S1 : Store} {s : Src} {xs : List Val} (hs : ps env S = .ok s S1) (hx : s.items S1 = some xs) (hl : xs.length ≤ LINE)
    (g : Val → Int) (step : ∀ x ∈ xs, ∀ S', Gr S1 S' → Ok (turnE f pc pe (Pyd.wipe vs env) x S') fun r S'' => r = some (.int (g x)) ∧ Gr S' S'') {β : Type} {F : Val → M β} {Q : β → Store → Prop} (k : ∀ S', Gr S1 S' → Ok (F (.int (xs.map g).sum) S') Q) :
    Ok ((compM vs ps f pc pe env S).bnd fun x S => (mkE .sum x S).bnd F) Q := by
  refine Ok.bind (comp_map hs hx hl (fun x => .int (g x)) step) ?_
  rintro D S' ⟨rfl, h, gr⟩
  rw [mk_sum h]
  exact k S' gr
theorem comp_tupleO {vs : List Nat} {ps : Env → M Src} {f : Val → Env → M Env} {pc : Env → M Bool} {pe : Env → M Val} {env : Env} {S S1 : Store} {s : Src} {xs : List Val} (hs : ps env S = .ok s S1) (hx : s.items S1 = some xs) (hl : xs.length ≤ LINE)
    (g : Val → Val) (step : ∀ x ∈ xs, ∀ S', Gr S1 S' → Ok (turnE f pc pe (Pyd.wipe vs env) x S') fun r S'' => r = some (g x) ∧ Gr S' S'') {β : Type} {F : Val → M β} {Q : β → Store → Prop} (k : ∀ S', Gr S1 S' → Ok (F (.tup (xs.map g)) S') Q) :
    Ok ((compM vs ps f pc pe env S).bnd fun x S => (mkE .tuple x S).bnd F) Q := by
  refine Ok.bind (comp_map hs hx hl g step) ?_
  rintro D S' ⟨rfl, h, gr⟩
  rw [mk_tuple h]
  exact k S' gr
theorem placeN_one (c : Nat) : ∀ (s : List Nat) (i : Nat), c ∈ s → placeN [c] s i = some (i + s.idxOf c)
  | [], i, h => nomatch h
  | d :: r, i, h => by
    unfold placeN
    by_cases e : c = d
    · subst e
      simp
    · have hne : ([c].isPrefixOf (d :: r)) = false := by simp [List.isPrefixOf, e]
      rw [hne]
      have hm : c ∈ r := by simpa [e] using h
      rw [if_neg (by decide), placeN_one c r (i + 1) hm, List.idxOf_cons, show (d == c) = false by simpa using fun z => e z.symm]
      simp; omega
theorem subList_one (c : Nat) : ∀ s : List Nat, subList [c] s = s.contains c
  | [] => rfl
  | d :: r => by
    unfold subList
    rw [subList_one c r]
    simp [List.isPrefixOf, List.contains_cons, Bool.beq_eq_decide_eq]
theorem index_str {s : List Nat} {c : Nat} (h : c ∈ s) (S : Store) : meOf .index (.str s) [.str [c]] S = .ok (.int (s.idxOf c : Nat)) S := by
  show (get? (placeN [c] s 0) >>= fun k => pure (Val.int k)) S = _
  rw [placeN_one c s 0 h, bind_at, get_some, bnd_ok, Nat.zero_add]
  rfl
theorem mem_str (u t : List Nat) (S : Store) : memV (.str u) (.str t) S = .ok (subList u t) S := id rfl
theorem restC_look : ∀ {S T : Store} (n : Nat), (restC S T)[n]? = match S[n]? with
    | some o => (T[n]?).map (Ob.back (some o))
    | none => T[n]?
  | [], [], n => by simp [restC]
  | o :: S, [], n => by
    have : restC (o :: S) [] = [] := rfl
    rw [this]
    cases (o :: S)[n]? <;> simp
  | [], p :: T, n => by simp [restC]
  | o :: S, p :: T, 0 => by simp [restC]
  | o :: S, p :: T, n + 1 => by
    have ih := restC_look (S := S) (T := T) n
    simpa [restC] using ih
theorem dropC_look {S : Store} (n : Nat) : (dropC S)[n]? = (S[n]?).map Ob.drop := by
  unfold dropC
  rw [List.getElem?_map]
theorem rest_at {S T : Store} {n : Nat} (hn : n < S.length) (h : T[n]? = S[n]?) : (restC S (dropC T))[n]? = S[n]? := by
  rw [restC_look, dropC_look, h]
  rw [List.getElem?_eq_getElem hn]
  cases S[n] <;> rfl
theorem rest_len {S T : Store} : (restC S (dropC T)).length = T.length := by
  have key : ∀ {S T : Store}, (restC S T).length = T.length := by
    intro S T
    induction T generalizing S with
    | nil => cases S <;> rfl
    | cons p T ih => cases S with
      | nil => rfl
      | cons o S => show _ + 1 = _ + 1; rw [ih]
  rw [key]
  exact List.length_map _
theorem rest_keep {S T : Store} {n : Nat} {o : Ob} (h : T[n]? = some o) (h2 : ∀ f vs, o ≠ .clo f vs) (h3 : ∀ f vs, S[n]? ≠ some (.clo f vs)) : (restC S (dropC T))[n]? = some o := by
  rw [restC_look, dropC_look, h]
  have e : Ob.drop o = o := by cases o <;> first | rfl | exact absurd rfl (h2 _ _)
  cases hs : S[n]? with
  | none => simp [e]
  | some q => cases q <;> first | (simp [e, Ob.back]; done) | exact absurd hs (h3 _ _)
end Pyd
set_option linter.all false
namespace Pyd
theorem mapO_mono {α β : Type} {f g : α → Option β} : ∀ {xs : List α} {ys : List β}, (∀ x ∈ xs, ∀ y, f x = some y → g x = some y) → mapO f xs = some ys → mapO g xs = some ys
  | [], ys, _, h => h
  | x :: xs, ys, k, h => by
    unfold mapO at h ⊢
    cases h1 : f x with
    | none => simp [h1] at h
    | some y =>
      cases h2 : mapO f xs with
      | none => simp [h1, h2] at h
      | some zs =>
        rw [h1, h2] at h
        rw [k x List.mem_cons_self y h1, mapO_mono (fun x hx => k x (List.mem_cons_of_mem _ hx)) h2]
        exact h
theorem toD_le {S : Store} : ∀ {k j : Nat} {x : Val} {d : Dt}, k ≤ j → toD k S x = some d → toD j S x = some d
  | 0, _, _, _, _, h => by cases h
  | k + 1, 0, _, _, hk, _ => by omega
  | k + 1, j + 1, x, d, hk, h => by
    cases x with
    | tup xs =>
      obtain ⟨ds, e, rfl⟩ := Option.map_eq_some_iff.mp h
      exact Option.map_eq_some_iff.mpr ⟨ds, mapO_mono (fun x _ y q => toD_le (by omega) q) e, rfl⟩
    | loc a =>
      unfold toD at h ⊢
      split at h
      · rename_i xs q
        obtain ⟨ds, e, rfl⟩ := Option.map_eq_some_iff.mp h
        exact Option.map_eq_some_iff.mpr ⟨ds, mapO_mono (fun x _ y q => toD_le (by omega) q) e, rfl⟩
      · rename_i xs q
        obtain ⟨ds, e, rfl⟩ := Option.map_eq_some_iff.mp h
        exact Option.map_eq_some_iff.mpr ⟨ds, mapO_mono (fun x _ y q => toD_le (by omega) q) e, rfl⟩
      · cases h
    | _ => exact h
theorem toD_gr {S S' : Store} (g : Gr S S') : ∀ {k : Nat} {x : Val} {d : Dt}, toD k S x = some d → toD k S' x = some d
  | 0, _, _, h => by cases h
  | k + 1, x, d, h => by
    cases x with
    | tup xs =>
      obtain ⟨ds, e, rfl⟩ := Option.map_eq_some_iff.mp h
      exact Option.map_eq_some_iff.mpr ⟨ds, mapO_mono (fun x _ y q => toD_gr g q) e, rfl⟩
    | loc a =>
      unfold toD at h ⊢
      split at h
      · rename_i xs q
        rw [g.at q]
        obtain ⟨ds, e, rfl⟩ := Option.map_eq_some_iff.mp h
        exact Option.map_eq_some_iff.mpr ⟨ds, mapO_mono (fun x _ y q => toD_gr g q) e, rfl⟩
      · rename_i xs q
        rw [g.at q]
        obtain ⟨ds, e, rfl⟩ := Option.map_eq_some_iff.mp h
        exact Option.map_eq_some_iff.mpr ⟨ds, mapO_mono (fun x _ y q => toD_gr g q) e, rfl⟩
      · cases h
    | _ => exact h
mutual
def Dt.sz : Dt → Nat
  | .non => 4
  | .bl _ => 5
  | .int i => i.natAbs.log2 + 3
  | .str s => 10 * s.length + 2
  | .lst xs => Dt.szs xs + 3
  | .tup xs => Dt.szs xs + 3
def Dt.szs : List Dt → Nat
  | [] => 0
  | x :: xs => Dt.sz x + 2 + Dt.szs xs
end
mutual
def Dt.mild : Dt → Bool
  | .int i => decide (i.natAbs.log2 < 1000)
  | .str s => s.all (· < 128)
  | .lst xs => Dt.milds xs
  | .tup xs => Dt.milds xs
  | _ => true
def Dt.milds : List Dt → Bool
  | [] => true
  | x :: xs => Dt.mild x && Dt.milds xs
end
def RpOk (P : Prog) : Prop := ∀ d : Dt, d.mild = true → d.sz ≤ 10000000 → ∃ s, P.rp d = some s
def DatB (S : Store) (k b : Nat) (x : Val) : Prop := ∃ d, toD k S x = some d ∧ d.mild = true ∧ d.sz ≤ b
section
variable {S S' : Store} {k j b b' : Nat} {x : Val}
theorem DatB.mono (h : DatB S k b x) (hk : k ≤ j) (hb : b ≤ b') : DatB S j b' x := let ⟨d, h1, h2, h3⟩ := h; ⟨d, toD_le hk h1, h2, Nat.le_trans h3 hb⟩
theorem DatB.gr (h : DatB S k b x) (g : Gr S S') : DatB S' k b x := let ⟨d, h1, h2, h3⟩ := h; ⟨d, toD_gr g h1, h2, h3⟩
theorem DatB.non : DatB S 1 4 .non := ⟨_, rfl, rfl, Nat.le_refl _⟩
theorem DatB.bl (v : Bool) : DatB S 1 5 (.bl v) := ⟨_, rfl, rfl, Nat.le_refl _⟩
theorem log2_lt {n m : Nat} (h : n < 2 ^ m) (h0 : 0 < m) : n.log2 < m := by
  by_cases hn : n = 0
  · subst hn; simpa using h0
  · exact (Nat.log2_lt hn).mpr h
theorem DatB.int {i : Int} (h : i.natAbs < 2 ^ 60) : DatB S 1 62 (.int i) := ⟨_, rfl, by
  have := log2_lt h (by decide)
  show decide (i.natAbs.log2 < 1000) = true
  exact decide_eq_true (by omega), by
  have := log2_lt h (by decide)
  show i.natAbs.log2 + 3 ≤ 62
  omega⟩
theorem DatB.str {s : List Nat} (h : s.all (· < 128) = true) : DatB S 1 (10 * s.length + 2) (.str s) := ⟨_, rfl, h, Nat.le_refl _⟩
theorem datB_list {xs : List Val} (h : ∀ x ∈ xs, DatB S k b x) : ∃ ds, mapO (toD k S) xs = some ds ∧ Dt.milds ds = true ∧ Dt.szs ds ≤ xs.length * (b + 2) := by
  induction xs with
  | nil => exact ⟨[], rfl, rfl, Nat.zero_le _⟩
  | cons x xs ih =>
    obtain ⟨ds, h1, h2, h3⟩ := ih fun y hy => h y (List.mem_cons_of_mem _ hy)
    obtain ⟨d, g1, g2, g3⟩ := h x List.mem_cons_self
    refine ⟨d :: ds, ?_, ?_, ?_⟩
    · unfold mapO; rw [g1, h1]
    · show (Dt.mild d && Dt.milds ds) = true
      rw [g2, h2]; rfl
    · show Dt.sz d + 2 + Dt.szs ds ≤ (xs.length + 1) * (b + 2)
      rw [Nat.add_mul]
      omega
theorem DatB.tup {xs : List Val} (h : ∀ x ∈ xs, DatB S k b x) (hb : xs.length * (b + 2) + 3 ≤ b') : DatB S (k + 1) b' (.tup xs) := by
  obtain ⟨ds, h1, h2, h3⟩ := datB_list h
  refine ⟨.tup ds, ?_, h2, ?_⟩
  · show (mapO (toD k S) xs).map Dt.tup = _
    rw [h1]; rfl
  · show Dt.szs ds + 3 ≤ b'
    omega
theorem DatB.lst {xs : List Val} {m : Nat} (hm : S[m]? = some (.lst xs)) (h : ∀ x ∈ xs, DatB S k b x) (hb : xs.length * (b + 2) + 3 ≤ b') : DatB S (k + 1) b' (.loc m) := by
  obtain ⟨ds, h1, h2, h3⟩ := datB_list h
  refine ⟨.lst ds, ?_, h2, ?_⟩
  · unfold toD
    rw [hm]
    dsimp only
    rw [h1]; rfl
  · show Dt.szs ds + 3 ≤ b'
    omega
end
theorem mapO_mem {α β : Type} {f : α → Option β} : ∀ {xs : List α} {ys : List β}, mapO f xs = some ys → ∀ x ∈ xs, ∃ y, f x = some y
  | [], _, _, _, hx => nomatch hx
  | x :: xs, ys, h, z, hz => by
    unfold mapO at h
    cases h1 : f x with
    | none => simp [h1] at h
    | some y =>
      cases h2 : mapO f xs with
      | none => simp [h1, h2] at h
      | some zs =>
        rcases List.mem_cons.mp hz with rfl | hz
        · exact ⟨y, h1⟩
        · exact mapO_mem h2 z hz
end Pyd
set_option Elab.async false
set_option linter.all false
set_option maxRecDepth 100000
set_option maxHeartbeats 1000000
namespace Pyd
open PySem PySem.Spec PyProof.Rows L2
def Gd (b : Nat) (x : Str) : Prop := x.cps.toList.length ≤ b ∧ ∀ c ∈ x.cps.toList, c < 128
theorem Gd.mono {a b : Nat} {x : Str} (h : Gd a x) (k : a ≤ b) : Gd b x := ⟨Nat.le_trans h.1 k, h.2⟩
theorem Gd.append {a b : Nat} {x y : Str} (h : Gd a x) (k : Gd b y) : Gd (a + b) (x ++ y) := by
  have e : (x ++ y).cps.toList = x.cps.toList ++ y.cps.toList := by
    show (x.cps ++ y.cps).toList = _
    rw [Array.toList_append]
  refine ⟨?_, fun c hc => ?_⟩
  · rw [e, List.length_append]; exact Nat.add_le_add h.1 k.1
  · rw [e] at hc
    rcases List.mem_append.mp hc with q | q
    · exact h.2 c q
    · exact k.2 c q
theorem gd_int (i : Int) : Gd (i.natAbs.log2 + 3) ((toString i : String) : Str) := by
  refine ⟨?_, fun c hc => ?_⟩
  · have h1 := int_text_length_le (a := i) (k := i.natAbs.log2 + 1) (by omega) (by omega)
    rw [signs_ofString, List.length_map]
    have e : (toString i).toList.length = (toString i).length := String.length_toList
    rw [e]
    omega
  · by_cases h : c < 128
    · exact h
    · exact absurd hc (int_text_free' c ⟨by omega, .inr (by omega)⟩ i)
theorem gd_char : ∀ c, c < 128 → ∀ q ∈ [34, 39], (Builtin.Str.reprChar q c).all (· < 128) = true := by decide +kernel
theorem gd_fold (q : Nat) (hq : q ∈ [34, 39]) : ∀ (l : List Nat) (acc : Array Nat), (∀ c ∈ l, c < 128) → (∀ c ∈ acc.toList, c < 128) → ∀ c ∈ (l.foldl (fun out c => out ++ (Builtin.Str.reprChar q c).toArray) acc).toList, c < 128
  | [], acc, _, h => h
  | d :: r, acc, hl, h => by
    rw [List.foldl_cons]
    refine gd_fold q hq r _ (fun c hc => hl c (List.mem_cons_of_mem _ hc)) fun c hc => ?_
    rw [Array.toList_append] at hc
    rcases List.mem_append.mp hc with z | z
    · exact h c z
    · have := List.all_eq_true.mp (gd_char d (hl d List.mem_cons_self) q hq) c (by simpa using z)
      simpa using this
theorem gd_text (s : List Nat) (hs : s.all (· < 128) = true) : Gd (10 * s.length + 2) (reprText (tx s)) := by
  have hs' : ∀ c ∈ s, c < 128 := fun c hc => by simpa using List.all_eq_true.mp hs c hc
  have hq : reprQuote (tx s) ∈ [34, 39] := by
    unfold reprQuote
    split <;> simp
  refine ⟨?_, fun c hc => ?_⟩
  · have := StrLaws.reprText_len (tx s) (fun c hc => by have := hs' c hc; omega)
    rw [tx_len] at this
    exact this
  · unfold reprText at hc
    rw [← Array.foldl_toList] at hc
    simp only [Array.toList_push, List.mem_append, List.mem_singleton] at hc
    rcases hc with z | z
    · refine gd_fold _ hq s #[reprQuote (tx s)] hs' (fun c hc => ?_) c z
      simp at hc
      simp at hq
      omega
    · simp at hq
      omega
theorem gd_from : ∀ (ts : List Str) (bs : List Nat) (k : Nat) (acc : Str) (b : Nat), Gd b acc → Paired (fun b t => Gd b t) bs ts → Gd (b + (bs.map (· + 2)).sum) (textFrom k acc ts)
  | [], _, k, acc, b, h, .nil => h.mono (by simp)
  | t :: ts, a :: bs, k, acc, b, h, .cons h1 h2 => by
    have h3 : Gd 2 ((if k > 0 then ", " else "" : String) : Str) := by
      split <;> (refine ⟨by decide, by decide⟩)
    have := gd_from ts bs (k + 1) (acc ++ (if k > 0 then ", " else "" : String) ++ t) (b + 2 + a) ((h.append h3).append h1) h2
    show Gd _ (textFrom (k + 1) (acc ++ (if k > 0 then ", " else "" : String) ++ t) ts)
    exact this.mono (by simp; omega)
theorem gd_join : ∀ (ts : List Str) (bs : List Nat), Paired (fun b t => Gd b t) bs ts → Gd (bs.map (· + 2)).sum (Str.join ", " ts)
  | [], _, .nil => ⟨by decide, by decide⟩
  | [t], _, .cons h .nil => h.mono (by simp)
  | t :: u :: ts, _, .cons (l₁ := bs) h1 h2 => by
    have h3 : Gd 2 ((", " : String) : Str) := ⟨by decide, by decide⟩
    have := gd_join (u :: ts) bs h2
    show Gd _ (t ++ ((", " : String) : Str) ++ Str.join ", " (u :: ts))
    exact ((h1.append h3).append this).mono (by simp)
mutual
theorem gd_shown : ∀ d : Dt, d.mild = true → Gd d.sz d.pd.shown
  | .non, _ => ⟨by decide, by decide⟩
  | .bl true, _ => ⟨by decide, by decide⟩
  | .bl false, _ => ⟨by decide, by decide⟩
  | .int i, _ => gd_int i
  | .str s, h => gd_text s h
  | .lst xs, h => by
    have h1 := gd_showns xs h
    have := gd_from _ _ 0 ((("[" : String)) : Str) 1 ⟨by decide, by decide⟩ h1
    have e : (Dt.lst xs).pd.shown = textFrom 0 "[" (PyData.shownAll (Dt.pds xs)) ++ (("]" : String) : Str) := by
      show PyData.shown (.list (Dt.pds xs)) = _
      unfold PyData.shown
      rfl
    rw [e]
    exact (this.append (b := 1) ⟨by decide, by decide⟩).mono (by rw [szs_sum]; show _ ≤ Dt.szs xs + 3; omega)
  | .tup xs, h => by
    have h1 := gd_showns xs h
    have := gd_join _ _ h1
    have e : (Dt.tup xs).pd.shown = (("(" : String) : Str) ++ Str.join ", " (PyData.shownAll (Dt.pds xs)) ++ ((if (PyData.shownAll (Dt.pds xs)).length == 1 then ",)" else ")" : String) : Str) := by
      show PyData.shown (.tuple (Dt.pds xs)) = _
      unfold PyData.shown
      rfl
    rw [e]
    have e1 : Gd 1 (("(" : String) : Str) := ⟨by decide, by decide⟩
    have e2 : Gd 2 ((if (PyData.shownAll (Dt.pds xs)).length == 1 then ",)" else ")" : String) : Str) := by
      split <;> exact ⟨by decide, by decide⟩
    exact ((e1.append this).append e2).mono (by rw [szs_sum]; show _ ≤ Dt.szs xs + 3; omega)
theorem gd_showns : ∀ ds : List Dt, Dt.milds ds = true → Paired (fun b t => Gd b t) (ds.map Dt.sz) (PyData.shownAll (Dt.pds ds))
  | [], _ => .nil
  | d :: ds, h => by
    have h := Bool.and_eq_true_iff.mp (show (d.mild && Dt.milds ds) = true from h)
    exact .cons (gd_shown d h.1) (gd_showns ds h.2)
theorem szs_sum : ∀ ds : List Dt, ((ds.map Dt.sz).map (· + 2)).sum = Dt.szs ds
  | [] => rfl
  | d :: ds => by
    show (d.sz + 2) + ((ds.map Dt.sz).map (· + 2)).sum = d.sz + 2 + Dt.szs ds
    rw [szs_sum ds]
end
mutual
theorem showable_of : ∀ d : Dt, d.mild = true → d.pd.showable = true
  | .non, _ => rfl
  | .bl _, _ => rfl
  | .int i, h => by
    have h : decide (i.natAbs.log2 < 1000) = true := h
    show decide (i.natAbs.log2 < 1920) = true
    have := of_decide_eq_true h
    exact decide_eq_true (by omega)
  | .str s, _ => rfl
  | .lst xs, h => showables_of xs h
  | .tup xs, h => showables_of xs h
theorem showables_of : ∀ ds : List Dt, Dt.milds ds = true → PyData.showableAll (Dt.pds ds) = true
  | [], _ => rfl
  | d :: ds, h => by
    have h := Bool.and_eq_true_iff.mp (show (d.mild && Dt.milds ds) = true from h)
    show (d.pd.showable && PyData.showableAll (Dt.pds ds)) = true
    rw [showable_of d h.1, showables_of ds h.2]; rfl
end
theorem rpr_some (d : Dt) (h : d.mild = true) (hs : d.sz ≤ 10000000) : ∃ s, rpr d = some s := by
  obtain ⟨h1, h2⟩ := gd_shown d h
  refine ⟨d.pd.shown.cps.toList, ?_⟩
  unfold rpr
  dsimp only
  rw [if_pos]
  rw [showable_of d h, Bool.true_and, Bool.and_eq_true, decide_eq_true_eq, List.all_eq_true]
  exact ⟨Nat.le_trans h1 (Nat.le_trans hs (by decide)), fun c hc => decide_eq_true (h2 c hc)⟩
theorem rpOk_of {P : Prog} (h : P.rp = rpr) : RpOk P := fun d h1 h2 => by rw [h]; exact rpr_some d h1 h2
end Pyd
set_option maxHeartbeats 4000000
set_option maxRecDepth 100000
namespace Pyd
abbrev a_end : Nat := 39
abbrev a_ends : Nat := 6
abbrev a_letters : Nat := 4
abbrev a_part : Nat := 0
abbrev a_step : Nat := 25
abbrev a_steps : Nat := 5
abbrev c_BadReader : Nat := 1
abbrev c_NoWord : Nat := 2
abbrev c_NotLet : Nat := 14
abbrev c_Reader : Nat := 40
abbrev c_ReaderError : Nat := 0
abbrev g_ALPHABETS : Nat := 10
abbrev g_MOST_READER : Nat := 19
abbrev g_MOST_WORD : Nat := 11
abbrev g_Reader___eq__ : Nat := 21
abbrev g_Reader___init__ : Nat := 20
abbrev g__law_does_let : Nat := 474
abbrev g__law_draw : Nat := 24
abbrev g__law_error : Nat := 453
abbrev g__law_hand_v13 : Nat := 446
abbrev g__law_is_pumped : Nat := 520
abbrev g__law_is_v3 : Nat := 448
abbrev g__law_letters : Nat := 452
abbrev g__law_lot_v2 : Nat := 450
abbrev g__law_pumped : Nat := 519
abbrev g__law_reader_v5 : Nat := 472
abbrev g__law_right_v7 : Nat := 522
abbrev g__law_right_v7_l1 : Nat := 1631
abbrev g__law_right_v7_l2 : Nat := 1632
abbrev g__law_rows_v2 : Nat := 449
abbrev g__law_some : Nat := 447
abbrev g__law_state : Nat := 473
abbrev g__law_word_right : Nat := 521
abbrev g__law_word_right_l1 : Nat := 1630
abbrev g__law_word_v14 : Nat := 471
abbrev g_are_letters : Nat := 17
abbrev g_check_word : Nat := 38
abbrev g_is_integer : Nat := 12
abbrev g_is_lot : Nat := 16
abbrev g_is_pumped : Nat := 518
abbrev g_is_sized : Nat := 15
abbrev g_is_tuple : Nat := 14
abbrev g_is_within : Nat := 13
abbrev g_is_word : Nat := 22
abbrev g_is_word_of : Nat := 18
abbrev g_law_k36 : Nat := 523
abbrev g_led : Nat := 41
abbrev g_lets : Nat := 45
abbrev g_pumped : Nat := 517
abbrev g_raw_lets : Nat := 44
abbrev g_way : Nat := 43
def f__law_word_right_l1 : Fn := ⟨0, 2, [], [0, 1],
 .cons (.ret (.call g_pumped (.cons (.v 0) (.cons (.v 1) .nil)))) .nil⟩
def f__law_right_v7_l1 : Fn := ⟨0, 2, [], [0, 1],
 .cons (.ret (.call g_is_pumped (.cons (.v 1) (.cons (.v 0) (.cons (.cst (.non)) .nil))))) .nil⟩
def f__law_right_v7_l2 : Fn := ⟨0, 2, [], [0, 1],
 .cons (.ret (.call g_pumped (.cons (.v 1) (.cons (.v 0) .nil)))) .nil⟩
def k_ReaderError : Cl := ⟨none, none, [], [c_ReaderError], true, []⟩
def k_BadReader : Cl := ⟨none, none, [], [c_BadReader, c_ReaderError], true, [a_part]⟩
def k_NoWord : Cl := ⟨none, none, [], [c_NoWord, c_ReaderError], true, []⟩
def k_NotLet : Cl := ⟨none, none, [], [c_NotLet, c_ReaderError], true, []⟩
def k_Reader : Cl := ⟨some g_Reader___init__, some g_Reader___eq__, [], [c_Reader], false, [a_letters, a_steps, a_ends]⟩
def f_is_integer : Fn := ⟨1, 1, [], [],
 .cons (.ret (.and (.isi (.v 0) (.int)) (.not (.isi (.v 0) (.bool))))) .nil⟩
def f_is_within : Fn := ⟨3, 3, [], [],
 .cons (.ret (.and (.call g_is_integer (.cons (.v 0) .nil)) (.cmp2 .le .le (.v 1) (.v 0) (.v 2)))) .nil⟩
def f_is_tuple : Fn := ⟨2, 2, [], [],
 .cons (.ret (.and (.isi (.v 0) (.tuple)) (.cmp .eq (.b1 .len (.v 0)) (.v 1)))) .nil⟩
def f_is_sized : Fn := ⟨3, 3, [], [],
 .cons (.ret (.and (.isi (.v 0) (.tuple)) (.cmp2 .le .le (.v 1) (.b1 .len (.v 0)) (.v 2)))) .nil⟩
def f_is_lot : Fn := ⟨2, 4, [], [],
 .cons (.ifs (.or (.not (.call g_is_sized (.cons (.v 0) (.cons (.cst (.int 0)) (.cons (.v 1) .nil))))) (.not (.mk .all (.comp [2] (.call g_is_within (.cons (.v 2) (.cons (.cst (.int 0)) (.cons (.bin .sub (.v 1) (.cst (.int 1))) .nil)))) (.v 2) (.e (.v 0)) .none))))
 (.cons (.ret (.cst (.bl false))) .nil)
 (.nil))
 (.cons (.ret (.mk .all (.comp [3] (.cmp .lt (.idx (.v 0) (.bin .sub (.v 3) (.cst (.int 1)))) (.idx (.v 0) (.v 3))) (.v 3) (.r2 (.cst (.int 1)) (.b1 .len (.v 0))) .none))) .nil)⟩
def f_are_letters : Fn := ⟨1, 1, [], [],
 .cons (.ret (.and (.isi (.v 0) (.str)) (.cmp .mem (.v 0) (.glo g_ALPHABETS)))) .nil⟩
def f_is_word_of : Fn := ⟨3, 4, [], [],
 .cons (.ret (.and (.isi (.v 1) (.str)) (.and (.cmp .le (.b1 .len (.v 1)) (.v 2)) (.mk .all (.comp [3] (.cmp .mem (.v 3) (.v 0)) (.v 3) (.e (.v 1)) .none))))) .nil⟩
def f_check_word : Fn := ⟨2, 2, [], [],
 .cons (.ifs (.not (.call g_is_word_of (.cons (.v 0) (.cons (.v 1) (.cons (.glo g_MOST_WORD) .nil)))))
 (.cons (.raise c_NoWord .none) .nil)
 (.nil)) .nil⟩
def f_led : Fn := ⟨3, 4, [], [],
 .cons (.for_ (.v 3) (.e (.v 2))
 (.cons (.asg (.v 1) (.idx (.idx (.attr (.v 0) a_steps) (.v 1)) (.me1 .index (.attr (.v 0) a_letters) (.v 3)))) .nil))
 (.cons (.ret (.v 1)) .nil)⟩
def f_is_word : Fn := ⟨2, 2, [], [],
 .cons (.ret (.call g_is_word_of (.cons (.attr (.v 0) a_letters) (.cons (.v 1) (.cons (.glo g_MOST_WORD) .nil))))) .nil⟩
def f_way : Fn := ⟨2, 4, [], [],
 .cons (.ex (.call g_check_word (.cons (.attr (.v 0) a_letters) (.cons (.v 1) .nil))))
 (.cons (.asg (.v 2) (.lst (.cons (.cst (.int 0)) .nil)))
 (.cons (.for_ (.v 3) (.e (.v 1))
 (.cons (.ex (.me1 .append (.v 2) (.call g_led (.cons (.v 0) (.cons (.idx (.v 2) (.neg (.cst (.int 1)))) (.cons (.v 3) .nil)))))) .nil))
 (.cons (.ret (.mk .tuple (.v 2))) .nil)))⟩
def f_raw_lets : Fn := ⟨2, 2, [], [],
 .cons (.ret (.cmp .mem (.call g_led (.cons (.v 0) (.cons (.cst (.int 0)) (.cons (.v 1) .nil)))) (.attr (.v 0) a_ends))) .nil⟩
def f_lets : Fn := ⟨2, 2, [], [],
 .cons (.ex (.call g_check_word (.cons (.attr (.v 0) a_letters) (.cons (.v 1) .nil))))
 (.cons (.ret (.call g_raw_lets (.cons (.v 0) (.cons (.v 1) .nil)))) .nil)⟩
def f_pumped : Fn := ⟨2, 5, [], [],
 .cons (.ex (.call g_check_word (.cons (.attr (.v 0) a_letters) (.cons (.v 1) .nil))))
 (.cons (.ifs (.not (.call g_raw_lets (.cons (.v 0) (.cons (.v 1) .nil))))
 (.cons (.raise c_NotLet .none) .nil)
 (.nil))
 (.cons (.asg (.v 2) (.call g_way (.cons (.v 0) (.cons (.v 1) .nil))))
 (.cons (.for_ (.v 3) (.r2 (.cst (.int 1)) (.b1 .len (.v 2)))
 (.cons (.for_ (.v 4) (.r1 (.v 3))
 (.cons (.ifs (.cmp .eq (.idx (.v 2) (.v 4)) (.idx (.v 2) (.v 3)))
 (.cons (.ret (.tup (.cons (.sl (.v 1) .none (.some (.v 4))) (.cons (.sl (.v 1) (.some (.v 4)) (.some (.v 3))) (.cons (.sl (.v 1) (.some (.v 3)) .none) .nil))))) .nil)
 (.nil)) .nil)) .nil))
 (.cons (.ret (.cst (.non))) .nil))))⟩
def f_is_pumped : Fn := ⟨3, 10, [], [],
 .cons (.ex (.call g_check_word (.cons (.attr (.v 0) a_letters) (.cons (.v 1) .nil))))
 (.cons (.ifs (.or (.not (.call g_is_tuple (.cons (.v 2) (.cons (.cst (.int 3)) .nil)))) (.or (.not (.mk .all (.comp [3] (.call g_is_word (.cons (.v 0) (.cons (.v 3) .nil))) (.v 3) (.e (.v 2)) .none))) (.cmp .ne (.me1 .join (.cst (.str [])) (.v 2)) (.v 1))))
 (.cons (.ret (.cst (.bl false))) .nil)
 (.nil))
 (.cons (.asg (.tup (.cons (.v 4) (.cons (.v 5) (.cons (.v 6) .nil)))) (.v 2))
 (.cons (.ifs (.cmp .eq (.b1 .len (.v 5)) (.cst (.int 0)))
 (.cons (.ret (.cst (.bl false))) .nil)
 (.nil))
 (.cons (.par [7, 8] (.cons (.call g_led (.cons (.v 0) (.cons (.cst (.int 0)) (.cons (.v 4) .nil)))) (.cons (.b1 .len (.attr (.v 0) a_steps)) .nil)))
 (.cons (.for_ (.v 9) (.r1 (.bin .add (.bin .mul (.cst (.int 2)) (.v 8)) (.cst (.int 1))))
 (.cons (.ifs (.cmp .nmem (.call g_led (.cons (.v 0) (.cons (.v 7) (.cons (.v 6) .nil)))) (.attr (.v 0) a_ends))
 (.cons (.ret (.cst (.bl false))) .nil)
 (.nil))
 (.cons (.asg (.v 7) (.call g_led (.cons (.v 0) (.cons (.v 7) (.cons (.v 5) .nil))))) .nil)))
 (.cons (.ret (.cst (.bl true))) .nil))))))⟩
def f__law_hand_v13 : Fn := ⟨1, 3, [], [],
 .cons (.asg (.v 1) (.comp [2] (.b1 .abs (.b1 .int (.v 2))) (.v 2) (.e (.sl (.v 0) .none (.some (.cst (.int 63))))) .none))
 (.cons (.ret (.lst (.cons (.v 1) (.cons (.cst (.int 0)) (.cons (.cst (.int 0)) (.cons (.bin .add (.cst (.int 277)) (.bin .mul (.cst (.int 79)) (.b1 .len (.v 1)))) (.cons (.cst (.int 0)) .nil))))))) .nil)⟩
def f__law_draw : Fn := ⟨2, 5, [], [],
 .cons (.ifs (.and (.cmp .eq (.idx (.v 0) (.cst (.int 2))) (.cst (.int 0))) (.cmp .lt (.idx (.v 0) (.cst (.int 1))) (.b1 .len (.idx (.v 0) (.cst (.int 0))))))
 (.cons (.asg (.v 2) (.idx (.idx (.v 0) (.cst (.int 0))) (.idx (.v 0) (.cst (.int 1)))))
 (.cons (.asg (.sub (.v 0) (.cst (.int 1))) (.bin .add (.idx (.v 0) (.cst (.int 1))) (.cst (.int 1))))
 (.cons (.asg (.sub (.v 0) (.cst (.int 3))) (.bin .mod (.b1 .int (.bin .add (.bin .add (.bin .mul (.idx (.v 0) (.cst (.int 3))) (.cst (.int 69621))) (.bin .mul (.v 2) (.cst (.int 48271)))) (.cst (.int 17)))) (.cst (.int 2147483629))))
 (.cons (.ifs (.cmp .ge (.v 2) (.bin .pow (.cst (.int 10)) (.cst (.int 18))))
 (.cons (.asg (.sub (.v 0) (.cst (.int 2))) (.v 2)) .nil)
 (.nil)) .nil))))
 (.nil))
 (.cons (.ifs (.cmp .gt (.idx (.v 0) (.cst (.int 2))) (.cst (.int 0)))
 (.cons (.asg (.v 3) (.bin .mod (.b1 .int (.idx (.v 0) (.cst (.int 2)))) (.v 1)))
 (.cons (.asg (.sub (.v 0) (.cst (.int 2))) (.bin .fdiv (.idx (.v 0) (.cst (.int 2))) (.v 1)))
 (.cons (.ret (.v 3)) .nil)))
 (.nil))
 (.cons (.asg (.sub (.v 0) (.cst (.int 4))) (.bin .add (.idx (.v 0) (.cst (.int 4))) (.cst (.int 1))))
 (.cons (.asg (.v 4) (.bin .mod (.b1 .int (.bin .mul (.b1 .int (.bin .add (.idx (.v 0) (.cst (.int 3))) (.bin .mul (.cst (.int 7919)) (.idx (.v 0) (.cst (.int 4)))))) (.cst (.int 40692)))) (.cst (.int 2147483647))))
 (.cons (.asg (.v 4) (.bin .mod (.b1 .int (.bin .mul (.v 4) (.bin .add (.bin .fdiv (.v 4) (.cst (.int 1009))) (.cst (.int 69621))))) (.cst (.int 2147483647))))
 (.cons (.asg (.v 4) (.bin .mod (.b1 .int (.bin .mul (.v 4) (.bin .add (.bin .fdiv (.v 4) (.cst (.int 2003))) (.cst (.int 40014))))) (.cst (.int 2147483563))))
 (.cons (.ret (.bin .mod (.b1 .int (.bin .fdiv (.v 4) (.cst (.int 16)))) (.v 1))) .nil))))))⟩
def f__law_some : Fn := ⟨2, 2, [], [],
 .cons (.ret (.idx (.v 1) (.call g__law_draw (.cons (.v 0) (.cons (.b1 .len (.v 1)) .nil))))) .nil⟩
def f__law_is_v3 : Fn := ⟨2, 2, [], [],
 .cons (.ret (.cmp .eq (.b1 .repr (.v 0)) (.b1 .repr (.v 1)))) .nil⟩
def f__law_word_v14 : Fn := ⟨3, 4, [], [],
 .cons (.ret (.me1 .join (.cst (.str [])) (.comp [3] (.call g__law_some (.cons (.v 0) (.cons (.mk .list (.v 1)) .nil))) (.v 3) (.r1 (.call g__law_draw (.cons (.v 0) (.cons (.bin .add (.v 2) (.cst (.int 1))) .nil)))) .none))) .nil⟩
def f__law_rows_v2 : Fn := ⟨3, 5, [], [],
 .cons (.ret (.mk .tuple (.comp [4] (.mk .tuple (.comp [3] (.call g__law_draw (.cons (.v 0) (.cons (.v 1) .nil))) (.v 3) (.r1 (.v 2)) .none)) (.v 4) (.r1 (.v 1)) .none))) .nil⟩
def f__law_lot_v2 : Fn := ⟨2, 3, [], [],
 .cons (.ret (.mk .tuple (.comp [2] (.v 2) (.v 2) (.r1 (.v 1)) (.some (.cmp .eq (.call g__law_draw (.cons (.v 0) (.cons (.cst (.int 2)) .nil))) (.cst (.int 0))))))) .nil⟩
def f__law_reader_v5 : Fn := ⟨3, 4, [], [],
 .cons (.asg (.v 3) (.bin .add (.cst (.int 1)) (.call g__law_draw (.cons (.v 0) (.cons (.v 2) .nil)))))
 (.cons (.ret (.new c_Reader (.cons (.v 1) (.cons (.call g__law_rows_v2 (.cons (.v 0) (.cons (.v 3) (.cons (.b1 .len (.v 1)) .nil)))) (.cons (.call g__law_lot_v2 (.cons (.v 0) (.cons (.v 3) .nil))) .nil))))) .nil)⟩
def f__law_state : Fn := ⟨2, 4, [], [],
 .cons (.asg (.v 2) (.cst (.int 0)))
 (.cons (.for_ (.v 3) (.e (.v 1))
 (.cons (.asg (.v 2) (.idx (.idx (.attr (.v 0) a_steps) (.v 2)) (.me1 .index (.attr (.v 0) a_letters) (.v 3)))) .nil))
 (.cons (.ret (.v 2)) .nil))⟩
def f__law_does_let : Fn := ⟨2, 2, [], [],
 .cons (.ret (.cmp .mem (.call g__law_state (.cons (.v 0) (.cons (.v 1) .nil))) (.attr (.v 0) a_ends))) .nil⟩
def f__law_letters : Fn := ⟨1, 1, [], [],
 .cons (.ret (.call g__law_some (.cons (.v 0) (.cons (.lst (.cons (.cst (.str [97])) (.cons (.cst (.str [97, 98])) (.cons (.cst (.str [97, 98])) (.cons (.cst (.str [97, 98])) (.cons (.cst (.str [97, 98, 99])) .nil)))))) .nil)))) .nil⟩
def f__law_error : Fn := ⟨1, 2, [], [],
 .cons (.try_ .ex (.callv (.v 0) (.nil))
 c_ReaderError 1
 (.cons (.ret (.ife (.isi (.v 1) (.valueError)) (.v 1) (.cst (.non)))) .nil))
 (.cons (.ret (.cst (.non))) .nil)⟩
def f__law_pumped : Fn := ⟨2, 6, [], [],
 .cons (.asg (.v 2) (.comp [3] (.call g__law_state (.cons (.v 0) (.cons (.sl (.v 1) .none (.some (.v 3))) .nil))) (.v 3) (.r1 (.bin .add (.b1 .len (.v 1)) (.cst (.int 1)))) .none))
 (.cons (.for_ (.v 4) (.r2 (.cst (.int 1)) (.b1 .len (.v 2)))
 (.cons (.ifs (.cmp .mem (.idx (.v 2) (.v 4)) (.sl (.v 2) .none (.some (.v 4))))
 (.cons (.asg (.v 5) (.me1 .index (.v 2) (.idx (.v 2) (.v 4))))
 (.cons (.ret (.tup (.cons (.sl (.v 1) .none (.some (.v 5))) (.cons (.sl (.v 1) (.some (.v 5)) (.some (.v 4))) (.cons (.sl (.v 1) (.some (.v 4)) .none) .nil))))) .nil))
 (.nil)) .nil))
 (.cons (.ret (.cst (.non))) .nil))⟩
def f__law_is_pumped : Fn := ⟨3, 8, [], [],
 .cons (.asg (.tup (.cons (.v 3) (.cons (.v 4) (.cons (.v 5) .nil)))) (.v 2))
 (.cons (.ifs (.or (.cmp .ne (.bin .add (.bin .add (.v 3) (.v 4)) (.v 5)) (.v 1)) (.cmp .eq (.v 4) (.cst (.str []))))
 (.cons (.ret (.cst (.bl false))) .nil)
 (.nil))
 (.cons (.asg (.v 6) (.bin .add (.bin .mul (.cst (.int 2)) (.b1 .len (.attr (.v 0) a_steps))) (.cst (.int 1))))
 (.cons (.ret (.mk .all (.comp [7] (.call g__law_does_let (.cons (.v 0) (.cons (.bin .add (.bin .add (.v 3) (.bin .mul (.v 4) (.v 7))) (.v 5)) .nil))) (.v 7) (.r1 (.v 6)) .none))) .nil)))⟩
def f__law_word_right : Fn := ⟨3, 12, [1, 2], [],
 .cons (.asg (.v 3) (.call g__law_does_let (.cons (.v 1) (.cons (.v 2) .nil))))
 (.cons (.ifs (.not (.v 3))
 (.cons (.asg (.v 4) (.call g__law_error (.cons (.lam g__law_word_right_l1 [1, 2]) .nil)))
 (.cons (.ifs (.not (.isi (.v 4) (.cls c_NotLet)))
 (.cons (.ret (.cst (.bl false))) .nil)
 (.nil)) .nil))
 (.cons (.asg (.v 5) (.call g_pumped (.cons (.v 1) (.cons (.v 2) .nil))))
 (.cons (.ifs (.or (.not (.call g__law_is_v3 (.cons (.v 5) (.cons (.call g__law_pumped (.cons (.v 1) (.cons (.v 2) .nil))) .nil)))) (.and (.cmp .is (.v 5) (.cst (.non))) (.cmp .ge (.b1 .len (.v 2)) (.b1 .len (.attr (.v 1) a_steps)))))
 (.cons (.ret (.cst (.bl false))) .nil)
 (.nil))
 (.cons (.ifs (.cmp .isN (.v 5) (.cst (.non)))
 (.cons (.ifs (.cmp .isN (.call g_is_pumped (.cons (.v 1) (.cons (.v 2) (.cons (.v 5) .nil)))) (.cst (.bl true)))
 (.cons (.ret (.cst (.bl false))) .nil)
 (.nil))
 (.cons (.asg (.v 6) (.call g__law_draw (.cons (.v 0) (.cons (.cst (.int 9)) .nil))))
 (.cons (.ifs (.cmp .isN (.call g_lets (.cons (.v 1) (.cons (.bin .add (.bin .add (.idx (.v 5) (.cst (.int 0))) (.bin .mul (.idx (.v 5) (.cst (.int 1))) (.v 6))) (.idx (.v 5) (.cst (.int 2)))) .nil))) (.cst (.bl true)))
 (.cons (.ret (.cst (.bl false))) .nil)
 (.nil)) .nil)))
 (.nil)) .nil))))
 (.cons (.for_ (.v 7) (.r1 (.cst (.int 8)))
 (.cons (.asg (.v 8) (.call g__law_draw (.cons (.v 0) (.cons (.bin .add (.b1 .len (.v 2)) (.cst (.int 1))) .nil))))
 (.cons (.asg (.v 9) (.bin .add (.v 8) (.call g__law_draw (.cons (.v 0) (.cons (.bin .add (.bin .sub (.b1 .len (.v 2)) (.v 8)) (.cst (.int 1))) .nil)))))
 (.cons (.asg (.v 10) (.tup (.cons (.sl (.v 2) .none (.some (.v 8))) (.cons (.sl (.v 2) (.some (.v 8)) (.some (.v 9))) (.cons (.sl (.v 2) (.some (.v 9)) .none) .nil)))))
 (.cons (.ifs (.cmp .ne (.call g_is_pumped (.cons (.v 1) (.cons (.v 2) (.cons (.v 10) .nil)))) (.call g__law_is_pumped (.cons (.v 1) (.cons (.v 2) (.cons (.v 10) .nil)))))
 (.cons (.ret (.cst (.bl false))) .nil)
 (.nil)) .nil)))))
 (.cons (.asg (.v 11) (.lst (.cons (.cst (.non)) (.cons (.tup (.nil)) (.cons (.tup (.cons (.v 2) (.cons (.cst (.str [])) (.cons (.cst (.str [])) .nil)))) (.cons (.tup (.cons (.cst (.str [])) (.cons (.v 2) .nil))) (.cons (.lst (.cons (.cst (.str [])) (.cons (.v 2) (.cons (.cst (.str [])) .nil)))) (.cons (.tup (.cons (.cst (.str [])) (.cons (.v 2) (.cons (.cst (.str [])) (.cons (.cst (.str [])) .nil))))) (.cons (.tup (.cons (.cst (.str [])) (.cons (.v 2) (.cons (.cst (.str [97])) .nil)))) (.cons (.cst (.int 0)) .nil))))))))))
 (.cons (.ret (.cmp .is (.call g_is_pumped (.cons (.v 1) (.cons (.v 2) (.cons (.call g__law_some (.cons (.v 0) (.cons (.v 11) .nil))) .nil)))) (.cst (.bl false)))) .nil))))⟩
def f__law_right_v7 : Fn := ⟨1, 6, [1, 5], [],
 .cons (.asg (.cv 1) (.call g__law_reader_v5 (.cons (.v 0) (.cons (.call g__law_letters (.cons (.v 0) .nil)) (.cons (.cst (.int 4)) .nil)))))
 (.cons (.asg (.v 2) (.bin .add (.drp (.comp [3] (.call g__law_word_v14 (.cons (.v 0) (.cons (.attr (.v 1) a_letters) (.cons (.cst (.int 7)) .nil)))) (.v 3) (.r1 (.cst (.int 5))) .none)) (.lst (.cons (.cst (.str [])) .nil))))
 (.cons (.ifs (.not (.mk .all (.drp (.comp [4] (.call g__law_word_right (.cons (.v 0) (.cons (.v 1) (.cons (.v 4) .nil)))) (.v 4) (.e (.v 2)) .none))))
 (.cons (.ret (.cst (.bl false))) .nil)
 (.nil))
 (.cons (.asg (.cv 5) (.call g__law_some (.cons (.v 0) (.cons (.lst (.cons (.cst (.non)) (.cons (.cst (.int 1)) (.cons (.cst (.str [100])) (.cons (.tup (.cons (.cst (.str [97])) .nil)) (.cons (.cst (.str [65])) (.cons (.lst (.cons (.cst (.str [97])) .nil)) (.cons (.dic (.nil)) (.cons (.bin .mul (.cst (.str [97])) (.cst (.int 61))) .nil))))))))) .nil))))
 (.cons (.ifs (.not (.isi (.call g__law_error (.cons (.lam g__law_right_v7_l2 [5, 1]) .nil)) (.cls c_NoWord)))
 (.cons (.ret (.cst (.bl false))) .nil)
 (.nil))
 (.cons (.ret (.isi (.call g__law_error (.cons (.lam g__law_right_v7_l1 [5, 1]) .nil)) (.cls c_NoWord))) .nil)))))⟩
def f_law_k36 : Fn := ⟨1, 5, [], [],
 .cons (.asg (.v 1) (.call g__law_hand_v13 (.cons (.v 0) .nil)))
 (.cons (.ifs (.not (.mk .all (.comp [2] (.call g__law_right_v7 (.cons (.v 1) .nil)) (.v 2) (.r1 (.cst (.int 3))) .none)))
 (.cons (.ret (.cst (.bl false))) .nil)
 (.nil))
 (.cons (.asg (.v 3) (.new c_Reader (.cons (.cst (.str [97, 98])) (.cons (.tup (.cons (.tup (.cons (.cst (.int 1)) (.cons (.cst (.int 0)) .nil))) (.cons (.tup (.cons (.cst (.int 0)) (.cons (.cst (.int 1)) .nil))) .nil))) (.cons (.tup (.cons (.cst (.int 0)) .nil)) .nil)))))
 (.cons (.asg (.v 4) (.lst (.cons (.call g_pumped (.cons (.v 3) (.cons (.cst (.str [97, 98, 97])) .nil))) (.cons (.call g_pumped (.cons (.v 3) (.cons (.cst (.str [])) .nil))) (.cons (.call g_is_pumped (.cons (.v 3) (.cons (.cst (.str [97, 98, 97])) (.cons (.tup (.cons (.cst (.str [97])) (.cons (.cst (.str [98])) (.cons (.cst (.str [97])) .nil)))) .nil)))) .nil)))))
 (.cons (.ex (.me1 .append (.v 4) (.call g_is_pumped (.cons (.v 3) (.cons (.cst (.str [97, 98, 97])) (.cons (.tup (.cons (.cst (.str [])) (.cons (.cst (.str [97])) (.cons (.cst (.str [98, 97])) .nil)))) .nil))))))
 (.cons (.ret (.call g__law_is_v3 (.cons (.v 4) (.cons (.lst (.cons (.tup (.cons (.cst (.str [97])) (.cons (.cst (.str [98])) (.cons (.cst (.str [97])) .nil)))) (.cons (.cst (.non)) (.cons (.cst (.bl true)) (.cons (.cst (.bl false)) .nil))))) .nil)))) .nil)))))⟩
def f_Reader___init__ : Fn := ⟨4, 6, [], [],
 .cons (.ifs (.not (.call g_are_letters (.cons (.v 1) .nil)))
 (.cons (.raise c_BadReader (.some (.cst (.str [108, 101, 116, 116, 101, 114, 115])))) .nil)
 (.nil))
 (.cons (.ifs (.or (.not (.call g_is_sized (.cons (.v 2) (.cons (.cst (.int 1)) (.cons (.glo g_MOST_READER) .nil))))) (.not (.mk .all (.comp [4] (.call g_is_tuple (.cons (.v 4) (.cons (.b1 .len (.v 1)) .nil))) (.v 4) (.e (.v 2)) .none))))
 (.cons (.raise c_BadReader (.some (.cst (.str [115, 116, 101, 112, 115])))) .nil)
 (.nil))
 (.cons (.ifs (.not (.mk .all (.comp2 [4, 5] [5] (.call g_is_within (.cons (.v 5) (.cons (.cst (.int 0)) (.cons (.bin .sub (.b1 .len (.v 2)) (.cst (.int 1))) .nil)))) (.v 4) (.e (.v 2)) (.v 5) (.e (.v 4)) .none)))
 (.cons (.raise c_BadReader (.some (.cst (.str [115, 116, 101, 112, 115])))) .nil)
 (.nil))
 (.cons (.ifs (.not (.call g_is_lot (.cons (.v 3) (.cons (.b1 .len (.v 2)) .nil))))
 (.cons (.raise c_BadReader (.some (.cst (.str [101, 110, 100, 115])))) .nil)
 (.nil))
 (.cons (.asga (.v 0) a_letters (.v 1))
 (.cons (.asga (.v 0) a_steps (.v 2))
 (.cons (.asga (.v 0) a_ends (.v 3)) .nil))))))⟩
def f_Reader___eq__ : Fn := ⟨2, 2, [], [],
 .cons (.ifs (.not (.isi (.v 1) (.cls c_Reader)))
 (.cons (.ret (.cst (.bl false))) .nil)
 (.nil))
 (.cons (.ret (.and (.cmp .eq (.attr (.v 0) a_letters) (.attr (.v 1) a_letters)) (.and (.cmp .eq (.attr (.v 0) a_steps) (.attr (.v 1) a_steps)) (.cmp .eq (.attr (.v 0) a_ends) (.attr (.v 1) a_ends))))) .nil)⟩
end Pyd
namespace Pyd
structure H_is_integer (P : Prog) : Prop where
  fn : P.fn g_is_integer = some f_is_integer
structure H_is_within (P : Prog) : Prop where
  fn : P.fn g_is_within = some f_is_within
  c_is_integer : H_is_integer P
structure H_is_tuple (P : Prog) : Prop where
  fn : P.fn g_is_tuple = some f_is_tuple
structure H_is_sized (P : Prog) : Prop where
  fn : P.fn g_is_sized = some f_is_sized
structure H_is_lot (P : Prog) : Prop where
  fn : P.fn g_is_lot = some f_is_lot
  c_is_sized : H_is_sized P
  c_is_within : H_is_within P
structure H_are_letters (P : Prog) : Prop where
  fn : P.fn g_are_letters = some f_are_letters
  v_ALPHABETS : P.val g_ALPHABETS = some (.tup [.str [97], .str [97, 98], .str [97, 98, 99]])
structure H_is_word_of (P : Prog) : Prop where
  fn : P.fn g_is_word_of = some f_is_word_of
structure HC_ReaderError (P : Prog) : Prop where
  cl : P.cl c_ReaderError = some k_ReaderError
structure HC_NoWord (P : Prog) : Prop where
  cl : P.cl c_NoWord = some k_NoWord
  k_ReaderError : HC_ReaderError P
structure H_check_word (P : Prog) : Prop where
  fn : P.fn g_check_word = some f_check_word
  v_MOST_WORD : P.val g_MOST_WORD = some (.int 60)
  c_is_word_of : H_is_word_of P
  k_NoWord : HC_NoWord P
structure H_led (P : Prog) : Prop where
  fn : P.fn g_led = some f_led
structure H_is_word (P : Prog) : Prop where
  fn : P.fn g_is_word = some f_is_word
  v_MOST_WORD : P.val g_MOST_WORD = some (.int 60)
  c_is_word_of : H_is_word_of P
structure H_way (P : Prog) : Prop where
  fn : P.fn g_way = some f_way
  c_check_word : H_check_word P
  c_led : H_led P
structure H_raw_lets (P : Prog) : Prop where
  fn : P.fn g_raw_lets = some f_raw_lets
  c_led : H_led P
structure H_lets (P : Prog) : Prop where
  fn : P.fn g_lets = some f_lets
  c_check_word : H_check_word P
  c_raw_lets : H_raw_lets P
structure HC_NotLet (P : Prog) : Prop where
  cl : P.cl c_NotLet = some k_NotLet
  k_ReaderError : HC_ReaderError P
structure H_pumped (P : Prog) : Prop where
  fn : P.fn g_pumped = some f_pumped
  c_check_word : H_check_word P
  c_raw_lets : H_raw_lets P
  c_way : H_way P
  k_NotLet : HC_NotLet P
structure H_is_pumped (P : Prog) : Prop where
  fn : P.fn g_is_pumped = some f_is_pumped
  c_check_word : H_check_word P
  c_is_tuple : H_is_tuple P
  c_is_word : H_is_word P
  c_led : H_led P
structure H__law_hand_v13 (P : Prog) : Prop where
  fn : P.fn g__law_hand_v13 = some f__law_hand_v13
structure H__law_draw (P : Prog) : Prop where
  fn : P.fn g__law_draw = some f__law_draw
structure H__law_some (P : Prog) : Prop where
  fn : P.fn g__law_some = some f__law_some
  c__law_draw : H__law_draw P
structure H__law_is_v3 (P : Prog) : Prop where
  fn : P.fn g__law_is_v3 = some f__law_is_v3
structure H__law_word_v14 (P : Prog) : Prop where
  fn : P.fn g__law_word_v14 = some f__law_word_v14
  c__law_draw : H__law_draw P
  c__law_some : H__law_some P
structure H__law_rows_v2 (P : Prog) : Prop where
  fn : P.fn g__law_rows_v2 = some f__law_rows_v2
  c__law_draw : H__law_draw P
structure H__law_lot_v2 (P : Prog) : Prop where
  fn : P.fn g__law_lot_v2 = some f__law_lot_v2
  c__law_draw : H__law_draw P
structure HC_BadReader (P : Prog) : Prop where
  cl : P.cl c_BadReader = some k_BadReader
  k_ReaderError : HC_ReaderError P
structure H_Reader___init__ (P : Prog) : Prop where
  fn : P.fn g_Reader___init__ = some f_Reader___init__
  v_MOST_READER : P.val g_MOST_READER = some (.int 12)
  c_are_letters : H_are_letters P
  c_is_lot : H_is_lot P
  c_is_sized : H_is_sized P
  c_is_tuple : H_is_tuple P
  c_is_within : H_is_within P
  k_BadReader : HC_BadReader P
structure H_Reader___eq__ (P : Prog) : Prop where
  fn : P.fn g_Reader___eq__ = some f_Reader___eq__
  k_Reader : P.cl c_Reader = some k_Reader
structure HC_Reader (P : Prog) : Prop where
  cl : P.cl c_Reader = some k_Reader
  init : H_Reader___init__ P
  eq : H_Reader___eq__ P
structure H__law_reader_v5 (P : Prog) : Prop where
  fn : P.fn g__law_reader_v5 = some f__law_reader_v5
  c__law_draw : H__law_draw P
  c__law_lot : H__law_lot_v2 P
  c__law_rows : H__law_rows_v2 P
  k_Reader : HC_Reader P
structure H__law_state (P : Prog) : Prop where
  fn : P.fn g__law_state = some f__law_state
structure H__law_does_let (P : Prog) : Prop where
  fn : P.fn g__law_does_let = some f__law_does_let
  c__law_state : H__law_state P
structure H__law_letters (P : Prog) : Prop where
  fn : P.fn g__law_letters = some f__law_letters
  c__law_some : H__law_some P
structure H__law_error (P : Prog) : Prop where
  fn : P.fn g__law_error = some f__law_error
  k_ReaderError : HC_ReaderError P
structure H__law_pumped (P : Prog) : Prop where
  fn : P.fn g__law_pumped = some f__law_pumped
  c__law_state : H__law_state P
structure H__law_is_pumped (P : Prog) : Prop where
  fn : P.fn g__law_is_pumped = some f__law_is_pumped
  c__law_does_let : H__law_does_let P
structure H__law_word_right (P : Prog) : Prop where
  fn : P.fn g__law_word_right = some f__law_word_right
  c__law_does_let : H__law_does_let P
  c__law_draw : H__law_draw P
  c__law_error : H__law_error P
  c__law_is : H__law_is_v3 P
  c__law_is_pumped : H__law_is_pumped P
  c__law_pumped : H__law_pumped P
  c__law_some : H__law_some P
  c_is_pumped : H_is_pumped P
  c_lets : H_lets P
  c_pumped : H_pumped P
  k_NotLet : HC_NotLet P
  l__law_word_right_l1 : P.fn g__law_word_right_l1 = some f__law_word_right_l1
structure H__law_right_v7 (P : Prog) : Prop where
  fn : P.fn g__law_right_v7 = some f__law_right_v7
  c__law_error : H__law_error P
  c__law_letters : H__law_letters P
  c__law_reader : H__law_reader_v5 P
  c__law_some : H__law_some P
  c__law_word : H__law_word_v14 P
  c__law_word_right : H__law_word_right P
  c_is_pumped : H_is_pumped P
  c_pumped : H_pumped P
  k_NoWord : HC_NoWord P
  l__law_right_v7_l1 : P.fn g__law_right_v7_l1 = some f__law_right_v7_l1
  l__law_right_v7_l2 : P.fn g__law_right_v7_l2 = some f__law_right_v7_l2
structure H_law_k36 (P : Prog) : Prop where
  fn : P.fn g_law_k36 = some f_law_k36
  c__law_hand : H__law_hand_v13 P
  c__law_is : H__law_is_v3 P
  c__law_right : H__law_right_v7 P
  c_is_pumped : H_is_pumped P
  c_pumped : H_pumped P
  k_Reader : HC_Reader P
end Pyd
set_option linter.all false
set_option maxHeartbeats 4000000
set_option maxRecDepth 100000
namespace Pyd
variable {P : Prog} {n : Nat} {S : Store}
structure Hd (h c : Nat) (S : Store) : Prop where
  ne : h ≠ c
  hand : ∃ i d m k : Int, S[h]? = some (.lst [.loc c, .int i, .int d, .int m, .int k]) ∧ 0 ≤ i ∧ 0 ≤ d ∧ 0 ≤ m ∧ 0 ≤ k
  cells : ∃ xs : List Int, S[c]? = some (.lst (xs.map .int)) ∧ ∀ x ∈ xs, 0 ≤ x
def But (h : Nat) (S S' : Store) : Prop := S.length ≤ S'.length ∧ ∀ m, m < S.length → m ≠ h → S'[m]? = S[m]?
theorem But.refl (h : Nat) (S : Store) : But h S S := ⟨Nat.le_refl _, fun _ _ _ => rfl⟩
theorem But.trans {h : Nat} {S S1 S2 : Store} (a : But h S S1) (b : But h S1 S2) : But h S S2 := ⟨Nat.le_trans a.1 b.1, fun m h1 h2 => (b.2 m (Nat.lt_of_lt_of_le h1 a.1) h2).trans (a.2 m h1 h2)⟩
theorem But.at {h : Nat} {S S' : Store} (b : But h S S') {m : Nat} {o : Ob} (e : S[m]? = some o) (hm : m ≠ h) : S'[m]? = some o := by rw [b.2 m (List.getElem?_eq_some_iff.mp e).1 hm, e]
theorem But.of_gr {h : Nat} {S S' : Store} (g : Gr S S') : But h S S' := ⟨g.len, fun m hm _ => by
  obtain ⟨G, rfl⟩ := g
  rw [List.getElem?_append_left hm]⟩
theorem But.set {h m : Nat} {S S' : Store} (b : But h S S') (hm : S.length ≤ m) (o : Ob) : But h S (S'.set m o) := ⟨by rw [List.length_set]; exact b.1, fun j h1 h2 => by
  rw [List.getElem?_set_ne (by omega)]
  exact b.2 j h1 h2⟩
theorem Hd.lt {h c : Nat} {S : Store} (H : Hd h c S) : h < S.length ∧ c < S.length := by
  obtain ⟨i, d, m, k, e, _⟩ := H.hand
  obtain ⟨xs, e2, _⟩ := H.cells
  exact ⟨(List.getElem?_eq_some_iff.mp e).1, (List.getElem?_eq_some_iff.mp e2).1⟩
theorem Hd.gr {h c : Nat} {S S' : Store} (H : Hd h c S) (g : Gr S S') : Hd h c S' := ⟨H.ne, let ⟨i, d, m, k, e, r⟩ := H.hand; ⟨i, d, m, k, g.at e, r⟩, let ⟨xs, e, r⟩ := H.cells; ⟨xs, g.at e, r⟩⟩
theorem Hd.set {h c m : Nat} {S : Store} (H : Hd h c S) (h1 : m ≠ h) (h2 : m ≠ c) (o : Ob) : Hd h c (S.set m o) := ⟨H.ne, let ⟨i, d, m', k, e, r⟩ := H.hand; ⟨i, d, m', k, by rw [List.getElem?_set_ne h1]; exact e, r⟩, let ⟨xs, e, r⟩ := H.cells; ⟨xs, by rw [List.getElem?_set_ne h2]; exact e, r⟩⟩
def H5 (S : Store) (h : Nat) (a b c d e : Val) : Store := S.set h (.lst [a, b, c, d, e])
theorem H5_self {h : Nat} {a b c d e : Val} (hS : S[h]? = some (.lst [a, b, c, d, e])) : H5 S h a b c d e = S := by
  unfold H5
  obtain ⟨hl, he⟩ := List.getElem?_eq_some_iff.mp hS
  rw [← he]
  exact List.set_getElem_self hl
section
variable {h : Nat} {a b c d e v : Val} (hl : h < S.length)
include hl
theorem H5_at : (H5 S h a b c d e)[h]? = some (.lst [a, b, c, d, e]) := by unfold H5; rw [List.getElem?_set_self hl]
theorem H5_ix0 : ixV (.loc h) (.int 0) (H5 S h a b c d e) = .ok a (H5 S h a b c d e) := ix_lst (H5_at hl) rfl rfl
theorem H5_ix1 : ixV (.loc h) (.int 1) (H5 S h a b c d e) = .ok b (H5 S h a b c d e) := ix_lst (H5_at hl) rfl rfl
theorem H5_ix2 : ixV (.loc h) (.int 2) (H5 S h a b c d e) = .ok c (H5 S h a b c d e) := ix_lst (H5_at hl) rfl rfl
theorem H5_ix3 : ixV (.loc h) (.int 3) (H5 S h a b c d e) = .ok d (H5 S h a b c d e) := ix_lst (H5_at hl) rfl rfl
theorem H5_ix4 : ixV (.loc h) (.int 4) (H5 S h a b c d e) = .ok e (H5 S h a b c d e) := ix_lst (H5_at hl) rfl rfl
theorem H5_put1 : ixPut (.loc h) (.int 1) v (H5 S h a b c d e) = .ok () (H5 S h a v c d e) := by rw [ixPut_lst (H5_at hl) (k := 1) rfl]; simp [H5]
theorem H5_put2 : ixPut (.loc h) (.int 2) v (H5 S h a b c d e) = .ok () (H5 S h a b v d e) := by rw [ixPut_lst (H5_at hl) (k := 2) rfl]; simp [H5]
theorem H5_put3 : ixPut (.loc h) (.int 3) v (H5 S h a b c d e) = .ok () (H5 S h a b c v e) := by rw [ixPut_lst (H5_at hl) (k := 3) rfl]; simp [H5]
theorem H5_put4 : ixPut (.loc h) (.int 4) v (H5 S h a b c d e) = .ok () (H5 S h a b c d v) := by rw [ixPut_lst (H5_at hl) (k := 4) rfl]; simp [H5]
theorem H5_but : But h S (H5 S h a b c d e) := ⟨by simp [H5], fun m _ hm => by unfold H5; rw [List.getElem?_set_ne (Ne.symm hm)]⟩
end
def Sts.hd : Sts → St
  | .cons s _ => s
  | .nil => .pass
def Sts.tl : Sts → Sts
  | .cons _ r => r
  | .nil => .nil
section
variable {h c : Nat} (hl : h < S.length)
include hl
theorem draw_two {C : Orc} (x : Option Val) (i d m k : Int) (hd0 : 0 ≤ d) (hm0 : 0 ≤ m) (hk : 0 ≤ k) (many : Nat) (hm : 0 < many) (hm2 : many < 1000000) :
    Ok (fin (exSs P f__law_draw.body.tl C [some (.loc h), some (.int many), x, none, none] (H5 S h (.loc c) (.int i) (.int d) (.int m) (.int k)))) fun v S' =>
      (∃ d : Nat, v = .int d ∧ d < many) ∧ ∃ d' k' : Int, S' = H5 S h (.loc c) (.int i) (.int d') (.int m) (.int k') ∧ 0 ≤ d' ∧ 0 ≤ k' := by
  have mp : (0 : Int) < many := by omega
  have ml : (many : Int) < 1073741824 := by omega
  have fin_ : ∀ z : Int, ∃ d : Nat, z % many = d ∧ d < many := fun z => ⟨(z % many).toNat, by
    have := Int.emod_nonneg z (b := many) (by omega)
    rw [Int.toNat_of_nonneg this], by
    have := Int.emod_lt_of_pos z mp
    omega⟩
  by_cases hd : 0 < d
  · simp [f__law_draw, Sts.tl, H5_ix2 hl, H5_put2 hl, hd, mod_pos mp, fdiv_pos mp ml]
    exact ⟨fin_ _, _, _, rfl, Int.ediv_nonneg hd0 (by omega), hk⟩
  · have he : d = 0 := by omega
    simp [f__law_draw, Sts.tl, H5_ix2 hl, H5_ix3 hl, H5_ix4 hl, H5_put4 hl, hd, mod_pos, fdiv_pos, mul_r, mul_l, mul_mod, hm]
    exact ⟨fin_ _, _, _, rfl, hd0, by omega⟩
end
theorem draw_ok (H : H__law_draw P) (hn : 1 ≤ n) {h c : Nat} (hd : Hd h c S) (many : Nat) (hm : 0 < many) (hm2 : many < 1000000) :
    Ok (callN P n g__law_draw [.loc h, .int many] [] S) fun v S' => (∃ d : Nat, v = .int d ∧ d < many) ∧ Hd h c S' ∧ But h S S' ∧ S'.length = S.length := by
  obtain ⟨i, d, m, k, e, hi, hd0, hm0, hk⟩ := hd.hand
  obtain ⟨xs, ec, hxs⟩ := hd.cells
  have hl := hd.lt.1
  rw [call_run hn H.fn rfl rfl rfl]
  have hlen : ∀ a b c' d e, (H5 S h a b c' d e)[c]? = some (.lst (xs.map .int)) := fun a b c' d e => by unfold H5; rw [List.getElem?_set_ne hd.ne]; exact ec
  have fin2 : ∀ {r : Res Val} (i m : Int), 0 ≤ i → 0 ≤ m → Ok r (fun v S' => (∃ d : Nat, v = .int d ∧ d < many) ∧ ∃ d' k' : Int, S' = H5 S h (.loc c) (.int i) (.int d') (.int m) (.int k') ∧ 0 ≤ d' ∧ 0 ≤ k') →
      Ok r fun v S' => (∃ d : Nat, v = .int d ∧ d < many) ∧ Hd h c S' ∧ But h S S' ∧ S'.length = S.length := fun i m hi hm0 h2 => h2.mono fun v S' ⟨h3, d', k', h4, h5, h6⟩ => by
    subst h4
    exact ⟨h3, ⟨hd.ne, ⟨_, _, _, _, H5_at hl, hi, h5, hm0, h6⟩, ⟨xs, hlen _ _ _ _ _, hxs⟩⟩, H5_but hl, by simp [H5]⟩
  have e0 : exSs P f__law_draw.body (callN P (n - 1)) (env0 f__law_draw [.loc h, .int many]) S = thenS (exS P f__law_draw.body.hd (callN P (n - 1)) [some (.loc h), some (.int many), none, none, none] S) (exSs P f__law_draw.body.tl (callN P (n - 1))) := rfl
  have two := fun x i d m k (h1 : 0 ≤ d) (h2 : 0 ≤ m) (h3 : 0 ≤ k) => draw_two (P := P) (c := c) hl (C := callN P (n - 1)) x i d m k h1 h2 h3 many hm hm2
  rw [e0, ← H5_self e]
  generalize exSs P f__law_draw.body.tl (callN P (n - 1)) = K at two ⊢
  by_cases hc : d = 0 ∧ i < xs.length
  · obtain ⟨rfl, hc⟩ := hc
    obtain ⟨j, rfl⟩ := Int.eq_ofNat_of_zero_le hi
    have hj : j < xs.length := by omega
    have gx : ixV (.loc c) (.int j) (H5 S h (.loc c) (.int j) (.int 0) (.int m) (.int k)) = .ok (.int xs[j]) (H5 S h (.loc c) (.int j) (.int 0) (.int m) (.int k)) :=
      ix_lst (hlen _ _ _ _ _) (k := j) (by simp [ixOf, hj]) (by simp [hj])
    have hx : 0 ≤ xs[j] := hxs _ (List.getElem_mem hj)
    by_cases hbig : 1000000000000000000 ≤ xs[j]
    · simp [f__law_draw, Sts.hd, H5_ix0 hl, H5_ix1 hl, H5_ix2 hl, H5_ix3 hl, H5_put1 hl, H5_put2 hl, H5_put3 hl, lenV_lst (hlen _ _ _ _ _), hc, gx, mod_pos, mul_r, hbig, pow_ints, isSmall]
      rw [H5_self e]
      exact fin2 _ _ (by omega) (Int.emod_nonneg _ (by omega)) (two _ _ _ _ _ hx (Int.emod_nonneg _ (by omega)) hk)
    · simp [f__law_draw, Sts.hd, H5_ix0 hl, H5_ix1 hl, H5_ix2 hl, H5_ix3 hl, H5_put1 hl, H5_put2 hl, H5_put3 hl, lenV_lst (hlen _ _ _ _ _), hc, gx, mod_pos, mul_r, hbig, pow_ints, isSmall]
      rw [H5_self e]
      exact fin2 _ _ (by omega) (Int.emod_nonneg _ (by omega)) (two _ _ _ _ _ (by omega) (Int.emod_nonneg _ (by omega)) hk)
  · simp [f__law_draw, Sts.hd, H5_ix0 hl, H5_ix1 hl, H5_ix2 hl, lenV_lst (hlen _ _ _ _ _), hc]
    have t3 := two none i d m k hd0 hm0 hk
    rw [H5_self e] at t3 ⊢
    exact fin2 _ _ hi hm0 t3
theorem comp_draw {h c : Nat} {vs : List Nat} {ps : Env → M Src} {f : Val → Env → M Env} {pc : Env → M Bool} {pe : Env → M Val} {env : Env} {S S1 : Store} {s : Src} {xs : List Val} (hs : ps env S = .ok s S1) (hd : Hd h c S1) (hit : ∀ S', But h S1 S' → s.items S' = some xs) (hl : xs.length ≤ LINE)
    (T : Val → Option Val → Prop) (step : ∀ x ∈ xs, ∀ S', Hd h c S' → But h S1 S' → Ok (turnE f pc pe (Pyd.wipe vs env) x S') fun r S'' => T x r ∧ Hd h c S'' ∧ But h S' S'') :
    Ok (compM vs ps f pc pe env S) fun D S' => D = .loc S1.length ∧ (∃ rs : List (Option Val), rs.length = xs.length ∧ (∀ (i : Nat) x r, xs[i]? = some x → rs[i]? = some r → T x r) ∧ S'[S1.length]? = some (.lst (rs.filterMap id))) ∧ Hd h c S' ∧ But h S1 S' := by
  have hlt := hd.lt
  have g1 : Gr S1 (S1 ++ [.lst []]) := ⟨_, rfl⟩
  refine (comp_ok (xs := xs) hs (J := fun k acc S' => k ≤ xs.length ∧ (∃ rs : List (Option Val), rs.length = k ∧ (∀ (i : Nat) x r, xs[i]? = some x → rs[i]? = some r → T x r) ∧ acc = rs.filterMap id) ∧ S'[S1.length]? = some (.lst acc) ∧ Hd h c S' ∧ But h S1 S')
    ⟨Nat.zero_le _, ⟨[], rfl, fun i x r _ e => by simp at e, rfl⟩, by simp, hd.gr g1, .of_gr g1⟩ (fun k acc S' ⟨h0, ⟨rs, h1, h2, h3⟩, h4, h5, h6⟩ => ⟨h4, hit _ h6, by
      rw [h3, ← h1]; exact List.length_filterMap_le _ _⟩) hl fun k x acc S' hk ⟨h0, ⟨rs, h1, h2, h3⟩, h4, h5, h6⟩ => ?_).mono fun D S' ⟨e, ys, h0, ⟨rs, h1, h2, h3⟩, h4, h5, h6⟩ => ⟨e, ⟨rs, h1, h2, by rw [h4, h3]⟩, h5, h6⟩
  have hkl := (List.getElem?_eq_some_iff.mp hk).1
  refine (step x (List.mem_of_getElem? hk) S' h5 h6).mono fun r S'' ⟨t, d, b⟩ => ?_
  have b' := h6.trans b
  have at4 : S''[S1.length]? = some (.lst acc) := b.at h4 (by omega)
  have rel : ∀ (r : Option Val), T x r → ∀ i y q, xs[i]? = some y → (rs ++ [r])[i]? = some q → T y q := fun r t i y q e1 e2 => by
    by_cases hi : i < rs.length
    · rw [List.getElem?_append_left hi] at e2; exact h2 i y q e1 e2
    · have hi2 : i = k := by
        have := (List.getElem?_eq_some_iff.mp e2).1
        simp at this
        omega
      subst hi2
      rw [hk] at e1; cases e1
      rw [List.getElem?_append_right (by omega)] at e2
      simp [h1] at e2
      subst e2; exact t
  cases r with
  | none => exact ⟨by omega, ⟨rs ++ [none], by simp [h1], rel _ t, by simp [h3]⟩, at4, d, b'⟩
  | some v =>
    have hn := (List.getElem?_eq_some_iff.mp at4).1
    exact ⟨at4, by omega, ⟨rs ++ [some v], by simp [h1], rel _ t, by simp [h3]⟩, by rw [List.getElem?_set_self hn], d.set (by omega) (by omega) _, b'.set (Nat.le_refl _) _⟩
theorem comp_drawM {h c : Nat} {vs : List Nat} {ps : Env → M Src} {f : Val → Env → M Env} {pc : Env → M Bool} {pe : Env → M Val} {env : Env} {S S1 : Store} {s : Src} {xs : List Val} (hs : ps env S = .ok s S1) (hd : Hd h c S1) (hit : ∀ S', But h S1 S' → s.items S' = some xs) (hl : xs.length ≤ LINE)
    (T : Val → Val → Prop) (step : ∀ x ∈ xs, ∀ S', Hd h c S' → But h S1 S' → Ok (turnE f pc pe (Pyd.wipe vs env) x S') fun r S'' => (∃ v, r = some v ∧ T x v) ∧ Hd h c S'' ∧ But h S' S'') :
    Ok (compM vs ps f pc pe env S) fun D S' => D = .loc S1.length ∧ (∃ rs : List Val, rs.length = xs.length ∧ (∀ (i : Nat) x r, xs[i]? = some x → rs[i]? = some r → T x r) ∧ S'[S1.length]? = some (.lst rs)) ∧ Hd h c S' ∧ But h S1 S' := by
  refine (comp_draw hs hd hit hl (T := fun x r => ∃ v, r = some v ∧ T x v) step).mono fun D S' ⟨e, ⟨rs, h1, h2, h3⟩, d, b⟩ => ⟨e, ?_, d, b⟩
  have key : ∀ (rs : List (Option Val)), (∀ r ∈ rs, ∃ v, r = some v) → ∃ us : List Val, rs = us.map some := by
    intro rs
    induction rs with
    | nil => exact fun _ => ⟨[], rfl⟩
    | cons r rs ih =>
      intro hr
      obtain ⟨v, rfl⟩ := hr r List.mem_cons_self
      obtain ⟨us, rfl⟩ := ih fun r q => hr r (List.mem_cons_of_mem _ q)
      exact ⟨v :: us, rfl⟩
  obtain ⟨us, rfl⟩ := key rs fun r hr => by
    obtain ⟨i, hi, q⟩ := List.mem_iff_getElem.mp hr
    have hx : xs[i]? = some xs[i] := List.getElem?_eq_getElem (by omega)
    obtain ⟨v, hv, _⟩ := h2 i _ r hx (by rw [List.getElem?_eq_getElem hi, q])
    exact ⟨v, hv⟩
  refine ⟨us, by simpa using h1, fun i x r e1 e2 => ?_, ?_⟩
  · obtain ⟨v, hv, t⟩ := h2 i x (some r) e1 (by rw [List.getElem?_map, e2]; rfl)
    cases hv; exact t
  · rw [h3, List.filterMap_map]
    have : (id ∘ some : Val → Option Val) = some := rfl
    rw [this, List.filterMap_some]
theorem rel_mem {α β : Type} {xs : List α} {rs : List β} {T : α → β → Prop} (hl : rs.length = xs.length) (h : ∀ (i : Nat) x r, xs[i]? = some x → rs[i]? = some r → T x r) : ∀ r ∈ rs, ∃ x ∈ xs, T x r := fun r hr => by
  obtain ⟨i, hi, q⟩ := List.mem_iff_getElem.mp hr
  have hx : xs[i]? = some xs[i] := List.getElem?_eq_getElem (by omega)
  exact ⟨xs[i], List.getElem_mem _, h i _ r hx (by rw [List.getElem?_eq_getElem hi, q])⟩
end Pyd
set_option linter.all false
set_option maxHeartbeats 4000000
set_option maxRecDepth 100000
namespace Pyd
variable {P : Prog} {n : Nat} {S : Store}
inductive Thr (S : Store) : Val → Prop where
  | non : Thr S .non
  | bl (b : Bool) : Thr S (.bl b)
  | int (i : Int) : Thr S (.int i)
  | str (s : List Nat) : Thr S (.str s)
  | loc (n : Nat) (k : Kd) (h : kindV (.loc n) S = .ok k S) : Thr S (.loc n)
  | tup (xs : List Val) (h : ∀ x ∈ xs, Thr S x) : Thr S (.tup xs)
theorem kind_gr {n : Nat} {k : Kd} {S S' : Store} (h : kindV (.loc n) S = .ok k S) (g : Gr S S') : kindV (.loc n) S' = .ok k S' := by
  cases e : S[n]? with
  | none => simp [kindV, look, e] at h
  | some o =>
    rw [kind_loc e] at h
    rw [kind_loc (g.at e)]
    cases o <;> simp at h ⊢ <;> exact h
theorem Thr.gr {S S' : Store} (g : Gr S S') {x : Val} (h : Thr S x) : Thr S' x := by
  induction h with
  | non => exact .non
  | bl b => exact .bl b
  | int b => exact .int b
  | str b => exact .str b
  | loc n k h => exact .loc n k (kind_gr h g)
  | tup xs h ih => exact .tup xs ih
theorem Thr.kind {x : Val} (h : Thr S x) : ∃ k, kindV x S = .ok k S := by
  cases h with
  | loc n k h => exact ⟨k, h⟩
  | _ => exact ⟨_, rfl⟩
def Val.isInt : Val → Bool
  | .int _ => true
  | _ => false
def Val.isStr : Val → Bool
  | .str _ => true
  | _ => false
theorem loc_kind {n : Nat} {k : Kd} (h : kindV (.loc n) S = .ok k S) : k ≠ .int ∧ k ≠ .bl ∧ k ≠ .str ∧ k ≠ .tup ∧ k ≠ .non := by
  cases e : S[n]? with
  | none => simp [kindV, look, e] at h
  | some o => rw [kind_loc e] at h; cases o <;> simp at h <;> subst h <;> simp
theorem is_integer_ok (h : H_is_integer P) (hn : 1 ≤ n) {x : Val} (hx : Thr S x) : callN P n g_is_integer [x] [] S = .ok (.bl x.isInt) S := by
  rw [call_run hn h.fn rfl rfl rfl]
  cases hx with
  | loc m k hk =>
    obtain ⟨h1, h2, h3, h4, h5⟩ := loc_kind hk
    cases k <;> simp [f_is_integer, env0, hk, Val.isInt] <;> simp at h1 h2
  | _ => simp [f_is_integer, env0, Val.isInt]
def inB (lo hi : Int) (x : Val) : Bool := match x with
  | .int i => decide (lo ≤ i) && decide (i ≤ hi)
  | _ => false
def tupLen (k : Nat) (x : Val) : Bool := match x with
  | .tup xs => decide (xs.length = k)
  | _ => false
theorem is_tuple_ok (h : H_is_tuple P) (hn : 1 ≤ n) {x : Val} (hx : Thr S x) (k : Nat) : callN P n g_is_tuple [x, .int k] [] S = .ok (.bl (tupLen k x)) S := by
  rw [call_run hn h.fn rfl rfl rfl]
  cases hx with
  | loc m k hk =>
    obtain ⟨h1, h2, h3, h4, h5⟩ := loc_kind hk
    cases k <;> simp [f_is_tuple, env0, hk, tupLen] <;> simp at h4
  | tup xs hxs => 
    simp [f_is_tuple, env0, tupLen]
    rw [Bool.eq_iff_iff]; simp; omega
  | _ => simp [f_is_tuple, env0, tupLen]
def tupSz (lo hi : Nat) (x : Val) : Bool := match x with
  | .tup xs => decide (lo ≤ xs.length) && decide (xs.length ≤ hi)
  | _ => false
theorem is_sized_ok (h : H_is_sized P) (hn : 1 ≤ n) {x : Val} (hx : Thr S x) (lo hi : Nat) : callN P n g_is_sized [x, .int lo, .int hi] [] S = .ok (.bl (tupSz lo hi x)) S := by
  rw [call_run hn h.fn rfl rfl rfl]
  cases hx with
  | loc m k hk =>
    obtain ⟨h1, h2, h3, h4, h5⟩ := loc_kind hk
    cases k <;> simp [f_is_sized, env0, hk, tupSz] <;> simp at h4
  | tup xs hxs => 
    simp [f_is_sized, env0, tupSz]
    by_cases h1 : lo ≤ xs.length <;> by_cases h2 : xs.length ≤ hi <;> simp [h1, h2]
    all_goals omega
  | _ => simp [f_is_sized, env0, tupSz]
def isLet (s : List Nat) : Bool := s == [97] || s == [97, 98] || s == [97, 98, 99]
def letB (x : Val) : Bool := match x with
  | .str s => isLet s
  | _ => false
theorem are_letters_ok (h : H_are_letters P) (hn : 1 ≤ n) {x : Val} (hx : Thr S x) : callN P n g_are_letters [x] [] S = .ok (.bl (letB x)) S := by
  rw [call_run hn h.fn rfl rfl rfl]
  cases hx with
  | loc m k hk =>
    obtain ⟨h1, h2, h3, h4, h5⟩ := loc_kind hk
    cases k <;> simp [f_are_letters, env0, hk, letB] <;> simp at h3
  | str s =>
    have e : memV (.str s) (.tup [.str [97], .str [97, 98], .str [97, 98, 99]]) S = .ok (isLet s) S := by
      have : eqAll S (.str s) [.str [97], .str [97, 98], .str [97, 98, 99]] = some [[97] == s, [97, 98] == s, [97, 98, 99] == s] := rfl
      show (eqAllM (.str s) _ >>= fun bs => pure (bs.any id)) S = _
      rw [bind_at]
      unfold eqAllM
      rw [this]
      simp [isLet, Bool.or_assoc, BEq.comm]
    simp [f_are_letters, env0, letB, h.v_ALPHABETS, e]
  | _ => simp [f_are_letters, env0, letB]
end Pyd
set_option linter.all false
set_option maxHeartbeats 4000000
set_option maxRecDepth 100000
namespace Pyd
variable {P : Prog} {n : Nat} {S : Store}
theorem is_within_ok (h : H_is_within P) (hn : 2 ≤ n) {x : Val} (hx : Thr S x) (lo hi : Int) : callN P n g_is_within [x, .int lo, .int hi] [] S = .ok (.bl (inB lo hi x)) S := by
  rw [call_run (by omega) h.fn rfl rfl rfl]
  simp [f_is_within, env0, is_integer_ok h.c_is_integer (n := n - 1) (by omega) hx]
  cases x <;> simp [Val.isInt, inB]
  rename_i i
  by_cases h1 : lo ≤ i <;> by_cases h2 : i ≤ hi <;> simp [h1, h2]
  all_goals omega
def ascV : List Val → Bool
  | x :: y :: r => Val.lt x y && ascV (y :: r)
  | _ => true
def lotB (many : Nat) (x : Val) : Bool := match x with
  | .tup xs => decide (xs.length ≤ many) && xs.all (inB 0 (many - 1)) && ascV xs
  | _ => false
theorem asc_range : ∀ (xs : List Val), ((List.range (xs.length - 1)).all fun i => match xs[i]?, xs[i + 1]? with
    | some a, some b => Val.lt a b
    | _, _ => false) = ascV xs
  | [] => rfl
  | [x] => rfl
  | x :: y :: r => by
    have ih := asc_range (y :: r)
    rw [show (x :: y :: r).length - 1 = r.length + 1 from rfl, List.range_succ_eq_map, List.all_cons, List.all_map]
    show _ = (Val.lt x y && ascV (y :: r))
    rw [← ih]
    rfl
theorem lt_int_of {a b : Val} {lo hi : Int} (ha : inB lo hi a = true) (hb : inB lo hi b = true) {C : Orc} : cmpV P C .lt a b S = .ok (Val.lt a b) S := by
  cases a <;> simp [inB] at ha
  cases b <;> simp [inB] at hb
  rfl
theorem is_lot_ok (h : H_is_lot P) (hn : 3 ≤ n) {x : Val} (hx : Thr S x) (many : Nat) (hm : many ≤ 10000) : Ok (callN P n g_is_lot [x, .int many] [] S) fun v S' => v = .bl (lotB many x) ∧ Gr S S' := by
  rw [call_run (by omega) h.fn rfl rfl rfl]
  have sz := is_sized_ok h.c_is_sized (n := n - 1) (by omega) hx 0 many
  simp at sz
  cases hx with
  | tup xs hxs =>
    by_cases hl : xs.length ≤ many
    · simp [f_is_lot, env0, sz, tupSz, hl]
      refine comp_all (S1 := S) (s := .one (.tup xs)) (xs := xs) (by simp) rfl (le_line (by omega)) (inB 0 (many - 1)) (fun x hx S' g => by
        simp [is_within_ok h.c_is_within (n := n - 1) (by omega) ((hxs x hx).gr g)]) fun S' g => ?_
      by_cases ha : xs.all (inB 0 (many - 1)) = true
      · have hall := List.all_eq_true.mp ha
        rw [ha]
        have sm : small62 (xs.length : Int) = true := small62_of (by omega) (by omega)
        simp
        refine comp_all (S1 := S') (s := .rng 1 1 (xs.length - 1)) (xs := (List.range (xs.length - 1)).map fun (i : Nat) => Val.int (1 + i * 1)) (by simp [sm, show small62 1 = true from small62_of (by omega) (by omega)]) rfl (le_line (by simp; omega)) (fun x => match x with
          | .int i => (match xs[i.toNat - 1]?, xs[i.toNat]? with
            | some a, some b => Val.lt a b
            | _, _ => false)
          | _ => false) (fun x hx S2 g => ?_) fun S2 g2 => ?_
        · simp at hx
          obtain ⟨j, hj, rfl⟩ := hx
          have e1 : xs[j]? = some xs[j] := List.getElem?_eq_getElem (by omega)
          have e2 : xs[j + 1]? = some xs[j + 1] := List.getElem?_eq_getElem (by omega)
          have c1 : (1 + (j : Int) - 1) = (j : Nat) := by omega
          have c2 : (1 + (j : Int)) = (j + 1 : Nat) := by omega
          have t : (1 + (j : Int)).toNat = j + 1 := by omega
          have i1 : ixV (.tup xs) (.int (1 + (j : Int) - 1)) S2 = .ok xs[j] S2 := ix_tup (k := j) (by rw [c1]; exact ixOf_nat (by omega)) e1
          have i2 : ixV (.tup xs) (.int (1 + (j : Int))) S2 = .ok xs[j + 1] S2 := ix_tup (k := j + 1) (by rw [c2]; exact ixOf_nat (by omega)) e2
          simp [i1, i2, lt_int_of (P := P) (hall _ (List.getElem_mem _)) (hall _ (List.getElem_mem _)), t, e1, e2]
        · simp [lotB, hl, ha]
          refine ⟨?_, g.trans g2⟩
          rw [← asc_range]
          refine congrArg _ (funext fun i => ?_)
          have t : (1 + (i : Int)).toNat = i + 1 := by omega
          simp only [Function.comp, t, Nat.add_sub_cancel]
      · have ha' : xs.all (inB 0 (many - 1)) = false := by simpa using ha
        rw [ha']
        simp [lotB, ha']
        exact g
    · simp [f_is_lot, env0, sz, tupSz, hl, lotB]
  | _ => simp [f_is_lot, env0, sz, tupSz, lotB]
end Pyd
set_option linter.all false
set_option maxHeartbeats 4000000
set_option maxRecDepth 100000
namespace Pyd
variable {P : Prog} {n : Nat} {S : Store}
abbrev t_letters : List Nat := [108, 101, 116, 116, 101, 114, 115]
abbrev t_steps : List Nat := [115, 116, 101, 112, 115]
abbrev t_ends : List Nat := [101, 110, 100, 115]
def itemsV : Val → List Val
  | .tup xs => xs
  | _ => []
def rdF (l s e : Val) : Option (List Nat) := match l with
  | .str z => if isLet z = false then some t_letters else match s with
    | .tup rows => if (decide (1 ≤ rows.length) && decide (rows.length ≤ 12) && rows.all (tupLen z.length)) = false then some t_steps else
      if (rows.flatMap itemsV).all (inB 0 (rows.length - 1)) = false then some t_steps else
      if lotB rows.length e = false then some t_ends else none
    | _ => some t_steps
  | _ => some t_letters
theorem isLet_len {z : List Nat} (h : isLet z = true) : 1 ≤ z.length ∧ z.length ≤ 3 := by
  unfold isLet at h
  simp at h
  rcases h with (h | h) | h <;> subst h <;> simp
theorem init_ok (H : H_Reader___init__ P) (hC : P.cl c_Reader = some k_Reader) (hn : 4 ≤ n) {l s e : Val} (hl : Thr S l) (hs : Thr S s) (he : Thr S e) {m : Nat} (hm : S[m]? = some (.ins c_Reader [])) :
    Wp (callN P n g_Reader___init__ [.loc m, l, s, e] [] S) (fun v S' => v = .non ∧ rdF l s e = none ∧ ∃ S2, Gr S S2 ∧ S' = S2.set m (.ins c_Reader [(a_letters, l), (a_steps, s), (a_ends, e)]))
      fun c fs S' => c = c_BadReader ∧ ∃ p, rdF l s e = some p ∧ fs = [.str p] ∧ Gr S S' := by
  rw [call_run (by omega) H.fn rfl rfl rfl]
  have a1 := are_letters_ok H.c_are_letters (n := n - 1) (by omega) hl
  by_cases hL : letB l = true
  · cases l with
    | str z =>
      have hz : isLet z = true := hL
      obtain ⟨z1, z2⟩ := isLet_len hz
      have a2 := is_sized_ok H.c_is_sized (n := n - 1) (by omega) hs 1 12
      simp at a2
      by_cases h2 : tupSz 1 12 s = true
      · cases hs with
        | tup rows hrows =>
          have h2' : 1 ≤ rows.length ∧ rows.length ≤ 12 := by simpa [tupSz] using h2
          simp [f_Reader___init__, env0, a1, hL, a2, h2, H.v_MOST_READER]
          refine comp_allW (S1 := S) (s := .one (.tup rows)) (xs := rows) (by simp) rfl (le_line (by omega)) (tupLen z.length) (fun x hx S' g => by
            simp [is_tuple_ok H.c_is_tuple (n := n - 1) (by omega) ((hrows x hx).gr g)]) fun S1 g1 => ?_
          by_cases h3 : rows.all (tupLen z.length) = true
          · have hr := List.all_eq_true.mp h3
            have hlen : (rows.flatMap itemsV).length ≤ 36 := by
              have key : ∀ (rs : List Val), (∀ x ∈ rs, tupLen z.length x = true) → (rs.flatMap itemsV).length ≤ 3 * rs.length := by
                intro rs
                induction rs with
                | nil => intro _; simp
                | cons x rs ih =>
                  intro hx
                  have h4 := ih fun y hy => hx y (List.mem_cons_of_mem _ hy)
                  have h5 := hx x List.mem_cons_self
                  simp only [List.flatMap_cons, List.length_append, List.length_cons]
                  cases x <;> simp [tupLen] at h5
                  simp only [itemsV]
                  omega
              have := key rows hr
              omega
            rw [h3]
            simp
            refine comp2_allW (S1 := S1) (s := .one (.tup rows)) (xs := rows) (by simp) rfl itemsV (inB 0 (rows.length - 1)) (le_line (by omega)) (fun x hx S' g => ?_) fun S2 g2 => ?_
            · have hx1 := hr x hx
              have hx2 := hrows x hx
              cases hx2 with
              | tup ys hys =>
                refine ⟨_, .one (.tup ys), [], by simp; rfl, by simp, rfl, fun _ _ => rfl, fun y hy S'' g'' => ?_⟩
                simp [is_within_ok H.c_is_within (n := n - 1) (by omega) ((hys y hy).gr (g1.trans g''))]
              | _ => simp [tupLen] at hx1
            · by_cases h4 : (rows.flatMap itemsV).all (inB 0 (rows.length - 1)) = true
              · rw [h4]
                simp
                refine Wp.bindO (is_lot_ok H.c_is_lot (n := n - 1) (by omega) (he.gr (g1.trans g2)) rows.length (by omega)) fun v S3 ⟨hv, g3⟩ => ?_
                subst hv
                have gg := g1.trans (g2.trans g3)
                have m3 := Gr.at gg hm
                have lt3 := (List.getElem?_eq_some_iff.mp m3).1
                by_cases h5 : lotB rows.length e = true
                · have p1 := attrPut_ins (P := P) (f := a_letters) (v := .str z) m3 hC rfl
                  have p2 := attrPut_set (P := P) (S := S3) (m := m) (f := a_steps) (v := .tup rows) (fs := [(a_letters, .str z)]) (fs' := [(a_letters, .str z), (a_steps, .tup rows)]) lt3 hC rfl rfl
                  have p3 := attrPut_set (P := P) (S := S3) (m := m) (f := a_ends) (v := e) (fs := [(a_letters, .str z), (a_steps, .tup rows)]) (fs' := [(a_letters, .str z), (a_steps, .tup rows), (a_ends, e)]) lt3 hC rfl rfl
                  simp only [putF] at p1
                  simp [h5, p1, p2, p3]
                  exact ⟨by simp [rdF, hz, h2', h3, h4, h5], S3, gg, rfl⟩
                · simp [h5, rdF, hz, h2', h3, h4]
                  exact gg
              · have h4' : (rows.flatMap itemsV).all (inB 0 (rows.length - 1)) = false := by simpa using h4
                rw [h4']
                simp [rdF, hz, h2', h3, h4']
                exact g1.trans g2
          · have h3' : rows.all (tupLen z.length) = false := by simpa using h3
            rw [h3']
            simp [rdF, hz, h3']
            exact g1
        | _ => simp [tupSz] at h2
      · simp [f_Reader___init__, env0, a1, hL, a2, h2, H.v_MOST_READER]
        cases s <;> simp [rdF, hz]
        simp [tupSz] at h2
        intro h3 h4
        omega
    | _ => simp [letB] at hL
  · simp [f_Reader___init__, env0, a1, hL]
    cases l <;> simp [rdF]
    simp [letB] at hL
    simp [hL]
def rdFs (l s e : Val) : List (Nat × Val) := [(a_letters, l), (a_steps, s), (a_ends, e)]
theorem newReader_ok (H : HC_Reader P) (hn : 4 ≤ n) {l s e : Val} (hl : Thr S l) (hs : Thr S s) (he : Thr S e) :
    Wp (newV P (callN P n) c_Reader [l, s, e] S) (fun v S' => v = .loc S.length ∧ rdF l s e = none ∧ Gr S S' ∧ S'[S.length]? = some (.ins c_Reader (rdFs l s e)))
      fun c fs S' => c = c_BadReader ∧ ∃ p, rdF l s e = some p ∧ fs = [.str p] ∧ Gr S S' := by
  rw [newV_ins H.cl rfl rfl]
  have g0 : Gr S (S ++ [.ins c_Reader []]) := ⟨_, rfl⟩
  have h := init_ok H.init H.cl hn (hl.gr g0) (hs.gr g0) (he.gr g0) (m := S.length) (by simp)
  cases hr : callN P n g_Reader___init__ (.loc S.length :: [l, s, e]) [] (S ++ [.ins c_Reader []]) with
  | no => rw [hr] at h; exact h.elim
  | ex c fs S' =>
    rw [hr] at h
    obtain ⟨h1, p, h2, h3, h4⟩ := h
    exact ⟨h1, p, h2, h3, g0.trans h4⟩
  | ok v S' =>
    rw [hr] at h
    obtain ⟨rfl, h2, S2, h3, rfl⟩ := h
    obtain ⟨G, rfl⟩ := h3
    refine ⟨rfl, h2, ⟨.ins c_Reader (rdFs l s e) :: G, by simp; rfl⟩, by simp; rfl⟩
theorem asc_key {lo hi : Int} : ∀ (zs : List Val) (y : Val) (k : Int), ascV (y :: zs) = true → (∀ z ∈ y :: zs, inB lo hi z = true) → Val.lt (.int k) y = true → ∀ z ∈ y :: zs, inB (k + 1) hi z = true
  | [], y, k, _, hz, hk, z, hm => by
    rw [List.mem_singleton.mp hm]
    have := hz y List.mem_cons_self
    cases y <;> simp [inB] at this
    simp [Val.lt] at hk
    simp [inB]; omega
  | w :: zs, y, k, h1, hz, hk, z, hm => by
    have h3 := hz y List.mem_cons_self
    cases y <;> simp [inB] at h3
    rename_i j
    simp only [ascV, Bool.and_eq_true] at h1
    simp [Val.lt] at hk
    rcases List.mem_cons.mp hm with rfl | hm
    · simp [inB]; omega
    · have h4 := asc_key zs w j h1.2 (fun q hq => hz q (List.mem_cons_of_mem _ hq)) h1.1 z hm
      cases z <;> simp [inB] at h4
      simp [inB]; omega
theorem asc_len : ∀ (xs : List Val) (lo hi : Int), (∀ x ∈ xs, inB lo hi x = true) → ascV xs = true → lo ≤ hi + 1 → (xs.length : Int) ≤ hi - lo + 1
  | [], lo, hi, _, _, h => by simp; omega
  | [x], lo, hi, hx, _, h => by
    have := hx x List.mem_cons_self
    cases x <;> simp [inB] at this
    simp; omega
  | x :: y :: r, lo, hi, hx, ha, h => by
    have h1 := hx x List.mem_cons_self
    cases x <;> simp [inB] at h1
    rename_i i
    simp only [ascV, Bool.and_eq_true] at ha
    have hy := hx y (by simp)
    have := asc_len (y :: r) (i + 1) hi (fun z hz => asc_key r y i ha.2 (fun q hq => hx q (List.mem_cons_of_mem _ hq)) ha.1 z hz) ha.2 (by omega)
    simp only [List.length_cons] at this ⊢
    omega
def goodRow (k : Nat) (m : Int) (x : Val) : Bool := tupLen k x && (itemsV x).all (inB 0 m)
theorem rdF_rows {z : List Nat} (hz : isLet z = true) {rows : List Val} (hr : 1 ≤ rows.length ∧ rows.length ≤ 12) (e : Val) : rdF (.str z) (.tup rows) e = if (rows.all (goodRow z.length (rows.length - 1))) = false then some t_steps else if lotB rows.length e = false then some t_ends else none := by
  simp only [rdF, hz]
  simp only [hr.1, hr.2, decide_true, Bool.true_and]
  by_cases h1 : rows.all (tupLen z.length) = true
  · have : (rows.flatMap itemsV).all (inB 0 (rows.length - 1)) = rows.all (goodRow z.length (rows.length - 1)) := by
      rw [List.all_flatMap]
      have h2 := List.all_eq_true.mp h1
      clear h1 hr
      revert h2
      generalize (rows.length : Int) - 1 = m
      intro h2
      induction rows with
      | nil => rfl
      | cons x rs ih =>
        rw [List.all_cons, List.all_cons, ih fun y hy => h2 y (List.mem_cons_of_mem _ hy)]
        unfold goodRow
        rw [h2 x List.mem_cons_self, Bool.true_and]
    simp [h1, this]
  · have h1' : rows.all (tupLen z.length) = false := by simpa using h1
    have h3 : rows.all (goodRow z.length (rows.length - 1)) = false := by
      rw [List.all_eq_false] at h1' ⊢
      obtain ⟨x, hx, h⟩ := h1'
      exact ⟨x, hx, fun q => h (by unfold goodRow at q; exact (Bool.and_eq_true_iff.mp q).1)⟩
    simp [h1', h3]
end Pyd
set_option linter.all false
set_option maxHeartbeats 4000000
set_option maxRecDepth 100000
namespace Pyd
variable {P : Prog} {n : Nat} {S : Store}
def tupN (xs : List Nat) : Val := .tup (xs.map fun (x : Nat) => Val.int x)
def tupNN (xs : List (List Nat)) : Val := .tup (xs.map tupN)
structure RdP (k most : Nat) (steps : List (List Nat)) (ends : List Nat) : Prop where
  pos : 0 < steps.length
  le : steps.length ≤ most
  row : ∀ row ∈ steps, row.length = k ∧ ∀ x ∈ row, x < steps.length
  asc : ends.Pairwise (· < ·)
  lt : ∀ x ∈ ends, x < steps.length
theorem nums_of {xs : List Val} {p : Nat → Prop} (h : ∀ x ∈ xs, ∃ d : Nat, x = .int d ∧ p d) : ∃ us : List Nat, xs = us.map (fun (x : Nat) => Val.int x) ∧ ∀ u ∈ us, p u := by
  induction xs with
  | nil => exact ⟨[], rfl, fun _ q => nomatch q⟩
  | cons x xs ih =>
    obtain ⟨d, rfl, hd⟩ := h x List.mem_cons_self
    obtain ⟨us, rfl, hu⟩ := ih fun x q => h x (List.mem_cons_of_mem _ q)
    exact ⟨d :: us, rfl, fun u q => by
      rcases List.mem_cons.mp q with rfl | q
      · exact hd
      · exact hu u q⟩
theorem asc_nat : ∀ {l : List Nat}, l.Pairwise (· < ·) → ascV (l.map fun (x : Nat) => Val.int x) = true
  | [], _ => rfl
  | [a], _ => rfl
  | a :: b :: l, h => by
    have h2 := List.pairwise_cons.mp h
    show (Val.lt (.int a) (.int b) && ascV ((b :: l).map fun (x : Nat) => Val.int x)) = true
    rw [asc_nat h2.2, Bool.and_true]
    have := h2.1 b List.mem_cons_self
    simp [Val.lt]; omega
theorem in_nat {l : List Nat} {m : Nat} (h : ∀ x ∈ l, x < m) : ∀ v ∈ l.map (fun (x : Nat) => Val.int x), inB 0 (m - 1) v = true := fun v hv => by
  obtain ⟨x, hx, rfl⟩ := List.mem_map.mp hv
  have := h x hx
  simp [inB]; omega
section
variable {z : List Nat} {steps : List (List Nat)} {ends : List Nat} {most : Nat}
theorem ends_len (hp : RdP z.length most steps ends) : ends.length ≤ steps.length := by
  have := asc_len (ends.map fun (x : Nat) => Val.int x) 0 (steps.length - 1) (in_nat hp.lt) (asc_nat hp.asc) (by have := hp.pos; omega)
  simp at this
  omega
theorem rdP_none (hz : isLet z = true) (hp : RdP z.length most steps ends) (hm : most ≤ 12) : rdF (.str z) (tupNN steps) (tupN ends) = none := by
  have hpos := hp.pos
  have hle := hp.le
  unfold tupNN
  rw [rdF_rows hz ⟨by simp; omega, by simp; omega⟩]
  have h1 : (steps.map tupN).all (goodRow z.length ((steps.map tupN).length - 1)) = true := by
    rw [List.all_eq_true]
    intro v hv
    obtain ⟨row, hr, rfl⟩ := List.mem_map.mp hv
    obtain ⟨q1, q2⟩ := hp.row row hr
    simp only [goodRow, tupN, tupLen, itemsV, List.length_map, q1, decide_true, Bool.true_and, List.all_eq_true]
    exact in_nat q2
  have h2 : lotB (steps.map tupN).length (tupN ends) = true := by
    simp only [lotB, tupN, List.length_map, ends_len hp, decide_true, Bool.true_and, asc_nat hp.asc, Bool.and_true, List.all_eq_true]
    exact in_nat hp.lt
  rw [h1, h2]
  rfl
end
end Pyd
set_option linter.all false
set_option maxHeartbeats 4000000
set_option maxRecDepth 100000
namespace Pyd
variable {P : Prog} {n : Nat} {S : Store}
def wordB (s : List Nat) (k : Nat) (x : Val) : Bool := match x with
  | .str u => decide (u.length ≤ k) && u.all fun c => s.contains c
  | _ => false
theorem is_word_of_ok (h : H_is_word_of P) (hn : 1 ≤ n) {x : Val} (hx : Thr S x) (s : List Nat) (k : Nat) (hk : k ≤ 1000) : Ok (callN P n g_is_word_of [.str s, x, .int k] [] S) fun v S' => v = .bl (wordB s k x) ∧ Gr S S' := by
  rw [call_run hn h.fn rfl rfl rfl]
  refine Wp.ok ?_
  cases hx with
  | loc m kd hk =>
    obtain ⟨h1, h2, h3, h4, h5⟩ := loc_kind hk
    cases kd <;> simp [f_is_word_of, env0, hk, wordB] <;> simp at h3
  | str u =>
    simp [f_is_word_of, env0, wordB]
    by_cases hu : u.length ≤ k
    · simp [hu]
      refine comp_allW (S1 := S) (s := .one (.str u)) (xs := u.map fun c => .str [c]) (by simp) (by simp [Src.items, Sb.items]) (le_line (by simp; omega)) (fun x => match x with
        | .str [c] => s.contains c
        | _ => false) (fun x hx S' g => ?_) fun S' g => ?_
      · obtain ⟨c, _, rfl⟩ := List.mem_map.mp hx
        simp [mem_str, subList_one]
      · simp
        exact ⟨by rw [Bool.eq_iff_iff]; simp, g⟩
    · simp [hu]
  | _ => simp [f_is_word_of, env0, wordB]
theorem check_word_ok (h : H_check_word P) (hn : 2 ≤ n) {x : Val} (hx : Thr S x) (s : List Nat) :
    Wp (callN P n g_check_word [.str s, x] [] S) (fun v S' => v = .non ∧ wordB s 60 x = true ∧ Gr S S') fun c fs S' => c = c_NoWord ∧ fs = [] ∧ wordB s 60 x = false ∧ Gr S S' := by
  rw [call_run (by omega) h.fn rfl rfl rfl]
  simp [f_check_word, env0, h.v_MOST_WORD]
  refine Wp.bindO (is_word_of_ok h.c_is_word_of (n := n - 1) (by omega) hx s 60 (by omega)) fun v S' ⟨e, g⟩ => ?_
  subst e
  cases hb : wordB s 60 x <;> simp [g]
theorem Gr.set {S S' : Store} (g : Gr S S') {m : Nat} (hm : S.length ≤ m) (o : Ob) : Gr S (S'.set m o) := by
  obtain ⟨T, rfl⟩ := g
  exact ⟨T.set (m - S.length) o, by rw [List.set_append_right _ _ hm]⟩
theorem isLst_at {m : Nat} {xs : List Val} (h : S[m]? = some (.lst xs)) : isLstV (.loc m) S = .ok () S := by
  show (look m >>= _) S = _
  rw [bind_at, look_at h, bnd_ok]; rfl
theorem ext_lst {m d : Nat} {xs ys : List Val} (h : S[m]? = some (.lst xs)) (hd : S[d]? = some (.lst ys)) (hl : xs.length + ys.length ≤ LINE) : meOf .extend (.loc m) [.loc d] S = .ok .non (S.set m (.lst (xs ++ ys))) := by
  show (look m >>= _) S = _
  rw [bind_at, look_at h, bnd_ok]
  show (lstE (.loc d) >>= fun ys => need (decide (xs.length + ys.length ≤ LINE)) >>= fun _ => put m (.lst (xs ++ ys)) >>= fun _ => pure Val.non) S = _
  rw [bind_at, lstE_at hd, bnd_ok, decide_eq_true hl]; rfl
theorem asStrs_map : ∀ us : List (List Nat), asStrs (us.map Val.str) = some us
  | [] => rfl
  | u :: us => by
    show (asStrs (us.map Val.str)).map (fun l => u :: l) = _
    rw [asStrs_map us]; rfl
theorem joinN_nil : ∀ ts : List (List Nat), joinN [] ts = ts.flatten
  | [] => rfl
  | [x] => by simp [joinN]
  | x :: y :: r => by
    show x ++ [] ++ joinN [] (y :: r) = _
    rw [joinN_nil (y :: r), List.append_nil]; rfl
theorem join_lst {m : Nat} {us : List (List Nat)} (h : S[m]? = some (.lst (us.map Val.str))) (hl : (us.map List.length).sum ≤ LINE) : meOf .join (.str []) [.loc m] S = .ok (.str us.flatten) S := by
  show (lstE (.loc m) >>= fun ys => get? (asStrs ys) >>= fun ts => need (decide ((ts.map List.length).sum + ts.length * 0 ≤ LINE)) >>= fun _ => pure (Val.str (joinN [] ts))) S = _
  rw [bind_at, lstE_at h, bnd_ok, bind_at, asStrs_map, get_some, bnd_ok, Nat.mul_zero, Nat.add_zero, decide_eq_true hl, joinN_nil]; rfl
theorem comp_drawP {h c : Nat} {vs : List Nat} {ps : Env → M Src} {f : Val → Env → M Env} {pc : Env → M Bool} {pe : Env → M Val} {env : Env} {S S1 : Store} {s : Src} {xs : List Val} (hs : ps env S = .ok s S1) (hd : Hd h c S1) (hit : ∀ S', But h S1 S' → s.items S' = some xs) (hl : xs.length ≤ LINE)
    (p : Val → Prop) (step : ∀ x ∈ xs, ∀ S', Hd h c S' → But h S1 S' → Ok (turnE f pc pe (Pyd.wipe vs env) x S') fun r S'' => (∃ v, r = some v ∧ p v) ∧ Hd h c S'' ∧ But h S' S'') :
    Ok (compM vs ps f pc pe env S) fun D S' => D = .loc S1.length ∧ (∃ rs : List Val, rs.length = xs.length ∧ (∀ r ∈ rs, p r) ∧ S'[S1.length]? = some (.lst rs)) ∧ Hd h c S' ∧ But h S1 S' :=
  (comp_drawM hs hd hit hl (fun _ r => p r) step).mono fun D S' ⟨e, ⟨rs, h1, h2, h3⟩, d, b⟩ => ⟨e, ⟨rs, h1, fun r hr => let ⟨_, _, q⟩ := rel_mem h1 h2 r hr; q, h3⟩, d, b⟩
theorem shapes_of {α : Type} {F : α → Val} {p : α → Prop} {xs : List Val} (h : ∀ x ∈ xs, ∃ a, x = F a ∧ p a) : ∃ us : List α, xs = us.map F ∧ ∀ u ∈ us, p u := by
  induction xs with
  | nil => exact ⟨[], rfl, fun _ q => nomatch q⟩
  | cons x xs ih =>
    obtain ⟨d, rfl, hd⟩ := h x List.mem_cons_self
    obtain ⟨us, rfl, hu⟩ := ih fun x q => h x (List.mem_cons_of_mem _ q)
    exact ⟨d :: us, rfl, fun u q => by
      rcases List.mem_cons.mp q with rfl | q
      · exact hd
      · exact hu u q⟩
theorem some_lst (H : H__law_some P) (hn : 2 ≤ n) {h c l : Nat} (hd : Hd h c S) {xs : List Val} (hl : S[l]? = some (.lst xs)) (hlh : l ≠ h) (h0 : 0 < xs.length) (h1 : xs.length < 1000000) :
    Ok (callN P n g__law_some [.loc h, .loc l] [] S) fun v S' => v ∈ xs ∧ Hd h c S' ∧ But h S S' ∧ S'.length = S.length := by
  rw [call_run (by omega) H.fn rfl rfl rfl]
  obtain ⟨v, S', e, ⟨d, rfl, hd2⟩, hd', b, len⟩ := draw_ok H.c__law_draw (n := n - 1) (by omega) hd xs.length h0 h1
  simp [f__law_some, env0, lenV_lst hl, e, ix_lst (b.at hl hlh) (i := (d : Int)) (k := d) (v := xs[d]) (by simp [ixOf, hd2]) (by simp [hd2])]
  exact ⟨hd', b, len⟩
theorem some_new (H : H__law_some P) (hn : 2 ≤ n) {h c : Nat} (hd : Hd h c S) (xs : List Val) (h0 : 0 < xs.length) (h1 : xs.length < 1000000) :
    Ok (callN P n g__law_some [.loc h, .loc S.length] [] (S ++ [.lst xs])) fun v S' => v ∈ xs ∧ Hd h c S' ∧ But h S S' := by
  have hlt := hd.lt
  refine (some_lst H hn (hd.gr ⟨_, rfl⟩) (l := S.length) (xs := xs) (by simp) (by omega) h0 h1).mono fun v S' ⟨h2, h3, h4, _⟩ => ⟨h2, h3, (But.of_gr ⟨_, rfl⟩).trans h4⟩
theorem letters_ok (H : H__law_letters P) (hn : 3 ≤ n) {h c : Nat} (hd : Hd h c S) : Ok (callN P n g__law_letters [.loc h] [] S) fun v S' => (∃ z, v = .str z ∧ isLet z = true) ∧ Hd h c S' ∧ But h S S' := by
  rw [call_run (by omega) H.fn rfl rfl rfl]
  simp [f__law_letters, env0]
  refine Ok.bind (some_new H.c__law_some (n := n - 1) (by omega) hd [.str [97], .str [97, 98], .str [97, 98], .str [97, 98], .str [97, 98, 99]] (by simp) (by simp)) ?_
  rintro v S' ⟨h2, h3, h4⟩
  simp at h2 ⊢
  refine ⟨?_, h3, h4⟩
  rcases h2 with rfl | rfl | rfl | rfl | rfl <;> exact ⟨_, rfl, by decide⟩
theorem small62_nat {k : Nat} (h : k ≤ 1000000) : small62 (k : Int) = true := small62_of (by omega) (by omega)
def WdV (s : List Nat) (k : Nat) (v : Val) : Prop := ∃ u : List Nat, v = .str u ∧ u.length ≤ k ∧ ∀ c ∈ u, c ∈ s
theorem WdV.mono {s : List Nat} {k j : Nat} {v : Val} (h : WdV s k v) (hk : k ≤ j) : WdV s j v := let ⟨u, a, b, c⟩ := h; ⟨u, a, Nat.le_trans b hk, c⟩
theorem list_str {z : List Nat} (h : z.length ≤ 16777216) (S : Store) : mkE .list (.str z) S = .ok (.loc S.length) (S ++ [.lst (z.map fun c => .str [c])]) := by
  show (itemsE (.str z) >>= fun xs => need (decide (xs.length ≤ LINE)) >>= fun _ => alloc (.lst xs)) S = _
  rw [bind_at]
  show (need (decide ((z.map fun c => Val.str [c]).length ≤ LINE)) >>= fun _ => alloc (.lst (z.map fun c => Val.str [c]))) S = _
  rw [List.length_map, decide_eq_true h]; rfl
theorem word14_ok (H : H__law_word_v14 P) (hn : 3 ≤ n) {h c : Nat} (hd : Hd h c S) {z : List Nat} (hz : isLet z = true) (k : Nat) (hk : k ≤ 100) :
    Ok (callN P n g__law_word_v14 [.loc h, .str z, .int k] [] S) fun v S' => WdV z k v ∧ Hd h c S' ∧ But h S S' := by
  have hz3 := isLet_len hz
  rw [call_run (by omega) H.fn rfl rfl rfl]
  obtain ⟨v, S1, e, ⟨d, rfl, hd2⟩, hd1, b1, _⟩ := draw_ok H.c__law_draw (n := n - 1) (by omega) hd (k + 1) (by omega) (by omega)
  have hcast : ((k + 1 : Nat) : Int) = (k : Int) + 1 := by omega
  rw [hcast] at e
  simp [f__law_word_v14, env0, meTy, isStrV]
  refine Ok.bind (comp_drawP (S1 := S1) (s := .rng 0 1 d) (xs := (List.range d).map fun (i : Nat) => Val.int i) (by simp [e, small62_nat (show d ≤ 1000000 by omega)]) hd1 (fun S' _ => by simp [Src.items]) (le_line (by simp; omega)) (fun v => ∃ u : List Nat, v = .str u ∧ ∃ x ∈ z, u = [x]) fun x hx S' hd' b' => ?_) ?_
  · obtain ⟨i, _, rfl⟩ := List.mem_map.mp hx
    simp [list_str (show z.length ≤ 16777216 by omega)]
    refine Ok.bind (some_new H.c__law_some (n := n - 1) (by omega) hd' (z.map fun c => .str [c]) (by simp; omega) (by simp; omega)) ?_
    rintro v S2 ⟨hv, hd2, b2⟩
    obtain ⟨x, hx, rfl⟩ := List.mem_map.mp hv
    simp
    exact ⟨hx, hd2, b2⟩
  · rintro D S3 ⟨rfl, ⟨rs, r1, r2, r3⟩, hd3, b3⟩
    obtain ⟨us, rfl, hu⟩ := shapes_of r2
    have key : ∀ us : List (List Nat), (∀ u ∈ us, ∃ x ∈ z, u = [x]) → us.flatten.length = us.length ∧ (us.map List.length).sum = us.length ∧ ∀ c ∈ us.flatten, c ∈ z := by
      intro us
      induction us with
      | nil => intro _; simp
      | cons u us ih =>
        intro h
        obtain ⟨a1, a2, a3⟩ := ih fun u q => h u (List.mem_cons_of_mem _ q)
        obtain ⟨x, hx, rfl⟩ := h u List.mem_cons_self
        refine ⟨by simp; omega, by simp [a2]; omega, fun c hc => ?_⟩
        rw [List.flatten_cons] at hc
        rcases List.mem_append.mp hc with q | q
        · rw [List.mem_singleton.mp q]; exact hx
        · exact a3 c q
    obtain ⟨k1, k2, k3⟩ := key us hu
    simp at r1
    rw [join_lst r3 (by rw [k2, r1]; exact le_line (by omega))]
    simp
    exact ⟨⟨_, rfl, by rw [k1, r1]; omega, k3⟩, hd3, b1.trans b3⟩
theorem law_is_ok (H : H__law_is_v3 P) (hrp : RpOk P) (hn : 1 ≤ n) {x y : Val} {d : Dt} (h1 : toD 50 S x = some d) (h2 : toD 50 S y = some d) (hm : d.mild = true) (hs : d.sz ≤ 10000000) : callN P n g__law_is_v3 [x, y] [] S = .ok (.bl true) S := by
  rw [call_run hn H.fn rfl rfl rfl]
  obtain ⟨s, hs⟩ := hrp d hm hs
  have e : cmpV P (callN P (n - 1)) .eq (.str s) (.str s) S = .ok true S := eq_data (by
    show some (s == s) = _
    simp)
  simp [f__law_is_v3, env0, repr_at h1 hs, repr_at h2 hs, e]
theorem tup_mild {ds : List Dt} {b : Nat} (h : ∀ d ∈ ds, d.mild = true ∧ d.sz ≤ b) : Dt.milds ds = true ∧ Dt.szs ds ≤ (b + 2) * ds.length := by
  induction ds with
  | nil => exact ⟨rfl, Nat.le_refl _⟩
  | cons d ds ih =>
    obtain ⟨a, c⟩ := ih fun y q => h y (List.mem_cons_of_mem _ q)
    obtain ⟨e, f⟩ := h d List.mem_cons_self
    refine ⟨?_, ?_⟩
    · show (Dt.mild d && Dt.milds ds) = true
      rw [e, a]; rfl
    · show Dt.sz d + 2 + Dt.szs ds ≤ (b + 2) * (ds.length + 1)
      rw [Nat.mul_add]; omega
theorem isLet_ascii {z : List Nat} (h : isLet z = true) : z.all (· < 128) = true := by
  unfold isLet at h
  simp at h
  rcases h with (h | h) | h <;> subst h <;> decide
theorem but_rest {h : Nat} {S S' : Store} (b : But h S S') : But h S (restC S (dropC S')) := ⟨by rw [rest_len]; exact b.1, fun m h1 h2 => rest_at h1 (b.2 m h1 h2)⟩
theorem hd_rest {h c : Nat} {S S' : Store} (hd : Hd h c S) (hd' : Hd h c S') : Hd h c (restC S (dropC S')) := by
  obtain ⟨i, d, m, k, e, _⟩ := hd.hand
  obtain ⟨xs, e2, _⟩ := hd.cells
  obtain ⟨i', d', m', k', e', r⟩ := hd'.hand
  obtain ⟨xs', e2', r2⟩ := hd'.cells
  refine ⟨hd.ne, ⟨i', d', m', k', rest_keep e' (fun _ _ z => nomatch z) (fun _ _ z => by rw [e] at z; cases z), r⟩, ⟨xs', rest_keep e2' (fun _ _ z => nomatch z) (fun _ _ z => by rw [e2] at z; cases z), r2⟩⟩
theorem ok_dropR {r : Res Val} {Q R : Val → Store → Prop} (h : Ok r Q) (k : ∀ v S', Q v S' → R v (restC S (dropC S'))) : Ok (dropR S r) R := by
  obtain ⟨v, S', rfl, q⟩ := h
  exact ⟨v, _, rfl, k v S' q⟩
theorem error_ok (H : H__law_error P) (hn : 1 ≤ n) {m f c : Nat} {cs fs : List Val} {S' : Store} {k : Cl} (hm : S[m]? = some (.clo f cs)) (hr : callN P (n - 1) f [] cs S = .ex c fs S') (hk : P.cl c = some k) (hu : k.up.contains c_ReaderError = true) :
    callN P n g__law_error [.loc m] [] S = .ok (.loc S'.length) (S' ++ [.exc c fs]) := by
  rw [call_run hn H.fn rfl rfl rfl]
  have a1 : kindV (.loc S'.length) (S' ++ [.exc c fs]) = .ok (.exc c) (S' ++ [.exc c fs]) := kind_loc (o := .exc c fs) (by simp)
  have hu2 : c_ReaderError ∈ k.up := by simpa using hu
  simp [f__law_error, env0, tryM, isClo_at hm, callV_at hm, hr, hk, hu2, a1, Fl.unset]
theorem rep_one (x : Val) (k : Nat) : rep [x] k = List.replicate k x := by
  unfold rep
  induction k with
  | zero => rfl
  | succ k ih => rw [List.replicate_succ, List.flatten_cons, ih]; rfl
theorem mul_loc (m : Nat) (j : Int) (S : Store) : binop .mul (.loc m) (.int j) S = match S[m]? with
    | some (.lst x) => if (decide (j < 2 ^ 60) && decide (-(2 ^ 60) < j) && decide (x.length * j.toNat ≤ LINE)) = true then .ok (.loc S.length) (S ++ [.lst (rep x j.toNat)]) else .no
    | _ => .no := by
  show (look m >>= _) S = _
  rw [bind_at]
  unfold look
  cases S[m]? with
  | none => rfl
  | some o =>
    cases o with
    | lst x =>
      dsimp only
      rw [bnd_ok]
      show (need _ >>= fun _ => alloc (.lst (rep x j.toNat))) S = _
      rw [bind_at, need_at]
      split <;> rfl
    | _ => rfl
theorem mul_strs {x : List Nat} {j : Nat} (h : x.length * j ≤ 100000) (hj : j ≤ 100000) (S : Store) : binop .mul (.str x) (.int j) S = .ok (.str (rep x j)) S := by
  show (need (decide ((j : Int) < 2 ^ 60) && decide (-(2 ^ 60) < (j : Int)) && decide (x.length * ((j : Int)).toNat ≤ LINE)) >>= fun _ => pure (Val.str (rep x ((j : Int)).toNat))) S = _
  rw [Int.toNat_natCast, decide_eq_true (by omega), decide_eq_true (by omega), decide_eq_true (le_line h)]; rfl
theorem thr_dic {m : Nat} {kvs : List (Val × Val)} {lk : Bool} (h : S[m]? = some (.dic lk kvs)) : Thr S (.loc m) := .loc m .dic (kind_loc h)
theorem thr_lst {m : Nat} {xs : List Val} (h : S[m]? = some (.lst xs)) : Thr S (.loc m) := .loc m .lst (kind_loc h)
theorem thr_rep {k : Nat} {y : Val} (h : Thr S y) : Thr S (.tup (List.replicate k y)) := .tup _ fun x hx => by rw [List.eq_of_mem_replicate hx]; exact h
theorem Thr.but {h c : Nat} {S S' : Store} (hd' : Hd h c S') (b : But h S S') {x : Val} (t : Thr S x) : Thr S' x := by
  induction t with
  | non => exact .non
  | bl b => exact .bl b
  | int b => exact .int b
  | str b => exact .str b
  | loc m k hk =>
    by_cases hm : m = h
    · subst hm
      obtain ⟨i, d, m', k', e, _⟩ := hd'.hand
      exact thr_lst e
    · cases e : S[m]? with
      | none => simp [kindV, look, e] at hk
      | some o =>
        have e' := b.at e hm
        refine .loc m k ?_
        rw [kind_loc e] at hk
        rw [kind_loc e']
        cases o <;> simp at hk ⊢ <;> exact hk
  | tup xs h ih => exact .tup xs ih
def handF (a b : Int) : Fn := ⟨1, 3, [], [],
 .cons (.asg (.v 1) (.comp [2] (.b1 .abs (.b1 .int (.v 2))) (.v 2) (.e (.sl (.v 0) .none (.some (.cst (.int 63))))) .none))
 (.cons (.ret (.lst (.cons (.v 1) (.cons (.cst (.int 0)) (.cons (.cst (.int 0)) (.cons (.bin .add (.cst (.int a)) (.bin .mul (.cst (.int b)) (.b1 .len (.v 1)))) (.cons (.cst (.int 0)) .nil))))))) .nil)⟩
theorem handF_ok {f : Nat} {a b : Int} (ha : 0 ≤ a) (hb : 0 ≤ b) (hb2 : b < 1000000) (hf : P.fn f = some (handF a b)) (hn : 1 ≤ n) {ns : List Int} (h0 : S[0]? = some (.rol (ns.map Val.int))) : Ok (callN P n f [.loc 0] [] S) fun v S' => (∃ h c, v = .loc h ∧ Hd h c S' ∧ 0 ≠ h) ∧ Gr S S' := by
  rw [call_run hn hf rfl rfl rfl]
  have h0lt := (List.getElem?_eq_some_iff.mp h0).1
  have sl : slV (.loc 0) none (some 63) S = .ok (.loc S.length) (S ++ [.lst ((ns.take 63).map Val.int)]) := by
    show (look 0 >>= _) S = _
    rw [bind_at, look_at h0, bnd_ok]
    show alloc (.lst (cut (ns.map Val.int) none (some 63))) S = _
    rw [show cut (ns.map Val.int) none (some 63) = (ns.take 63).map Val.int by rw [List.map_take]; exact cut_take _ 63]
    rfl
  simp [handF, env0]
  refine Ok.bind (comp_map (S1 := S ++ [.lst ((ns.take 63).map Val.int)]) (s := .one (.lst S.length)) (xs := (ns.take 63).map Val.int) (by simp [sl, sbOf_lst]) (by simp [Src.items, Sb.items]) (le_line (by simp; omega)) (fun x => match x with
    | .int i => .int (if i < 0 then -i else i)
    | x => x) fun x hx S' g => ?_) ?_
  · obtain ⟨i, _, rfl⟩ := List.mem_map.mp hx
    simp
  · rintro D S' ⟨rfl, h1, g⟩
    have hl := (List.getElem?_eq_some_iff.mp h1).1
    simp only [List.length_append, List.length_singleton] at h1 hl ⊢
    rw [List.map_map] at h1
    have ml : ∀ i : Int, ∀ S, binop .mul (.int b) (.int i) S = .ok (.int (b * i)) S := fun i S => mul_l (by omega) (by omega)
    simp [lenV_lst h1, ml]
    have hpos : 0 ≤ b * ((min 63 ns.length : Nat) : Int) := Int.mul_nonneg hb (by omega)
    refine ⟨⟨⟨S.length + 1, ⟨by omega, ⟨0, 0, a + b * ((min 63 ns.length : Nat) : Int), 0, by simp, by omega, by omega, by omega, by omega⟩, ?_⟩⟩, by omega⟩, (show Gr S (S ++ [.lst ((ns.take 63).map Val.int)]) from ⟨_, rfl⟩).trans (g.trans ⟨_, rfl⟩)⟩
    refine ⟨(ns.take 63).map fun i => if i < 0 then -i else i, ?_, fun x hx => ?_⟩
    · rw [List.getElem?_append_left (by omega), h1, List.map_map]
      rfl
    · obtain ⟨i, _, rfl⟩ := List.mem_map.mp hx
      split <;> omega
theorem all_true {m : Nat} {rs : List Val} (h : S[m]? = some (.lst rs)) (ht : ∀ r ∈ rs, r = Val.bl true) : mkE .all (.loc m) S = .ok (.bl true) S := by
  have e1 : rs = rs.map fun _ => Val.bl true := by
    refine (List.map_id rs).symm.trans (List.map_congr_left fun x hx => ht x hx)
  rw [e1] at h
  rw [mk_all (l := rs) (p := fun _ => true) h, show (rs.all fun _ => true) = true from List.all_eq_true.mpr fun _ _ => rfl]
end Pyd
set_option linter.all false
set_option maxHeartbeats 4000000
set_option maxRecDepth 100000
namespace Pyd
variable {P : Prog} {n : Nat} {S : Store}
theorem toD_tup_ints (S : Store) (k : Nat) : ∀ us : List Nat, mapO (toD (k + 1) S) (us.map fun (u : Nat) => Val.int u) = some (us.map fun (u : Nat) => Dt.int u)
  | [] => rfl
  | u :: us => by
    rw [List.map_cons, mapO_cons', toD_tup_ints S k us]; rfl
theorem eqv_int (i j : Int) : Dt.eqv (.int i) (.int j) = (i == j) := id rfl
theorem eqAll_nats (q : Nat) (us : List Nat) (S : Store) : eqAll S (.int q) (us.map fun (u : Nat) => Val.int u) = some (us.map fun u => u == q) := by
  unfold eqAll
  rw [toD_tup_ints S 59 us]
  show some ((us.map fun (u : Nat) => Dt.int u).map fun z => Dt.eqv z (.int q)) = _
  rw [List.map_map]
  congr 1
  apply List.map_congr_left
  intro u _
  show Dt.eqv (.int u) (.int q) = _
  rw [eqv_int, Bool.eq_iff_iff]
  simp
  omega
theorem eqAllM_nats (q : Nat) (us : List Nat) (S : Store) : eqAllM (.int q) (us.map fun (u : Nat) => Val.int u) S = .ok (us.map fun u => u == q) S := by
  unfold eqAllM
  rw [eqAll_nats]
theorem mem_nats (q : Nat) (us : List Nat) (S : Store) : memV (.int q) (tupN us) S = .ok (us.contains q) S := by
  show (eqAllM (.int q) (us.map fun (u : Nat) => Val.int u) >>= fun bs => pure (bs.any id)) S = _
  rw [bind_at, eqAllM_nats, bnd_ok]
  show Res.ok ((us.map fun u => u == q).any id) S = _
  rw [List.any_map]
  congr 1
  rw [Bool.eq_iff_iff]
  simp
theorem mem_lst {m : Nat} {us : List Nat} (h : S[m]? = some (.lst (us.map fun (u : Nat) => Val.int u))) (q : Nat) : memV (.int q) (.loc m) S = .ok (us.contains q) S := by
  show (look m >>= _) S = _
  rw [bind_at, look_at h, bnd_ok]
  exact mem_nats q us S
theorem firstT_nats (q : Nat) : ∀ (us : List Nat) (i : Nat), q ∈ us → firstT (us.map fun u => u == q) i = some (i + us.idxOf q)
  | [], _, h => nomatch h
  | u :: us, i, h => by
    by_cases e : u = q
    · subst e; simp [firstT]
    · have hm : q ∈ us := by
        rcases List.mem_cons.mp h with h | h
        · exact absurd h.symm e
        · exact h
      have e2 : (u == q) = false := by simpa using e
      simp only [List.map_cons, firstT, e2]
      rw [if_neg (by decide), firstT_nats q us (i + 1) hm, List.idxOf_cons, e2]
      simp; omega
theorem index_lst {m : Nat} {us : List Nat} (h : S[m]? = some (.lst (us.map fun (u : Nat) => Val.int u))) {q : Nat} (hq : q ∈ us) : meOf .index (.loc m) [.int q] S = .ok (.int (us.idxOf q : Nat)) S := by
  show (look m >>= _) S = _
  rw [bind_at, look_at h, bnd_ok]
  show (eqAllM (.int q) (us.map fun (u : Nat) => Val.int u) >>= fun bs => get? (firstT bs 0) >>= fun k => pure (Val.int k)) S = _
  rw [bind_at, eqAllM_nats, bnd_ok, firstT_nats q us 0 hq, bind_at, get_some, bnd_ok, Nat.zero_add]; rfl
@[simp] theorem meTy_index_str (z : List Nat) : meTy .index (.str z) = pure () := id rfl
@[simp] theorem meTy_join_str (z : List Nat) : meTy .join (.str z) = pure () := id rfl
theorem meTy_index_lst {m : Nat} {xs : List Val} (h : S[m]? = some (.lst xs)) : meTy .index (.loc m) S = .ok () S := by
  show (look m >>= _) S = _
  rw [bind_at, look_at h]; rfl
theorem meTy_append_lst {m : Nat} {xs : List Val} (h : S[m]? = some (.lst xs)) : meTy .append (.loc m) S = .ok () S := isLst_at h
theorem Ok.eq {α : Type} {r : Res α} {v : α} {S : Store} (h : Ok r fun w S' => w = v ∧ S' = S) : r = .ok v S := by
  obtain ⟨_, _, e, rfl, rfl⟩ := h
  exact e
structure RdAt (S : Store) (m : Nat) (z : List Nat) (steps : List (List Nat)) (ends : List Nat) : Prop where
  at_ : S[m]? = some (.ins c_Reader (rdFs (.str z) (tupNN steps) (tupN ends)))
section
variable {m : Nat} {z : List Nat} {steps : List (List Nat)} {ends : List Nat} {most : Nat}
theorem RdAt.gr {S' : Store} (h : RdAt S m z steps ends) (g : Gr S S') : RdAt S' m z steps ends := ⟨g.at h.at_⟩
theorem RdAt.but {h : Nat} {S' : Store} (w : RdAt S m z steps ends) (x : But h S S') (hm : m ≠ h) : RdAt S' m z steps ends := ⟨x.at w.at_ hm⟩
theorem RdAt.lt (h : RdAt S m z steps ends) : m < S.length := (List.getElem?_eq_some_iff.mp h.at_).1
theorem RdAt.letters (h : RdAt S m z steps ends) : attrV P (.loc m) a_letters S = .ok (.str z) S := attrV_ins h.at_ rfl
theorem RdAt.stepsA (h : RdAt S m z steps ends) : attrV P (.loc m) a_steps S = .ok (tupNN steps) S := attrV_ins h.at_ rfl
theorem RdAt.endsA (h : RdAt S m z steps ends) : attrV P (.loc m) a_ends S = .ok (tupN ends) S := attrV_ins h.at_ rfl
theorem newR_ok (H : HC_Reader P) (hn : 4 ≤ n) (hz : isLet z = true) (hp : RdP z.length most steps ends) (hm : most ≤ 12) :
    Ok (newV P (callN P n) c_Reader [.str z, tupNN steps, tupN ends] S) fun v S' => v = .loc S.length ∧ RdAt S' S.length z steps ends ∧ Gr S S' := by
  have tN : ∀ xs : List Nat, Thr S (tupN xs) := fun xs => .tup _ fun x hx => by
    obtain ⟨i, _, rfl⟩ := List.mem_map.mp hx
    exact .int _
  have h := newReader_ok (S := S) H hn (l := .str z) (s := tupNN steps) (e := tupN ends) (.str z) (.tup _ fun x hx => by
    obtain ⟨r, _, rfl⟩ := List.mem_map.mp hx
    exact tN r) (tN _)
  refine Wp.ok (Wp.mono h (fun v S' ⟨h1, _, h3, h4⟩ => ⟨h1, ⟨h4⟩, h3⟩) ?_)
  rintro c fs S' ⟨_, p, h2, _⟩
  rw [rdP_none hz hp hm] at h2
  cases h2
def stp (z : List Nat) (steps : List (List Nat)) (q c : Nat) : Nat := (steps.getD q []).getD (z.idxOf c) 0
def runS (z : List Nat) (steps : List (List Nat)) (q : Nat) (u : List Nat) : Nat := u.foldl (stp z steps) q
theorem run_nil (q : Nat) : runS z steps q [] = q := rfl
theorem run_append (q : Nat) (u v : List Nat) : runS z steps q (u ++ v) = runS z steps (runS z steps q u) v := List.foldl_append
theorem stp_at (hp : RdP z.length most steps ends) {q c : Nat} (hq : q < steps.length) (hc : c ∈ z) : ∃ row, steps[q]? = some row ∧ row.length = z.length ∧ row[z.idxOf c]? = some (stp z steps q c) ∧ stp z steps q c < steps.length := by
  obtain ⟨h1, h2⟩ := hp.row _ (List.getElem_mem hq)
  have hi : z.idxOf c < (steps[q]).length := by rw [h1]; exact List.idxOf_lt_length_iff.mpr hc
  have e : stp z steps q c = (steps[q])[z.idxOf c] := by
    unfold stp
    have e1 : steps.getD q [] = steps[q] := by rw [List.getD_eq_getElem?_getD, List.getElem?_eq_getElem hq, Option.getD_some]
    rw [e1, List.getD_eq_getElem?_getD, List.getElem?_eq_getElem hi, Option.getD_some]
  exact ⟨_, List.getElem?_eq_getElem hq, h1, by rw [e, List.getElem?_eq_getElem hi], by rw [e]; exact h2 _ (List.getElem_mem hi)⟩
theorem run_lt (hp : RdP z.length most steps ends) : ∀ {u : List Nat} {q : Nat}, q < steps.length → (∀ c ∈ u, c ∈ z) → runS z steps q u < steps.length
  | [], _, hq, _ => hq
  | c :: u, q, hq, hc => by
    obtain ⟨_, _, _, _, h⟩ := stp_at hp hq (hc c List.mem_cons_self)
    exact run_lt (u := u) (q := stp z steps q c) hp h fun d hd => hc d (List.mem_cons_of_mem _ hd)
theorem ix_tupNN {q : Nat} {row : List Nat} (h : steps[q]? = some row) : ixV (tupNN steps) (.int q) S = .ok (tupN row) S := by
  have hq := (List.getElem?_eq_some_iff.mp h).1
  exact ix_tup (k := q) (by rw [List.length_map]; exact ixOf_nat hq) (by rw [List.getElem?_map, h]; rfl)
theorem ix_tupN {row : List Nat} {q x : Nat} (h : row[q]? = some x) : ixV (tupN row) (.int q) S = .ok (.int x) S := by
  have hq := (List.getElem?_eq_some_iff.mp h).1
  exact ix_tup (k := q) (by rw [List.length_map]; exact ixOf_nat hq) (by rw [List.getElem?_map, h]; rfl)
theorem led_ok (H : H_led P) (hn : 1 ≤ n) (w : RdAt S m z steps ends) (hp : RdP z.length most steps ends) {q : Nat} {u : List Nat} (hq : q < steps.length) (hu : ∀ c ∈ u, c ∈ z) :
    callN P n g_led [.loc m, .int q, .str u] [] S = .ok (.int (runS z steps q u)) S := by
  rw [call_run hn H.fn rfl rfl rfl]
  refine Ok.eq (Wp.ok ?_)
  simp [f_led, env0]
  refine Wp.fin ?_
  refine for_then (s := .one (.str u)) (xs := u.map fun c => .str [c]) (fun i env' S' => (∃ o, env' = [some (.loc m), some (.int (runS z steps q (u.take i))), some (.str u), o]) ∧ S' = S) (fun _ _ => False) ⟨⟨none, rfl⟩, rfl⟩ (fun i e S' h => by simp [Src.items, Sb.items]) (fun i x e S' hx h => ?_) fun e S' h => ?_
  · obtain ⟨⟨o, rfl⟩, rfl⟩ := h
    obtain ⟨c, hcu, rfl⟩ : ∃ c, u[i]? = some c ∧ .str [c] = x := by
      rw [List.getElem?_map] at hx
      cases q : u[i]? with
      | none => rw [q] at hx; cases hx
      | some c => rw [q] at hx; exact ⟨c, rfl, Option.some.inj hx⟩
    have hcz := hu c (List.mem_of_getElem? hcu)
    obtain ⟨row, r1, r2, r3, r4⟩ := stp_at hp (run_lt hp hq (u := u.take i) fun d hd => hu d (List.mem_of_mem_take hd)) hcz
    have et : u.take (i + 1) = u.take i ++ [c] := by rw [List.take_add_one, hcu]; rfl
    simp [w.stepsA, w.letters, ix_tupNN r1, index_str hcz, ix_tupN r3, et, run_append]
    rfl
  · rcases h with ⟨⟨o, rfl⟩, rfl⟩ | h
    · simp
    · exact h.elim
def letR (z : List Nat) (steps : List (List Nat)) (ends u : List Nat) : Bool := ends.contains (runS z steps 0 u)
theorem raw_lets_ok (H : H_raw_lets P) (hn : 2 ≤ n) (w : RdAt S m z steps ends) (hp : RdP z.length most steps ends) {u : List Nat} (hu : ∀ c ∈ u, c ∈ z) :
    callN P n g_raw_lets [.loc m, .str u] [] S = .ok (.bl (letR z steps ends u)) S := by
  rw [call_run (by omega) H.fn rfl rfl rfl]
  have e := led_ok H.c_led (n := n - 1) (by omega) w hp (q := 0) hp.pos hu
  simp at e
  simp [f_raw_lets, env0, e, w.endsA, mem_nats, letR]
theorem wordB_ok {u : List Nat} (hu : ∀ c ∈ u, c ∈ z) (hl : u.length ≤ 60) : wordB z 60 (.str u) = true := by
  show (decide (u.length ≤ 60) && u.all fun c => z.contains c) = true
  rw [decide_eq_true hl, Bool.true_and, List.all_eq_true]
  intro c hc
  simpa using hu c hc
theorem lets_ok (H : H_lets P) (hn : 3 ≤ n) (w : RdAt S m z steps ends) (hp : RdP z.length most steps ends) {u : List Nat} (hu : ∀ c ∈ u, c ∈ z) (hl : u.length ≤ 60) :
    Ok (callN P n g_lets [.loc m, .str u] [] S) fun v S' => v = .bl (letR z steps ends u) ∧ Gr S S' := by
  rw [call_run (by omega) H.fn rfl rfl rfl]
  refine Wp.ok ?_
  simp [f_lets, env0, w.letters]
  refine Wp.bind (check_word_ok H.c_check_word (n := n - 1) (by omega) (.str u) z) ?_ fun c fs S' h => by rw [wordB_ok hu hl] at h; exact absurd h.2.2.1 (by simp)
  rintro v S1 ⟨_, _, g1⟩
  simp [raw_lets_ok H.c_raw_lets (n := n - 1) (by omega) (w.gr g1) hp hu]
  exact g1
theorem is_word_ok (H : H_is_word P) (hn : 2 ≤ n) (w : RdAt S m z steps ends) {x : Val} (hx : Thr S x) :
    Ok (callN P n g_is_word [.loc m, x] [] S) fun v S' => v = .bl (wordB z 60 x) ∧ Gr S S' := by
  rw [call_run (by omega) H.fn rfl rfl rfl]
  simp [f_is_word, env0, w.letters, H.v_MOST_WORD]
  refine Ok.bind (is_word_of_ok H.c_is_word_of (n := n - 1) (by omega) hx z 60 (by omega)) ?_
  rintro v S' ⟨rfl, g⟩
  simp
  exact g
def wayR (z : List Nat) (steps : List (List Nat)) (u : List Nat) : List Nat := (List.range (u.length + 1)).map fun i => runS z steps 0 (u.take i)
theorem way_ok (H : H_way P) (hn : 3 ≤ n) (w : RdAt S m z steps ends) (hp : RdP z.length most steps ends) {u : List Nat} (hu : ∀ c ∈ u, c ∈ z) (hl : u.length ≤ 60) :
    Ok (callN P n g_way [.loc m, .str u] [] S) fun v S' => v = tupN (wayR z steps u) ∧ Gr S S' := by
  rw [call_run (by omega) H.fn rfl rfl rfl]
  refine Wp.ok ?_
  simp [f_way, env0, w.letters]
  refine Wp.bind (check_word_ok H.c_check_word (n := n - 1) (by omega) (.str u) z) ?_ fun c fs S' h => by rw [wordB_ok hu hl] at h; exact absurd h.2.2.1 (by simp)
  rintro v S1 ⟨_, _, g1⟩
  try simp
  refine Wp.fin ?_
  refine for_then (s := .one (.str u)) (xs := u.map fun c => .str [c]) (fun i env' S' => (∃ o, env' = [some (.loc m), some (.str u), some (.loc S1.length), o]) ∧ S'[S1.length]? = some (.lst (((List.range (i + 1)).map fun i => runS z steps 0 (u.take i)).map fun (q : Nat) => Val.int q)) ∧ Gr S1 S') (fun _ _ => False) ⟨⟨none, rfl⟩, by simp [runS], ⟨_, rfl⟩⟩ (fun i e S' h => by simp [Src.items, Sb.items]) (fun i x e S' hx h => ?_) fun e S' h => ?_
  · obtain ⟨⟨o, rfl⟩, h1, g⟩ := h
    obtain ⟨c, hcu, rfl⟩ : ∃ c, u[i]? = some c ∧ .str [c] = x := by
      rw [List.getElem?_map] at hx
      cases q : u[i]? with
      | none => rw [q] at hx; cases hx
      | some c => rw [q] at hx; exact ⟨c, rfl, Option.some.inj hx⟩
    have hi := (List.getElem?_eq_some_iff.mp hcu).1
    have hcz := hu c (List.mem_of_getElem? hcu)
    have et : u.take (i + 1) = u.take i ++ [c] := by rw [List.take_add_one, hcu]; rfl
    have ix : ixV (.loc S1.length) (.int (-1)) S' = .ok (.int (runS z steps 0 (u.take i))) S' := ix_lst h1 (k := i) (by rw [ixOf_last (by simp)]; simp) (by simp)
    have e1 := led_ok H.c_led (n := n - 1) (by omega) (w.gr (g1.trans g)) hp (q := runS z steps 0 (u.take i)) (u := [c]) (run_lt hp hp.pos fun d hd => hu d (List.mem_of_mem_take hd)) (fun d hd => by rw [List.mem_singleton.mp hd]; exact hcz)
    simp [meTy_append_lst h1, ix, e1]
    rw [append_lst h1 (le_line (by simp; omega))]
    have lt1 := (List.getElem?_eq_some_iff.mp h1).1
    simp
    refine ⟨?_, Gr.set g (Nat.le_refl _) _⟩
    rw [List.getElem?_set_self lt1, ← run_append, ← et, List.range_succ (n := i + 1)]
    simp
  · rcases h with ⟨⟨o, rfl⟩, h1, g⟩ | h
    · simp at h1
      simp [mk_tuple h1]
      exact ⟨by simp [wayR, tupN], g1.trans g⟩
    · exact h.elim
end
end Pyd
set_option linter.all false
set_option maxHeartbeats 4000000
set_option maxRecDepth 100000
namespace Pyd
variable {P : Prog} {n : Nat} {S : Store}
theorem gr_of {S S' : Store} (hl : S.length ≤ S'.length) (h : ∀ m, m < S.length → S'[m]? = S[m]?) : Gr S S' := by
  refine ⟨S'.drop S.length, ?_⟩
  apply List.ext_getElem?
  intro i
  by_cases hi : i < S.length
  · rw [List.getElem?_append_left hi, h i hi]
  · rw [List.getElem?_append_right (by omega), List.getElem?_drop]
    congr 1; omega
theorem gr_rest {S S' : Store} (g : Gr S S') : Gr S (restC S (dropC S')) := gr_of (by rw [rest_len]; exact Gr.len g) fun m hm => rest_at hm (by
  obtain ⟨T, rfl⟩ := g
  rw [List.getElem?_append_left hm])
theorem err_new (H : H__law_error P) (hn : 2 ≤ n) {f c : Nat} {cs fs : List Val} {F : Fn} {k : Cl} (hf : P.fn f = some F) (hF : (F.cells.isEmpty && F.free.isEmpty) = false) (h0 : F.arity = 0) (h3 : cs.length = F.free.length)
    (hr : Wp (fin (exSs P F.body (callN P (n - 1 - 1)) (env0 F cs) (S ++ [.clo f cs]))) (fun _ _ => False) fun c' fs' S' => c' = c ∧ fs' = fs ∧ Gr (S ++ [.clo f cs]) S') (hk : P.cl c = some k) (hu : k.up.contains c_ReaderError = true) :
    Ok (callN P n g__law_error [.loc S.length] [] (S ++ [.clo f cs])) fun v S' => ∃ D, v = .loc D ∧ S'[D]? = some (.exc c fs) ∧ Gr S S' := by
  have e1 : callN P (n - 1) f [] cs (S ++ [.clo f cs]) = dropR (S ++ [.clo f cs]) (fin (exSs P F.body (callN P (n - 1 - 1)) (env0 F cs) (S ++ [.clo f cs]))) := by
    rw [call_runC (by omega) hf (by rw [h0]; rfl) h3, if_neg (by rw [hF]; decide)]
    rfl
  cases hq : fin (exSs P F.body (callN P (n - 1 - 1)) (env0 F cs) (S ++ [.clo f cs])) with
  | no => rw [hq] at hr; exact hr.elim
  | ok v S' => rw [hq] at hr; exact hr.elim
  | ex c' fs' S' =>
    rw [hq] at hr e1
    obtain ⟨rfl, rfl, g⟩ := hr
    have e2 : callN P (n - 1) f [] cs (S ++ [.clo f cs]) = .ex c' fs' (restC (S ++ [.clo f cs]) (dropC S')) := e1
    rw [error_ok H (by omega) (by simp) e2 hk hu]
    have g2 : Gr S (restC (S ++ [.clo f cs]) (dropC S') ++ [.exc c' fs']) := (show Gr S (S ++ [.clo f cs]) from ⟨_, rfl⟩).trans ((gr_rest g).trans ⟨_, rfl⟩)
    exact ⟨_, _, rfl, _, rfl, by simp, g2⟩
def Bt (h : Nat) (S S' : Store) : Prop := S.length ≤ S'.length ∧ ∀ m, m < S.length → m ≠ h → (S'[m]?).map Ob.drop = (S[m]?).map Ob.drop
theorem Bt.refl (h : Nat) (S : Store) : Bt h S S := ⟨Nat.le_refl _, fun _ _ _ => rfl⟩
theorem Bt.trans {h : Nat} {S S1 S2 : Store} (a : Bt h S S1) (b : Bt h S1 S2) : Bt h S S2 := ⟨Nat.le_trans a.1 b.1, fun m h1 h2 => (b.2 m (Nat.lt_of_lt_of_le h1 a.1) h2).trans (a.2 m h1 h2)⟩
theorem Bt.of {h : Nat} {S S' : Store} (b : But h S S') : Bt h S S' := ⟨b.1, fun m h1 h2 => by rw [b.2 m h1 h2]⟩
theorem drop_drop (o : Ob) : o.drop.drop = o.drop := by cases o <;> rfl
theorem Bt.drop (h : Nat) (S : Store) : Bt h S (dropC S) := ⟨by simp [dropC], fun m _ _ => by
  rw [dropC_look, Option.map_map]
  cases S[m]? with
  | none => rfl
  | some o => simp [drop_drop]⟩
theorem Bt.rest {h : Nat} {S S' : Store} (b : Bt h S S') : But h S (restC S (dropC S')) := ⟨by rw [rest_len]; exact b.1, fun m h1 h2 => by
  rw [restC_look, dropC_look, b.2 m h1 h2, List.getElem?_eq_getElem h1]
  cases S[m] <;> rfl⟩
def Ob.plain : Ob → Bool
  | .clo _ _ => false
  | .dead => false
  | _ => true
theorem plain_drop {o : Ob} (h : o.plain = true) : o.drop = o := by cases o <;> first | rfl | cases h
theorem Bt.at {h : Nat} {S S' : Store} (b : Bt h S S') {m : Nat} {o : Ob} (e : S[m]? = some o) (hm : m ≠ h) (ho : o.plain = true) : S'[m]? = some o := by
  have h1 := b.2 m (List.getElem?_eq_some_iff.mp e).1 hm
  rw [e] at h1
  cases q : S'[m]? with
  | none => rw [q] at h1; cases h1
  | some p =>
    rw [q] at h1
    have h2 : p.drop = o.drop := Option.some.inj h1
    rw [plain_drop ho] at h2
    cases p <;> first | (rw [← h2]; rfl) | (subst h2; cases ho)
theorem drop_at {S : Store} {m : Nat} {o : Ob} (e : S[m]? = some o) (ho : o.plain = true) : (dropC S)[m]? = some o := by rw [dropC_look, e, Option.map_some, plain_drop ho]
theorem Hd.drop {h c : Nat} {S : Store} (H : Hd h c S) : Hd h c (dropC S) := ⟨H.ne, let ⟨i, d, m, k, e, r⟩ := H.hand; ⟨i, d, m, k, drop_at e rfl, r⟩, let ⟨xs, e, r⟩ := H.cells; ⟨xs, drop_at e rfl, r⟩⟩
theorem Thr.bt {h c : Nat} {S S' : Store} (hd' : Hd h c S') (b : Bt h S S') {x : Val} (t : Thr S x) : Thr S' x := by
  induction t with
  | non => exact .non
  | bl b => exact .bl b
  | int b => exact .int b
  | str b => exact .str b
  | loc m k hk =>
    by_cases hm : m = h
    · subst hm
      obtain ⟨i, d, m', k', e, _⟩ := hd'.hand
      exact thr_lst e
    · cases e : S[m]? with
      | none => simp [kindV, look, e] at hk
      | some o =>
        rw [kind_loc e] at hk
        have e' := b.at e hm (by cases o <;> first | rfl | (simp at hk))
        refine .loc m k ?_
        rw [kind_loc e']
        cases o <;> simp at hk ⊢ <;> exact hk
  | tup xs h ih => exact .tup xs ih
end Pyd
set_option linter.all false
set_option maxHeartbeats 4000000
set_option maxRecDepth 100000
namespace Pyd
variable {P : Prog} {n : Nat} {S : Store}
theorem rep_succ {α : Type} (y : List α) (k : Nat) : rep y (k + 1) = rep y k ++ y := by
  unfold rep
  rw [List.replicate_succ']
  simp
theorem repL_len {α : Type} (y : List α) (k : Nat) : (rep y k).length = k * y.length := by
  induction k with
  | zero => simp [rep]
  | succ k ih => rw [rep_succ, List.length_append, ih, Nat.succ_mul]
theorem rep_mem {α : Type} {y : List α} {k : Nat} {c : α} (h : c ∈ rep y k) : c ∈ y := by
  unfold rep at h
  obtain ⟨l, h1, h2⟩ := List.mem_flatten.mp h
  rw [List.eq_of_mem_replicate h1] at h2
  exact h2
section
variable {m : Nat} {z : List Nat} {steps : List (List Nat)} {ends : List Nat} {most : Nat}
def putB (z : List Nat) (steps : List (List Nat)) (ends x y w : List Nat) (i : Nat) : Bool := ends.contains (runS z steps (runS z steps (runS z steps 0 x) (rep y i)) w)
def pumpB (z : List Nat) (steps : List (List Nat)) (ends x y w : List Nat) : Bool := (List.range (2 * steps.length + 1)).all (putB z steps ends x y w)
theorem putB_let (x y w : List Nat) (i : Nat) : putB z steps ends x y w i = letR z steps ends (x ++ rep y i ++ w) := by
  unfold putB letR
  rw [run_append, run_append]
def pumpT (z : List Nat) (steps : List (List Nat)) (ends u : List Nat) (t : Val) : Bool := match t with
  | .tup [.str a, .str b, .str c] => wordB z 60 (.str a) && wordB z 60 (.str b) && wordB z 60 (.str c) && (a ++ b ++ c == u) && !b.isEmpty && pumpB z steps ends a b c
  | _ => false
theorem wordB_mem {u : List Nat} {k : Nat} (h : wordB z k (.str u) = true) : ∀ c ∈ u, c ∈ z := fun c hc => by
  have h2 : (decide (u.length ≤ k) && u.all fun c => z.contains c) = true := h
  rw [Bool.and_eq_true, List.all_eq_true] at h2
  simpa using h2.2 c hc
theorem join_tup {us : List (List Nat)} (hl : (us.map List.length).sum ≤ LINE) : meOf .join (.str []) [.tup (us.map Val.str)] S = .ok (.str us.flatten) S := by
  show (get? (asStrs (us.map Val.str)) >>= fun ts => need (decide ((ts.map List.length).sum + ts.length * 0 ≤ LINE)) >>= fun _ => pure (Val.str (joinN [] ts))) S = _
  rw [bind_at, asStrs_map, get_some, bnd_ok, Nat.mul_zero, Nat.add_zero, decide_eq_true hl, joinN_nil]; rfl
theorem wordB_len {u : List Nat} {k : Nat} (h : wordB z k (.str u) = true) : u.length ≤ k := by
  have h2 : (decide (u.length ≤ k) && u.all fun c => z.contains c) = true := h
  rw [Bool.and_eq_true] at h2
  simpa using h2.1
theorem is_pumped_ok (H : H_is_pumped P) (hn : 3 ≤ n) (w : RdAt S m z steps ends) (hp : RdP z.length most steps ends) (hm : most ≤ 100) {u : List Nat} (hu : ∀ c ∈ u, c ∈ z) (hl : u.length ≤ 60) {t : Val} (ht : Thr S t) :
    Ok (callN P n g_is_pumped [.loc m, .str u, t] [] S) fun v S' => v = .bl (pumpT z steps ends u t) ∧ Gr S S' := by
  rw [call_run (by omega) H.fn rfl rfl rfl]
  refine Wp.ok ?_
  have hpos := hp.pos
  have hle := hp.le
  simp [f_is_pumped, env0, w.letters]
  refine Wp.bind (check_word_ok H.c_check_word (n := n - 1) (by omega) (.str u) z) ?_ fun c fs S' h => by rw [wordB_ok hu hl] at h; exact absurd h.2.2.1 (by simp)
  rintro v S1 ⟨_, _, g1⟩
  have is3 := is_tuple_ok H.c_is_tuple (n := n - 1) (S := S1) (by omega) (ht.gr g1) 3
  simp at is3
  by_cases h3 : tupLen 3 t = true
  · cases ht with
    | tup xs hxs =>
      obtain ⟨a, b, c, rfl⟩ : ∃ a b c, xs = [a, b, c] := by
        have : xs.length = 3 := by simpa [tupLen] using h3
        match xs, this with
        | [a, b, c], _ => exact ⟨a, b, c, rfl⟩
      simp [is3, h3]
      refine comp_allW (S1 := S1) (s := .one (.tup [a, b, c])) (xs := [a, b, c]) (by simp) rfl (le_line (by simp)) (wordB z 60) (fun x hx S' g => ?_) fun S2 g2 => ?_
      · simp
        refine Ok.bind (is_word_ok H.c_is_word (n := n - 1) (by omega) (w.gr (g1.trans g)) ((hxs x hx).gr (g1.trans g))) ?_
        rintro v S3 ⟨rfl, g3⟩
        simp
        exact g3
      · by_cases ha : ([a, b, c].all (wordB z 60)) = true
        · simp at ha
          obtain ⟨ha, hb, hc⟩ := ha
          cases a <;> try (simp [wordB] at ha; done)
          cases b <;> try (simp [wordB] at hb; done)
          cases c <;> try (simp [wordB] at hc; done)
          rename_i a b c
          have la := wordB_len ha
          have lb := wordB_len hb
          have lc := wordB_len hc
          have ma := wordB_mem ha
          have mb := wordB_mem hb
          have mc := wordB_mem hc
          have hj : meOf .join (.str []) [.tup [.str a, .str b, .str c]] S2 = .ok (.str (a ++ b ++ c)) S2 := by
            have := join_tup (S := S2) (us := [a, b, c]) (le_line (by simp; omega))
            simpa using this
          have g12 := g1.trans g2
          simp [ha, hb, hc, hj]
          by_cases hj2 : a ++ (b ++ c) = u
          · simp [hj2, pumpT, ha, hb, hc]
            by_cases hb0 : b = []
            · simp [hb0]
              exact g12
            · have w2 := w.gr g12
              have l0 := led_ok H.c_led (n := n - 1) (by omega) w2 hp (q := 0) (u := a) hp.pos ma
              simp at l0
              have hst : lenV (tupNN steps) S2 = .ok (.int steps.length) S2 := by simp [tupNN]
              have ml : binop .mul (.int 2) (.int (steps.length : Nat)) S2 = .ok (.int (2 * (steps.length : Nat))) S2 := mul_l (by omega) (by omega)
              have s62 : small62 (2 * (steps.length : Int) + 1) = true := small62_of (by omega) (by omega)
              have tn : (2 * (steps.length : Int) + 1).toNat = 2 * steps.length + 1 := by omega
              simp [hb0, l0, w2.stepsA, hst, setAll, ml, s62, tn]
              refine Wp.fin ?_
              refine for_then (s := .rng 0 1 (2 * steps.length + 1)) (xs := (List.range (2 * steps.length + 1)).map fun (i : Nat) => Val.int i) (fun i env' S' => (∃ o o2, env' = [some (.loc m), some (.str u), some (.tup [.str a, .str b, .str c]), o2, some (.str a), some (.str b), some (.str c), some (.int (runS z steps (runS z steps 0 a) (rep b i))), some (.int (steps.length : Nat)), o]) ∧ S' = S2 ∧ ∀ j < i, putB z steps ends a b c j = true) (fun _ _ => False) ⟨⟨_, _, rfl⟩, rfl, fun j hj => absurd hj (by omega)⟩ (fun i e S' h => by simp [Src.items]) (fun i x e S' hx h => ?_) fun e S' h => ?_
              · obtain ⟨⟨o, o2, rfl⟩, rfl, hall⟩ := h
                have hq : runS z steps (runS z steps 0 a) (rep b i) < steps.length := run_lt hp (run_lt hp hpos ma) fun c hc => mb c (rep_mem hc)
                have l1 := led_ok H.c_led (n := n - 1) (by omega) w2 hp (q := runS z steps (runS z steps 0 a) (rep b i)) (u := c) hq mc
                have l2 := led_ok H.c_led (n := n - 1) (by omega) w2 hp (q := runS z steps (runS z steps 0 a) (rep b i)) (u := b) hq mb
                have hi : i < 2 * steps.length + 1 := by
                  have := (List.getElem?_eq_some_iff.mp hx).1
                  simpa using this
                simp [l1, w2.endsA, mem_nats]
                by_cases hput : putB z steps ends a b c i = true
                · have hin : runS z steps (runS z steps (runS z steps 0 a) (rep b i)) c ∈ ends := by simpa [putB] using hput
                  simp [hin, l2, rep_succ, run_append]
                  intro j hj
                  rcases Nat.lt_or_ge j i with h | h
                  · exact hall j h
                  · rw [show j = i by omega]; exact hput
                · have hin : ¬ runS z steps (runS z steps (runS z steps 0 a) (rep b i)) c ∈ ends := by simpa [putB] using hput
                  simp [hin]
                  refine ⟨?_, g12⟩
                  unfold pumpB
                  rw [List.all_eq_false]
                  exact fun _ => ⟨i, List.mem_range.mpr hi, hput⟩
              · rcases h with ⟨⟨o, o2, rfl⟩, rfl, hall⟩ | h
                · simp
                  refine ⟨?_, g12⟩
                  unfold pumpB
                  rw [List.all_eq_true]
                  refine ⟨hb0, fun j hj => ?_⟩
                  exact hall j (by simpa using hj)
                · exact h.elim
          · simp [hj2, pumpT]
            exact g12
        · have ha' : ([a, b, c].all (wordB z 60)) = false := by simpa using ha
          rw [ha']
          simp [pumpT]
          refine ⟨?_, g1.trans g2⟩
          cases a <;> try (simp [pumpT]; done)
          cases b <;> try (simp [pumpT]; done)
          cases c <;> try (simp [pumpT]; done)
          simp at ha'
          simp [pumpT]
          intro h1 h2 h3
          have := ha' h1 h2
          rw [this] at h3
          cases h3
    | _ => simp [tupLen] at h3
  · have : pumpT z steps ends u t = false := by
      unfold pumpT
      split
      · simp [tupLen] at h3
      · rfl
    simp [is3, h3, this]
    exact g1
theorem is_pumped_no (H : H_is_pumped P) (hn : 3 ≤ n) (w : RdAt S m z steps ends) {x t : Val} (hx : Thr S x) (hb : wordB z 60 x = false) :
    Wp (callN P n g_is_pumped [.loc m, x, t] [] S) (fun _ _ => False) fun c fs S' => c = c_NoWord ∧ fs = [] ∧ Gr S S' := by
  rw [call_run (by omega) H.fn rfl rfl rfl]
  simp [f_is_pumped, env0, w.letters]
  exact Wp.bind (check_word_ok H.c_check_word (n := n - 1) (by omega) hx z) (fun v S1 h => by rw [hb] at h; exact absurd h.2.1 (by simp)) fun c fs S' h => ⟨h.1, h.2.1, h.2.2.2⟩
end
end Pyd
set_option linter.all false
set_option maxHeartbeats 4000000
set_option maxRecDepth 100000
namespace Pyd
variable {P : Prog} {n : Nat} {S : Store}
structure FstAt (ws : List Nat) (i j : Nat) : Prop where
  lt : i < j
  lj : j < ws.length
  eq : ws[i]? = ws[j]?
  fst : ∀ k < i, ws[k]? ≠ ws[j]?
  no : ∀ j' < j, ∀ i' < j', ws[i']? ≠ ws[j']?
theorem FstAt.one {ws : List Nat} {i j i' j' : Nat} (h : FstAt ws i j) (h' : FstAt ws i' j') : i = i' ∧ j = j' := by
  have hj : j = j' := by
    rcases Nat.lt_trichotomy j j' with q | q | q
    · exact absurd h.eq (h'.no j q i h.lt)
    · exact q
    · exact absurd h'.eq (h.no j' q i' h'.lt)
  subst hj
  refine ⟨?_, rfl⟩
  rcases Nat.lt_trichotomy i i' with q | q | q
  · exact absurd h.eq (h'.fst i q)
  · exact q
  · exact absurd h'.eq (h.fst i' q)
def partsOf (u : List Nat) (i j : Nat) : Val := .tup [.str (u.take i), .str ((u.take j).drop i), .str (u.drop j)]
def FstV (u ws : List Nat) (v : Val) : Prop := (∃ i j, FstAt ws i j ∧ v = partsOf u i j) ∨ (v = .non ∧ ∀ j < ws.length, ∀ i < j, ws[i]? ≠ ws[j]?)
theorem FstV.one {u ws : List Nat} {v v' : Val} (h : FstV u ws v) (h' : FstV u ws v') : v = v' := by
  rcases h with ⟨i, j, h, rfl⟩ | ⟨rfl, h⟩
  · rcases h' with ⟨i', j', h', rfl⟩ | ⟨rfl, h'⟩
    · obtain ⟨rfl, rfl⟩ := h.one h'; rfl
    · exact absurd h.eq (h' j h.lj i h.lt)
  · rcases h' with ⟨i', j', h', rfl⟩ | ⟨rfl, h'⟩
    · exact absurd h'.eq (h j' h'.lj i' h'.lt)
    · rfl
section
variable {m : Nat} {z : List Nat} {steps : List (List Nat)} {ends : List Nat} {most : Nat}
theorem way_len (u : List Nat) : (wayR z steps u).length = u.length + 1 := by simp [wayR]
theorem way_at (u : List Nat) {i : Nat} (hi : i < u.length + 1) : (wayR z steps u)[i]? = some (runS z steps 0 (u.take i)) := by
  simp [wayR, hi]
theorem pumped_ok (H : H_pumped P) (hn : 4 ≤ n) (w : RdAt S m z steps ends) (hp : RdP z.length most steps ends) {u : List Nat} (hu : ∀ c ∈ u, c ∈ z) (hl : u.length ≤ 60) (hlet : letR z steps ends u = true) :
    Ok (callN P n g_pumped [.loc m, .str u] [] S) fun v S' => FstV u (wayR z steps u) v ∧ Gr S S' := by
  rw [call_run (by omega) H.fn rfl rfl rfl]
  refine Wp.ok ?_
  simp [f_pumped, env0, w.letters]
  refine Wp.bind (check_word_ok H.c_check_word (n := n - 1) (by omega) (.str u) z) ?_ fun c fs S' h => by rw [wordB_ok hu hl] at h; exact absurd h.2.2.1 (by simp)
  rintro v S1 ⟨_, _, g1⟩
  simp [raw_lets_ok H.c_raw_lets (n := n - 1) (by omega) (w.gr g1) hp hu, hlet]
  refine Wp.bindO (way_ok H.c_way (n := n - 1) (by omega) (w.gr g1) hp hu hl) ?_
  rintro v S2 ⟨rfl, g2⟩
  have g12 := g1.trans g2
  have hwl := way_len (z := z) (steps := steps) u
  generalize hws : wayR z steps u = ws at hwl ⊢
  have hlen : lenV (tupN ws) S2 = .ok (.int (u.length + 1 : Nat)) S2 := by simp [tupN, hwl]
  have s1 : small62 1 = true := small62_of (by omega) (by omega)
  have s2 : small62 ((u.length : Int) + 1) = true := small62_of (by omega) (by omega)
  simp [hlen, s1, s2]
  refine Wp.fin ?_
  have ix : ∀ {k : Nat} (_ : k < u.length + 1) S, ixV (tupN ws) (.int k) S = .ok (.int (ws[k]'(by omega))) S := fun {k} hk S => ix_tupN (List.getElem?_eq_getElem (by omega))
  refine for_then (s := .rng 1 1 u.length) (xs := (List.range u.length).map fun (i : Nat) => Val.int (1 + i)) (fun k env' S' => (∃ o o2, env' = [some (.loc m), some (.str u), some (tupN ws), o, o2]) ∧ S' = S2 ∧ ∀ j' < k + 1, ∀ i' < j', ws[i']? ≠ ws[j']?) (fun _ _ => False) ⟨⟨_, _, rfl⟩, rfl, fun j' hj i' hi => by omega⟩ (fun i e S' h => by simp [Src.items]) (fun k x e S' hx h => ?_) fun e S' h => ?_
  · obtain ⟨⟨o, o2, rfl⟩, rfl, hno⟩ := h
    have hk : k < u.length := by
      have := (List.getElem?_eq_some_iff.mp hx).1
      simpa using this
    have hx' : Val.int (((k + 1 : Nat) : Int)) = x := by
      rw [List.getElem?_map, List.getElem?_range hk] at hx
      have := Option.some.inj hx
      rw [← this]
      congr 1; omega
    subst hx'
    have s3 : small62 ((k : Int) + 1) = true := small62_of (by omega) (by omega)
    have tn : ((k : Int) + 1).toNat = k + 1 := by omega
    simp [s3, tn]
    refine for_then (s := .rng 0 1 (k + 1)) (xs := (List.range (k + 1)).map fun (i : Nat) => Val.int i) (fun i env' S'' => (∃ o2, env' = [some (.loc m), some (.str u), some (tupN ws), some (.int (((k + 1 : Nat) : Int))), o2]) ∧ S'' = S' ∧ ∀ i' < i, ws[i']? ≠ ws[k + 1]?) (fun _ _ => False) ⟨⟨_, by simp; rfl⟩, rfl, fun i' hi => absurd hi (by omega)⟩ (fun i e S' h => by simp [Src.items]) (fun i x e S'' hx h => ?_) fun e S'' h => ?_
    · obtain ⟨⟨o2, rfl⟩, rfl, hfst⟩ := h
      have hi : i < k + 1 := by
        have := (List.getElem?_eq_some_iff.mp hx).1
        simpa using this
      have i1 := ix (k := i) (by omega) S''
      have i2 := ix (k := k + 1) (by omega) S''
      simp at i2
      have hx' : Val.int (i : Int) = x := by
        rw [List.getElem?_map, List.getElem?_range hi] at hx
        exact Option.some.inj hx
      subst hx'
      have hne : ws[i]? = ws[k + 1]? ↔ ws[i]'(by omega) = ws[k + 1]'(by omega) := by
        rw [List.getElem?_eq_getElem (show i < ws.length by omega), List.getElem?_eq_getElem (show k + 1 < ws.length by omega)]
        simp
      simp [i1, i2]
      by_cases he : ws[i]'(by omega) = ws[k + 1]'(by omega)
      · have c1 : ((k : Int) + 1) = ((k + 1 : Nat) : Int) := by omega
        simp [he]
        refine ⟨.inl ⟨i, k + 1, ⟨hi, by omega, hne.mpr he, hfst, fun j' hj => hno j' hj⟩, ?_⟩, g12⟩
        rw [c1, cut_take, cut_both, cut_drop]
        rfl
      · have he2 : ¬ ((ws[i]'(by omega) : Nat) : Int) = ((ws[k + 1]'(by omega) : Nat) : Int) := by omega
        simp [he2]
        intro i' hi'
        rcases Nat.lt_or_ge i' i with h | h
        · exact hfst i' h
        · rw [show i' = i by omega]; exact fun q => he (hne.mp q)
    · rcases h with ⟨⟨o2, rfl⟩, rfl, hfst⟩ | h
      · simp at hfst ⊢
        intro j' hj i' hi
        rcases Nat.lt_or_ge j' (k + 1) with h | h
        · exact hno j' h i' hi
        · rw [show j' = k + 1 by omega] at hi ⊢; exact hfst i' hi
      · exact h.elim
  · rcases h with ⟨⟨o, o2, rfl⟩, rfl, hno⟩ | h
    · simp at hno ⊢
      exact ⟨.inr ⟨rfl, fun j hj i hi => hno j (by omega) i hi⟩, g12⟩
    · exact h.elim
theorem pumped_no (H : H_pumped P) (hn : 3 ≤ n) (w : RdAt S m z steps ends) {x : Val} (hx : Thr S x) (hb : wordB z 60 x = false) :
    Wp (callN P n g_pumped [.loc m, x] [] S) (fun _ _ => False) fun c fs S' => c = c_NoWord ∧ fs = [] ∧ Gr S S' := by
  rw [call_run (by omega) H.fn rfl rfl rfl]
  simp [f_pumped, env0, w.letters]
  exact Wp.bind (check_word_ok H.c_check_word (n := n - 1) (by omega) hx z) (fun v S1 h => by rw [hb] at h; exact absurd h.2.1 (by simp)) fun c fs S' h => ⟨h.1, h.2.1, h.2.2.2⟩
theorem pumped_not (H : H_pumped P) (hn : 3 ≤ n) (w : RdAt S m z steps ends) (hp : RdP z.length most steps ends) {u : List Nat} (hu : ∀ c ∈ u, c ∈ z) (hl : u.length ≤ 60) (hlet : letR z steps ends u = false) :
    Wp (callN P n g_pumped [.loc m, .str u] [] S) (fun _ _ => False) fun c fs S' => c = c_NotLet ∧ fs = [] ∧ Gr S S' := by
  rw [call_run (by omega) H.fn rfl rfl rfl]
  simp [f_pumped, env0, w.letters]
  refine Wp.bind (check_word_ok H.c_check_word (n := n - 1) (by omega) (.str u) z) ?_ fun c fs S' h => by rw [wordB_ok hu hl] at h; exact absurd h.2.2.1 (by simp)
  rintro v S1 ⟨_, _, g1⟩
  simp [raw_lets_ok H.c_raw_lets (n := n - 1) (by omega) (w.gr g1) hp hu, hlet]
  exact g1
theorem state_ok (H : H__law_state P) (hn : 1 ≤ n) (w : RdAt S m z steps ends) (hp : RdP z.length most steps ends) {u : List Nat} (hu : ∀ c ∈ u, c ∈ z) :
    callN P n g__law_state [.loc m, .str u] [] S = .ok (.int (runS z steps 0 u)) S := by
  rw [call_run hn H.fn rfl rfl rfl]
  refine Ok.eq (Wp.ok ?_)
  simp [f__law_state, env0]
  refine Wp.fin ?_
  refine for_then (s := .one (.str u)) (xs := u.map fun c => .str [c]) (fun i env' S' => (∃ o, env' = [some (.loc m), some (.str u), some (.int (runS z steps 0 (u.take i))), o]) ∧ S' = S) (fun _ _ => False) ⟨⟨none, rfl⟩, rfl⟩ (fun i e S' h => by simp [Src.items, Sb.items]) (fun i x e S' hx h => ?_) fun e S' h => ?_
  · obtain ⟨⟨o, rfl⟩, rfl⟩ := h
    obtain ⟨c, hcu, rfl⟩ : ∃ c, u[i]? = some c ∧ .str [c] = x := by
      rw [List.getElem?_map] at hx
      cases q : u[i]? with
      | none => rw [q] at hx; cases hx
      | some c => rw [q] at hx; exact ⟨c, rfl, Option.some.inj hx⟩
    have hcz := hu c (List.mem_of_getElem? hcu)
    obtain ⟨row, r1, r2, r3, r4⟩ := stp_at hp (run_lt hp hp.pos (u := u.take i) fun d hd => hu d (List.mem_of_mem_take hd)) hcz
    have et : u.take (i + 1) = u.take i ++ [c] := by rw [List.take_add_one, hcu]; rfl
    simp [w.stepsA, w.letters, ix_tupNN r1, index_str hcz, ix_tupN r3, et, run_append]
    rfl
  · rcases h with ⟨⟨o, rfl⟩, rfl⟩ | h
    · simp
    · exact h.elim
theorem does_let_ok (H : H__law_does_let P) (hn : 2 ≤ n) (w : RdAt S m z steps ends) (hp : RdP z.length most steps ends) {u : List Nat} (hu : ∀ c ∈ u, c ∈ z) :
    callN P n g__law_does_let [.loc m, .str u] [] S = .ok (.bl (letR z steps ends u)) S := by
  rw [call_run (by omega) H.fn rfl rfl rfl]
  have e := state_ok H.c__law_state (n := n - 1) (by omega) w hp hu
  simp [f__law_does_let, env0, e, w.endsA, mem_nats, letR]
theorem own_pumped_ok (H : H__law_pumped P) (hn : 3 ≤ n) (w : RdAt S m z steps ends) (hp : RdP z.length most steps ends) {u : List Nat} (hu : ∀ c ∈ u, c ∈ z) (hl : u.length ≤ 60) :
    Ok (callN P n g__law_pumped [.loc m, .str u] [] S) fun v S' => FstV u (wayR z steps u) v ∧ Gr S S' := by
  rw [call_run (by omega) H.fn rfl rfl rfl]
  refine Wp.ok ?_
  have s2 : small62 ((u.length : Int) + 1) = true := small62_of (by omega) (by omega)
  simp [f__law_pumped, env0]
  refine Wp.bindO (comp_map (S1 := S) (s := .rng 0 1 (u.length + 1)) (xs := (List.range (u.length + 1)).map fun (i : Nat) => Val.int i) (by simp [s2]) (by simp [Src.items]) (le_line (by simp; omega)) (fun x => match x with
    | .int i => .int (runS z steps 0 (u.take i.toNat))
    | x => x) fun x hx S' g => ?_) ?_
  · obtain ⟨i, hi, rfl⟩ := List.mem_map.mp hx
    simp [cut_take, state_ok H.c__law_state (n := n - 1) (by omega) (w.gr g) hp (u := u.take i) fun d hd => hu d (List.mem_of_mem_take hd)]
  · rintro D S1 ⟨rfl, hD, g1⟩
    have hwl := way_len (z := z) (steps := steps) u
    have hD2 : S1[S.length]? = some (.lst ((wayR z steps u).map fun (q : Nat) => Val.int q)) := by
      rw [hD]
      simp [wayR]
    clear hD
    generalize hws : wayR z steps u = ws at hwl hD2 ⊢
    have hlen : lenV (.loc S.length) S1 = .ok (.int (u.length + 1 : Nat)) S1 := by rw [lenV_lst hD2]; simp [hwl]
    have s1 : small62 1 = true := small62_of (by omega) (by omega)
    simp [hlen, s1, s2]
    refine Wp.fin ?_
    refine for_then (s := .rng 1 1 u.length) (xs := (List.range u.length).map fun (i : Nat) => Val.int (1 + i)) (fun k env' S' => (∃ o o2, env' = [some (.loc m), some (.str u), some (.loc S.length), none, o, o2]) ∧ Gr S1 S' ∧ ∀ j' < k + 1, ∀ i' < j', ws[i']? ≠ ws[j']?) (fun _ _ => False) ⟨⟨_, _, rfl⟩, List.prefix_refl _, fun j' hj i' hi => by omega⟩ (fun i e S' h => by simp [Src.items]) (fun k x e S' hx h => ?_) fun e S' h => ?_
    · obtain ⟨⟨o, o2, rfl⟩, g, hno⟩ := h
      have hk : k < u.length := by
        have := (List.getElem?_eq_some_iff.mp hx).1
        simpa using this
      have hx' : Val.int (((k + 1 : Nat) : Int)) = x := by
        rw [List.getElem?_map, List.getElem?_range hk] at hx
        have := Option.some.inj hx
        rw [← this]
        congr 1; omega
      subst hx'
      have hD3 := g.at hD2
      have hkl : k + 1 < ws.length := by omega
      have ixk : ixV (.loc S.length) (.int (((k + 1 : Nat) : Int))) S' = .ok (.int (ws[k + 1])) S' := ix_lst hD3 (k := k + 1) (by rw [List.length_map]; exact ixOf_nat hkl) (by rw [List.getElem?_map, List.getElem?_eq_getElem hkl]; rfl)
      have sl : slV (.loc S.length) none (some ((k + 1 : Nat) : Int)) S' = .ok (.loc S'.length) (S' ++ [.lst ((ws.take (k + 1)).map fun (q : Nat) => Val.int q)]) := by
        show (look S.length >>= _) S' = _
        rw [bind_at, look_at hD3, bnd_ok]
        show alloc (.lst (cut (ws.map fun (q : Nat) => Val.int q) none (some ((k + 1 : Nat) : Int)))) S' = _
        rw [cut_take, List.map_take]; rfl
      have hD4 : (S' ++ [.lst ((ws.take (k + 1)).map fun (q : Nat) => Val.int q)])[S.length]? = some (.lst (ws.map fun (q : Nat) => Val.int q)) := by rw [List.getElem?_append_left (List.getElem?_eq_some_iff.mp hD3).1]; exact hD3
      have ixk2 : ixV (.loc S.length) (.int (((k + 1 : Nat) : Int))) (S' ++ [.lst ((ws.take (k + 1)).map fun (q : Nat) => Val.int q)]) = .ok (.int (ws[k + 1])) (S' ++ [.lst ((ws.take (k + 1)).map fun (q : Nat) => Val.int q)]) := ix_lst hD4 (k := k + 1) (by rw [List.length_map]; exact ixOf_nat hkl) (by rw [List.getElem?_map, List.getElem?_eq_getElem hkl]; rfl)
      have mm := mem_lst (S := S' ++ [.lst ((ws.take (k + 1)).map fun (q : Nat) => Val.int q)]) (m := S'.length) (us := ws.take (k + 1)) (by simp) (ws[k + 1])
      have g' : Gr S1 (S' ++ [.lst ((ws.take (k + 1)).map fun (q : Nat) => Val.int q)]) := g.trans ⟨_, rfl⟩
      have hS1 : S.length ≤ S1.length := Gr.len g1
      have hmem : ws[k + 1] ∈ ws.take (k + 1) ↔ ∃ i < k + 1, ws[i]? = ws[k + 1]? := by
        rw [List.mem_iff_getElem?]
        constructor
        · rintro ⟨i, hi⟩
          have hlt := (List.getElem?_eq_some_iff.mp hi).1
          rw [List.length_take] at hlt
          rw [List.getElem?_take, if_pos (by omega)] at hi
          exact ⟨i, by omega, by rw [hi, List.getElem?_eq_getElem hkl]⟩
        · rintro ⟨i, hi, e⟩
          exact ⟨i, by rw [List.getElem?_take, if_pos hi, e, List.getElem?_eq_getElem hkl]⟩
      have hcast : (((k + 1 : Nat) : Int)) = (k : Int) + 1 := by omega
      rw [hcast] at ixk sl ixk2
      generalize S' ++ [.lst ((ws.take (k + 1)).map fun (q : Nat) => Val.int q)] = S3 at ixk2 mm g' sl hD4
      simp [ixk, sl, mm]
      by_cases hin : ws[k + 1] ∈ ws.take (k + 1)
      · have hin2 : ws[k + 1] ∈ ws := List.getElem_mem hkl
        simp [hin, meTy_index_lst hD4, ixk2, index_lst hD4 hin2]
        obtain ⟨i, hi, e⟩ := hmem.mp hin
        rw [← hcast, cut_take, cut_both, cut_drop]
        have hii : ws.idxOf (ws[k + 1]) ≤ i := by
          have hil : i < ws.length := by omega
          rw [List.getElem?_eq_getElem hil, List.getElem?_eq_getElem hkl] at e
          have e2 := Option.some.inj e
          rcases Nat.lt_or_ge i (ws.idxOf (ws[k + 1])) with q | q
          · have := List.not_of_lt_findIdx (p := (· == ws[k + 1])) (xs := ws) (i := i) q
            simp [e2] at this
          · exact q
        refine ⟨.inl ⟨ws.idxOf (ws[k + 1]), k + 1, ⟨by omega, hkl, ?_, fun i' hi' q => ?_, fun j' hj => hno j' hj⟩, rfl⟩, g1.trans g'⟩
        · rw [List.getElem?_eq_getElem hkl, List.getElem?_eq_getElem (show ws.idxOf (ws[k + 1]) < ws.length by omega)]
          rw [List.getElem_idxOf]
        · have hil : i' < ws.length := by omega
          rw [List.getElem?_eq_getElem hil, List.getElem?_eq_getElem hkl] at q
          have e2 := Option.some.inj q
          have := List.not_of_lt_findIdx (p := (· == ws[k + 1])) (xs := ws) (i := i') hi'
          simp [e2] at this
      · simp [hin]
        refine ⟨g', fun j' hj i' hi => ?_⟩
        rcases Nat.lt_or_ge j' (k + 1) with h | h
        · exact hno j' h i' hi
        · have : j' = k + 1 := by omega
          subst this
          exact fun q => hin (hmem.mpr ⟨i', hi, q⟩)
    · rcases h with ⟨⟨o, o2, rfl⟩, g, hno⟩ | h
      · simp at hno ⊢
        exact ⟨.inr ⟨rfl, fun j hj i hi => hno j (by omega) i hi⟩, g1.trans g⟩
      · exact h.elim
end
end Pyd
set_option linter.all false
set_option maxHeartbeats 4000000
set_option maxRecDepth 100000
namespace Pyd
variable {P : Prog} {n : Nat} {S : Store}
theorem pigeon : ∀ (k : Nat) (ws : List Nat), (∀ x ∈ ws, x < k) → ws.Nodup → ws.length ≤ k
  | 0, [], _, _ => Nat.le_refl _
  | 0, x :: ws, h, _ => absurd (h x List.mem_cons_self) (by omega)
  | k + 1, ws, h, hn => by
    by_cases hk : k ∈ ws
    · have h1 := pigeon k (ws.erase k) (fun x hx => by
        have h2 := h x (List.mem_of_mem_erase hx)
        have h3 : x ≠ k := fun e => by
          subst e
          exact (List.Nodup.not_mem_erase hn) hx
        omega) (hn.erase k)
      rw [List.length_erase_of_mem hk] at h1
      omega
    · have := pigeon k ws (fun x hx => by
        have h2 := h x hx
        have h3 : x ≠ k := fun e => hk (e ▸ hx)
        omega) hn
      omega
theorem nodup_of {ws : List Nat} (h : ∀ j < ws.length, ∀ i < j, ws[i]? ≠ ws[j]?) : ws.Nodup := by
  rw [List.nodup_iff_pairwise_ne, List.pairwise_iff_getElem]
  intro i j hi hj hij e
  exact h j hj i hij (by rw [List.getElem?_eq_getElem hi, List.getElem?_eq_getElem hj, e])
section
variable {m : Nat} {z : List Nat} {steps : List (List Nat)} {ends : List Nat} {most : Nat}
theorem fst_none (hp : RdP z.length most steps ends) {u : List Nat} (hu : ∀ c ∈ u, c ∈ z) (h : ∀ j < (wayR z steps u).length, ∀ i < j, (wayR z steps u)[i]? ≠ (wayR z steps u)[j]?) : u.length < steps.length := by
  have := pigeon steps.length (wayR z steps u) (fun x hx => by
    obtain ⟨i, _, rfl⟩ := List.mem_map.mp hx
    exact run_lt hp hp.pos fun d hd => hu d (List.mem_of_mem_take hd)) (nodup_of h)
  rw [way_len] at this
  omega
theorem run_rep {q : Nat} {y : List Nat} (h : runS z steps q y = q) : ∀ k, runS z steps q (rep y k) = q
  | 0 => rfl
  | k + 1 => by rw [rep_succ, run_append, run_rep h k, h]
theorem cut3 (u : List Nat) {i j : Nat} (h : i ≤ j) : u.take i ++ ((u.take j).drop i ++ u.drop j) = u := by
  have e : u.take i = (u.take j).take i := by rw [List.take_take, Nat.min_eq_left h]
  rw [← List.append_assoc, e, List.take_append_drop, List.take_append_drop]
theorem fst_put (u : List Nat) {i j : Nat} (h : FstAt (wayR z steps u) i j) (hlet : letR z steps ends u = true) (k : Nat) : putB z steps ends (u.take i) ((u.take j).drop i) (u.drop j) k = true := by
  have hj := h.lj
  have hi := h.lt
  rw [way_len] at hj
  have e := h.eq
  rw [way_at u hj, way_at u (show i < u.length + 1 by omega)] at e
  have e2 := Option.some.inj e
  have e3 : u.take i ++ (u.take j).drop i = u.take j := by
    have : u.take i = (u.take j).take i := by rw [List.take_take, Nat.min_eq_left (by omega)]
    rw [this, List.take_append_drop]
  have e4 : runS z steps (runS z steps 0 (u.take i)) ((u.take j).drop i) = runS z steps 0 (u.take i) := by
    rw [← run_append, e3, e2]
  unfold putB
  rw [run_rep e4, e2, ← run_append, List.take_append_drop]
  exact hlet
theorem own_is_pumped_ok (H : H__law_is_pumped P) (hn : 3 ≤ n) (w : RdAt S m z steps ends) (hp : RdP z.length most steps ends) (hm : most ≤ 100) {a b c : List Nat} (ha : ∀ d ∈ a ++ b ++ c, d ∈ z) (hl : (a ++ b ++ c).length ≤ 60) :
    Ok (callN P n g__law_is_pumped [.loc m, .str (a ++ b ++ c), .tup [.str a, .str b, .str c]] [] S) fun v S' => v = .bl (pumpT z steps ends (a ++ b ++ c) (.tup [.str a, .str b, .str c])) ∧ Gr S S' := by
  rw [call_run (by omega) H.fn rfl rfl rfl]
  have hpos := hp.pos
  have hle := hp.le
  simp at hl
  have ma : ∀ d ∈ a, d ∈ z := fun d hd => ha d (by simp [hd])
  have mb : ∀ d ∈ b, d ∈ z := fun d hd => ha d (by simp [hd])
  have mc : ∀ d ∈ c, d ∈ z := fun d hd => ha d (by simp [hd])
  have hab : ∀ S, binop .add (.str a) (.str b) S = .ok (.str (a ++ b)) S := fun S => add_strs (le_line (by omega))
  have habc : ∀ S, binop .add (.str (a ++ b)) (.str c) S = .ok (.str (a ++ b ++ c)) S := fun S => add_strs (le_line (by rw [List.length_append]; omega))
  have wa : wordB z 60 (.str a) = true := wordB_ok ma (by omega)
  have wb : wordB z 60 (.str b) = true := wordB_ok mb (by omega)
  have wc : wordB z 60 (.str c) = true := wordB_ok mc (by omega)
  simp [f__law_is_pumped, env0, hab, habc]
  by_cases hb : b = []
  · subst hb
    simp [pumpT]
  · have hst : lenV (tupNN steps) S = .ok (.int steps.length) S := by simp [tupNN]
    have ml : binop .mul (.int 2) (.int (steps.length : Nat)) S = .ok (.int (2 * (steps.length : Nat))) S := mul_l (by omega) (by omega)
    have s62 : small62 (2 * (steps.length : Int) + 1) = true := small62_of (by omega) (by omega)
    have tn : (2 * (steps.length : Int) + 1).toNat = 2 * steps.length + 1 := by omega
    simp [hb, w.stepsA, hst, ml]
    refine comp_all (S1 := S) (s := .rng 0 1 (2 * steps.length + 1)) (xs := (List.range (2 * steps.length + 1)).map fun (i : Nat) => Val.int i) (by simp [s62, tn]) (by simp [Src.items]) (le_line (by simp; omega)) (fun x => match x with
      | .int i => putB z steps ends a b c i.toNat
      | _ => false) (fun x hx S' g => ?_) fun S' g => ?_
    · obtain ⟨i, hi, rfl⟩ := List.mem_map.mp hx
      have hi2 := List.mem_range.mp hi
      have hbi : b.length * i ≤ 60 * 200 := Nat.mul_le_mul (by omega) (by omega)
      have hrl : (rep b i).length = b.length * i := by rw [repL_len, Nat.mul_comm]
      have mb2 : binop .mul (.str b) (.int (i : Nat)) S' = .ok (.str (rep b i)) S' := mul_strs (by omega) (by omega) S'
      have a1 : ∀ S, binop .add (.str a) (.str (rep b i)) S = .ok (.str (a ++ rep b i)) S := fun S => add_strs (le_line (by omega))
      have a2 : ∀ S, binop .add (.str (a ++ rep b i)) (.str c) S = .ok (.str (a ++ rep b i ++ c)) S := fun S => add_strs (le_line (by rw [List.length_append]; omega))
      have hd := does_let_ok H.c__law_does_let (n := n - 1) (by omega) (w.gr g) hp (u := a ++ rep b i ++ c) fun d hd => by
        rcases List.mem_append.mp hd with q | q
        · rcases List.mem_append.mp q with q | q
          · exact ma d q
          · exact mb d (rep_mem q)
        · exact mc d q
      simp only [List.append_assoc] at a2 hd
      simp [mb2, a1, a2, hd, putB_let]
    · simp [pumpT, wa, wb, wc, hb]
      refine ⟨?_, g⟩
      unfold pumpB
      rw [Bool.eq_iff_iff]
      simp
      exact fun _ => hb
theorem lot2_ok (H : H__law_lot_v2 P) (hn : 2 ≤ n) {h c : Nat} (hd : Hd h c S) (k : Nat) (hk : k ≤ 100) :
    Ok (callN P n g__law_lot_v2 [.loc h, .int k] [] S) fun v S' => (∃ es : List Nat, v = tupN es ∧ es.Pairwise (· < ·) ∧ ∀ x ∈ es, x < k) ∧ Hd h c S' ∧ But h S S' := by
  rw [call_run (by omega) H.fn rfl rfl rfl]
  simp [f__law_lot_v2, env0]
  refine Ok.bind (comp_draw (S1 := S) (s := .rng 0 1 k) (xs := (List.range k).map fun (i : Nat) => Val.int i) (by simp [small62_nat (show k ≤ 1000000 by omega)]) hd (fun _ _ => by simp [Src.items]) (le_line (by simp; omega)) (fun x r => r = none ∨ r = some x) fun x _ S' hd' b' => ?_) ?_
  · simp
    refine Ok.bind (draw_ok H.c__law_draw (n := n - 1) (by omega) hd' 2 (by omega) (by omega)) fun v S3 ⟨⟨j, hv, _⟩, hd3, b3, _⟩ => ?_
    subst hv
    simp
    by_cases hj : j = 0
    · subst hj
      simp
      exact ⟨hd3, b3⟩
    · simp [hj]
      exact ⟨hd3, b3⟩
  · intro D S3 ⟨hD, ⟨us, g1, g2, g3⟩, hd3, b3⟩
    subst hD
    simp [mk_tuple g3]
    have hends : ∀ (m : Nat) (us : List (Option Val)), us.length = m → (∀ i r, us[i]? = some r → r = none ∨ r = some (Val.int (i : Nat))) → ∃ ends : List Nat, us.filterMap id = ends.map (fun (x : Nat) => Val.int x) ∧ ends.Pairwise (· < ·) ∧ ∀ x ∈ ends, x < m := by
      intro m
      induction m with
      | zero =>
        intro us hu _
        rw [List.length_eq_zero_iff.mp hu]
        exact ⟨[], rfl, .nil, fun _ q => nomatch q⟩
      | succ m ih =>
        intro us hu hr
        obtain ⟨us, u, rfl⟩ : ∃ us' u, us = us' ++ [u] := ⟨us.dropLast, us.getLast (by intro z; rw [z] at hu; cases hu), (List.dropLast_concat_getLast _).symm⟩
        simp at hu
        obtain ⟨ends, h1, h2, h3⟩ := ih us hu fun i r e => hr i r (by rw [List.getElem?_append_left (List.getElem?_eq_some_iff.mp e).1]; exact e)
        rcases hr m u (by rw [List.getElem?_append_right (by omega)]; simp [hu]) with rfl | rfl
        · exact ⟨ends, by simp [h1], h2, fun x q => Nat.lt_succ_of_lt (h3 x q)⟩
        · refine ⟨ends ++ [m], by simp [h1], List.pairwise_append.mpr ⟨h2, List.pairwise_singleton _ _, fun a ha b hb => ?_⟩, fun x q => ?_⟩
          · rw [List.mem_singleton.mp hb]; exact h3 a ha
          · rcases List.mem_append.mp q with q | q
            · exact Nat.lt_succ_of_lt (h3 x q)
            · rw [List.mem_singleton.mp q]; exact Nat.lt_succ_self _
    have hul : us.length = k := by simpa using g1
    obtain ⟨es, e1, e2, e3⟩ := hends k us hul fun i r hr => by
      have hi := (List.getElem?_eq_some_iff.mp hr).1
      have := g2 i (.int (i : Nat)) r (by rw [List.getElem?_map, List.getElem?_range (by omega)]; simp) hr
      exact this
    exact ⟨⟨es, by rw [e1]; rfl, e2, e3⟩, hd3, b3⟩
theorem rows2_ok (H : H__law_rows_v2 P) (hn : 2 ≤ n) {h c : Nat} (hd : Hd h c S) (k w : Nat) (hk0 : 0 < k) (hk : k ≤ 100) (hw : w ≤ 100) :
    Ok (callN P n g__law_rows_v2 [.loc h, .int k, .int w] [] S) fun v S' => (∃ rows : List (List Nat), v = tupNN rows ∧ rows.length = k ∧ ∀ row ∈ rows, row.length = w ∧ ∀ x ∈ row, x < k) ∧ Hd h c S' ∧ But h S S' := by
  rw [call_run (by omega) H.fn rfl rfl rfl]
  simp [f__law_rows_v2, env0]
  refine Ok.bind (comp_drawP (S1 := S) (s := .rng 0 1 k) (xs := (List.range k).map fun (i : Nat) => Val.int i) (by simp [small62_nat (show k ≤ 1000000 by omega)]) hd (fun S' _ => by simp [Src.items]) (le_line (by simp; omega)) (fun v => ∃ r : List Nat, v = tupN r ∧ r.length = w ∧ ∀ x ∈ r, x < k) fun x hx S' hd' b' => ?_) ?_
  · obtain ⟨i, _, rfl⟩ := List.mem_map.mp hx
    simp
    refine Ok.bind (comp_drawP (S1 := S') (s := .rng 0 1 w) (xs := (List.range w).map fun (i : Nat) => Val.int i) (by simp [small62_nat (show w ≤ 1000000 by omega)]) hd' (fun S' _ => by simp [Src.items]) (le_line (by simp; omega)) (fun v => ∃ i : Nat, v = .int i ∧ i < k) fun x hx S2 hd2 b2 => ?_) ?_
    · obtain ⟨i, _, rfl⟩ := List.mem_map.mp hx
      simp
      refine Ok.bind (draw_ok H.c__law_draw (n := n - 1) (by omega) hd2 k hk0 (by omega)) ?_
      rintro v S3 ⟨⟨d, rfl, hd3⟩, hd4, b4, _⟩
      simp
      exact ⟨⟨d, rfl, hd3⟩, hd4, b4⟩
    · rintro D S3 ⟨rfl, ⟨rs, r1, r2, r3⟩, hd3, b3⟩
      obtain ⟨us, rfl, hu⟩ := nums_of r2
      rw [mk_tuple r3]
      simp at r1 ⊢
      exact ⟨⟨us, rfl, r1, hu⟩, hd3, b3⟩
  · rintro D S3 ⟨rfl, ⟨rs, r1, r2, r3⟩, hd3, b3⟩
    obtain ⟨us, rfl, hu⟩ := shapes_of r2
    rw [mk_tuple r3]
    simp at r1 ⊢
    exact ⟨⟨us, rfl, r1, hu⟩, hd3, b3⟩
theorem reader5_ok (H : H__law_reader_v5 P) (hn : 5 ≤ n) {h c : Nat} (hd : Hd h c S) (hz : isLet z = true) (most : Nat) (h0 : 0 < most) (hm : most ≤ 12) :
    Ok (callN P n g__law_reader_v5 [.loc h, .str z, .int most] [] S) fun v S' => (∃ m steps ends, v = .loc m ∧ S.length ≤ m ∧ RdAt S' m z steps ends ∧ RdP z.length most steps ends) ∧ Hd h c S' ∧ But h S S' := by
  have hz3 := isLet_len hz
  rw [call_run (by omega) H.fn rfl rfl rfl]
  obtain ⟨v, S1, e, ⟨d, rfl, hd2⟩, hd1, b1, len1⟩ := draw_ok H.c__law_draw (n := n - 1) (by omega) hd most h0 (by omega)
  have hmany : ((1 : Int) + d) = ((d + 1 : Nat) : Int) := by omega
  simp [f__law_reader_v5, env0, e]
  rw [hmany]
  refine Ok.bind (rows2_ok H.c__law_rows (n := n - 1) (by omega) hd1 (d + 1) z.length (by omega) (by omega) (by omega)) ?_
  rintro v S2 ⟨⟨rows, rfl, r1, r2⟩, hd2, b2⟩
  try simp
  have l2 := lot2_ok (S := S2) H.c__law_lot (n := n - 1) (by omega) hd2 (d + 1) (by omega)
  simp at l2
  refine Ok.bind l2 ?_
  rintro v S3 ⟨⟨es, rfl, e1, e2⟩, hd3, b3⟩
  have hp : RdP z.length most rows es := ⟨by omega, by omega, fun row hr => ⟨(r2 row hr).1, fun x hx => by rw [r1]; exact (r2 row hr).2 x hx⟩, e1, fun x hx => by rw [r1]; have := e2 x hx; omega⟩
  try simp
  refine Ok.bind (newR_ok H.k_Reader (n := n - 1) (by omega) hz hp hm) ?_
  rintro v S4 ⟨rfl, w4, g4⟩
  simp
  exact ⟨⟨by have := b1.1; have := b2.1; have := b3.1; omega, rows, es, w4, hp⟩, hd3.gr g4, b1.trans (b2.trans (b3.trans (.of_gr g4)))⟩
end
end Pyd
set_option linter.all false
set_option maxHeartbeats 4000000
set_option maxRecDepth 100000
namespace Pyd
variable {P : Prog} {n : Nat} {S : Store}
section
variable {m : Nat} {z : List Nat} {steps : List (List Nat)} {ends : List Nat} {most : Nat}
theorem isLet_asc {u : List Nat} (hz : isLet z = true) (hu : ∀ c ∈ u, c ∈ z) : u.all (· < 128) = true := by
  have h := isLet_ascii hz
  rw [List.all_eq_true] at h ⊢
  exact fun c hc => h c (hu c hc)
theorem parts_toD (u : List Nat) (i j k : Nat) (S : Store) : toD (k + 2) S (partsOf u i j) = some (.tup [.str (u.take i), .str ((u.take j).drop i), .str (u.drop j)]) := rfl
theorem fstV_toD (hz : isLet z = true) {u : List Nat} (hu : ∀ c ∈ u, c ∈ z) (hl : u.length ≤ 60) {v : Val} {ws : List Nat} (h : FstV u ws v) (S : Store) : ∃ d, toD 50 S v = some d ∧ d.mild = true ∧ d.sz ≤ 10000000 := by
  rcases h with ⟨i, j, h, rfl⟩ | ⟨rfl, h⟩
  · refine ⟨_, parts_toD u i j 48 S, ?_, ?_⟩
    · obtain ⟨h1, h2⟩ := tup_mild (ds := [.str (u.take i), .str ((u.take j).drop i), .str (u.drop j)]) (b := 602) fun d hd => by
        have key : ∀ w : List Nat, w.length ≤ 60 → (∀ c ∈ w, c ∈ u) → (Dt.str w).mild = true ∧ (Dt.str w).sz ≤ 602 := fun w hw hc => ⟨isLet_asc hz fun c q => hu c (hc c q), by show 10 * w.length + 2 ≤ 602; omega⟩
        simp only [List.mem_cons, List.not_mem_nil, or_false] at hd
        rcases hd with rfl | rfl | rfl
        · exact key _ (by rw [List.length_take]; omega) fun c hc => List.mem_of_mem_take hc
        · exact key _ (by rw [List.length_drop, List.length_take]; omega) fun c hc => List.mem_of_mem_take (List.mem_of_mem_drop hc)
        · exact key _ (by rw [List.length_drop]; omega) fun c hc => List.mem_of_mem_drop hc
      exact h1
    · show Dt.szs [.str (u.take i), .str ((u.take j).drop i), .str (u.drop j)] + 3 ≤ 10000000
      have e1 : (u.take i).length ≤ 60 := by rw [List.length_take]; omega
      have e2 : ((u.take j).drop i).length ≤ 60 := by rw [List.length_drop, List.length_take]; omega
      have e3 : (u.drop j).length ≤ 60 := by rw [List.length_drop]; omega
      show 10 * (u.take i).length + 2 + 2 + (10 * ((u.take j).drop i).length + 2 + 2 + (10 * (u.drop j).length + 2 + 2 + 0)) + 3 ≤ 10000000
      omega
  · exact ⟨.non, rfl, rfl, by decide⟩
theorem word_tail (H : H__law_word_right P) (hn : 5 ≤ n) {h c : Nat} {S : Store} (hd : Hd h c S) (hmh : m ≠ h) (w : RdAt S m z steps ends) (hz : isLet z = true) (hp : RdP z.length most steps ends) (hm : most ≤ 100) {u : List Nat} (hu : ∀ c ∈ u, c ∈ z) (hl : u.length ≤ 58) (o3 o4 o5 o6 o7 o8 o9 o10 o11 : Option Val) :
    Wp (exSs P f__law_word_right.body.tl.tl (callN P (n - 1)) [some (.loc h), some (.loc m), some (.str u), o3, o4, o5, o6, o7, o8, o9, o10, o11] S) (fun fl S' => fl = .rt (.bl true) ∧ Hd h c S' ∧ But h S S') fun _ _ _ => False := by
  have s8 : small62 8 = true := small62_of (by omega) (by omega)
  simp [f__law_word_right, Sts.tl, s8]
  refine for_then (s := .rng 0 1 8) (xs := (List.range 8).map fun (i : Nat) => Val.int i) (fun i env' S' => (∃ o7 o8 o9 o10, env' = [some (.loc h), some (.loc m), some (.str u), o3, o4, o5, o6, o7, o8, o9, o10, o11]) ∧ Hd h c S' ∧ But h S S') (fun _ _ => False) ⟨⟨_, _, _, _, rfl⟩, hd, .refl _ _⟩ (fun i e S' h => by simp [Src.items]) (fun i x e S' hx h => ?_) fun e S' h => ?_
  · obtain ⟨⟨o7, o8, o9, o10, rfl⟩, hd', b'⟩ := h
    simp
    have dr := draw_ok H.c__law_draw (n := n - 1) (by omega) hd' (u.length + 1) (by omega) (by omega)
    simp at dr
    refine Wp.bindO dr ?_
    rintro v S1 ⟨⟨d, rfl, hd1⟩, hd2, b1, _⟩
    simp
    have hcast : (u.length : Int) - d + 1 = ((u.length - d + 1 : Nat) : Int) := by omega
    have dr2 := draw_ok H.c__law_draw (n := n - 1) (by omega) hd2 (u.length - d + 1) (by omega) (by omega)
    rw [← hcast] at dr2
    refine Wp.bindO dr2 ?_
    rintro v S2 ⟨⟨e, rfl, he1⟩, hd3, b2, _⟩
    have hcast2 : (d : Int) + e = ((d + e : Nat) : Int) := by omega
    simp
    rw [hcast2, cut_take, cut_both, cut_drop]
    have h3 := cut3 u (show d ≤ d + e by omega)
    have h3' : u.take d ++ (u.take (d + e)).drop d ++ u.drop (d + e) = u := by rw [List.append_assoc]; exact h3
    have w2 := (w.but b' hmh).but (b1.trans b2) hmh
    have own := fun T (w2 : RdAt T m z steps ends) => own_is_pumped_ok H.c__law_is_pumped (n := n - 1) (by omega) w2 hp hm (a := u.take d) (b := (u.take (d + e)).drop d) (c := u.drop (d + e)) (by rw [h3']; exact hu) (by rw [h3']; omega)
    rw [h3'] at own
    refine Wp.bindO (is_pumped_ok H.c_is_pumped (n := n - 1) (by omega) w2 hp hm hu (by omega) (t := .tup [.str (u.take d), .str ((u.take (d + e)).drop d), .str (u.drop (d + e))]) (.tup _ fun x hx => by
      simp only [List.mem_cons, List.not_mem_nil, or_false] at hx
      rcases hx with rfl | rfl | rfl <;> exact .str _)) ?_
    rintro v S3 ⟨rfl, g3⟩
    refine Wp.bindO (own S3 (w2.gr g3)) ?_
    rintro v S4 ⟨rfl, g4⟩
    simp
    exact ⟨hd3.gr (g3.trans g4), b'.trans (b1.trans (b2.trans (.of_gr (g3.trans g4))))⟩
  · rcases h with ⟨⟨o7, o8, o9, o10, rfl⟩, hd', b'⟩ | h
    · have hlt := hd'.lt
      simp
      refine Wp.bindO (some_lst H.c__law_some (n := n - 1) (by omega) (hd'.gr ⟨_, rfl⟩) (l := S'.length + 1) (by simp; rfl) (by omega) (by simp) (by simp)) ?_
      rintro t S1 ⟨ht, hd1, b1, _⟩
      have bb : But h S' S1 := (But.of_gr ⟨_, rfl⟩).trans b1
      have w1 := (w.but b' hmh).but bb hmh
      have q1 : Thr S1 (.loc S'.length) := thr_lst (xs := [.str [], .str u, .str []]) (b1.at (by simp) (by omega))
      have hT : Thr S1 t ∧ pumpT z steps ends u t = false := by
        have t3 : ∀ a b c : List Nat, Thr S1 (.tup [.str a, .str b, .str c]) := fun a b c => .tup _ fun x hx => by
          simp only [List.mem_cons, List.not_mem_nil, or_false] at hx
          rcases hx with rfl | rfl | rfl <;> exact .str _
        simp at ht
        rcases ht with rfl | rfl | rfl | rfl | rfl | rfl | rfl | rfl
        · exact ⟨.non, rfl⟩
        · exact ⟨.tup _ (fun x hx => nomatch hx), rfl⟩
        · exact ⟨t3 _ _ _, by simp [pumpT]⟩
        · exact ⟨.tup _ fun x hx => by
            simp only [List.mem_cons, List.not_mem_nil, or_false] at hx
            rcases hx with rfl | rfl <;> exact .str _, rfl⟩
        · exact ⟨q1, rfl⟩
        · exact ⟨.tup _ fun x hx => by
            simp only [List.mem_cons, List.not_mem_nil, or_false] at hx
            rcases hx with rfl | rfl | rfl | rfl <;> exact .str _, rfl⟩
        · exact ⟨t3 _ _ _, by simp [pumpT]⟩
        · exact ⟨.int _, rfl⟩
      refine Wp.bindO (is_pumped_ok H.c_is_pumped (n := n - 1) (by omega) w1 hp hm hu (by omega) hT.1) ?_
      rintro v S2 ⟨rfl, g2⟩
      rw [hT.2]
      simp
      exact ⟨hd1.gr g2, b'.trans (bb.trans (.of_gr g2))⟩
    · exact h.elim
theorem word_right_ok (H : H__law_word_right P) (hrp : RpOk P) (hn : 7 ≤ n) {h c : Nat} {S : Store} (hd : Hd h c S) (hmh : m ≠ h) (w : RdAt S m z steps ends) (hz : isLet z = true) (hp : RdP z.length most steps ends) (hm : most ≤ 100) {u : List Nat} (hu : ∀ c ∈ u, c ∈ z) (hl : u.length ≤ 7) :
    Ok (callN P n g__law_word_right [.loc h, .loc m, .str u] [] S) fun v S' => v = .bl true ∧ Hd h c S' ∧ But h S S' := by
  rw [call_runC (by omega) H.fn rfl rfl, if_neg (by decide)]
  refine ok_dropR (Q := fun v S' => v = .bl true ∧ Hd h c S' ∧ But h S S') ?_ fun v S' ⟨h1, h2, h3⟩ => ⟨h1, hd_rest hd h2, but_rest h3⟩
  refine Wp.ok (Wp.fin ?_)
  have e0 : f__law_word_right.body = .cons f__law_word_right.body.hd (.cons f__law_word_right.body.tl.hd f__law_word_right.body.tl.tl) := rfl
  have tail : ∀ {S' : Store}, Hd h c S' → But h S S' → ∀ o3 o4 o5 o6 o7 o8 o9 o10 o11, Wp (exSs P f__law_word_right.body.tl.tl (callN P (n - 1)) [some (.loc h), some (.loc m), some (.str u), o3, o4, o5, o6, o7, o8, o9, o10, o11] S') (fun fl S'' => match fl with
    | .rt v => v = .bl true ∧ Hd h c S'' ∧ But h S S''
    | .nx _ => False
    | _ => False) fun _ _ _ => False := fun {S'} hd' b' o3 o4 o5 o6 o7 o8 o9 o10 o11 =>
    (word_tail H (by omega) hd' hmh (w.but b' hmh) hz hp hm hu (by omega) o3 o4 o5 o6 o7 o8 o9 o10 o11).mono (fun fl S'' ⟨h1, h2, h3⟩ => by subst h1; exact ⟨rfl, h2, b'.trans h3⟩) fun _ _ _ h => h
  rw [e0]
  generalize f__law_word_right.body.tl.tl = T at tail ⊢
  have dl := does_let_ok H.c__law_does_let (n := n - 1) (by omega) w hp hu
  cases hlet : letR z steps ends u with
  | false =>
    simp [f__law_word_right, Sts.hd, Sts.tl, env0, dl, hlet]
    refine Wp.bindO (err_new H.c__law_error (n := n - 1) (by omega) (c := c_NotLet) (fs := []) (F := f__law_word_right_l1) H.l__law_word_right_l1 rfl rfl rfl ?_ H.k_NotLet.cl rfl) ?_
    · simp [f__law_word_right_l1, env0]
      have g0 : Gr S (S ++ [.clo g__law_word_right_l1 [.loc m, .str u]]) := ⟨_, rfl⟩
      exact Wp.bind (pumped_not H.c_pumped (n := n - 1 - 1 - 1) (by omega) (w.gr g0) hp hu (by omega) hlet) (fun v S' h => h.elim) fun c fs S' h => h
    · rintro v S1 ⟨D, rfl, hD, g1⟩
      have kd : kindV (.loc D) S1 = .ok (.exc c_NotLet) S1 := kind_loc hD
      have ki : isaK P (.exc c_NotLet) (.cls c_NotLet) = some true := by simp [isaK, H.k_NotLet.cl, k_NotLet]
      simp [kd, ki]
      exact tail (hd.gr g1) (.of_gr g1) _ _ _ _ _ _ _ _ _
  | true =>
    simp [f__law_word_right, Sts.hd, Sts.tl, env0, dl, hlet]
    refine Wp.bindO (pumped_ok H.c_pumped (n := n - 1) (by omega) w hp hu (by omega) hlet) ?_
    rintro v S1 ⟨hv, g1⟩
    try simp
    refine Wp.bindO (own_pumped_ok H.c__law_pumped (n := n - 1) (by omega) (w.gr g1) hp hu (by omega)) ?_
    rintro v2 S2 ⟨hv2, g2⟩
    obtain rfl := hv.one hv2
    have g12 := g1.trans g2
    obtain ⟨d, td, md, sd⟩ := fstV_toD hz hu (by omega) hv S2
    have lis := law_is_ok H.c__law_is hrp (n := n - 1) (by omega) td td md sd
    have w2 := w.gr g12
    simp [lis]
    rcases hv with ⟨i, j, hf, rfl⟩ | ⟨rfl, hno⟩
    · have isn : isV (partsOf u i j) .non S2 = .ok false S2 := rfl
      have hj := hf.lj
      have hi := hf.lt
      rw [way_len] at hj
      simp [isn]
      have hpt : pumpT z steps ends u (partsOf u i j) = true := by
        have wa : wordB z 60 (.str (u.take i)) = true := wordB_ok (fun c hc => hu c (List.mem_of_mem_take hc)) (by rw [List.length_take]; omega)
        have wb : wordB z 60 (.str ((u.take j).drop i)) = true := wordB_ok (fun c hc => hu c (List.mem_of_mem_take (List.mem_of_mem_drop hc))) (by rw [List.length_drop, List.length_take]; omega)
        have wc : wordB z 60 (.str (u.drop j)) = true := wordB_ok (fun c hc => hu c (List.mem_of_mem_drop hc)) (by rw [List.length_drop]; omega)
        have hne : (u.take j).drop i ≠ [] := fun q => by
          have := congrArg List.length q
          simp at this
          omega
        have hall : pumpB z steps ends (u.take i) ((u.take j).drop i) (u.drop j) = true := List.all_eq_true.mpr fun k _ => fst_put u hf hlet k
        show (wordB z 60 (.str (u.take i)) && wordB z 60 (.str ((u.take j).drop i)) && wordB z 60 (.str (u.drop j)) && (u.take i ++ (u.take j).drop i ++ u.drop j == u) && !((u.take j).drop i).isEmpty && pumpB z steps ends (u.take i) ((u.take j).drop i) (u.drop j)) = true
        rw [wa, wb, wc, hall, List.append_assoc, cut3 u (by omega)]
        simp
        simpa using hne
      refine Wp.bindO (is_pumped_ok H.c_is_pumped (n := n - 1) (by omega) w2 hp hm hu (by omega) (t := partsOf u i j) (.tup _ fun x hx => by
        simp only [List.mem_cons, List.not_mem_nil, or_false] at hx
        rcases hx with rfl | rfl | rfl <;> exact .str _)) ?_
      rintro v S3 ⟨rfl, g3⟩
      rw [hpt]
      simp
      refine Wp.bindO (draw_ok H.c__law_draw (n := n - 1) (by omega) (hd.gr (g12.trans g3)) 9 (by omega) (by omega)) ?_
      intro v S4 hS4
      obtain ⟨⟨k, hk0, hk⟩, hd4, b4, _⟩ := hS4
      subst hk0
      have b04 : But h S S4 := (But.of_gr (g12.trans g3)).trans b4
      have w4 := w.but b04 hmh
      have x0 : ∀ S, ixV (partsOf u i j) (.int 0) S = .ok (.str (u.take i)) S := fun S => rfl
      have x1 : ∀ S, ixV (partsOf u i j) (.int 1) S = .ok (.str ((u.take j).drop i)) S := fun S => rfl
      have x2 : ∀ S, ixV (partsOf u i j) (.int 2) S = .ok (.str (u.drop j)) S := fun S => rfl
      have la : (u.take i).length ≤ 7 := by rw [List.length_take]; omega
      have lb : ((u.take j).drop i).length ≤ 7 := by rw [List.length_drop, List.length_take]; omega
      have lc : (u.drop j).length ≤ 7 := by rw [List.length_drop]; omega
      have lsum : (u.take i).length + ((u.take j).drop i).length + (u.drop j).length = u.length := by
        have := congrArg List.length (cut3 u (show i ≤ j by omega))
        simp only [List.length_append] at this
        omega
      have lk : ((u.take j).drop i).length * k ≤ ((u.take j).drop i).length * 8 := Nat.mul_le_mul_left _ (by omega)
      have mm : ∀ S, binop .mul (.str ((u.take j).drop i)) (.int (k : Nat)) S = .ok (.str (rep ((u.take j).drop i) k)) S := fun S => mul_strs (by omega) (by omega) S
      have lr : (rep ((u.take j).drop i) k).length ≤ ((u.take j).drop i).length * 8 := by rw [repL_len, Nat.mul_comm]; exact lk
      have a1 : ∀ S, binop .add (.str (u.take i)) (.str (rep ((u.take j).drop i) k)) S = .ok (.str (u.take i ++ rep ((u.take j).drop i) k)) S := fun S => add_strs (le_line (by omega))
      have a2 : ∀ S, binop .add (.str (u.take i ++ rep ((u.take j).drop i) k)) (.str (u.drop j)) S = .ok (.str (u.take i ++ rep ((u.take j).drop i) k ++ u.drop j)) S := fun S => add_strs (le_line (by rw [List.length_append]; omega))
      simp [x0, x1, x2, mm, a1, a2]
      have hin : ∀ d ∈ u.take i ++ rep ((u.take j).drop i) k ++ u.drop j, d ∈ z := fun d hd => by
        rcases List.mem_append.mp hd with q | q
        · rcases List.mem_append.mp q with q | q
          · exact hu d (List.mem_of_mem_take q)
          · exact hu d (List.mem_of_mem_take (List.mem_of_mem_drop (rep_mem q)))
        · exact hu d (List.mem_of_mem_drop q)
      have hlr : letR z steps ends (u.take i ++ rep ((u.take j).drop i) k ++ u.drop j) = true := by
        rw [← putB_let]
        exact fst_put u hf hlet k
      have ls := lets_ok H.c_lets (n := n - 1) (by omega) w4 hp hin (by simp only [List.length_append]; omega)
      rw [hlr] at ls
      simp only [List.append_assoc] at ls
      refine Wp.bindO ls ?_
      rintro v S5 ⟨rfl, g5⟩
      simp
      exact tail (hd4.gr g5) (b04.trans (.of_gr g5)) _ _ _ _ _ _ _ _ _
    · have hlt := fst_none hp hu hno
      have hst : lenV (tupNN steps) S2 = .ok (.int steps.length) S2 := by simp [tupNN]
      have hlt2 : (u.length : Int) < steps.length := by omega
      simp [w2.stepsA, hst, hlt2]
      exact tail (hd.gr g12) (.of_gr g12) _ _ _ _ _ _ _ _ _
end
end Pyd
set_option linter.all false
set_option maxHeartbeats 4000000
set_option maxRecDepth 100000
namespace Pyd
variable {P : Prog} {n : Nat} {S : Store}
def badWord (x : Val) : Prop := x = .non ∨ x = .int 1 ∨ x = .str [100] ∨ x = .tup [.str [97]] ∨ x = .str [65] ∨ (∃ m, x = .loc m) ∨ x = .str (rep [97] 61)
theorem bad_word {z : List Nat} (hz : isLet z = true) {x : Val} (h : badWord x) : wordB z 60 x = false := by
  have hzm : ∀ x ∈ z, x = 97 ∨ x = 98 ∨ x = 99 := fun x hx => by
    unfold isLet at hz
    simp at hz
    rcases hz with (hz | hz) | hz <;> subst hz <;> simp at hx <;> omega
  have h100 : z.contains 100 = false := by
    rw [Bool.eq_false_iff]
    intro hx
    have := hzm 100 (by simpa using hx)
    omega
  have h65 : z.contains 65 = false := by
    rw [Bool.eq_false_iff]
    intro hx
    have := hzm 65 (by simpa using hx)
    omega
  rcases h with rfl | rfl | rfl | rfl | rfl | ⟨m, rfl⟩ | rfl
  · rfl
  · rfl
  · show (true && (z.contains 100 && true)) = false
    rw [h100]; rfl
  · rfl
  · show (true && (z.contains 65 && true)) = false
    rw [h65]; rfl
  · rfl
  · show (decide ((rep [97] 61).length ≤ 60) && (rep [97] 61).all fun c => z.contains c) = false
    rw [show decide ((rep [97] 61).length ≤ 60) = false from by decide]; rfl
theorem RdAt.bt {h m : Nat} {S S' : Store} {z : List Nat} {steps : List (List Nat)} {ends : List Nat} (w : RdAt S m z steps ends) (x : Bt h S S') (hm : m ≠ h) : RdAt S' m z steps ends := ⟨x.at w.at_ hm rfl⟩
theorem right_v7_ok (H : H__law_right_v7 P) (hrp : RpOk P) (hn : 9 ≤ n) {h c : Nat} (hd : Hd h c S) :
    Ok (callN P n g__law_right_v7 [.loc h] [] S) fun v S' => v = .bl true ∧ Hd h c S' ∧ But h S S' := by
  rw [call_runC (by omega) H.fn rfl rfl, if_neg (by decide)]
  refine ok_dropR (Q := fun v S' => v = .bl true ∧ Hd h c S' ∧ Bt h S S') ?_ fun v S' ⟨h1, h2, h3⟩ => ⟨h1, hd_rest hd h2, h3.rest⟩
  refine Wp.ok ?_
  simp [f__law_right_v7, env0]
  refine Wp.bindO (letters_ok H.c__law_letters (n := n - 1) (by omega) hd) ?_
  rintro v S1 ⟨⟨z, rfl, hz⟩, hd1, b1⟩
  try simp
  refine Wp.bindO (reader5_ok H.c__law_reader (n := n - 1) (by omega) hd1 hz 4 (by omega) (by omega)) ?_
  rintro v S2 ⟨⟨m, steps, ends, rfl, hml, w2, hp⟩, hd2, b2⟩
  have hmh : m ≠ h := by have := hd1.lt; omega
  have b02 : Bt h S S2 := .of (b1.trans b2)
  have s5 : small62 5 = true := small62_of (by omega) (by omega)
  have s3 : small62 3 = true := small62_of (by omega) (by omega)
  try simp [s5]
  have hd2d := hd2.drop
  have w2d : RdAt (dropC S2) m z steps ends := w2.bt (.drop h S2) hmh
  refine Wp.bindO (comp_drawP (S1 := dropC S2) (s := .rng 0 1 5) (xs := (List.range 5).map fun (i : Nat) => Val.int i) (by simp [s5]) hd2d (fun S' _ => by simp [Src.items]) (le_line (by simp)) (WdV z 7) fun x hx S' hd' b' => ?_) ?_
  · obtain ⟨i, _, rfl⟩ := List.mem_map.mp hx
    simp [(w2d.but b' hmh).letters]
    refine Ok.bind (word14_ok H.c__law_word (n := n - 1) (by omega) hd' hz 7 (by omega)) ?_
    rintro v S3 ⟨hv, hd3, b3⟩
    simp
    exact ⟨hv, hd3, b3⟩
  rintro D S3 ⟨rfl, ⟨rs, r1, r2, r3⟩, hd3, b3⟩
  simp at r1
  rw [dropC_len] at r3
  have hlt3 := (List.getElem?_eq_some_iff.mp r3).1
  have r3' : (S3 ++ [Ob.lst [.str []]])[S2.length]? = some (.lst rs) := by rw [List.getElem?_append_left hlt3]; exact r3
  simp [dropC_len, add_loc, r3', r1]
  have g34 : Gr S3 (S3 ++ [Ob.lst [Val.str []], Ob.lst (rs ++ [Val.str []])]) := ⟨_, rfl⟩
  have hW : (S3 ++ [Ob.lst [Val.str []], Ob.lst (rs ++ [Val.str []])])[S3.length + 1]? = some (.lst (rs ++ [.str []])) := by simp
  have b04 : Bt h S (S3 ++ [Ob.lst [Val.str []], Ob.lst (rs ++ [Val.str []])]) := b02.trans ((Bt.drop h S2).trans ((Bt.of b3).trans (.of (.of_gr g34))))
  have hd4 := hd3.gr g34
  have w4 : RdAt (S3 ++ [Ob.lst [Val.str []], Ob.lst (rs ++ [Val.str []])]) m z steps ends := (w2d.but b3 hmh).gr g34
  have lt4 : S3.length + 1 < (S3 ++ [Ob.lst [Val.str []], Ob.lst (rs ++ [Val.str []])]).length := by simp
  have hS3 : h < S3.length := hd3.lt.1
  generalize S3 ++ [Ob.lst [Val.str []], Ob.lst (rs ++ [Val.str []])] = S4 at hW b04 hd4 w4 lt4 ⊢
  have hWd : (dropC S4)[S3.length + 1]? = some (.lst (rs ++ [.str []])) := drop_at hW rfl
  have w4d : RdAt (dropC S4) m z steps ends := w4.bt (.drop h S4) hmh
  have hall : ∀ v ∈ rs ++ [Val.str []], WdV z 7 v := fun v hv => by
    rcases List.mem_append.mp hv with q | q
    · exact r2 v q
    · rw [List.mem_singleton.mp q]; exact ⟨[], rfl, by simp, fun c hc => nomatch hc⟩
  refine Wp.bindO (comp_drawP (S1 := dropC S4) (s := .one (.lst (S3.length + 1))) (xs := rs ++ [.str []]) (by simp [sbOf_lst hWd]) hd4.drop (fun S' b' => by
    have := b'.at hWd (by omega)
    simp [Src.items, Sb.items, this]) (le_line (by simp; omega)) (fun v => v = .bl true) fun x hx S' hd' b' => ?_) ?_
  · obtain ⟨u, rfl, hu1, hu2⟩ := hall x hx
    simp
    refine Ok.bind (word_right_ok H.c__law_word_right hrp (n := n - 1) (by omega) hd' hmh (w4d.but b' hmh) hz hp (by omega) hu2 hu1) ?_
    rintro v S5 ⟨rfl, hd5, b5⟩
    simp
    exact ⟨hd5, b5⟩
  rintro D S5 ⟨rfl, ⟨rs2, q1, q2, q3⟩, hd5, b5⟩
  have b05 : Bt h S S5 := b04.trans ((Bt.drop h S4).trans (.of b5))
  have w5 : RdAt S5 m z steps ends := w4d.but b5 hmh
  have m61 : ∀ S, binop .mul (.str [97]) (.int 61) S = .ok (.str (rep [97] 61)) S := fun S => mul_strs (j := 61) (by decide) (by decide) S
  rw [all_true q3 q2]
  simp [m61]
  have hlt5 := hd5.lt
  refine Wp.bindO (some_lst H.c__law_some (n := n - 1) (by omega) (hd5.gr ⟨_, rfl⟩) (l := S5.length + 2) (by simp; rfl) (by omega) (by simp) (by simp)) ?_
  rintro x S6 ⟨hx, hd6, b6, _⟩
  have bb : But h S5 S6 := (But.of_gr ⟨_, rfl⟩).trans b6
  have tl : Thr S6 (.loc S5.length) := thr_lst (xs := [.str [97]]) (b6.at (by simp) (by omega))
  have td : Thr S6 (.loc (S5.length + 1)) := thr_dic (lk := false) (kvs := []) (b6.at (by simp) (by omega))
  have w6 := w5.but bb hmh
  have hxx : Thr S6 x ∧ badWord x := by
    simp at hx
    unfold badWord
    rcases hx with rfl | rfl | rfl | rfl | rfl | rfl | rfl | rfl
    · exact ⟨.non, by simp⟩
    · exact ⟨.int _, by simp⟩
    · exact ⟨.str _, by simp⟩
    · exact ⟨.tup _ fun x hx => by rw [List.mem_singleton.mp hx]; exact .str _, by simp⟩
    · exact ⟨.str _, by simp⟩
    · exact ⟨tl, by simp⟩
    · exact ⟨td, by simp⟩
    · exact ⟨.str _, by simp⟩
  clear hx tl td b6
  obtain ⟨hxt, hxb⟩ := hxx
  have hxw := bad_word hz hxb
  have ki : isaK P (.exc c_NoWord) (.cls c_NoWord) = some true := by simp [isaK, H.k_NoWord.cl, k_NoWord]
  try simp
  refine Wp.bindO (err_new H.c__law_error (n := n - 1) (by omega) (c := c_NoWord) (fs := []) (F := f__law_right_v7_l2) H.l__law_right_v7_l2 rfl rfl rfl ?_ H.k_NoWord.cl rfl) ?_
  · simp [f__law_right_v7_l2, env0]
    have g0 : Gr S6 (S6 ++ [.clo g__law_right_v7_l2 [x, .loc m]]) := ⟨_, rfl⟩
    exact Wp.bind (pumped_no H.c_pumped (n := n - 1 - 1 - 1) (by omega) (w6.gr g0) (hxt.gr g0) hxw) (fun v S' h => h.elim) fun c fs S' h => h
  rintro v S7 ⟨D, rfl, hD, g7⟩
  have kd : kindV (.loc D) S7 = .ok (.exc c_NoWord) S7 := kind_loc hD
  simp [kd, ki]
  refine Wp.bindO (err_new H.c__law_error (n := n - 1) (by omega) (c := c_NoWord) (fs := []) (F := f__law_right_v7_l1) H.l__law_right_v7_l1 rfl rfl rfl ?_ H.k_NoWord.cl rfl) ?_
  · simp [f__law_right_v7_l1, env0]
    have g0 : Gr S6 (S7 ++ [.clo g__law_right_v7_l1 [x, .loc m]]) := g7.trans ⟨_, rfl⟩
    exact Wp.bind (is_pumped_no H.c_is_pumped (n := n - 1 - 1 - 1) (by omega) (w6.gr g0) (hxt.gr g0) hxw) (fun v S' h => h.elim) fun c fs S' h => h
  rintro v S8 ⟨D2, rfl, hD2, g8⟩
  have kd : kindV (.loc D2) S8 = .ok (.exc c_NoWord) S8 := kind_loc hD2
  simp [kd, ki]
  exact ⟨hd6.gr (g7.trans g8), b05.trans (.of (bb.trans (.of_gr (g7.trans g8))))⟩
theorem even_rd : RdP [97, 98].length 2 [[1, 0], [0, 1]] [0] := ⟨by decide, by decide, by decide, by decide, by decide⟩
theorem law_k36_ok (H : H_law_k36 P) (hrp : RpOk P) (ns : List Int) : Ok (callN P 60 g_law_k36 [.loc 0] [] [.rol (ns.map Val.int)]) fun v _ => v = .bl true := by
  rw [call_run (by omega) H.fn rfl rfl rfl]
  obtain ⟨v, S0, e0, ⟨h, c, rfl, hd0, _⟩, g0⟩ := handF_ok (a := 277) (b := 79) (by omega) (by omega) (by omega) H.c__law_hand.fn (n := 59) (by omega) (S := [.rol (ns.map Val.int)]) (ns := ns) rfl
  simp [f_law_k36, env0, e0]
  refine Ok.bind (comp_drawP (S1 := S0) (s := .rng 0 1 3) (xs := (List.range 3).map fun (i : Nat) => Val.int i) (by simp [small62_of]) hd0 (fun S' _ => by simp [Src.items]) (le_line (by simp)) (fun v => v = .bl true) fun x hx S' hd' b' => ?_) ?_
  · obtain ⟨i, _, rfl⟩ := List.mem_map.mp hx
    simp
    refine Ok.bind (right_v7_ok H.c__law_right hrp (n := 59) (by omega) hd') ?_
    rintro v S1 ⟨rfl, hd1, b1⟩
    simp
    exact ⟨hd1, b1⟩
  rintro D S1 ⟨rfl, ⟨rs, r1, r2, r3⟩, hd1, b1⟩
  rw [all_true r3 r2]
  have hz : isLet [97, 98] = true := by decide
  have nr := newR_ok (P := P) (S := S1) H.k_Reader (n := 59) (by omega) hz even_rd (by omega)
  have nr : Ok (newV P (callN P 59) c_Reader [.str [97, 98], .tup [.tup [.int 1, .int 0], .tup [.int 0, .int 1]], .tup [.int 0]] S1) _ := nr
  simp
  refine Ok.bind nr ?_
  rintro v S2 ⟨rfl, w2, g2⟩
  try simp
  have p1 := pumped_ok (S := S2) H.c_pumped (n := 59) (by omega) w2 even_rd (u := [97, 98, 97]) (by decide) (by decide) (by decide)
  refine Ok.bind p1 ?_
  rintro v S3 ⟨hv, g3⟩
  have f1 : FstV [97, 98, 97] (wayR [97, 98] [[1, 0], [0, 1]] [97, 98, 97]) (partsOf [97, 98, 97] 1 2) := .inl ⟨1, 2, ⟨by decide, by decide, by decide, by decide, by decide⟩, rfl⟩
  obtain rfl := hv.one f1
  try simp
  have p2 := pumped_ok (S := S3) H.c_pumped (n := 59) (by omega) (w2.gr g3) even_rd (u := []) (by decide) (by decide) (by decide)
  refine Ok.bind p2 ?_
  rintro v S4 ⟨hv2, g4⟩
  have f2 : FstV [] (wayR [97, 98] [[1, 0], [0, 1]] []) .non := .inr ⟨rfl, by decide⟩
  obtain rfl := hv2.one f2
  try simp
  have t3 : ∀ T, ∀ a b c : List Nat, Thr T (.tup [.str a, .str b, .str c]) := fun T a b c => .tup _ fun x hx => by
    simp only [List.mem_cons, List.not_mem_nil, or_false] at hx
    rcases hx with rfl | rfl | rfl <;> exact .str _
  have g24 : Gr S2 S4 := g3.trans g4
  refine Ok.bind (is_pumped_ok H.c_is_pumped (n := 59) (by omega) (w2.gr g24) even_rd (by omega) (u := [97, 98, 97]) (by decide) (by decide) (t3 _ _ _ _)) ?_
  rintro v S5 ⟨rfl, g5⟩
  have e1 : pumpT [97, 98] [[1, 0], [0, 1]] [0] [97, 98, 97] (.tup [.str [97], .str [98], .str [97]]) = true := by decide
  have e2 : pumpT [97, 98] [[1, 0], [0, 1]] [0] [97, 98, 97] (.tup [.str [], .str [97], .str [98, 97]]) = false := by decide
  rw [e1]
  try simp
  have g25 : Gr S2 (S5 ++ [Ob.lst [partsOf [97, 98, 97] 1 2, Val.non, Val.bl true]]) := g24.trans (g5.trans ⟨_, rfl⟩)
  have l0 : (S5 ++ [Ob.lst [partsOf [97, 98, 97] 1 2, Val.non, Val.bl true]])[S5.length]? = some (.lst [partsOf [97, 98, 97] 1 2, Val.non, Val.bl true]) := by simp
  rw [meTy_append_lst l0]
  simp
  refine Ok.bind (is_pumped_ok H.c_is_pumped (n := 59) (by omega) (w2.gr g25) even_rd (by omega) (u := [97, 98, 97]) (by decide) (by decide) (t3 _ _ _ _)) ?_
  rintro v S6 ⟨rfl, g6⟩
  rw [e2]
  have l1 := g6.at l0
  rw [append_lst l1 (le_line (by simp))]
  simp
  have lt6 := (List.getElem?_eq_some_iff.mp l1).1
  have tl : ∀ (S : Store) (m : Nat), S[m]? = some (.lst [partsOf [97, 98, 97] 1 2, .non, .bl true, .bl false]) → toD 50 S (.loc m) = some (.lst [.tup [.str [97], .str [98], .str [97]], .non, .bl true, .bl false]) := fun S m hm => by
    show (match S[m]? with | some (.lst xs) => (mapO (toD 49 S) xs).map Dt.lst | some (.rol xs) => (mapO (toD 49 S) xs).map Dt.lst | _ => none) = _
    rw [hm]
    rfl
  have is1 := law_is_ok (n := 59) (S := S6.set S5.length (.lst [partsOf [97, 98, 97] 1 2, .non, .bl true, .bl false]) ++ [.lst [partsOf [97, 98, 97] 1 2, .non, .bl true, .bl false]]) H.c__law_is hrp (by omega) (x := .loc S5.length) (y := .loc S6.length) (tl _ _ (by rw [List.getElem?_append_left (by rw [List.length_set]; exact lt6), List.getElem?_set_self lt6])) (tl _ _ (by rw [List.getElem?_append_right (by rw [List.length_set]; exact Nat.le_refl _)]; simp)) (by decide) (by decide)
  exact is1 ▸ by simp [is1]
end Pyd
set_option maxRecDepth 1000000
set_option maxHeartbeats 0
namespace Pyd
open PySem PySem.Spec PyProof.Rows L2
def top (i : Nat) : PySem.Stmt := PySem.Challenge.pw_wordreaders_k36_whole_words_pumped.main.body.getD i (.Pass ⟨0, 0, 0, 0⟩)
def inner (i j : Nat) : PySem.Stmt := match top i with | .ClassDef _ _ _ b _ _ _ _ _ _ _ => b.getD j (.Pass ⟨0, 0, 0, 0⟩) | s => s
def D_is_integer : FD := ⟨[("thing" : PySem.Str)], [("thing" : PySem.Str)], "is_integer", "is_integer", defArgs (top 8), defBody (top 8), defScope (top 8)⟩
def D_is_within : FD := ⟨[("thing" : PySem.Str), ("least" : PySem.Str), ("most" : PySem.Str)], [("thing" : PySem.Str), ("least" : PySem.Str), ("most" : PySem.Str)], "is_within", "is_within", defArgs (top 9), defBody (top 9), defScope (top 9)⟩
def D_is_tuple : FD := ⟨[("thing" : PySem.Str), ("size" : PySem.Str)], [("thing" : PySem.Str), ("size" : PySem.Str)], "is_tuple", "is_tuple", defArgs (top 10), defBody (top 10), defScope (top 10)⟩
def D_is_sized : FD := ⟨[("thing" : PySem.Str), ("least" : PySem.Str), ("most" : PySem.Str)], [("thing" : PySem.Str), ("least" : PySem.Str), ("most" : PySem.Str)], "is_sized", "is_sized", defArgs (top 11), defBody (top 11), defScope (top 11)⟩
def D_is_lot : FD := ⟨[("thing" : PySem.Str), ("many" : PySem.Str), ("one" : PySem.Str), ("at" : PySem.Str)], [("thing" : PySem.Str), ("many" : PySem.Str)], "is_lot", "is_lot", defArgs (top 12), defBody (top 12), defScope (top 12)⟩
def D_are_letters : FD := ⟨[("thing" : PySem.Str)], [("thing" : PySem.Str)], "are_letters", "are_letters", defArgs (top 13), defBody (top 13), defScope (top 13)⟩
def D_is_word_of : FD := ⟨[("letters" : PySem.Str), ("thing" : PySem.Str), ("most" : PySem.Str), ("sign" : PySem.Str)], [("letters" : PySem.Str), ("thing" : PySem.Str), ("most" : PySem.Str)], "is_word_of", "is_word_of", defArgs (top 14), defBody (top 14), defScope (top 14)⟩
def D_check_word : FD := ⟨[("letters" : PySem.Str), ("thing" : PySem.Str)], [("letters" : PySem.Str), ("thing" : PySem.Str)], "check_word", "check_word", defArgs (top 15), defBody (top 15), defScope (top 15)⟩
def D_led : FD := ⟨[("reader" : PySem.Str), ("state" : PySem.Str), ("word" : PySem.Str), ("letter" : PySem.Str)], [("reader" : PySem.Str), ("state" : PySem.Str), ("word" : PySem.Str)], "led", "led", defArgs (top 19), defBody (top 19), defScope (top 19)⟩
def D_is_word : FD := ⟨[("reader" : PySem.Str), ("thing" : PySem.Str)], [("reader" : PySem.Str), ("thing" : PySem.Str)], "is_word", "is_word", defArgs (top 20), defBody (top 20), defScope (top 20)⟩
def D_way : FD := ⟨[("reader" : PySem.Str), ("word" : PySem.Str), ("found" : PySem.Str), ("letter" : PySem.Str)], [("reader" : PySem.Str), ("word" : PySem.Str)], "way", "way", defArgs (top 21), defBody (top 21), defScope (top 21)⟩
def D_raw_lets : FD := ⟨[("reader" : PySem.Str), ("word" : PySem.Str)], [("reader" : PySem.Str), ("word" : PySem.Str)], "raw_lets", "raw_lets", defArgs (top 22), defBody (top 22), defScope (top 22)⟩
def D_lets : FD := ⟨[("reader" : PySem.Str), ("word" : PySem.Str)], [("reader" : PySem.Str), ("word" : PySem.Str)], "lets", "lets", defArgs (top 23), defBody (top 23), defScope (top 23)⟩
def D_pumped : FD := ⟨[("reader" : PySem.Str), ("word" : PySem.Str), ("states" : PySem.Str), ("j" : PySem.Str), ("i" : PySem.Str)], [("reader" : PySem.Str), ("word" : PySem.Str)], "pumped", "pumped", defArgs (top 25), defBody (top 25), defScope (top 25)⟩
def D_is_pumped : FD := ⟨[("reader" : PySem.Str), ("word" : PySem.Str), ("thing" : PySem.Str), ("part" : PySem.Str), ("x" : PySem.Str), ("y" : PySem.Str), ("z" : PySem.Str), ("state" : PySem.Str), ("many" : PySem.Str), ("turn" : PySem.Str)], [("reader" : PySem.Str), ("word" : PySem.Str), ("thing" : PySem.Str)], "is_pumped", "is_pumped", defArgs (top 26), defBody (top 26), defScope (top 26)⟩
def D__law_hand_v13 : FD := ⟨[("script" : PySem.Str), ("cells" : PySem.Str), ("cell" : PySem.Str)], [("script" : PySem.Str)], "_law_hand", "_law_hand", defArgs (top 28), defBody (top 28), defScope (top 28)⟩
def D__law_draw : FD := ⟨[("hand" : PySem.Str), ("many" : PySem.Str), ("cell" : PySem.Str), ("digit" : PySem.Str), ("number" : PySem.Str)], [("hand" : PySem.Str), ("many" : PySem.Str)], "_law_draw", "_law_draw", defArgs (top 29), defBody (top 29), defScope (top 29)⟩
def D__law_some : FD := ⟨[("hand" : PySem.Str), ("things" : PySem.Str)], [("hand" : PySem.Str), ("things" : PySem.Str)], "_law_some", "_law_some", defArgs (top 30), defBody (top 30), defScope (top 30)⟩
def D__law_is_v3 : FD := ⟨[("mine" : PySem.Str), ("yours" : PySem.Str)], [("mine" : PySem.Str), ("yours" : PySem.Str)], "_law_is", "_law_is", defArgs (top 31), defBody (top 31), defScope (top 31)⟩
def D__law_word_v14 : FD := ⟨[("hand" : PySem.Str), ("letters" : PySem.Str), ("most" : PySem.Str), ("turn" : PySem.Str)], [("hand" : PySem.Str), ("letters" : PySem.Str), ("most" : PySem.Str)], "_law_word", "_law_word", defArgs (top 32), defBody (top 32), defScope (top 32)⟩
def D__law_rows_v2 : FD := ⟨[("hand" : PySem.Str), ("many" : PySem.Str), ("wide" : PySem.Str), ("letter" : PySem.Str), ("state" : PySem.Str)], [("hand" : PySem.Str), ("many" : PySem.Str), ("wide" : PySem.Str)], "_law_rows", "_law_rows", defArgs (top 33), defBody (top 33), defScope (top 33)⟩
def D__law_lot_v2 : FD := ⟨[("hand" : PySem.Str), ("many" : PySem.Str), ("state" : PySem.Str)], [("hand" : PySem.Str), ("many" : PySem.Str)], "_law_lot", "_law_lot", defArgs (top 34), defBody (top 34), defScope (top 34)⟩
def D__law_reader_v5 : FD := ⟨[("hand" : PySem.Str), ("letters" : PySem.Str), ("most" : PySem.Str), ("many" : PySem.Str)], [("hand" : PySem.Str), ("letters" : PySem.Str), ("most" : PySem.Str)], "_law_reader", "_law_reader", defArgs (top 35), defBody (top 35), defScope (top 35)⟩
def D__law_state : FD := ⟨[("reader" : PySem.Str), ("word" : PySem.Str), ("state" : PySem.Str), ("letter" : PySem.Str)], [("reader" : PySem.Str), ("word" : PySem.Str)], "_law_state", "_law_state", defArgs (top 36), defBody (top 36), defScope (top 36)⟩
def D__law_does_let : FD := ⟨[("reader" : PySem.Str), ("word" : PySem.Str)], [("reader" : PySem.Str), ("word" : PySem.Str)], "_law_does_let", "_law_does_let", defArgs (top 37), defBody (top 37), defScope (top 37)⟩
def D__law_letters : FD := ⟨[("hand" : PySem.Str)], [("hand" : PySem.Str)], "_law_letters", "_law_letters", defArgs (top 38), defBody (top 38), defScope (top 38)⟩
def D__law_error : FD := ⟨[("call" : PySem.Str), ("error" : PySem.Str)], [("call" : PySem.Str)], "_law_error", "_law_error", defArgs (top 39), defBody (top 39), defScope (top 39)⟩
def D__law_pumped : FD := ⟨[("reader" : PySem.Str), ("word" : PySem.Str), ("states" : PySem.Str), ("size" : PySem.Str), ("end" : PySem.Str), ("begin" : PySem.Str)], [("reader" : PySem.Str), ("word" : PySem.Str)], "_law_pumped", "_law_pumped", defArgs (top 40), defBody (top 40), defScope (top 40)⟩
def D__law_is_pumped : FD := ⟨[("reader" : PySem.Str), ("word" : PySem.Str), ("thing" : PySem.Str), ("one" : PySem.Str), ("middle" : PySem.Str), ("last" : PySem.Str), ("turns" : PySem.Str), ("often" : PySem.Str)], [("reader" : PySem.Str), ("word" : PySem.Str), ("thing" : PySem.Str)], "_law_is_pumped", "_law_is_pumped", defArgs (top 41), defBody (top 41), defScope (top 41)⟩
def D__law_word_right : FD := ⟨[("hand" : PySem.Str), ("reader" : PySem.Str), ("word" : PySem.Str), ("own_is_let" : PySem.Str), ("error" : PySem.Str), ("own_told" : PySem.Str), ("often" : PySem.Str), ("turn" : PySem.Str), ("begin" : PySem.Str), ("end" : PySem.Str), ("thing" : PySem.Str), ("some" : PySem.Str)], [("hand" : PySem.Str), ("reader" : PySem.Str), ("word" : PySem.Str)], "_law_word_right", "_law_word_right", defArgs (top 42), defBody (top 42), defScope (top 42)⟩
def D__law_right_v7 : FD := ⟨[("hand" : PySem.Str), ("reader" : PySem.Str), ("words" : PySem.Str), ("turn" : PySem.Str), ("word" : PySem.Str), ("bad" : PySem.Str)], [("hand" : PySem.Str)], "_law_right", "_law_right", defArgs (top 43), defBody (top 43), defScope (top 43)⟩
def D_law_k36 : FD := ⟨[("script" : PySem.Str), ("hand" : PySem.Str), ("turn" : PySem.Str), ("even" : PySem.Str), ("said" : PySem.Str)], [("script" : PySem.Str)], "law", "law", defArgs (top 44), defBody (top 44), defScope (top 44)⟩
def D_Reader___init__ : FD := ⟨[("self" : PySem.Str), ("letters" : PySem.Str), ("steps" : PySem.Str), ("ends" : PySem.Str), ("row" : PySem.Str), ("state" : PySem.Str)], [("self" : PySem.Str), ("letters" : PySem.Str), ("steps" : PySem.Str), ("ends" : PySem.Str)], "__init__", "Reader.__init__", defArgs (inner 18 0), defBody (inner 18 0), defScope (inner 18 0)⟩
def D_Reader___eq__ : FD := ⟨[("self" : PySem.Str), ("other" : PySem.Str)], [("self" : PySem.Str), ("other" : PySem.Str)], "__eq__", "Reader.__eq__", defArgs (inner 18 1), defBody (inner 18 1), defScope (inner 18 1)⟩
def D_E_ReaderError : FD := ⟨[("self" : PySem.Str)], [("self" : PySem.Str)], "__init__", "ReaderError.__init__", defArgs (inner 1 0), defBody (inner 1 0), defScope (inner 1 0)⟩
def D_E_BadReader : FD := ⟨[("self" : PySem.Str), ("part" : PySem.Str)], [("self" : PySem.Str), ("part" : PySem.Str)], "__init__", "BadReader.__init__", defArgs (inner 2 0), defBody (inner 2 0), defScope (inner 2 0)⟩
def lrows : List Row := [⟨g_is_integer, f_is_integer, D_is_integer, ("is_integer", none)⟩,
 ⟨g_is_within, f_is_within, D_is_within, ("is_within", none)⟩,
 ⟨g_is_tuple, f_is_tuple, D_is_tuple, ("is_tuple", none)⟩,
 ⟨g_is_sized, f_is_sized, D_is_sized, ("is_sized", none)⟩,
 ⟨g_is_lot, f_is_lot, D_is_lot, ("is_lot", none)⟩,
 ⟨g_are_letters, f_are_letters, D_are_letters, ("are_letters", none)⟩,
 ⟨g_is_word_of, f_is_word_of, D_is_word_of, ("is_word_of", none)⟩,
 ⟨g_check_word, f_check_word, D_check_word, ("check_word", none)⟩,
 ⟨g_led, f_led, D_led, ("led", none)⟩,
 ⟨g_is_word, f_is_word, D_is_word, ("is_word", none)⟩,
 ⟨g_way, f_way, D_way, ("way", none)⟩,
 ⟨g_raw_lets, f_raw_lets, D_raw_lets, ("raw_lets", none)⟩,
 ⟨g_lets, f_lets, D_lets, ("lets", none)⟩,
 ⟨g_pumped, f_pumped, D_pumped, ("pumped", none)⟩,
 ⟨g_is_pumped, f_is_pumped, D_is_pumped, ("is_pumped", none)⟩,
 ⟨g__law_hand_v13, f__law_hand_v13, D__law_hand_v13, ("_law_hand", none)⟩,
 ⟨g__law_draw, f__law_draw, D__law_draw, ("_law_draw", none)⟩,
 ⟨g__law_some, f__law_some, D__law_some, ("_law_some", none)⟩,
 ⟨g__law_is_v3, f__law_is_v3, D__law_is_v3, ("_law_is", none)⟩,
 ⟨g__law_word_v14, f__law_word_v14, D__law_word_v14, ("_law_word", none)⟩,
 ⟨g__law_rows_v2, f__law_rows_v2, D__law_rows_v2, ("_law_rows", none)⟩,
 ⟨g__law_lot_v2, f__law_lot_v2, D__law_lot_v2, ("_law_lot", none)⟩,
 ⟨g__law_reader_v5, f__law_reader_v5, D__law_reader_v5, ("_law_reader", none)⟩,
 ⟨g__law_state, f__law_state, D__law_state, ("_law_state", none)⟩,
 ⟨g__law_does_let, f__law_does_let, D__law_does_let, ("_law_does_let", none)⟩,
 ⟨g__law_letters, f__law_letters, D__law_letters, ("_law_letters", none)⟩,
 ⟨g__law_error, f__law_error, D__law_error, ("_law_error", none)⟩,
 ⟨g__law_pumped, f__law_pumped, D__law_pumped, ("_law_pumped", none)⟩,
 ⟨g__law_is_pumped, f__law_is_pumped, D__law_is_pumped, ("_law_is_pumped", none)⟩,
 ⟨g__law_word_right, f__law_word_right, D__law_word_right, ("_law_word_right", none)⟩,
 ⟨g__law_right_v7, f__law_right_v7, D__law_right_v7, ("_law_right", none)⟩,
 ⟨g_law_k36, f_law_k36, D_law_k36, ("law", none)⟩,
 ⟨g_Reader___init__, f_Reader___init__, D_Reader___init__, ("Reader", some "__init__")⟩,
 ⟨g_Reader___eq__, f_Reader___eq__, D_Reader___eq__, ("Reader", some "__eq__")⟩]
def lirows : List IRow := [⟨g__law_word_right_l1, f__law_word_right_l1, [("reader" : PySem.Str), ("word" : PySem.Str)], [("reader" : PySem.Str), ("word" : PySem.Str)]⟩,
 ⟨g__law_right_v7_l1, f__law_right_v7_l1, [("bad" : PySem.Str), ("reader" : PySem.Str)], [("bad" : PySem.Str), ("reader" : PySem.Str)]⟩,
 ⟨g__law_right_v7_l2, f__law_right_v7_l2, [("bad" : PySem.Str), ("reader" : PySem.Str)], [("bad" : PySem.Str), ("reader" : PySem.Str)]⟩]
def lmks : List MRow := [⟨g__law_word_right, ("_law_word_right", none), "_law_word_right.<locals>.", [((163, 27), "<lambda>")]⟩,
 ⟨g__law_right_v7, ("_law_right", none), "_law_right.<locals>.", [((192, 33), "<lambda>"), ((190, 33), "<lambda>")]⟩]
def gnames : List (Nat × PySem.Str) := [(10, ("ALPHABETS" : PySem.Str)), (11, ("MOST_WORD" : PySem.Str)), (12, ("is_integer" : PySem.Str)), (13, ("is_within" : PySem.Str)), (14, ("is_tuple" : PySem.Str)), (15, ("is_sized" : PySem.Str)), (16, ("is_lot" : PySem.Str)), (17, ("are_letters" : PySem.Str)), (18, ("is_word_of" : PySem.Str)), (19, ("MOST_READER" : PySem.Str)), (22, ("is_word" : PySem.Str)), (24, ("_law_draw" : PySem.Str)), (38, ("check_word" : PySem.Str)), (41, ("led" : PySem.Str)), (43, ("way" : PySem.Str)), (44, ("raw_lets" : PySem.Str)), (446, ("_law_hand" : PySem.Str)), (447, ("_law_some" : PySem.Str)), (448, ("_law_is" : PySem.Str)), (449, ("_law_rows" : PySem.Str)), (45, ("lets" : PySem.Str)), (450, ("_law_lot" : PySem.Str)), (452, ("_law_letters" : PySem.Str)), (453, ("_law_error" : PySem.Str)), (471, ("_law_word" : PySem.Str)), (472, ("_law_reader" : PySem.Str)), (473, ("_law_state" : PySem.Str)), (474, ("_law_does_let" : PySem.Str)), (517, ("pumped" : PySem.Str)), (518, ("is_pumped" : PySem.Str)), (519, ("_law_pumped" : PySem.Str)), (520, ("_law_is_pumped" : PySem.Str)), (521, ("_law_word_right" : PySem.Str)), (522, ("_law_right" : PySem.Str)), (523, ("law" : PySem.Str))]
def cnames : List (Nat × PySem.Str) := [(c_ReaderError, "ReaderError"), (c_BadReader, "BadReader"), (c_NoWord, "NoWord"), (c_NotLet, "NotLet"), (c_Reader, "Reader")]
def anames : List (Nat × PySem.Str) := [(7, "__init__"), (8, "append"), (6, "ends"), (12, "index"), (9, "join"), (4, "letters"), (0, "part"), (5, "steps")]
def mnames : List (Nat × PySem.Str) := []
def lw : Law := ⟨⟨nameA gnames, nameA cnames, nameA anames, nameA mnames⟩, lrows, lirows, lmks,
 [(c_ReaderError, k_ReaderError), (c_BadReader, k_BadReader), (c_NoWord, k_NoWord), (c_NotLet, k_NotLet), (c_Reader, k_Reader)],
 [(g_is_integer, .glo g_is_integer), (g_is_within, .glo g_is_within), (g_is_tuple, .glo g_is_tuple), (g_is_sized, .glo g_is_sized), (g_is_lot, .glo g_is_lot), (g_are_letters, .glo g_are_letters), (g_is_word_of, .glo g_is_word_of), (g_check_word, .glo g_check_word), (g_led, .glo g_led), (g_is_word, .glo g_is_word), (g_way, .glo g_way), (g_raw_lets, .glo g_raw_lets), (g_lets, .glo g_lets), (g_pumped, .glo g_pumped), (g_is_pumped, .glo g_is_pumped), (g__law_hand_v13, .glo g__law_hand_v13), (g__law_draw, .glo g__law_draw), (g__law_some, .glo g__law_some), (g__law_is_v3, .glo g__law_is_v3), (g__law_word_v14, .glo g__law_word_v14), (g__law_rows_v2, .glo g__law_rows_v2), (g__law_lot_v2, .glo g__law_lot_v2), (g__law_reader_v5, .glo g__law_reader_v5), (g__law_state, .glo g__law_state), (g__law_does_let, .glo g__law_does_let), (g__law_letters, .glo g__law_letters), (g__law_error, .glo g__law_error), (g__law_pumped, .glo g__law_pumped), (g__law_is_pumped, .glo g__law_is_pumped), (g__law_word_right, .glo g__law_word_right), (g__law_right_v7, .glo g__law_right_v7), (g_law_k36, .glo g_law_k36), (g_ALPHABETS, .tup [.str [97], .str [97, 98], .str [97, 98, 99]]), (g_MOST_WORD, .int 60), (g_MOST_READER, .int 12)],
 ⟨c_ReaderError, "ReaderError", D_E_ReaderError⟩,
 [⟨c_BadReader, "BadReader", D_E_BadReader⟩]⟩
def prog : Prog := lw.P
theorem lw_ok : lw.okB g_law_k36 = true := by decide +kernel
theorem lw_bd : lw.bd := ⟨⟨fun _ _ _ _ _ _ us h => match us, h with | [_], _ => rfl,
 fun _ _ _ _ _ _ us h => match us, h with | [_, _, _], _ => rfl,
 fun _ _ _ _ _ _ us h => match us, h with | [_, _], _ => rfl,
 fun _ _ _ _ _ _ us h => match us, h with | [_, _, _], _ => rfl,
 fun _ _ _ _ _ _ us h => match us, h with | [_, _], _ => rfl,
 fun _ _ _ _ _ _ us h => match us, h with | [_], _ => rfl,
 fun _ _ _ _ _ _ us h => match us, h with | [_, _, _], _ => rfl,
 fun _ _ _ _ _ _ us h => match us, h with | [_, _], _ => rfl,
 fun _ _ _ _ _ _ us h => match us, h with | [_, _, _], _ => rfl,
 fun _ _ _ _ _ _ us h => match us, h with | [_, _], _ => rfl,
 fun _ _ _ _ _ _ us h => match us, h with | [_, _], _ => rfl,
 fun _ _ _ _ _ _ us h => match us, h with | [_, _], _ => rfl,
 fun _ _ _ _ _ _ us h => match us, h with | [_, _], _ => rfl,
 fun _ _ _ _ _ _ us h => match us, h with | [_, _], _ => rfl,
 fun _ _ _ _ _ _ us h => match us, h with | [_, _, _], _ => rfl,
 fun _ _ _ _ _ _ us h => match us, h with | [_], _ => rfl,
 fun _ _ _ _ _ _ us h => match us, h with | [_, _], _ => rfl,
 fun _ _ _ _ _ _ us h => match us, h with | [_, _], _ => rfl,
 fun _ _ _ _ _ _ us h => match us, h with | [_, _], _ => rfl,
 fun _ _ _ _ _ _ us h => match us, h with | [_, _, _], _ => rfl,
 fun _ _ _ _ _ _ us h => match us, h with | [_, _, _], _ => rfl,
 fun _ _ _ _ _ _ us h => match us, h with | [_, _], _ => rfl,
 fun _ _ _ _ _ _ us h => match us, h with | [_, _, _], _ => rfl,
 fun _ _ _ _ _ _ us h => match us, h with | [_, _], _ => rfl,
 fun _ _ _ _ _ _ us h => match us, h with | [_, _], _ => rfl,
 fun _ _ _ _ _ _ us h => match us, h with | [_], _ => rfl,
 fun _ _ _ _ _ _ us h => match us, h with | [_], _ => rfl,
 fun _ _ _ _ _ _ us h => match us, h with | [_, _], _ => rfl,
 fun _ _ _ _ _ _ us h => match us, h with | [_, _, _], _ => rfl,
 fun _ _ _ _ _ _ us h => match us, h with | [_, _, _], _ => rfl,
 fun _ _ _ _ _ _ us h => match us, h with | [_], _ => rfl,
 fun _ _ _ _ _ _ us h => match us, h with | [_], _ => rfl,
 fun _ _ _ _ _ _ us h => match us, h with | [_, _, _, _], _ => rfl,
 fun _ _ _ _ _ _ us h => match us, h with | [_, _], _ => rfl,
 trivial⟩,
 fun _ _ _ _ _ _ us h => match us, h with | [_], _ => rfl, ⟨fun _ _ _ _ _ _ us h => match us, h with | [_, _], _ => rfl, trivial⟩⟩
theorem lw_an : ∀ f g, lw.nm.an f = lw.nm.an g → f = g := fun _ _ h => nameA_inj (l := anames) (by decide +kernel) (by decide +kernel) h
def names0 : List PySem.Str := [("ReaderError" : PySem.Str), ("BadReader" : PySem.Str), ("NoWord" : PySem.Str), ("NotLet" : PySem.Str), ("ALPHABETS" : PySem.Str), ("MOST_WORD" : PySem.Str), ("is_integer" : PySem.Str), ("is_within" : PySem.Str), ("is_tuple" : PySem.Str), ("is_sized" : PySem.Str), ("is_lot" : PySem.Str), ("are_letters" : PySem.Str), ("is_word_of" : PySem.Str), ("check_word" : PySem.Str), ("MOST_READER" : PySem.Str), ("Reader" : PySem.Str), ("led" : PySem.Str), ("is_word" : PySem.Str), ("way" : PySem.Str), ("raw_lets" : PySem.Str), ("lets" : PySem.Str), ("pumped" : PySem.Str), ("is_pumped" : PySem.Str), ("_law_hand" : PySem.Str), ("_law_draw" : PySem.Str), ("_law_some" : PySem.Str), ("_law_is" : PySem.Str), ("_law_word" : PySem.Str), ("_law_rows" : PySem.Str), ("_law_lot" : PySem.Str), ("_law_reader" : PySem.Str), ("_law_state" : PySem.Str), ("_law_does_let" : PySem.Str), ("_law_letters" : PySem.Str), ("_law_error" : PySem.Str), ("_law_pumped" : PySem.Str), ("_law_is_pumped" : PySem.Str), ("_law_word_right" : PySem.Str), ("_law_right" : PySem.Str)]
def names : List PySem.Str := names0
def fa_ : List He.Fa := [.glo "law"]
def exK (K : PySem.W.Frag) : Bool := lw.exB K
abbrev R_ : PySem.W.OpenRow := PySem.W.OpenLaw.row PySem.Challenge.rw_wordreaders_k36_whole_words_pumped
abbrev hk : PySem.W.Hook := hookY 5 fa_ lw.fn lw.tf exK
def ob_ (s : PySem.W.SharedT) : AlY := obsY 5 fa_ lw.fn lw.tf exK (HandSHeadRun.getT s)
theorem ob_eq (s : PySem.W.SharedT) : ob_ s = hk.obs s.abs := obsY_eq (HandSHeadRun.getT_eq s)
theorem run (w : World) : HandSHeadRun.RunEq R_ (PySem.W.view R_.prog [44]) hk ob_ 6000 names w := by
  intro os
  kernel_rfl
end Pyd
namespace Pyd
theorem h_is_integer : H_is_integer prog := ⟨rfl⟩
theorem h_is_within : H_is_within prog := ⟨rfl, h_is_integer⟩
theorem h_is_tuple : H_is_tuple prog := ⟨rfl⟩
theorem h_is_sized : H_is_sized prog := ⟨rfl⟩
theorem h_is_lot : H_is_lot prog := ⟨rfl, h_is_sized, h_is_within⟩
theorem h_are_letters : H_are_letters prog := ⟨rfl, rfl⟩
theorem h_is_word_of : H_is_word_of prog := ⟨rfl⟩
theorem hC_ReaderError : HC_ReaderError prog := ⟨rfl⟩
theorem hC_NoWord : HC_NoWord prog := ⟨rfl, hC_ReaderError⟩
theorem h_check_word : H_check_word prog := ⟨rfl, rfl, h_is_word_of, hC_NoWord⟩
theorem h_led : H_led prog := ⟨rfl⟩
theorem h_is_word : H_is_word prog := ⟨rfl, rfl, h_is_word_of⟩
theorem h_way : H_way prog := ⟨rfl, h_check_word, h_led⟩
theorem h_raw_lets : H_raw_lets prog := ⟨rfl, h_led⟩
theorem h_lets : H_lets prog := ⟨rfl, h_check_word, h_raw_lets⟩
theorem hC_NotLet : HC_NotLet prog := ⟨rfl, hC_ReaderError⟩
theorem h_pumped : H_pumped prog := ⟨rfl, h_check_word, h_raw_lets, h_way, hC_NotLet⟩
theorem h_is_pumped : H_is_pumped prog := ⟨rfl, h_check_word, h_is_tuple, h_is_word, h_led⟩
theorem h__law_hand_v13 : H__law_hand_v13 prog := ⟨rfl⟩
theorem h__law_draw : H__law_draw prog := ⟨rfl⟩
theorem h__law_some : H__law_some prog := ⟨rfl, h__law_draw⟩
theorem h__law_is_v3 : H__law_is_v3 prog := ⟨rfl⟩
theorem h__law_word_v14 : H__law_word_v14 prog := ⟨rfl, h__law_draw, h__law_some⟩
theorem h__law_rows_v2 : H__law_rows_v2 prog := ⟨rfl, h__law_draw⟩
theorem h__law_lot_v2 : H__law_lot_v2 prog := ⟨rfl, h__law_draw⟩
theorem hC_BadReader : HC_BadReader prog := ⟨rfl, hC_ReaderError⟩
theorem h_Reader___init__ : H_Reader___init__ prog := ⟨rfl, rfl, h_are_letters, h_is_lot, h_is_sized, h_is_tuple, h_is_within, hC_BadReader⟩
theorem h_Reader___eq__ : H_Reader___eq__ prog := ⟨rfl, rfl⟩
theorem hC_Reader : HC_Reader prog := ⟨rfl, h_Reader___init__, h_Reader___eq__⟩
theorem h__law_reader_v5 : H__law_reader_v5 prog := ⟨rfl, h__law_draw, h__law_lot_v2, h__law_rows_v2, hC_Reader⟩
theorem h__law_state : H__law_state prog := ⟨rfl⟩
theorem h__law_does_let : H__law_does_let prog := ⟨rfl, h__law_state⟩
theorem h__law_letters : H__law_letters prog := ⟨rfl, h__law_some⟩
theorem h__law_error : H__law_error prog := ⟨rfl, hC_ReaderError⟩
theorem h__law_pumped : H__law_pumped prog := ⟨rfl, h__law_state⟩
theorem h__law_is_pumped : H__law_is_pumped prog := ⟨rfl, h__law_does_let⟩
theorem h__law_word_right : H__law_word_right prog := ⟨rfl, h__law_does_let, h__law_draw, h__law_error, h__law_is_v3, h__law_is_pumped, h__law_pumped, h__law_some, h_is_pumped, h_lets, h_pumped, hC_NotLet, rfl⟩
theorem h__law_right_v7 : H__law_right_v7 prog := ⟨rfl, h__law_error, h__law_letters, h__law_reader_v5, h__law_some, h__law_word_v14, h__law_word_right, h_is_pumped, h_pumped, hC_NoWord, rfl, rfl⟩
theorem h_law_k36 : H_law_k36 prog := ⟨rfl, h__law_hand_v13, h__law_is_v3, h__law_right_v7, h_is_pumped, h_pumped, hC_Reader⟩
end Pyd
namespace Pyd
theorem law_true (ns : List Int) (hl : ns.length ≤ 63) : ∃ S', callN prog 60 g_law_k36 [.loc 0] [] [.rol (ns.map Val.int)] = .ok (.bl true) S' := by
  obtain ⟨v, S', e, rfl⟩ := law_k36_ok h_law_k36 (rpOk_of rfl) ns
  exact ⟨S', e⟩
end Pyd
open PySem PySem.W PySem.Calls PyProof.Rows
theorem PySem.Challenge.cw_wordreaders_k36_whole_words_pumped_holds : PySem.Challenge.rw_wordreaders_k36_whole_words_pumped.Holds := by
  w_on; o_law
  refine HandSHeadRun.head_any (r := OpenLaw.row PySem.Challenge.rw_wordreaders_k36_whole_words_pumped) (q := view (OpenLaw.row PySem.Challenge.rw_wordreaders_k36_whole_words_pumped).prog [44]) (H := Pyd.hk) (ob := Pyd.ob_) (M := 6000) (loose := Pyd.names) (d := HandSHeadRun.topDef (OpenLaw.row PySem.Challenge.rw_wordreaders_k36_whole_words_pumped).prog 44) (kwd := []) Pyd.ob_eq
    (by kernel_rfl) (fun s => by kernel_rfl) Pyd.run (by kernel_rfl) (by kernel_rfl) (by kernel_rfl) (by rfl) (by first | assumption | decide +kernel) (by decide +kernel) ⟨rfl, rfl, rfl, rfl, rfl, by decide +kernel⟩ ?hw ?hc
  case hw => w_witness2
  case hc =>
    refine Pyd.walkG (l := PySem.Challenge.rw_wordreaders_k36_whole_words_pumped) (n := 63) (m := 60) (P := Pyd.prog) (lw := Pyd.g_law_k36) (lf := Pyd.f_law_k36) rfl (by decide) (by kernel_rfl) (Pyd.room_caller (by decide)) rfl rfl ?F ?law
    case F =>
      intro mg fa w h Y G hmg0
      obtain ⟨K, KX, c⟩ := Y
      have hmg : mg ("law" : PySem.Str) = some (.ref fa) := by
        have e : (HandSHeadRun.topDef (OpenLaw.row PySem.Challenge.rw_wordreaders_k36_whole_words_pumped).prog 44).name = ("law" : PySem.Str) := by kernel_rfl
        rw [← e]
        exact hmg0
      exact Pyd.Law.facts KX G hmg c Pyd.lw_ok Pyd.lw_bd Pyd.lw_an
    case law =>
      intro ns hl hb
      exact Pyd.law_true ns hl
