import PyProof.Rows.All
import Wide.All
import KE.KDictKeyed
import KE.KeyNested
import KE.KDictWalk
import HandS.ForMost
import HandS.ForExc
import HandS.Walk
import HandS.Conv
import HandS.More
import HandS.IsInst
import OpenK.AllK
import Wide.FinOn
import HandS.Deep
import HandS.TupAny
import HandS.Wide
import HandS.WideBits
import HandS.Style
import HandS.Defaults
import HandS.Head0
import HandS.Head1
import HandS.Head2
import HandS.HeadEnd
import HandS.HeadHook1
import HandS.HeadHook2
import HandS.SetFor
import HandS.Strs
import HandS.Set
import KE.SortData
import KE.KDictList
import PyProof.StrWalks
import HandS.Text
import HandS.Dict
import PySem.Challenge.RW_beneathsay_k12_things
set_option Elab.async false
/-! The mirror: values, heap, combinators (core Lean only). -/
namespace Mi
inductive MV where
  | non | bl (b : Bool) | int (i : Int) | str (s : List Nat) | ref (a : Nat)
  /-- the law's script -/
  | scr (xs : List Int)
  deriving DecidableEq, Inhabited
/-! ### trees -/
inductive T where
  | non | bl (b : Bool) | int (i : Int) | str (s : List Nat) | lst (xs : List T) | tup (xs : List T)
  /-- a dict: the keys, the values -/
  | dct (ks xs : List T)
  /-- the law's script -/
  | scr (xs : List Int)
  deriving Inhabited
mutual
/-- are they one tree -/
def T.one : T → T → Bool
  | .non, .non => true
  | .bl a, .bl b => decide (a = b)
  | .int a, .int b => decide (a = b)
  | .str a, .str b => decide (a = b)
  | .scr a, .scr b => decide (a = b)
  | .lst xs, .lst ys => T.ones xs ys
  | .tup xs, .tup ys => T.ones xs ys
  | .dct ks xs, .dct ls ys => T.ones ks ls && T.ones xs ys
  | _, _ => false
def T.ones : List T → List T → Bool
  | [], [] => true
  | x :: xs, y :: ys => T.one x y && T.ones xs ys
  | _, _ => false
end
mutual
theorem T.one_self : ∀ t : T, T.one t t = true
  | .non => rfl
  | .bl a => by simp [T.one]
  | .int a => by simp [T.one]
  | .str a => by simp [T.one]
  | .scr a => by simp [T.one]
  | .lst xs => by rw [T.one]; exact T.ones_self xs
  | .tup xs => by rw [T.one]; exact T.ones_self xs
  | .dct ks xs => by rw [T.one, T.ones_self ks, T.ones_self xs]; rfl
theorem T.ones_self : ∀ ts : List T, T.ones ts ts = true
  | [] => by rw [T.ones]
  | t :: ts => by rw [T.ones, T.one_self t, T.ones_self ts]; rfl
end
mutual
theorem T.one_eq : ∀ t u : T, T.one t u = true → t = u
  | .non, u, h => by cases u <;> simp [T.one] at h ⊢
  | .bl a, u, h => by cases u <;> simp [T.one] at h ⊢ <;> exact h
  | .int a, u, h => by cases u <;> simp [T.one] at h ⊢ <;> exact h
  | .str a, u, h => by cases u <;> simp [T.one] at h ⊢ <;> exact h
  | .scr a, u, h => by cases u <;> simp [T.one] at h ⊢ <;> exact h
  | .lst xs, u, h => by
    cases u <;> simp [T.one] at h
    rw [T.ones_eq xs _ h]
  | .tup xs, u, h => by
    cases u <;> simp [T.one] at h
    rw [T.ones_eq xs _ h]
  | .dct ks xs, u, h => by
    cases u <;> simp [T.one] at h
    rw [T.ones_eq ks _ h.1, T.ones_eq xs _ h.2]
theorem T.ones_eq : ∀ ts us : List T, T.ones ts us = true → ts = us
  | [], us, h => by
    cases us with
    | nil => rfl
    | cons _ _ => simp [T.ones] at h
  | t :: ts, us, h => by
    cases us with
    | nil => simp [T.ones] at h
    | cons u us =>
      rw [T.ones, Bool.and_eq_true] at h
      rw [T.one_eq t u h.1, T.ones_eq ts us h.2]
end
instance : DecidableEq T := fun a b => if h : T.one a b = true then .isTrue (T.one_eq a b h) else .isFalse fun e => h (e ▸ T.one_self a)
inductive Obj where
  | lst (xs : List MV)
  | tup (xs : List MV)
  /-- a dict: how often its keys have changed, its keys' trees, its keys, its values -/
  | dct (ep : Nat) (ts : List T) (ks xs : List MV)
def Obj.len : Obj → Nat
  | .lst xs => xs.length
  | .tup xs => xs.length
  | .dct _ _ _ xs => xs.length
abbrev MH := List Obj
inductive Res (α : Type) where
  | ok (a : α) (h : MH)
  | exc (c : Nat) (h : MH)
  | stuck
def Res.bind {α β : Type} (x : Res α) (f : α → MH → Res β) : Res β :=
  match x with
  | .ok a h => f a h
  | .exc c h => .exc c h
  | .stuck => .stuck
@[simp] theorem Res.bind_ok {α β : Type} (a : α) (h : MH) (f : α → MH → Res β) : (Res.ok a h).bind f = f a h := rfl
@[simp] theorem Res.bind_exc {α β : Type} (c : Nat) (h : MH) (f : α → MH → Res β) : (Res.exc c h : Res α).bind f = .exc c h := rfl
@[simp] theorem Res.bind_stuck {α β : Type} (f : α → MH → Res β) : (Res.stuck : Res α).bind f = .stuck := rfl
/-- a result without an exception -/
def Res.calm {α : Type} (x : Res α) : Res α := match x with
  | .ok a h => .ok a h
  | _ => .stuck
@[simp] theorem Res.calm_ok {α : Type} (a : α) (h : MH) : (Res.ok a h).calm = .ok a h := rfl
abbrev Env := List (Option MV)
abbrev E := Env → MH → Res MV
abbrev EA := Env → MH → Res (List MV)
abbrev Fn := List MV → MH → Res MV
abbrev lim : Nat := 16777216
def alloc (o : Obj) (h : MH) : Res MV := .ok (.ref h.length) (h ++ [o])
def allocL (xs : List MV) (h : MH) : Res MV := if xs.length ≤ lim then alloc (.lst xs) h else .stuck
def allocT (xs : List MV) (h : MH) : Res MV := if xs.length ≤ lim then alloc (.tup xs) h else .stuck

mutual
def T.eqv : T → T → Bool
  | .non, .non => true
  | .bl a, .bl b => a == b
  | .bl a, .int j => (if a then 1 else 0) == j
  | .int i, .bl b => i == (if b then 1 else 0)
  | .int i, .int j => i == j
  | .str x, .str y => x == y
  | .lst xs, .lst ys => T.eqvs xs ys
  | .tup xs, .tup ys => T.eqvs xs ys
  | _, _ => false
def T.eqvs : List T → List T → Bool
  | [], [] => true
  | x :: xs, y :: ys => T.eqv x y && T.eqvs xs ys
  | _, _ => false
end
def okS (s : List Nat) : Bool := s.all fun c => decide (c < 1114112)
/-- a text of the machine -/
def strOk (s : List Nat) : Bool := okS s && decide (s.length ≤ lim)
mutual
def toT : Nat → MH → MV → Option T
  | _, _, .non => some .non
  | _, _, .bl b => some (.bl b)
  | _, _, .int i => some (.int i)
  | _, _, .str s => some (.str s)
  | 0, _, .ref _ => none
  | 0, _, .scr _ => none
  | n + 1, h, .ref a => match h[a]? with
    | some (.lst xs) => (toTs n h xs).map .lst
    | some (.tup xs) => (toTs n h xs).map .tup
    | _ => none
  | _ + 1, _, .scr xs => some (.lst (xs.map .int))
def toTs : Nat → MH → List MV → Option (List T)
  | _, _, [] => some []
  | n, h, x :: xs => match toT n h x, toTs n h xs with
    | some t, some ts => some (t :: ts)
    | _, _ => none
end
abbrev deep : Nat := 60

/-! ### sequences -/
def ixN (n : Nat) (i : Int) : Option Nat := if 0 ≤ i then (if i < n then some i.toNat else none) else if -(n : Int) ≤ i then some (i + n).toNat else none
def atI {α : Type} (xs : List α) (i : Int) : Option α := (ixN xs.length i).bind fun j => xs[j]?
/-- a slice's end, put within the length -/
def clip (n : Nat) (d : Nat) : Option Int → Nat
  | none => d
  | some i => if i < 0 then (i + n).toNat else min i.toNat n
def cut {α : Type} (xs : List α) (lo hi : Option Int) : List α := (xs.drop (clip xs.length 0 lo)).take (clip xs.length xs.length hi - clip xs.length 0 lo)
/-- the items of a list or tuple -/
def items (h : MH) (v : MV) : Option (List MV) := match v with
  | .ref a => match h[a]? with
    | some (.lst xs) => some xs
    | some (.tup xs) => some xs
    | _ => none
  | .scr xs => some (xs.map .int)
  | _ => none
def isL (h : MH) (v : MV) : Option (List MV) := match v with
  | .ref a => match h[a]? with
    | some (.lst xs) => some xs
    | _ => none
  | .scr xs => some (xs.map .int)
  | _ => none
def isT (h : MH) (v : MV) : Option (List MV) := match v with
  | .ref a => match h[a]? with
    | some (.tup xs) => some xs
    | _ => none
  | _ => none

/-! ### operators by values -/
abbrev Op2 := MV → MV → MH → Res MV
def rngOk (i : Int) : Bool := decide (i.natAbs ≤ 8388608)
def small (i : Int) : Bool := decide (-(2 ^ 64) < i) && decide (i < 2 ^ 64)
def lowBits (i : Int) : Bool := decide (i.natAbs.log2 < 9000)
def opAdd : Op2
  | .int i, .int j, h => .ok (.int (i + j)) h
  | .str x, .str y, h => if x.length + y.length ≤ lim then .ok (.str (x ++ y)) h else .stuck
  | .ref a, .ref b, h => match h[a]?, h[b]? with
    | some (.lst xs), some (.lst ys) => allocL (xs ++ ys) h
    | some (.tup xs), some (.tup ys) => if xs.isEmpty then .ok (.ref b) h else if ys.isEmpty then .ok (.ref a) h else allocT (xs ++ ys) h
    | _, _ => .stuck
  | _, _, _ => .stuck
def augAdd : Op2
  | .int i, .int j, h => .ok (.int (i + j)) h
  | _, _, _ => .stuck
def opSub : Op2
  | .int i, .int j, h => .ok (.int (i - j)) h
  | _, _, _ => .stuck
def opMul : Op2
  | .int i, .int j, h => if small i || small j then .ok (.int (i * j)) h else .stuck
  | .ref a, .int k, h => match h[a]? with
    | some (.lst xs) => if -(2 ^ 63) ≤ k ∧ k < 2 ^ 63 then allocL (List.replicate k.toNat xs).flatten h else .stuck
    | _ => .stuck
  | _, _, _ => .stuck
def opDiv : Op2
  | .int i, .int j, h => if 0 < j && lowBits j then .ok (.int (i / j)) h else .stuck
  | _, _, _ => .stuck
def opMod : Op2
  | .int i, .int j, h => if 0 < j then .ok (.int (i % j)) h else .stuck
  | _, _, _ => .stuck
def powOk (i j : Int) : Bool := decide (0 ≤ j) && decide (j ≤ 1000000) && decide (i.natAbs < 2 ^ 64)
def opPow : Op2
  | .int i, .int j, h => if powOk i j then .ok (.int (i ^ j.toNat)) h else .stuck
  | _, _, _ => .stuck
def opShl : Op2
  | .int i, .int j, h => if powOk i j then .ok (.int (i * 2 ^ j.toNat)) h else .stuck
  | _, _, _ => .stuck
def opShr : Op2
  | .int i, .int j, h => if 0 ≤ j then .ok (.int (i / 2 ^ j.toNat)) h else .stuck
  | _, _, _ => .stuck
def opAnd : Op2
  | .int i, .int j, h => if 0 ≤ i && 0 ≤ j then .ok (.int ((i.toNat &&& j.toNat : Nat) : Int)) h else .stuck
  | _, _, _ => .stuck
def opOr : Op2
  | .int i, .int j, h => if 0 ≤ i && 0 ≤ j then .ok (.int ((i.toNat ||| j.toNat : Nat) : Int)) h else .stuck
  | _, _, _ => .stuck
def opLt : Op2
  | .int i, .int j, h => .ok (.bl (decide (i < j))) h
  | _, _, _ => .stuck
def opLe : Op2
  | .int i, .int j, h => .ok (.bl (decide (i ≤ j))) h
  | _, _, _ => .stuck
def opGt : Op2
  | .int i, .int j, h => .ok (.bl (decide (j < i))) h
  | _, _, _ => .stuck
def opGe : Op2
  | .int i, .int j, h => .ok (.bl (decide (j ≤ i))) h
  | _, _, _ => .stuck
def eqT (x y : MV) (h : MH) : Option Bool := match toT deep h x, toT deep h y with
  | some a, some b => some (T.eqv a b)
  | _, _ => none
def opEq : Op2 := fun x y h => match eqT x y h with
  | some b => .ok (.bl b) h
  | none => .stuck
def opNe : Op2 := fun x y h => match eqT x y h with
  | some b => .ok (.bl (!b)) h
  | none => .stuck
/-- x in y -/
def inQ (x y : MV) (h : MH) : Option Bool := match y with
  | .str s => match x with
    | .str [c] => some (decide (c ∈ s))
    | _ => none
  | .ref _ => match toT deep h y, toT deep h x with
    | some (.lst ts), some t => some (ts.any fun z => T.eqv z t)
    | _, _ => none
  | _ => none
def opIn : Op2 := fun x y h => match inQ x y h with
  | some b => .ok (.bl b) h
  | none => .stuck
def opNotIn : Op2 := fun x y h => match inQ x y h with
  | some b => .ok (.bl (!b)) h
  | none => .stuck
/-- x[i] -/
def opIx : Op2
  | .str s, .int i, h => match atI s i with
    | some c => .ok (.str [c]) h
    | none => .stuck
  | v, .int i, h => match items h v with
    | some xs => match atI xs i with
      | some x => .ok x h
      | none => .stuck
    | none => .stuck
  | _, _, _ => .stuck
/-- part of a tuple; the whole is the tuple itself -/
def sliceT (x : MV) (lo hi : Option Int) (h : MH) : Res MV := match x with
  | .ref a => match h[a]? with
    | some (.tup xs) => if clip xs.length 0 lo = 0 ∧ clip xs.length xs.length hi = xs.length then .ok (.ref a) h else alloc (.tup (cut xs lo hi)) h
    | _ => .stuck
  | _ => .stuck
def slice (x : MV) (lo hi : Option Int) (h : MH) : Res MV := match x with
  | .str s => .ok (.str (cut s lo hi)) h
  | v => match isL h v with
    | some xs => alloc (.lst (cut xs lo hi)) h
    | none => sliceT v lo hi h
def sliceBack (x : MV) (h : MH) : Res MV := match x with
  | .ref a => match h[a]? with
    | some (.lst xs) => alloc (.lst xs.reverse) h
    | _ => .stuck
  | _ => .stuck

/-! ### expressions -/
def eVar (i : Nat) : E := fun s h => match s[i]? with
  | some (some v) => .ok v h
  | _ => .stuck
def eC (v : MV) : E := fun _ h => .ok v h
def e2 (f : Op2) (a b : E) : E := fun s h => (a s h).bind fun x h1 => (b s h1).bind fun y h2 => f x y h2
def e1 (f : MV → MH → Res MV) (a : E) : E := fun s h => (a s h).bind f
def eNeg (a : E) : E := e1 (fun v h => match v with
  | .int i => .ok (.int (-i)) h
  | _ => .stuck) a
/-- a cmp b cmp' c -/
def eChain (f g : Op2) (a b c : E) : E := fun s h => (a s h).bind fun x h1 => (b s h1).bind fun y h2 => (f x y h2).bind fun z h3 => match z with
  | .bl true => (c s h3).bind fun w h4 => g y w h4
  | .bl false => .ok (.bl false) h3
  | _ => .stuck
def eAnd (a b : E) : E := fun s h => (a s h).bind fun x h1 => match x with
  | .bl true => b s h1
  | .bl false => .ok (.bl false) h1
  | _ => .stuck
def eOr (a b : E) : E := fun s h => (a s h).bind fun x h1 => match x with
  | .bl true => .ok (.bl true) h1
  | .bl false => b s h1
  | _ => .stuck
def eNot (a : E) : E := fun s h => (a s h).bind fun x h1 => match x with
  | .bl b => .ok (.bl (!b)) h1
  | _ => .stuck
def aNil : EA := fun _ h => .ok [] h
def aCons (a : E) (as : EA) : EA := fun s h => (a s h).bind fun x h1 => (as s h1).bind fun xs h2 => .ok (x :: xs) h2
def eTup (as : EA) : E := fun s h => (as s h).bind fun xs h1 => allocT xs h1
def eLst (as : EA) : E := fun s h => (as s h).bind fun xs h1 => allocL xs h1
def eCall (f : Fn) (as : EA) : E := fun s h => (as s h).bind fun xs h1 => f xs h1
/-- part of a slice -/
abbrev EO := Env → MH → Res (Option Int)
def oNone : EO := fun _ h => .ok none h
def oSome (a : E) : EO := fun s h => (a s h).bind fun x h1 => match x with
  | .int i => .ok (some i) h1
  | _ => .stuck
def eSlice (a : E) (lo hi : EO) : E := fun s h => (a s h).bind fun x h1 => (lo s h1).bind fun l h2 => (hi s h2).bind fun u h3 => slice x l u h3
def isNon : MV → Bool
  | .non => true
  | _ => false
def eIsN (a : E) : E := e1 (fun v h => .ok (.bl (isNon v)) h) a
def eNotN (a : E) : E := e1 (fun v h => .ok (.bl (!isNon v)) h) a
def eIsB (b : Bool) (a : E) : E := e1 (fun v h => match v with
  | .bl c => .ok (.bl (decide (c = b))) h
  | _ => .stuck) a

/-! ### built-in functions -/
def fLen : Fn
  | [.str s], h => .ok (.int s.length) h
  | [v], h => match items h v with
    | some xs => .ok (.int xs.length) h
    | none => .stuck
  | _, _ => .stuck
def fList : Fn
  | [v], h => match items h v with
    | some xs => alloc (.lst xs) h
    | none => .stuck
  | _, _ => .stuck
def fTuple : Fn
  | [.ref a], h => match h[a]? with
    | some (.lst xs) => alloc (.tup xs) h
    | some (.tup _) => .ok (.ref a) h
    | _ => .stuck
  | _, _ => .stuck
def asInts : List MV → Option (List Int)
  | [] => some []
  | .int i :: r => (asInts r).map (i :: ·)
  | _ :: _ => none
def asBls : List MV → Option (List Bool)
  | [] => some []
  | .bl i :: r => (asBls r).map (i :: ·)
  | _ :: _ => none
def asStrs : List MV → Option (List (List Nat))
  | [] => some []
  | .str i :: r => (asStrs r).map (i :: ·)
  | _ :: _ => none
def fAll : Fn
  | [v], h => match isL h v with
    | some xs => match asBls xs with
      | some bs => .ok (.bl (bs.all id)) h
      | none => .stuck
    | none => .stuck
  | _, _ => .stuck
def fSum : Fn
  | [v], h => match isL h v with
    | some xs => match asInts xs with
      | some bs => .ok (.int bs.sum) h
      | none => .stuck
    | none => .stuck
  | _, _ => .stuck
def fMax : Fn
  | [.int i, .int j], h => .ok (.int (if j > i then j else i)) h
  | _, _ => .stuck
def fMin : Fn
  | [.int i, .int j], h => .ok (.int (if j < i then j else i)) h
  | _, _ => .stuck
/-- int(b) of a truth -/
def fInt : Fn
  | [.bl b], h => .ok (.int (if b then 1 else 0)) h
  | _, _ => .stuck
/-- the types asked of by isinstance -/
inductive Ty where
  | tint | tbool | tstr | tlist | ttuple | tdict
  deriving DecidableEq
def isTy (t : Ty) (h : MH) (v : MV) : Option Bool := match v with
  | .non => some false
  | .bl _ => some (t == .tbool || t == .tint)
  | .int _ => some (t == .tint)
  | .str _ => some (t == .tstr)
  | .ref a => match h[a]? with
    | some (.lst _) => some (t == .tlist)
    | some (.tup _) => some (t == .ttuple)
    | some (.dct _ _ _ _) => some (t == .tdict)
    | none => none
  | .scr _ => some (t == .tlist)
def eIsi (t : Ty) (a : E) : E := e1 (fun v h => match isTy t h v with
  | some b => .ok (.bl b) h
  | none => .stuck) a
/-- o.m(..): the receiver is of the type t -/
def eMeth (t : Ty) (f : Fn) (o : E) (as : EA) : E := fun s h => (o s h).bind fun x h1 => if isTy t h1 x = some true then (as s h1).bind fun xs h2 => f (x :: xs) h2 else .stuck
/-- methods: the receiver first -/
def mAppend : Fn
  | [.ref a, v], h => match h[a]? with
    | some (.lst xs) => if xs.length < lim then .ok .non (h.set a (.lst (xs ++ [v]))) else .stuck
    | _ => .stuck
  | _, _ => .stuck
def mPop : Fn
  | [.ref a], h => match h[a]? with
    | some (.lst xs) => match xs[xs.length - 1]? with
      | some y => .ok y (h.set a (.lst xs.dropLast))
      | none => .stuck
    | _ => .stuck
  | [.ref a, .int i], h => match h[a]? with
    | some (.lst xs) => if -(2 ^ 63) ≤ i ∧ i < 2 ^ 63 then match ixN xs.length i with
      | some k => match xs[k]? with
        | some y => .ok y (h.set a (.lst (xs.eraseIdx k)))
        | none => .stuck
      | none => .stuck else .stuck
    | _ => .stuck
  | _, _ => .stuck
def mClear : Fn
  | [.ref a], h => match h[a]? with
    | some (.lst _) => .ok .non (h.set a (.lst []))
    | _ => .stuck
  | _, _ => .stuck
/-- the number of bits of an int -/
def bitLen (i : Int) : Int := if i = 0 then 0 else ((i.natAbs.log2 + 1 : Nat) : Int)
def mBitLen : Fn
  | [.int i], h => .ok (.int (bitLen i)) h
  | _, _ => .stuck
/-- list(range(a, b)) -/
def rng (a b : Int) : List MV := (List.range (b - a).toNat).map fun (k : Nat) => .int (a + (k : Int))
def eListRng (a b : E) : E := e2 (fun x y h => match x, y with
  | .int i, .int j => if rngOk i && rngOk j then alloc (.lst (rng i j)) h else .stuck
  | _, _ => .stuck) a b

/-! ### sorted -/
def insI (x : Int) : List Int → List Int
  | [] => [x]
  | y :: r => if x < y then x :: y :: r else if x = y then y :: r else y :: insI x r
/-- each once, rising -/
def sdI : List Int → List Int
  | [] => []
  | x :: r => insI x (sdI r)
/-- sorted(set(v)) -/
def sortSet (v : MV) (h : MH) : Res MV := match isL h v with
  | some xs => match asInts xs with
    | some ns => if ns.length ≤ 4000 ∧ (sdI ns).length < 64 then alloc (.lst ((sdI ns).map .int)) h else .stuck
    | none => .stuck
  | none => .stuck
def eSortSet (a : E) : E := e1 sortSet a

/-! ### statements -/
inductive SR where
  | nx (s : Env) (h : MH)
  | rt (v : MV) (h : MH)
  | bk (s : Env) (h : MH)
  | ct (s : Env) (h : MH)
  | exc (c : Nat) (s : Env) (h : MH)
  | stuck
abbrev S := Env → MH → SR
/-- an expression first -/
def Res.into {α : Type} (x : Res α) (s : Env) (f : α → MH → SR) : SR := match x with
  | .ok a h => f a h
  | .exc c h => .exc c s h
  | .stuck => .stuck
@[simp] theorem Res.into_ok {α : Type} (a : α) (h : MH) (s : Env) (f : α → MH → SR) : (Res.ok a h).into s f = f a h := rfl
@[simp] theorem Res.into_exc {α : Type} (c : Nat) (h : MH) (s : Env) (f : α → MH → SR) : (Res.exc c h : Res α).into s f = .exc c s h := rfl
@[simp] theorem Res.into_stuck {α : Type} (s : Env) (f : α → MH → SR) : (Res.stuck : Res α).into s f = .stuck := rfl
/-- go on where it goes on -/
def SR.then (x : SR) (f : S) : SR := match x with
  | .nx s h => f s h
  | y => y
@[simp] theorem SR.then_nx (s : Env) (h : MH) (f : S) : (SR.nx s h).then f = f s h := rfl
@[simp] theorem SR.then_rt (v : MV) (h : MH) (f : S) : (SR.rt v h).then f = .rt v h := rfl
@[simp] theorem SR.then_exc (c : Nat) (s : Env) (h : MH) (f : S) : (SR.exc c s h).then f = .exc c s h := rfl
@[simp] theorem SR.then_ct (s : Env) (h : MH) (f : S) : (SR.ct s h).then f = .ct s h := rfl
@[simp] theorem SR.then_bk (s : Env) (h : MH) (f : S) : (SR.bk s h).then f = .bk s h := rfl
@[simp] theorem SR.then_stuck (f : S) : SR.stuck.then f = .stuck := rfl
def sSkip : S := fun s h => .nx s h
def sSeq (a b : S) : S := fun s h => (a s h).then b
def sExpr (a : E) : S := fun s h => (a s h).into s fun _ h1 => .nx s h1
def sRet (a : E) : S := fun s h => (a s h).into s fun v h1 => .rt v h1
def sRetN : S := fun _ h => .rt .non h
def sIf (c : E) (t u : S) : S := fun s h => (c s h).into s fun v h1 => match v with
  | .bl true => t s h1
  | .bl false => u s h1
  | _ => .stuck
def sRaise (c : Nat) : S := fun s h => .exc c s h
/-- a target: the value is put; none: stuck -/
abbrev G := MV → Env → MH → Option Env
abbrev Gs := List MV → Env → MH → Option Env
def gName (i : Nat) : G := fun v s _ => some (s.set i (some v))
def gNil : Gs := fun vs s _ => match vs with
  | [] => some s
  | _ => none
def gCons (g : G) (gs : Gs) : Gs := fun vs s h => match vs with
  | [] => none
  | v :: r => match g v s h with
    | some s1 => gs r s1 h
    | none => none
/-- a, b = v: a tuple or a list of that length -/
def gTup (n : Nat) (gs : Gs) : G := fun v s h => match items h v with
  | some xs => if xs.length = n then gs xs s h else none
  | none => none
def sAsg (g : G) (a : E) : S := fun s h => (a s h).into s fun v h1 => match g v s h1 with
  | some s2 => .nx s2 h1
  | none => .stuck
/-- o[i] = e -/
def setIx (o i v : MV) (h : MH) : Option MH := match o, i with
  | .ref a, .int k => match h[a]? with
    | some (.lst xs) => match ixN xs.length k with
      | some j => some (h.set a (.lst (xs.set j v)))
      | none => none
    | _ => none
  | _, _ => none
def sSetIx (a o i : E) : S := fun s h => (a s h).into s fun v h1 => (o s h1).into s fun x h2 => (i s h2).into s fun k h3 => match setIx x k v h3 with
  | some h4 => .nx s h4
  | none => .stuck

/-! ### loops -/
/-- what is walked -/
inductive It where
  /-- a list -/
  | lst (a : Nat) (xs : List MV)
  | tup (a : Nat) (xs : List MV)
  /-- values -/
  | vals (xs : List MV)
  /-- enumerate of a list; zip of two lists -/
  | enum (a : Nat) (xs : List MV)
  | zip (a b : Nat) (xs ys : List MV)
  /-- the keys of a dict -/
  | dct (a ep : Nat) (ts : List T) (ks : List MV)
/-- is what is walked as it was -/
def sameL (h : MH) (a : Nat) (xs : List MV) : Bool := match h[a]? with
  | some (.lst ys) => decide (ys = xs)
  | _ => false
def sameT (h : MH) (a : Nat) (xs : List MV) : Bool := match h[a]? with
  | some (.tup ys) => decide (ys = xs)
  | _ => false
def sameD (h : MH) (a ep : Nat) (ts : List T) (ks : List MV) : Bool := match h[a]? with
  | some (.dct e us ls _) => decide (e = ep) && decide (us = ts) && decide (ls = ks)
  | _ => false
def It.good (J : It) (h : MH) : Bool := match J with
  | .lst a xs => sameL h a xs
  | .tup a xs => sameT h a xs
  | .vals _ => true
  | .enum a xs => sameL h a xs
  | .zip a b xs ys => sameL h a xs && sameL h b ys
  | .dct a ep ts ks => sameD h a ep ts ks
/-- an item: one value or two -/
inductive Itm where
  | one (v : MV)
  | two (v w : MV)
def It.itms (J : It) : List Itm := match J with
  | .lst _ xs => xs.map .one
  | .tup _ xs => xs.map .one
  | .vals xs => xs.map .one
  | .enum _ xs => (List.range xs.length).zipWith (fun (i : Nat) x => .two (.int (i : Int)) x) xs
  | .zip _ _ xs ys => xs.zipWith .two ys
  | .dct _ _ _ ks => ks.map .one
abbrev EI := Env → MH → Res It
/-- over a list or a tuple -/
def iSeq (a : E) : EI := fun s h => (a s h).bind fun v h1 => match v with
  | .ref p => match h1[p]? with
    | some (.lst xs) => .ok (.lst p xs) h1
    | some (.tup xs) => .ok (.tup p xs) h1
    | _ => .stuck
  | .str x => .ok (.vals (x.map fun c => .str [c])) h1
  | .scr xs => .ok (.vals (xs.map .int)) h1
  | _ => .stuck
def iRng (a : E) : EI := fun s h => (a s h).bind fun v h1 => match v with
  | .int j => if rngOk j then .ok (.vals (rng 0 j)) h1 else .stuck
  | _ => .stuck
def iRng2 (a b : E) : EI := fun s h => (a s h).bind fun v h1 => (b s h1).bind fun w h2 => match v, w with
  | .int i, .int j => if rngOk i && rngOk j then .ok (.vals (rng i j)) h2 else .stuck
  | _, _ => .stuck
def iEnum (a : E) : EI := fun s h => (a s h).bind fun v h1 => match v with
  | .ref p => match h1[p]? with
    | some (.lst xs) => .ok (.enum p xs) h1
    | _ => .stuck
  | _ => .stuck
def iZip (a b : E) : EI := fun s h => (a s h).bind fun v h1 => (b s h1).bind fun w h2 => match v, w with
  | .ref p, .ref q => match h2[p]?, h2[q]? with
    | some (.lst xs), some (.lst ys) => .ok (.zip p q xs ys) h2
    | _, _ => .stuck
  | _, _ => .stuck
/-- the loop's target: one name (or a pattern), or two -/
abbrev GI := Itm → Env → MH → Option Env
def gOne (g : G) : GI := fun m s h => match m with
  | .one v => g v s h
  | .two _ _ => none
def gTwo (g k : G) : GI := fun m s h => match m with
  | .one v => gTup 2 (gCons g (gCons k gNil)) v s h
  | .two v w => gCons g (gCons k gNil) [v, w] s h
/-- what a turn's end is, f: the further turns -/
def turn (f : S) : SR → SR
  | .nx s h => f s h
  | .ct s h => f s h
  | .bk s h => .nx s h
  | y => y
@[simp] theorem turn_nx (f : S) (s : Env) (h : MH) : turn f (.nx s h) = f s h := rfl
@[simp] theorem turn_ct (f : S) (s : Env) (h : MH) : turn f (.ct s h) = f s h := rfl
@[simp] theorem turn_bk (f : S) (s : Env) (h : MH) : turn f (.bk s h) = .nx s h := rfl
@[simp] theorem turn_rt (f : S) (v : MV) (h : MH) : turn f (.rt v h) = .rt v h := rfl
@[simp] theorem turn_exc (f : S) (c : Nat) (s : Env) (h : MH) : turn f (.exc c s h) = .exc c s h := rfl
def loop (ok : MH → Bool) (g : GI) (b : S) : List Itm → S
  | [], s, h => if ok h then .nx s h else .stuck
  | m :: r, s, h => if ok h then (match g m s h with
    | some s1 => turn (loop ok g b r) (b s1 h)
    | none => .stuck) else .stuck
def sFor (it : EI) (g : GI) (b : S) : S := fun s h => (it s h).into s fun J h1 => loop J.good g b J.itms s h1
def wloop (c : E) (b : S) : Nat → S
  | 0, _, _ => .stuck
  | n + 1, s, h => (c s h).into s fun v h1 => match v with
    | .bl true => turn (wloop c b n) (b s h1)
    | .bl false => .nx s h1
    | _ => .stuck
abbrev fuel : Nat := 1000000
def sWhile (c : E) (b : S) : S := wloop c b fuel
/-- the own names of a comprehension are forgotten -/
def wipe (s : Env) : List Nat → Env
  | [] => s
  | v :: vs => (wipe s vs).set v none
def lcGo (ok : MH → Bool) (g : GI) (c : E) (e : E) (s : Env) : List Itm → List MV → MH → Res (List MV)
  | [], acc, h => if ok h then .ok acc h else .stuck
  | m :: r, acc, h => if ok h then (match g m s h with
    | some s1 => (c s1 h).calm.bind fun b h2 => match b with
      | .bl true => (e s1 h2).calm.bind fun v h3 => lcGo ok g c e s r (acc ++ [v]) h3
      | .bl false => lcGo ok g c e s r acc h2
      | _ => .stuck
    | none => .stuck) else .stuck
/-- [e for g in it if c], vs: the places of the own names -/
def eLc (it : EI) (g : GI) (c : E) (e : E) (vs : List Nat) : E := fun s h => (it s h).bind fun J h1 => (lcGo J.good g c e (wipe s vs) J.itms [] h1).bind fun xs h2 => alloc (.lst xs) h2
def eT : E := eC (.bl true)

/-! ### defs -/
/-- a def of n parameters and k places -/
def fBody (n k : Nat) (b : S) : Fn := fun vs h => if vs.length = n then (match b (vs.map some ++ List.replicate (k - n) none) h with
  | .nx _ h1 => .ok .non h1
  | .rt v h1 => .ok v h1
  | .exc c _ h1 => .exc c h1
  | _ => .stuck) else .stuck
end Mi
/-! More of the mirror: order of data, sorted, sets of texts, join, index. -/
namespace Mi
mutual
/-- can be compared, place by place -/
def T.alk : T → T → Bool
  | .non, .non => true
  | .bl _, .bl _ => true
  | .int _, .int _ => true
  | .str _, .str _ => true
  | .lst xs, .lst ys => T.alks xs ys
  | .tup xs, .tup ys => T.alks xs ys
  | _, _ => false
def T.alks : List T → List T → Bool
  | x :: xs, y :: ys => T.alk x y && T.alks xs ys
  | _, _ => true
end
mutual
/-- x < y -/
def T.lt : T → T → Bool
  | .bl a, .bl b => !a && b
  | .int i, .int j => decide (i < j)
  | .str x, .str y => decide (x < y)
  | .lst xs, .lst ys => T.lts xs ys
  | .tup xs, .tup ys => T.lts xs ys
  | _, _ => false
def T.lts : List T → List T → Bool
  | x :: xs, y :: ys => if T.eqv x y then T.lts xs ys else T.lt x y
  | [], _ :: _ => true
  | _, [] => false
end
def T.le (a b : T) : Bool := !T.lt b a
def T.tupNE : T → Bool
  | .tup (_ :: _) => true
  | _ => false
def T.plain : T → Bool
  | .non => false
  | .tup _ => false
  | _ => true
/-- a list of these can be sorted -/
def canSort (ts : List T) : Bool := (ts.all T.tupNE || ts.all T.plain) && ts.all fun a => ts.all fun b => T.alk a b
def T.isTup : T → Bool
  | .tup _ => true
  | _ => false
def headNE : List T → Bool
  | t :: _ :: _ => t.tupNE
  | _ => true
/-- or tuples of which the first has an item -/
def canSortX (ts : List T) : Bool := canSort ts || (headNE ts && ts.all T.isTup && ts.all fun a => ts.all fun b => T.alk a b)
/-- xs in the order of their data ts -/
def sortP {α : Type} (xs : List α) (ts : List T) : List α := ((xs.zip ts).mergeSort fun p q => T.le p.2 q.2).map Prod.fst
/-- sorted(v) -/
def fSorted : Fn
  | [v], h => match isL h v with
    | some xs => match toTs 59 h xs with
      | some ts => if canSort ts then alloc (.lst (sortP xs ts)) h else .stuck
      | none => .stuck
    | none => .stuck
  | _, _ => .stuck
/-- a list of a list, a tuple, a text -/
def fListB : Fn
  | [.str s], h => alloc (.lst (s.map fun c => .str [c])) h
  | xs, h => fList xs h
/-- texts with a between -/
def joinB (a : List Nat) : List (List Nat) → List Nat
  | [] => []
  | [x] => x
  | x :: y :: r => x ++ (a ++ joinB a (y :: r))
def mJoin : Fn
  | [.str a, v], h => match isL h v with
    | some xs => match asStrs xs with
      | some ys => if (ys.map List.length).sum + ys.length * a.length ≤ lim then .ok (.str (joinB a ys)) h else .stuck
      | none => .stuck
    | none => .stuck
  | _, _ => .stuck
/-- the place of the first equal one -/
def mIndex : Fn
  | [.ref a, x], h => match toT 60 h (.ref a), toT 60 h x with
    | some (.lst ts), some t => match ts.findIdx? fun z => T.eqv z t with
      | some j => .ok (.int (j : Nat)) h
      | none => .stuck
    | _, _ => .stuck
  | _, _ => .stuck
def insS (x : List Nat) : List (List Nat) → List (List Nat)
  | [] => [x]
  | y :: r => if x < y then x :: y :: r else if x = y then y :: r else y :: insS x r
/-- each once, rising -/
def sdS : List (List Nat) → List (List Nat)
  | [] => []
  | x :: r => insS x (sdS r)
/-- sorted(set(v)), v of ints or of texts -/
def sortSetB (v : MV) (h : MH) : Res MV := match isL h v with
  | some xs => match asInts xs with
    | some ns => if ns.length ≤ 4000 ∧ (sdI ns).length < 64 then alloc (.lst ((sdI ns).map .int)) h else .stuck
    | none => match asStrs xs with
      | some ss => if ss.length ≤ 4000 then alloc (.lst ((sdS ss).map .str)) h else .stuck
      | none => .stuck
  | none => .stuck
def eSortSetB (a : E) : E := e1 sortSetB a
end Mi
namespace Mi
/-! ### dicts -/
mutual
/-- a key, of depth n at most -/
def T.keyN : Nat → T → Bool
  | _, .non => true
  | _, .int _ => true
  | _, .str _ => true
  | n + 1, .tup xs => T.keyNs n xs
  | _, _ => false
def T.keyNs : Nat → List T → Bool
  | _, [] => true
  | n, x :: xs => T.keyN n x && T.keyNs n xs
end
/-- the key that a value makes -/
def kT (h : MH) (v : MV) : Option T := match toT deep h v with
  | some t => if t.keyN 8 then some t else none
  | none => none
/-- are the keys of these trees -/
def kSame (h : MH) : List T → List MV → Bool
  | [], [] => true
  | t :: ts, k :: ks => decide (kT h k = some t) && kSame h ts ks
  | _, _ => false
section
variable {κ α : Type} [DecidableEq κ]
def kHas (ks : List κ) (k : κ) : Bool := ks.any fun z => decide (z = k)
def kGet : List κ → List α → κ → Option α
  | z :: ks, x :: xs, k => if z = k then some x else kGet ks xs k
  | _, _, _ => none
def kSet : List κ → List α → κ → α → List α
  | z :: ks, x :: xs, k, v => if z = k then v :: xs else x :: kSet ks xs k v
  | _, xs, _, _ => xs
/-- in its place, or at the end -/
def kPutK (ks : List κ) (k : κ) : List κ := if kHas ks k then ks else ks ++ [k]
def kPutX (ks : List κ) (xs : List α) (k : κ) (v : α) : List α := if kHas ks k then kSet ks xs k v else xs ++ [v]
end
def eDct : E := fun _ h => alloc (.dct 0 [] [] []) h
/-- o[i]: dicts too -/
def opIxB : Op2 := fun x k h => match x with
  | .ref a => match h[a]? with
    | some (.dct _ ts ks xs) => match kT h k with
      | some z => if kSame h ts ks then match kGet ts xs z with
        | some v => .ok v h
        | none => .stuck
        else .stuck
      | none => .stuck
    | _ => opIx x k h
  | _ => opIx x k h
/-- o[i] = v of a dict -/
def setKey (o i v : MV) (h : MH) : Option MH := match o with
  | .ref a => match h[a]? with
    | some (.dct ep ts ks xs) => match kT h i with
      | some z => if kSame h ts ks = true ∧ xs.length < lim then some (h.set a (if kHas ts z then .dct ep ts ks (kSet ts xs z v) else .dct (ep + 1) (ts ++ [z]) (ks ++ [i]) (xs ++ [v]))) else none
      | none => none
    | _ => none
  | _ => none
/-- tuple(range(a)) -/
def eTupRng (a : E) : E := e1 (fun v h => match v with
  | .int j => if rngOk j then alloc (.tup (rng 0 j)) h else .stuck
  | _ => .stuck) a
/-- {k: v} -/
def eDsp1 (k v : E) : E := fun s h => (alloc (.dct 0 [] [] []) h).bind fun d h0 => (k s h0).bind fun x h1 => (v s h1).bind fun y h2 => match setKey d x y h2 with
  | some h3 => .ok d h3
  | none => .stuck
def sSetKey (a o i : E) : S := fun s h => (a s h).into s fun v h1 => (o s h1).into s fun x h2 => (i s h2).into s fun k h3 => match setKey x k v h3 with
  | some h4 => .nx s h4
  | none => .stuck
/-- x in d -/
def inD (x d : MV) (h : MH) : Option Bool := match d with
  | .ref a => match h[a]? with
    | some (.dct _ ts ks _) => match kT h x with
      | some z => if kSame h ts ks then some (kHas ts z) else none
      | none => none
    | _ => none
  | _ => none
def opInD : Op2 := fun x d h => match inD x d h with
  | some b => .ok (.bl b) h
  | none => .stuck
def opNotInD : Op2 := fun x d h => match inD x d h with
  | some b => .ok (.bl (!b)) h
  | none => .stuck
/-- d.get(k, x) -/
def mGetD : Fn
  | [.ref a, k, x], h => match h[a]? with
    | some (.dct _ ts ks xs) => match kT h k with
      | some z => if kSame h ts ks then .ok ((kGet ts xs z).getD x) h else .stuck
      | none => .stuck
    | _ => .stuck
  | _, _ => .stuck
/-- len, list, sorted: of a dict too -/
def fLenB : Fn
  | [.ref a], h => match h[a]? with
    | some (.dct _ _ _ xs) => .ok (.int xs.length) h
    | _ => fLen [.ref a] h
  | xs, h => fLen xs h
def fListD : Fn
  | [.ref a], h => match h[a]? with
    | some (.dct _ _ ks _) => alloc (.lst ks) h
    | _ => fList [.ref a] h
  | xs, h => fList xs h
def fSortedD : Fn
  | [.ref a], h => match h[a]? with
    | some (.dct _ ts ks _) => if kSame h ts ks = true ∧ canSortX ts then alloc (.lst (sortP ks ts)) h else .stuck
    | _ => fSorted [.ref a] h
  | xs, h => fSorted xs h
/-- for k in d -/
def iDct (a : E) : EI := fun s h => (a s h).bind fun v h1 => match v with
  | .ref p => match h1[p]? with
    | some (.dct ep ts ks _) => .ok (.dct p ep ts ks) h1
    | _ => .stuck
  | _ => .stuck
end Mi
set_option linter.all false
set_option maxRecDepth 100000
set_option maxHeartbeats 4000000
/-! Dicts of any keys (numbers, texts, None, tuples of these, together), in the machine. -/
namespace Mi
open PySem PySem.Spec
/-- an entry: the key, the key's value, what it holds -/
structure DE where
  k : NestedKey
  kv : Value
  v : Value
def DE.ent (w : World) (x : DE) : DictEntry := ⟨x.k.hash w, x.kv, x.v⟩
def dIdx (xs : List DE) (k : NestedKey) : Option Nat := xs.findIdx? fun x => decide (x.k = k)
def dKeys (h : Heap) (xs : List DE) : Prop := ∀ x ∈ xs, NestedIs h x.k x.kv ∧ x.k.depth ≤ 8
def DictV (w : World) (h : Heap) (d : Addr) (ep : Nat) (xs : List DE) : Prop :=
  ∃ o es, h.get? d = some o ∧ o.ExactDict ∧ o.data = .dict es ep ∧ es.toList = xs.map (DE.ent w)
theorem DictV.typeIs {w : World} {s : Shared} {d : Addr} {ep : Nat} {xs : List DE} (x : DictV w s.heap d ep xs) : s.TypeIs (.ref d) "dict" :=
  let ⟨o, _, ho, hc, _⟩ := x; ⟨o, ho, hc.1⟩
theorem dIdx_some {xs : List DE} {k : NestedKey} {j : Nat} {x : DE} (nd : (xs.map DE.k).Nodup) (e : xs[j]? = some x) (ek : x.k = k) : dIdx xs k = some j := by
  unfold dIdx
  rw [List.findIdx?_eq_some_iff_getElem]
  obtain ⟨hj, ex⟩ := List.getElem?_eq_some_iff.mp e
  refine ⟨hj, by rw [ex, ek]; simp, fun i hi hc => ?_⟩
  have hi' : i < xs.length := by omega
  have e1 : (xs.map DE.k)[i]? = some k := by rw [List.getElem?_map, List.getElem?_eq_getElem hi']; simpa using of_decide_eq_true hc
  have e2 : (xs.map DE.k)[j]? = some k := by rw [List.getElem?_map, e]; simp [ek]
  have := (List.getElem?_inj (List.getElem?_eq_some_iff.mp e1).1 nd).mp (e1.trans e2.symm)
  omega
theorem dIdx_none {xs : List DE} {k : NestedKey} (h : ∀ (j : Nat) (x : DE), xs[j]? = some x → x.k ≠ k) : dIdx xs k = none := by
  unfold dIdx
  rw [List.findIdx?_eq_none_iff]
  intro x m
  obtain ⟨j, e⟩ := List.mem_iff_getElem?.mp m
  exact decide_eq_false (h j x e)
section
variable {prog : Program} {w : World} {A : Around} {E : Value → Shared → Prop} {s : Shared}
theorem wIf {α : Type} {c : Prop} [Decidable c] {a b : Sem α} {Q : α → Shared → Prop} (h : wpAny (model prog w) A a Q E s) (h' : wpAny (model prog w) A b Q E s) : wpAny (model prog w) A (if c then a else b) Q E s := by
  by_cases z : c
  · rw [if_pos z]; exact h
  · rw [if_neg z]; exact h'
theorem eq_two {s : Shared} {a b : NestedKey} {u v : Value} {Q : Bool → Shared → Prop} (hr : A.units + 8 < cLine) (ha : NestedIs s.heap a u ∧ a.depth ≤ 8) (hb : NestedIs s.heap b v ∧ b.depth ≤ 8) (q : Q (decide (a = b)) s) : wpAny (model prog w) A (eqBool u v) Q E s := by
  rw [NestedKey.decide_eq] at q
  exact eqAt_key a b A s u v ha.1 hb.1 (by have := ha.2; omega) prog w E Q q
/-- no key is asked aloud -/
theorem quiet_of {s : Shared} {kv : Value} {l : List Value} {Q : Bool → Shared → Prop} (hk : ∃ k, NestedIs s.heap k kv ∧ k.depth ≤ 8) (hl : ∀ v ∈ l, ∃ k, NestedIs s.heap k v ∧ k.depth ≤ 8) (q : Q false s) : wpAny (model prog w) A (tableMayTell kv l) Q E s := by
  unfold tableMayTell
  split
  · exact wpAny_pure q
  · obtain ⟨k, hk, dk⟩ := hk
    refine wpAny_bind (quiet_key k kv 8 s hk dk A E _ ?_)
    rw [if_neg (by decide)]
    refine wpAny_bind ?_
    refine wpAny_forIn_list _ (fun l r t => t = s ∧ r = (none, ()) ∧ ∀ v ∈ l, ∃ k, NestedIs s.heap k v ∧ k.depth ≤ 8) _ ?_ ?_ _ _ ⟨rfl, rfl, hl⟩
    · rintro u l r t ⟨rfl, rfl, hr⟩
      obtain ⟨j, hj, dj⟩ := hr u (by simp)
      refine wpAny_bind (quiet_key j u 8 _ hj dj A E _ ?_)
      rw [if_neg (by decide)]
      exact wpAny_pure ⟨rfl, rfl, fun v m => hr v (by simp [m])⟩
    · rintro r t ⟨rfl, rfl, _⟩
      exact wpAny_pure q
theorem find_v {d : Addr} {o : PySem.Obj} {es : Array DictEntry} {ep : Nat} {xs : List DE} {k : NestedKey} {kv : Value} {Q : Option Nat → Shared → Prop} (hr : A.units + 8 < cLine) (hk : NestedIs s.heap k kv ∧ k.depth ≤ 8)
    (ho : s.heap.get? d = some o) (hd : o.data = .dict es ep) (he : es.toList = xs.map (DE.ent w)) (ks : dKeys s.heap xs) (nd : (xs.map DE.k).Nodup) (q : Q (dIdx xs k) s) :
    wpAny (model prog w) A (dictFind d kv (k.hash w)) Q E s := by
  have at_ : ∀ j : Nat, es[j]? = (xs[j]?).map (DE.ent w) := fun j => by rw [← Array.getElem?_toList, he, List.getElem?_map]
  have sz : es.size = xs.length := by rw [← Array.length_toList, he, List.length_map]
  have uni : ∀ (i j : Nat) (x y : DE), xs[i]? = some x → xs[j]? = some y → x.k = k → y.k = k → i = j := fun i j x y hi hj ex ey => by
    have e1 := dIdx_some nd hi ex
    have e2 := dIdx_some nd hj ey
    rw [e1] at e2
    exact Option.some.inj e2
  have pmem : ∀ (j : Nat) (x : DE), xs[j]? = some x → x.k = k → j ∈ placesWithHash es.size (fun i => es[i]?.map (·.hash)) (k.hash w) := fun j x e ek => by
    unfold placesWithHash
    rw [List.mem_filter, List.mem_range, sz]
    refine ⟨(List.getElem?_eq_some_iff.mp e).1, ?_⟩
    show ((es[j]?.map (·.hash)) == some (k.hash w)) = true
    rw [at_ j, e, ← ek]
    simp [DE.ent]
  have plt : ∀ j ∈ placesWithHash es.size (fun i => es[i]?.map (·.hash)) (k.hash w), ∃ x, xs[j]? = some x := fun j m => by
    unfold placesWithHash at m
    rw [List.mem_filter, List.mem_range, sz] at m
    exact ⟨_, List.getElem?_eq_getElem m.1⟩
  have pnd : (placesWithHash es.size (fun i => es[i]?.map (·.hash)) (k.hash w)).Nodup := by
    unfold placesWithHash
    exact List.nodup_range.filter _
  have plain : wpAny (model prog w) A (dictWalkPlain d kv (k.hash w) es (placesWithHash es.size (fun i => es[i]?.map (·.hash)) (k.hash w))) Q E s := by
    unfold dictWalkPlain
    refine wpAny_bind ?_
    refine wpAny_forIn_list _ (fun l r t => t = s ∧ r = (none, ()) ∧ (∀ j ∈ l, ∃ x, xs[j]? = some x) ∧ ∀ (j : Nat) (x : DE), xs[j]? = some x → x.k = k → j ∈ l) _ ?_ ?_ _ _ ⟨rfl, rfl, plt, pmem⟩
    · rintro i l r t ⟨rfl, rfl, hl, hm⟩
      obtain ⟨x, ex⟩ := hl i (by simp)
      have nxt : x.k ≠ k → ∀ (j : Nat) (y : DE), xs[j]? = some y → y.k = k → j ∈ l := fun ne j y ey ek => by
        rcases List.mem_cons.mp (hm j y ey ek) with z | z
        · subst z; rw [ex] at ey; cases ey; exact (ne ek).elim
        · exact z
      rw [at_ i, ex]
      simp only [Option.map_some]
      by_cases hh : ((DE.ent w x).hash == k.hash w) = true
      · rw [if_pos hh]
        refine wpAny_bind (wpAny_dictEpoch ho hd (wpAny_bind (eq_two hr (ks x (List.mem_of_getElem? ex)) hk (wpAny_bind (wpAny_dictEpoch ho hd ?_)))))
        rw [if_neg (by simp)]
        by_cases e : x.k = k
        · rw [decide_eq_true e]
          have := dIdx_some nd ex e
          rw [this] at q
          exact wpAny_bind (wpAny_rule (wpAny_pure (wpAny_pure q)))
        · rw [decide_eq_false e]
          exact wpAny_bind (wpAny_rule (wpAny_pure ⟨rfl, rfl, fun j m => hl j (by simp [m]), nxt e⟩))
      · rw [if_neg hh]
        exact wpAny_pure ⟨rfl, rfl, fun j m => hl j (by simp [m]), nxt fun e => hh (by simp [DE.ent, e])⟩
    · rintro r t ⟨rfl, rfl, _, hm⟩
      rw [dIdx_none fun j x e ek => nomatch hm j x e ek] at q
      exact wpAny_pure q
  have hst : ∀ v ∈ (placesWithHash es.size (fun i => es[i]?.map (·.hash)) (k.hash w)).filterMap (fun i => es[i]?.map (·.key)), ∃ k, NestedIs s.heap k v ∧ k.depth ≤ 8 := fun v m => by
    obtain ⟨i, mi, ei⟩ := List.mem_filterMap.mp m
    obtain ⟨x, ex⟩ := plt i mi
    rw [at_ i, ex] at ei
    simp only [Option.map_some, Option.some.injEq] at ei
    subst ei
    exact ⟨x.k, ks x (List.mem_of_getElem? ex)⟩
  have mem_es : ∀ e ∈ es, ∃ x ∈ xs, e = DE.ent w x := fun e m => by
    have : e ∈ xs.map (DE.ent w) := he ▸ Array.mem_toList_iff.mpr m
    obtain ⟨x, hx, rfl⟩ := List.mem_map.mp this
    exact ⟨x, hx, rfl⟩
  have slow : ∀ stored : List Value, wpAny (model prog w) A (do
      let mut hit : Option Nat := none
      for i in placesWithHash es.size (fun i => es[i]?.map (·.hash)) (k.hash w) do
        if let some e := es[i]? then
          if e.hash == k.hash w then
            let before ← dictEpoch d (keyPart kv)
            let same ← eqBool e.key kv
            if (← dictEpoch d (keyPart kv)) != before then unsupported "dict.changed-during-lookup"
            if same then
              if hit.isSome then unsupported "dict.find:order-among-keys-of-one-hash"
              rule "dict.find.hit"
              if stored.length < 2 then return some i
              hit := some i
            else
              rule "dict.find.same-hash-other-key"
              if false && !(0 ≤ k.hash w && k.hash w < 32) then unsupported "dict.find:asked-again-or-not-hangs-on-the-table"
      return hit) Q E s := fun stored => by
    refine wpAny_bind ?_
    refine wpAny_forIn_list _ (fun l r t => t = s ∧ l.Nodup ∧ (∀ j ∈ l, ∃ x, xs[j]? = some x) ∧ ∃ hit, r = (none, hit) ∧
      ((hit = none ∧ ∀ (j : Nat) (x : DE), xs[j]? = some x → x.k = k → j ∈ l) ∨ ∃ j x, hit = some j ∧ j ∉ l ∧ xs[j]? = some x ∧ x.k = k)) _ ?_ ?_ _ _ ⟨rfl, pnd, plt, none, rfl, .inl ⟨rfl, pmem⟩⟩
    · rintro i l r t ⟨rfl, nl, hl, hit, rfl, hm⟩
      obtain ⟨ni, nl'⟩ := List.nodup_cons.mp nl
      obtain ⟨x, ex⟩ := hl i (by simp)
      have hl' : ∀ j ∈ l, ∃ x, xs[j]? = some x := fun j m => hl j (by simp [m])
      have nxt : x.k ≠ k → ((hit = none ∧ ∀ (j : Nat) (x : DE), xs[j]? = some x → x.k = k → j ∈ l) ∨ ∃ j x, hit = some j ∧ j ∉ l ∧ xs[j]? = some x ∧ x.k = k) := fun ne => by
        rcases hm with ⟨h0, hm⟩ | ⟨j, y, h1, h2, h3, h4⟩
        · refine .inl ⟨h0, fun j y ey ek => ?_⟩
          rcases List.mem_cons.mp (hm j y ey ek) with z | z
          · subst z; rw [ex] at ey; cases ey; exact (ne ek).elim
          · exact z
        · exact .inr ⟨j, y, h1, fun m => h2 (by simp [m]), h3, h4⟩
      rw [at_ i, ex]
      simp only [Option.map_some]
      by_cases hh : ((DE.ent w x).hash == k.hash w) = true
      · rw [if_pos hh]
        refine wpAny_bind (wpAny_dictEpoch ho hd (wpAny_bind (eq_two hr (ks x (List.mem_of_getElem? ex)) hk (wpAny_bind (wpAny_dictEpoch ho hd ?_)))))
        rw [if_neg (by simp)]
        by_cases e : x.k = k
        · rw [decide_eq_true e, if_pos rfl]
          rcases hm with ⟨rfl, hm⟩ | ⟨j, y, h1, h2, h3, h4⟩
          · rw [if_neg (by simp)]
            refine wpAny_bind (wpAny_rule ?_)
            split
            · have := dIdx_some nd ex e
              rw [this] at q
              exact wpAny_pure (wpAny_pure q)
            · exact wpAny_pure ⟨rfl, nl', hl', some i, rfl, .inr ⟨i, x, rfl, ni, ex, e⟩⟩
          · exact absurd (uni j i y x h3 ex h4 e) (fun z => h2 (by simp [z]))
        · rw [decide_eq_false e, if_neg (by decide)]
          refine wpAny_bind (wpAny_rule ?_)
          rw [if_neg (by simp)]
          exact wpAny_pure ⟨rfl, nl', hl', hit, rfl, nxt e⟩
      · rw [if_neg hh]
        exact wpAny_pure ⟨rfl, nl', hl', hit, rfl, nxt fun e => hh (by simp [DE.ent, e])⟩
    · rintro r t ⟨rfl, _, _, hit, rfl, hm⟩
      rcases hm with ⟨rfl, hm⟩ | ⟨j, y, rfl, _, h3, h4⟩
      · rw [dIdx_none fun j x e ek => nomatch hm j x e ek] at q
        exact wpAny_pure q
      · rw [dIdx_some nd h3 h4] at q
        exact wpAny_pure q
  have mid : ∀ stored : List Value, (∀ v ∈ stored, ∃ k, NestedIs s.heap k v ∧ k.depth ≤ 8) → ∀ f : Bool → Sem (Option Nat), wpAny (model prog w) A (f false) Q E s →
      wpAny (model prog w) A (if (stored == [kv]) = true then pure false >>= f else tableMayTell kv stored >>= f) Q E s := fun stored hs f hf => by
    split
    · exact wpAny_bind (wpAny_pure hf)
    · exact wpAny_bind (quiet_of ⟨k, hk⟩ hs hf)
  unfold dictFind
  refine wpAny_holding ?_
  refine wpAny_bind (wpAny_dictEntries ho hd ?_)
  dsimp only
  cases kv with
  | str x tk =>
    have ek : k = .text x := by cases hk.1; rfl
    dsimp only
    by_cases hs : (es.all fun e => isExactStrKey e.key) = true
    · rw [if_pos hs]
      unfold foundByValue
      have isx : ∀ y ∈ xs, y.kv.isStr x = decide (y.k = k) := fun y my => by
        have hy := (ks y my).1
        have hz : isExactStrKey y.kv = true := by
          have := Array.all_eq_true_iff_forall_mem.mp hs (DE.ent w y) (Array.mem_toList_iff.mp (by rw [he]; exact List.mem_map.mpr ⟨y, my, rfl⟩))
          exact this
        generalize y.k = yk at hy
        generalize y.kv = yv at hy hz
        subst ek
        cases hy with
        | text z t =>
          show (z == x) = decide (NestedKey.text z = NestedKey.text x)
          by_cases e : z = x
          · subst e; simp
          · have : ¬ NestedKey.text z = NestedKey.text x := fun h => e (by injection h)
            rw [decide_eq_false this]
            simpa using e
        | none => cases hz
        | bool _ => cases hz
        | int _ _ => cases hz
        | tup _ _ _ _ => cases hz
      have isx' : ∀ (j : Nat) (hj : j < es.size), ∃ y, xs[j]? = some y ∧ es[j] = DE.ent w y ∧ es[j].key.isStr x = decide (y.k = k) := fun j hj => by
        obtain ⟨y, ey⟩ : ∃ y, xs[j]? = some y := ⟨_, List.getElem?_eq_getElem (by rw [← sz]; exact hj)⟩
        have e1 := at_ j
        rw [ey, Array.getElem?_eq_getElem hj] at e1
        have e2 := Option.some.inj e1
        exact ⟨y, ey, e2, by rw [e2]; exact isx y (List.mem_of_getElem? ey)⟩
      cases hf : es.findIdx? fun e => e.key.isStr x with
      | none =>
        have := Array.findIdx?_eq_none_iff.mp hf
        rw [dIdx_none fun j y ey ek' => by
          have hj : j < es.size := by rw [sz]; exact (List.getElem?_eq_some_iff.mp ey).1
          obtain ⟨z, ez, _, e3⟩ := isx' j hj
          rw [ey] at ez; cases ez
          have := this es[j] (Array.getElem_mem hj)
          rw [e3, decide_eq_true ek'] at this
          cases this] at q
        exact wpAny_pure q
      | some i =>
        obtain ⟨hlt, hi, _⟩ := Array.findIdx?_eq_some_iff_getElem.mp hf
        obtain ⟨y, ey, e2, e3⟩ := isx' i hlt
        rw [e3] at hi
        have hk' := of_decide_eq_true hi
        rw [dIdx_some nd ey hk'] at q
        simp only [Array.getElem?_eq_getElem hlt, e2]
        refine wpAny_bind (wpAny_dictEpoch ho hd (wpAny_bind (eq_two hr (ks y (List.mem_of_getElem? ey)) hk (wpAny_bind (wpAny_dictEpoch ho hd ?_)))))
        rw [if_neg (by simp), hi]
        exact wpAny_bind (wpAny_rule (wpAny_pure q))
    · rw [if_neg hs]
      by_cases hc : (Value.str x tk :: (placesWithHash es.size (fun i => es[i]?.map (·.hash)) (k.hash w)).filterMap (fun i => es[i]?.map (·.key))).all carriedByValue = true
      · rw [if_pos hc]; exact plain
      · rw [if_neg hc]
        refine mid _ hst _ ?_
        rw [if_neg (by simp)]
        exact slow _
  | ref a =>
    dsimp only
    have hc : ¬ (Value.ref a :: (placesWithHash es.size (fun i => es[i]?.map (·.hash)) (k.hash w)).filterMap (fun i => es[i]?.map (·.key))).all carriedByValue = true := by simp [carriedByValue]
    rw [if_neg hc]
    have hn : ¬ (es.any fun e => e.key == Value.ref a && e.hash != k.hash w) = true := by
      rw [← Array.any_toList, List.any_eq_true]
      rintro ⟨e, m, hh⟩
      obtain ⟨x, mx, rfl⟩ := mem_es e (Array.mem_toList_iff.mp m)
      simp only [DE.ent, Bool.and_eq_true, beq_iff_eq, bne_iff_ne, ne_eq] at hh
      have kx := (ks x mx).1
      rw [hh.1] at kx
      exact hh.2 (by rw [NestedIs.inj _ _ _ kx hk.1])
    rw [if_neg hn]
    refine mid _ hst _ ?_
    rw [if_neg (by simp)]
    exact slow _
  | _ =>
    first
    | (have hx := hk.1; cases hx; done)
    | (dsimp only
       refine wIf plain (mid _ hst _ ?_)
       rw [if_neg (by simp)]
       exact slow _)
def dVal (xs : List DE) (k : NestedKey) : Option Value := (dIdx xs k).bind fun j => (xs[j]?).map DE.v
theorem dIdx_get {xs : List DE} {k : NestedKey} {j : Nat} (e : dIdx xs k = some j) : ∃ x, xs[j]? = some x ∧ x.k = k := by
  unfold dIdx at e
  rw [List.findIdx?_eq_some_iff_getElem] at e
  obtain ⟨hj, h, _⟩ := e
  exact ⟨xs[j], List.getElem?_eq_getElem hj, of_decide_eq_true h⟩
theorem get_v {d : Addr} {ep : Nat} {xs : List DE} {k : NestedKey} {kv : Value} {Q : Option Value → Shared → Prop} (hr : A.units + 8 < cLine) (hk : NestedIs s.heap k kv ∧ k.depth ≤ 8)
    (hd : DictV w s.heap d ep xs) (ks : dKeys s.heap xs) (nd : (xs.map DE.k).Nodup) (q : Q (dVal xs k) { s with toks := s.toks + k.draws }) : wpAny (model prog w) A (dictGet d kv) Q E s := by
  obtain ⟨o, es, ho, hc, hdt, he⟩ := hd
  unfold dictGet
  refine wpAny_holding ?_
  refine wpAny_bind (pyHash_key k kv A s _ hk.1 (by have := hk.2; omega) (wpAny_bind (find_v (s := { s with toks := s.toks + k.draws }) hr hk ho hdt he ks nd ?_)))
  unfold dVal at q
  cases e : dIdx xs k with
  | none => rw [e] at q; exact wpAny_pure q
  | some j =>
    rw [e] at q
    refine wpAny_bind (wpAny_dictEntries (s := { s with toks := s.toks + k.draws }) ho hdt ?_)
    rw [← Array.getElem?_toList, he, List.getElem?_map]
    have e2 : Option.map (fun x => x.val) (Option.map (DE.ent w) xs[j]?) = Option.map DE.v xs[j]? := by cases xs[j]? <;> rfl
    rw [e2]
    exact wpAny_pure q
def dSet (xs : List DE) (k : NestedKey) (kv v : Value) : List DE := match dIdx xs k with
  | some j => xs.modify j fun x => { x with v := v }
  | none => xs ++ [⟨k, kv, v⟩]
def dEp (xs : List DE) (k : NestedKey) (ep : Nat) : Nat := match dIdx xs k with
  | some _ => ep
  | none => ep + 1
theorem set_v {d : Addr} {ep : Nat} {xs : List DE} {k : NestedKey} {kv v : Value} {Q : Unit → Shared → Prop} (hr : A.units + 8 < cLine) (hk : NestedIs s.heap k kv ∧ k.depth ≤ 8)
    (hd : DictV w s.heap d ep xs) (ks : dKeys s.heap xs) (nd : (xs.map DE.k).Nodup) (hz : xs.length ≤ sizeLine)
    (q : ∀ h', DictV w h' d (dEp xs k ep) (dSet xs k kv v) → Heap.SameBut d s.heap h' → Q () { s with heap := h', toks := s.toks + k.draws }) : wpAny (model prog w) A (dictSet d kv v) Q E s := by
  obtain ⟨o, es, ho, hc, hdt, he⟩ := hd
  have sz : es.size = xs.length := by rw [← Array.length_toList, he, List.length_map]
  unfold dictSet
  refine wpAny_holding ?_
  refine wpAny_bind (pyHash_key k kv A s _ hk.1 (by have := hk.2; omega) ?_)
  unfold dictSetHashed
  refine wpAny_holding ?_
  refine wpAny_bind (find_v (s := { s with toks := s.toks + k.draws }) hr hk ho hdt he ks nd ?_)
  unfold dSet dEp at q
  cases e : dIdx xs k with
  | none =>
    rw [e] at q
    refine wpAny_bind (wpAny_rule (wpAny_updateDictKeys (hz := by omega) (s := { s with toks := s.toks + k.draws }) ho hdt (q _ ⟨_, _, Heap.get?_update_self _ ho (Obj.isFreed_of_dict (Obj.data_mapDictKeys hdt _)), hc.mapDictKeys _, Obj.data_mapDictKeys hdt _, ?_⟩ (Heap.SameBut.update ..))))
    simp [he, DE.ent]
  | some j =>
    rw [e] at q
    obtain ⟨x, ex, ek⟩ := dIdx_get e
    refine wpAny_bind (wpAny_rule (wpAny_bind (wpAny_updateDict (s := { s with toks := s.toks + k.draws }) ho hdt (wpAny_point (q _ ⟨_, _, Heap.get?_update_self _ ho (Obj.isFreed_of_dict (Obj.data_mapDict hdt _)), hc.mapDict _, Obj.data_mapDict hdt _, ?_⟩ (Heap.SameBut.update ..))))))
    rw [Array.toList_modify, he]
    apply List.ext_getElem?
    intro i
    simp only [List.getElem?_modify, List.getElem?_map, Option.map_map]
    by_cases hi : j = i
    · subst hi; simp [Function.comp_def, DE.ent]
    · simp [hi, DE.ent]
/-! ### the operations -/
theorem contains_v {d : Addr} {ep : Nat} {xs : List DE} {k : NestedKey} {kv : Value} {Q : Bool → Shared → Prop} (hr : A.in1.units + 8 < cLine) (hk : NestedIs s.heap k kv ∧ k.depth ≤ 8)
    (hs : (d == sysModules) = false) (hd : DictV w s.heap d ep xs) (ks : dKeys s.heap xs) (nd : (xs.map DE.k).Nodup) (q : Q (dIdx xs k).isSome { s with toks := s.toks + k.draws }) : wpAny (model prog w) A (contains (.ref d) kv) Q E s := by
  refine wpAny_contains_slot hd.typeIs F.slot_dict_contains ?_
  refine call_meetsIn F.slot_dict_contains hd.typeIs F.entry_dict_contains (F.args_dict_contains_2 _ _) (S := fun B R t => B = A ∧ t = s ∧ R (.ok (.ret (.bool (dIdx xs k).isSome))) { s with toks := s.toks + k.draws }) (fun B R t hS => ?_) ⟨rfl, rfl, wpAny_truthy_bool q⟩
  obtain ⟨rfl, rfl, q⟩ := hS
  show wpAny _ _ (dictGet d kv >>= _) _ _ _
  refine wpAny_bind (get_v hr hk hd ks nd ?_)
  cases e : dIdx xs k with
  | some j =>
    obtain ⟨x, ex, _⟩ := dIdx_get e
    rw [e] at q
    have : dVal xs k = some x.v := by unfold dVal; rw [e]; simp [ex]
    rw [this]
    show wpAny _ _ (ret (.bool true)) _ _ _
    exact wpAny_pure q
  | none =>
    rw [e] at q
    have : dVal xs k = none := by unfold dVal; rw [e]; rfl
    rw [this]
    show wpAny _ _ (Builtin.Dict.pendingKey? d kv >>= _) _ _ _
    exact wpAny_bind (wpAny_pendingKey_other hs (wpAny_pure q))
theorem in_v {d : Addr} {ep : Nat} {xs : List DE} {k : NestedKey} {kv : Value} {Q : Value → Shared → Prop} (hr : A.in1.units + 8 < cLine) (hk : NestedIs s.heap k kv ∧ k.depth ≤ 8)
    (hs : (d == sysModules) = false) (hd : DictV w s.heap d ep xs) (ks : dKeys s.heap xs) (nd : (xs.map DE.k).Nodup) (q : Q (.bool (dIdx xs k).isSome) { s with toks := s.toks + k.draws }) : wpAny (model prog w) A (compareOp .In kv (.ref d)) Q E s := by
  show wpAny _ _ (do return .bool (← contains (.ref d) kv)) Q E s
  exact wpAny_bind (contains_v hr hk hs hd ks nd (wpAny_pure q))
theorem notIn_v {d : Addr} {ep : Nat} {xs : List DE} {k : NestedKey} {kv : Value} {Q : Value → Shared → Prop} (hr : A.in1.units + 8 < cLine) (hk : NestedIs s.heap k kv ∧ k.depth ≤ 8)
    (hs : (d == sysModules) = false) (hd : DictV w s.heap d ep xs) (ks : dKeys s.heap xs) (nd : (xs.map DE.k).Nodup) (q : Q (.bool (!(dIdx xs k).isSome)) { s with toks := s.toks + k.draws }) : wpAny (model prog w) A (compareOp .NotIn kv (.ref d)) Q E s := by
  show wpAny _ _ (do return .bool (!(← contains (.ref d) kv))) Q E s
  exact wpAny_bind (contains_v hr hk hs hd ks nd (wpAny_pure q))
theorem getItem_v {d : Addr} {ep : Nat} {xs : List DE} {k : NestedKey} {kv v : Value} {Q : Value → Shared → Prop} (hr : A.in1.units + 8 < cLine) (hk : NestedIs s.heap k kv ∧ k.depth ≤ 8)
    (hd : DictV w s.heap d ep xs) (ks : dKeys s.heap xs) (nd : (xs.map DE.k).Nodup) (hv : dVal xs k = some v) (q : Q v { s with toks := s.toks + k.draws }) : wpAny (model prog w) A (getItem (.ref d) kv) Q E s := by
  unfold getItem
  refine wpAny_holding ?_
  refine wpAny_bind (wpAny_sequenceKey hd.typeIs (by decide) ?_)
  refine wpAny_bind (wpAny_callSpecial?_slot (name := Str.ofString "__getitem__") hd.typeIs slot_dict_getitem
    (wpAny_call_entry slot_dict_getitem hd.typeIs entry_dict_getitem ?_ (args_dict_getitem (.ref d) kv)))
  show wpAny _ _ (dictGet d kv >>= _) _ _ s
  refine wpAny_bind (get_v hr hk hd ks nd ?_)
  rw [hv]
  exact wpAny_pure ⟨v, rfl, wpAny_pure q⟩
theorem setItem_v {d : Addr} {ep : Nat} {xs : List DE} {k : NestedKey} {kv v : Value} {Q : Unit → Shared → Prop} (hr : A.in1.units + 8 < cLine) (hk : NestedIs s.heap k kv ∧ k.depth ≤ 8)
    (hd : DictV w s.heap d ep xs) (ks : dKeys s.heap xs) (nd : (xs.map DE.k).Nodup) (hz : xs.length ≤ sizeLine)
    (q : ∀ h', DictV w h' d (dEp xs k ep) (dSet xs k kv v) → Heap.SameBut d s.heap h' → Q () { s with heap := h', toks := s.toks + k.draws }) : wpAny (model prog w) A (setItem (.ref d) kv v) Q E s := by
  unfold setItem
  refine wpAny_holding ?_
  refine wpAny_bind (wpAny_sequenceKey hd.typeIs (by decide) ?_)
  refine wpAny_bind (wpAny_callSpecial?_slot (name := Str.ofString "__setitem__") hd.typeIs slot_dict_setitem
    (wpAny_call_entry slot_dict_setitem hd.typeIs entry_dict_setitem ?_ (args_dict_setitem (.ref d) kv v)))
  show wpAny _ _ (Builtin.Dict.notOrdered "__setitem__" ⟨[.ref d, kv, v], []⟩ >>= _) _ _ s
  refine wpAny_bind (wpAny_notOrdered_dict hd.typeIs ?_)
  show wpAny _ _ (dictSet d kv v >>= _) _ _ s
  exact wpAny_bind (set_v hr hk hd ks nd hz fun h' hd' hs => wpAny_pure ⟨.none, rfl, wpAny_pure (q h' hd' hs)⟩)
theorem getOr_v {d : Addr} {ep : Nat} {xs : List DE} {k : NestedKey} {kv x : Value} {Q : Value → Shared → Prop} (hr : A.in1.units + 8 < cLine) (hk : NestedIs s.heap k kv ∧ k.depth ≤ 8)
    (hs : (d == sysModules) = false) (hd : DictV w s.heap d ep xs) (ks : dKeys s.heap xs) (nd : (xs.map DE.k).Nodup) (q : Q ((dVal xs k).getD x) { s with toks := s.toks + k.draws }) : wpAny (model prog w) A (call (.builtin "dict.get") [.ref d, kv, x]) Q E s := by
  refine call_meetsIn F.slot_dict_get hd.typeIs F.entry_dict_get (F.args_dict_get_3 _ _ _) (S := fun B R t => B = A ∧ t = s ∧ R (.ok (.ret ((dVal xs k).getD x))) { s with toks := s.toks + k.draws }) (fun B R t hS => ?_) ⟨rfl, rfl, q⟩
  obtain ⟨rfl, rfl, q⟩ := hS
  show wpAny _ _ (dictGet d kv >>= _) _ _ _
  refine wpAny_bind (get_v hr hk hd ks nd ?_)
  cases e : dVal xs k with
  | some v =>
    rw [e] at q
    exact wpAny_pure q
  | none =>
    rw [e] at q
    show wpAny _ _ (Builtin.Dict.missed d kv >>= _) _ _ _
    exact wpAny_bind (wpAny_missed_other hs (wpAny_pure q))
end
end Mi
set_option linter.all false
set_option maxRecDepth 100000
set_option maxHeartbeats 4000000
/-! Dicts of any keys, over the hand layer's heap. -/
namespace Mi
open PySem PySem.Spec L2 PyProof.Rows
structure DX where
  k : NestedKey
  kv : V
  v : V
mutual
/-- the value is the key, by the tuples of H -/
inductive KeyV (H : Hp) : NestedKey → V → Prop
  | none : KeyV H .none .non
  | num (i : Int) : KeyV H (.num i) (.int i)
  | text (x : Str) : KeyV H (.text x) (.str x)
  | tup {a : Addr} {vs : List V} {ks : List NestedKey} : H a = some (.tup vs) → KeyVs H ks vs → KeyV H (.tup ks) (.ref a)
inductive KeyVs (H : Hp) : List NestedKey → List V → Prop
  | nil : KeyVs H [] []
  | cons {k : NestedKey} {v : V} {ks : List NestedKey} {vs : List V} : KeyV H k v → KeyVs H ks vs → KeyVs H (k :: ks) (v :: vs)
end
mutual
theorem KeyV.is {P : Program} {w : World} {H : Hp} {h : Heap} (ok : HOk P w H h) : ∀ {k : NestedKey} {x : V} {u : Value}, KeyV H k x → RelV x u → NestedIs h k u
  | .none, _, u, .none, r => by cases (show u = Value.none from r); exact .none
  | .num i, _, u, .num _, r => by
    obtain ⟨t, e⟩ := (show ∃ t, u = Value.int i t from r)
    subst e; exact .int _ _
  | .text x, _, u, .text _, r => by
    obtain ⟨t, e⟩ := (show ∃ t, u = Value.str x t from r)
    subst e; exact .text _ _
  | .tup ks, _, u, @KeyV.tup _ a vs _ e rs, r => by
    cases (show u = Value.ref a from r)
    obtain ⟨_, its, rv, o, eo, ec⟩ := ok a _ e
    obtain ⟨en, n, ed⟩ := ec
    exact .tup eo en ed (by simpa using KeyVs.is ok rs rv)
theorem KeyVs.is {P : Program} {w : World} {H : Hp} {h : Heap} (ok : HOk P w H h) : ∀ {ks : List NestedKey} {xs : List V} {us : List Value}, KeyVs H ks xs → Vals xs us → NestedAll h ks us
  | [], _, _, .nil, .nil => .nil
  | k :: ks, _, _, .cons a as, .cons r rs => .cons (KeyV.is ok a r) (KeyVs.is ok as rs)
end
mutual
theorem KeyV.keep {H H' : Hp} (k : ∀ a vs, H a = some (.tup vs) → H' a = some (.tup vs)) : ∀ {j : NestedKey} {x : V}, KeyV H j x → KeyV H' j x
  | .none, _, .none => .none
  | .num i, _, .num _ => .num i
  | .text x, _, .text _ => .text x
  | .tup ks, _, .tup e rs => .tup (k _ _ e) (KeyVs.keep k rs)
theorem KeyVs.keep {H H' : Hp} (k : ∀ a vs, H a = some (.tup vs) → H' a = some (.tup vs)) : ∀ {js : List NestedKey} {xs : List V}, KeyVs H js xs → KeyVs H' js xs
  | [], _, .nil => .nil
  | j :: js, _, .cons a as => .cons (KeyV.keep k a) (KeyVs.keep k as)
end
/-! ### the object -/
def XR (x : DX) (y : DE) : Prop := x.k = y.k ∧ RelV x.kv y.kv ∧ RelV x.v y.v
def DictX (w : World) (a : Addr) (ep : Nat) (xs : List DX) : Heap → Prop := fun h => xs.length ≤ sizeLine ∧ (a == sysModules) = false ∧ ∃ ys, Paired XR xs ys ∧ DictV w h a ep ys
def dxO (w : World) (a : Addr) (ep : Nat) (xs : List DX) : HO := .ext (DictX w a ep xs)
structure DOk (H : Hp) (xs : List DX) : Prop where
  ks : ∀ x ∈ xs, KeyV H x.k x.kv ∧ x.k.depth ≤ 8
  nd : (xs.map DX.k).Nodup
def xIdx (xs : List DX) (k : NestedKey) : Option Nat := xs.findIdx? fun x => decide (x.k = k)
def xVal (xs : List DX) (k : NestedKey) : Option V := (xIdx xs k).bind fun j => (xs[j]?).map DX.v
def xSet (xs : List DX) (k : NestedKey) (kv v : V) : List DX := match xIdx xs k with
  | some j => xs.modify j fun x => { x with v := v }
  | none => xs ++ [⟨k, kv, v⟩]
def xEp (xs : List DX) (k : NestedKey) (ep : Nat) : Nat := match xIdx xs k with
  | some _ => ep
  | none => ep + 1
theorem dx_ok {P : Program} {w : World} {H : Hp} {h : Heap} {a : Addr} {ep : Nat} {xs : List DX} (d : DictX w a ep xs h) : ObjOk P w H h a (dxO w a ep xs) := by
  refine ⟨d, ?_, fun h1 h2 d k => ?_⟩
  · obtain ⟨_, _, _, _, o, _, ho, _⟩ := d; exact ⟨o, ho⟩
  · obtain ⟨l, n, ys, r, o, es, ho, q⟩ := d
    exact ⟨l, n, ys, r, o, es, k o ho, q⟩
theorem dx_of {P : Program} {w : World} {H : Hp} {h : Heap} {a : Addr} {ep : Nat} {xs : List DX} (ok : HOk P w H h) (e : H a = some (dxO w a ep xs)) : DictX w a ep xs h := (ok a _ e).1
theorem XR.idx {xs : List DX} {ys : List DE} (r : Paired XR xs ys) (k : NestedKey) : dIdx ys k = xIdx xs k := by
  unfold dIdx xIdx
  induction r with
  | nil => rfl
  | @cons x y xs ys h _ ih => rw [List.findIdx?_cons, List.findIdx?_cons, ih, h.1]
theorem XR.keys {H : Hp} {P : Program} {w : World} {h : Heap} (ok : HOk P w H h) {xs : List DX} {ys : List DE} (r : Paired XR xs ys) (d : DOk H xs) : dKeys h ys ∧ (ys.map DE.k).Nodup := by
  have e : ys.map DE.k = xs.map DX.k := by
    clear d
    induction r with
    | nil => rfl
    | cons h _ ih => rw [List.map_cons, List.map_cons, ih, h.1]
  refine ⟨?_, by rw [e]; exact d.nd⟩
  obtain ⟨ks, nd⟩ := d
  clear nd e
  induction r with
  | nil => intro x m; cases m
  | @cons x y xs ys h t ih =>
    intro z m
    rcases List.mem_cons.mp m with rfl | m
    · obtain ⟨k1, k2⟩ := ks x (by simp)
      rw [← h.1]
      exact ⟨KeyV.is ok k1 h.2.1, k2⟩
    · exact ih (fun x m => ks x (by simp [m])) z m
theorem XR.val {xs : List DX} {ys : List DE} (r : Paired XR xs ys) (k : NestedKey) : RelO (xVal xs k) (dVal ys k) := by
  unfold xVal dVal
  rw [XR.idx r]
  cases xIdx xs k with
  | none => exact True.intro
  | some j =>
    simp only [Option.bind_some]
    induction r generalizing j with
    | nil => exact True.intro
    | cons h _ ih =>
      cases j with
      | zero => exact h.2.2
      | succ j => simpa using ih j
theorem Paired.getX {α β : Type} {F : α → β → Prop} : ∀ {xs : List α} {ys : List β} {i : Nat} {x : α}, Paired F xs ys → xs[i]? = some x → ∃ y, ys[i]? = some y ∧ F x y
  | _, _, _, _, .nil, e => by simp at e
  | _, _, 0, _, .cons r _, e => by simp at e; subst e; exact ⟨_, rfl, r⟩
  | _, _, i + 1, x, .cons _ t, e => by
    obtain ⟨u, h1, h2⟩ := Paired.getX (i := i) (x := x) t (by simpa using e)
    exact ⟨u, by simpa using h1, h2⟩
theorem RelV.one {x y : V} {u : Value} (h : RelV x u) (h' : RelV y u) : x = y := by
  cases x <;> cases y <;> simp only [L2.RelV] at h h' <;> first
    | rfl
    | (rw [h] at h'; cases h'; done)
    | (rw [h] at h'; cases h'; rfl)
    | (obtain ⟨t, e⟩ := h; rw [e] at h'; cases h'; done)
    | (obtain ⟨t, e⟩ := h'; rw [e] at h; cases h; done)
    | (obtain ⟨t, e⟩ := h; obtain ⟨t', e'⟩ := h'; rw [e] at e'; cases e'; done)
    | (obtain ⟨t, e⟩ := h; obtain ⟨t', e'⟩ := h'; rw [e] at e'; cases e'; rfl)
theorem Paired.modP {α β : Type} {F : α → β → Prop} {f : α → α} {g : β → β} (q : ∀ x y, F x y → F (f x) (g y)) : ∀ {xs : List α} {ys : List β} (i : Nat), Paired F xs ys → Paired F (xs.modify i f) (ys.modify i g)
  | _, _, i, .nil => by simp; exact .nil
  | _, _, 0, .cons a t => .cons (q _ _ a) t
  | _, _, i + 1, .cons a t => .cons a (Paired.modP q i t)
theorem XR.set {xs : List DX} {ys : List DE} (r : Paired XR xs ys) (k : NestedKey) {kv v : V} {ku u : Value} (r1 : RelV kv ku) (r2 : RelV v u) : Paired XR (xSet xs k kv v) (dSet ys k ku u) := by
  unfold xSet dSet
  rw [XR.idx r]
  cases xIdx xs k with
  | none =>
    induction r with
    | nil => exact .cons ⟨rfl, r1, r2⟩ .nil
    | cons h _ ih => exact .cons h ih
  | some j => exact Paired.modP (fun x y h => ⟨h.1, h.2.1, r2⟩) j r
theorem XR.ep {xs : List DX} {ys : List DE} (r : Paired XR xs ys) (k : NestedKey) (ep : Nat) : dEp ys k ep = xEp xs k ep := by
  unfold dEp xEp
  rw [XR.idx r]
  all_goals (cases xIdx xs k <;> rfl)
section
variable {X : Cx} {pins : List (Addr × PySem.Obj)} {σ : L2.St} {H : Hp} {s : Shared} {a : Addr} {ep : Nat} {xs : List DX} {k : NestedKey} {y : V} {u : Value} {A : Around} {E : Value → Shared → Prop}
theorem tok_inv (I : L2.Inv X pins σ H s) (t : Nat) : L2.Inv X pins σ H { s with toks := t } := I.tok t
theorem x_getItem {v : V} {Q : Value → Shared → Prop} (hu : A.in1.units + 8 < cLine) (I : L2.Inv X pins σ H s) (e : H a = some (dxO X.w a ep xs)) (d : DOk H xs) (ky : KeyV H k y) (dk : k.depth ≤ 8) (ry : RelV y u) (ev : xVal xs k = some v)
    (q : ∀ w' s', L2.Inv X pins σ H s' → RelV v w' → Q w' s') : wpAny (model X.prog X.w) A (getItem (.ref a) u) Q E s := by
  obtain ⟨_, hs, ys, r, dd⟩ := dx_of I.hok e
  obtain ⟨ks, nd⟩ := XR.keys I.hok r d
  have rv := XR.val r k
  rw [ev] at rv
  cases e2 : dVal ys k with
  | none => rw [e2] at rv; exact rv.elim
  | some w' =>
    rw [e2] at rv
    exact getItem_v hu ⟨KeyV.is I.hok ky ry, dk⟩ dd ks nd e2 (q w' _ (I.tok _) rv)
theorem x_in {Q : Value → Shared → Prop} (hu : A.in1.units + 8 < cLine) (I : L2.Inv X pins σ H s) (e : H a = some (dxO X.w a ep xs)) (d : DOk H xs) (ky : KeyV H k y) (dk : k.depth ≤ 8) (ry : RelV y u)
    (q : ∀ s', L2.Inv X pins σ H s' → Q (.bool (xIdx xs k).isSome) s') : wpAny (model X.prog X.w) A (compareOp .In u (.ref a)) Q E s := by
  obtain ⟨_, hs, ys, r, dd⟩ := dx_of I.hok e
  obtain ⟨ks, nd⟩ := XR.keys I.hok r d
  refine in_v hu ⟨KeyV.is I.hok ky ry, dk⟩ hs dd ks nd ?_
  rw [XR.idx r]
  exact q _ (I.tok _)
theorem x_notIn {Q : Value → Shared → Prop} (hu : A.in1.units + 8 < cLine) (I : L2.Inv X pins σ H s) (e : H a = some (dxO X.w a ep xs)) (d : DOk H xs) (ky : KeyV H k y) (dk : k.depth ≤ 8) (ry : RelV y u)
    (q : ∀ s', L2.Inv X pins σ H s' → Q (.bool (!(xIdx xs k).isSome)) s') : wpAny (model X.prog X.w) A (compareOp .NotIn u (.ref a)) Q E s := by
  obtain ⟨_, hs, ys, r, dd⟩ := dx_of I.hok e
  obtain ⟨ks, nd⟩ := XR.keys I.hok r d
  refine notIn_v hu ⟨KeyV.is I.hok ky ry, dk⟩ hs dd ks nd ?_
  rw [XR.idx r]
  exact q _ (I.tok _)
theorem x_getOr {x : V} {ux : Value} {Q : Value → Shared → Prop} (hu : A.in1.units + 8 < cLine) (I : L2.Inv X pins σ H s) (e : H a = some (dxO X.w a ep xs)) (d : DOk H xs) (ky : KeyV H k y) (dk : k.depth ≤ 8) (ry : RelV y u) (rx : RelV x ux)
    (q : ∀ w' s', L2.Inv X pins σ H s' → RelV ((xVal xs k).getD x) w' → Q w' s') : wpAny (model X.prog X.w) A (call (.builtin "dict.get") [.ref a, u, ux]) Q E s := by
  obtain ⟨_, hs, ys, r, dd⟩ := dx_of I.hok e
  obtain ⟨ks, nd⟩ := XR.keys I.hok r d
  have rv := XR.val r k
  refine getOr_v hu ⟨KeyV.is I.hok ky ry, dk⟩ hs dd ks nd (q _ _ (I.tok _) ?_)
  cases e1 : xVal xs k with
  | none =>
    cases e2 : dVal ys k with
    | none => exact rx
    | some w' => rw [e1, e2] at rv; exact rv.elim
  | some v =>
    cases e2 : dVal ys k with
    | none => rw [e1, e2] at rv; exact rv.elim
    | some w' => rw [e1, e2] at rv; exact rv
theorem xSet_len {k : NestedKey} {kv v : V} (xs : List DX) : (xSet xs k kv v).length ≤ xs.length + 1 := by
  unfold xSet
  split
  · simp
  · simp
theorem x_setItem {v : V} {r : Value} {Q : Unit → Shared → Prop} (hu : A.in1.units + 8 < cLine) (I : L2.Inv X pins σ H s) (e : H a = some (dxO X.w a ep xs)) (d : DOk H xs) (ky : KeyV H k y) (dk : k.depth ≤ 8) (ry : RelV y u) (rv : RelV v r) (hl : xs.length < sizeLine)
    (q : ∀ s', L2.Inv X pins σ (upd H a (dxO X.w a (xEp xs k ep) (xSet xs k y v))) s' → Q () s') : wpAny (model X.prog X.w) A (setItem (.ref a) u r) Q E s := by
  obtain ⟨l, hs, ys, rr, dd⟩ := dx_of I.hok e
  obtain ⟨ks, nd⟩ := XR.keys I.hok rr d
  refine setItem_v hu ⟨KeyV.is I.hok ky ry, dk⟩ dd ks nd (by rw [← Paired.length rr]; exact l) fun h' dd' hb => q _ ?_
  have ex : ∃ o, h'.get? a = some o := let ⟨o, _, ho, _⟩ := dd'; ⟨o, ho⟩
  refine d_write I (by rw [e]; exact True.intro) hb ex (dx_ok ⟨by have := xSet_len (k := k) (kv := y) (v := v) xs; omega, hs, _, XR.set rr k ry rv, ?_⟩)
  rw [← XR.ep rr]
  exact dd'
theorem x_dictSet {v : V} {r : Value} {Q : Unit → Shared → Prop} (hu : A.units + 8 < cLine) (I : L2.Inv X pins σ H s) (e : H a = some (dxO X.w a ep xs)) (d : DOk H xs) (ky : KeyV H k y) (dk : k.depth ≤ 8) (ry : RelV y u) (rv : RelV v r) (hl : xs.length < sizeLine)
    (q : ∀ s', L2.Inv X pins σ (upd H a (dxO X.w a (xEp xs k ep) (xSet xs k y v))) s' → Q () s') : wpAny (model X.prog X.w) A (dictSet a u r) Q E s := by
  obtain ⟨l, hs, ys, rr, dd⟩ := dx_of I.hok e
  obtain ⟨ks, nd⟩ := XR.keys I.hok rr d
  refine set_v hu ⟨KeyV.is I.hok ky ry, dk⟩ dd ks nd (by rw [← Paired.length rr]; exact l) fun h' dd' hb => q _ ?_
  have ex : ∃ o, h'.get? a = some o := let ⟨o, _, ho, _⟩ := dd'; ⟨o, ho⟩
  refine d_write I (by rw [e]; exact True.intro) hb ex (dx_ok ⟨by have := xSet_len (k := k) (kv := y) (v := v) xs; omega, hs, _, XR.set rr k ry rv, ?_⟩)
  rw [← XR.ep rr]
  exact dd'
end
/-! ### as rules -/
section
variable {X : Cx}
/-- d[y] may be read: what stands there -/
def XGet (w : World) (H : Hp) (a : Addr) (y : V) (o : Option V) (t : Bool) : Prop := ∃ ep xs k, H a = some (dxO w a ep xs) ∧ DOk H xs ∧ KeyV H k y ∧ k.depth ≤ 8 ∧ xVal xs k = o ∧ (xIdx xs k).isSome = t
theorem ix_dx (hu : X.A.in1.units + 8 < cLine) : IxR X (fun x y H Q => ∃ (a : Addr) (v : V) (t : Bool), x = .ref a ∧ XGet X.w H a y (some v) t ∧ Q v H) := by
  intro value slice pins s σ H x y v u Q I rx ry ⟨a, w, t, ex, ⟨ep, xs, k, e, d, ky, dk, ev, _⟩, q⟩ hs
  subst ex
  obtain rfl : v = Value.ref a := rx
  obtain ⟨_, _, _, _, dd⟩ := dx_of I.hok e
  have hT : s.TypeIs (.ref a) "dict" := dd.typeIs
  have fin : wpAny (model X.prog X.w) X.A (subscripted slice false (.ref a) u >>= fun r => letTemporaryGo value (.ref a) r >>= fun _ => pure r) (EP X pins σ Q) X.xe s := by
    rw [hs]
    exact wpAny_bind (wpAny_operating (x_getItem hu I e d ky dk ry ev fun w' s3 I3 rw' => wpAny_bind (wpAny_letTemporaryGo (wpAny_pure ⟨w, H, I3, rw', q⟩))))
  unfold subscriptTail; refine wpAny_bind ?_; rw [getitemInPython_of_ne hT.not_modules]
  refine wpAny_bind (wpAny_specialOf hT PySem.F.slot_dict_getitem.lookup ?_)
  first
    | exact wpAny_pure fin
    | exact wpAny_bind (wpAny_pure fin)
    | exact fin
def XPut (w : World) (H : Hp) (a : Addr) (y v : V) (H' : Hp) : Prop := ∃ ep xs k, H a = some (dxO w a ep xs) ∧ DOk H xs ∧ KeyV H k y ∧ k.depth ≤ 8 ∧ xs.length < sizeLine ∧ H' = upd H a (dxO w a (xEp xs k ep) (xSet xs k y v))
theorem set_dx (hu : X.A.in1.units + 8 < cLine) : PSet X (fun o i v H Q => ∃ (a : Addr) (H' : Hp), o = .ref a ∧ XPut X.w H a i v H' ∧ Q H') := by
  intro pins s σ H o i v ov iv u Q I ro ri rv ⟨a, H', e, ⟨ep, xs, k, eH, d, ky, dk, hl, eH'⟩, q⟩
  subst e
  subst eH'
  obtain rfl : ov = Value.ref a := ro
  exact x_setItem hu I eH d ky dk ri rv hl fun s4 I4 => ⟨_, I4, q⟩
theorem op_inDx (hu : X.A.in1.units + 8 < cLine) : OpR X (compareOp .In) (fun x y H Q => ∃ (a : Addr) (o : Option V) (t : Bool), y = .ref a ∧ XGet X.w H a x o t ∧ Q (.bl t) H) := by
  intro pins s σ H x y v u Q I rx ry ⟨a, o, t, ey, ⟨ep, xs, k, e, d, ky, dk, _, ei⟩, q⟩
  subst ey
  obtain rfl : u = Value.ref a := ry
  exact x_in hu I e d ky dk rx fun s3 I3 => ⟨.bl t, H, I3, by rw [ei]; rfl, q⟩
theorem op_notInDx (hu : X.A.in1.units + 8 < cLine) : OpR X (compareOp .NotIn) (fun x y H Q => ∃ (a : Addr) (o : Option V) (t : Bool), y = .ref a ∧ XGet X.w H a x o t ∧ Q (.bl (!t)) H) := by
  intro pins s σ H x y v u Q I rx ry ⟨a, o, t, ey, ⟨ep, xs, k, e, d, ky, dk, _, ei⟩, q⟩
  subst ey
  obtain rfl : u = Value.ref a := ry
  exact x_notIn hu I e d ky dk rx fun s3 I3 => ⟨.bl (!t), H, I3, by rw [ei]; rfl, q⟩
theorem mt_getDx (hu : X.A.in1.units + 8 < cLine) : MtR X "dict.get" (fun x xs H Q => ∃ (a : Addr) (y z : V) (o : Option V) (t : Bool), x = .ref a ∧ xs = [y, z] ∧ XGet X.w H a y o t ∧ Q (o.getD z) H) := by
  intro pins s σ H x xs v us Q I rx rxs ⟨a, y, z, o, t, ex, exs, ⟨ep, ds, k, e, d, ky, dk, ev, _⟩, q⟩
  subst ex
  subst exs
  obtain rfl : v = Value.ref a := rx
  cases rxs with
  | cons r1 rs =>
    cases rs with
    | cons r2 rs =>
      cases rs
      exact x_getOr hu I e d ky dk r1 r2 fun w' s' I' rw' => ⟨o.getD z, H, I', by rw [ev] at rw'; exact rw', q⟩
end
/-! ### walked, made, asked for its length -/
/-- the keys, while the dict's keys stay -/
def Itx (w : World) (d : Addr) (ep n : Nat) : L2.It :=
  ⟨fun i H => (∃ xs, H d = some (dxO w d ep xs) ∧ xs.length = n) ∧ i < n, fun i H x H' => H' = H ∧ ∀ xs, H d = some (dxO w d ep xs) → ∃ e, xs[i]? = some e ∧ x = e.kv, fun i H => (∃ xs, H d = some (dxO w d ep xs) ∧ xs.length = n) ∧ n ≤ i⟩
theorem raw_of {w : World} {h : Heap} {a : Addr} {ep : Nat} {xs : List DX} (d : DictX w a ep xs h) : ∃ es, h.DictRaw a es ep ∧ es.size = xs.length ∧ ∀ (i : Nat) (hi : i < es.size), ∃ x, xs[i]? = some x ∧ RelV x.kv es[i].key := by
  obtain ⟨_, _, ys, r, o, es, ho, hc, hd, he⟩ := d
  have sz : es.size = ys.length := by rw [← Array.length_toList, he, List.length_map]
  refine ⟨es, ⟨o, ho, hc, hd⟩, by rw [sz, Paired.length r], fun i hi => ?_⟩
  have hx : i < xs.length := by rw [Paired.length r, ← sz]; exact hi
  obtain ⟨y, ey, xr⟩ := Paired.getX r (i := i) (x := xs[i]) (List.getElem?_eq_getElem hx)
  refine ⟨xs[i], List.getElem?_eq_getElem hx, ?_⟩
  have e1 : es[i]? = (ys[i]?).map (DE.ent w) := by rw [← Array.getElem?_toList, he, List.getElem?_map]
  rw [ey, Array.getElem?_eq_getElem hi] at e1
  rw [Option.some.inj e1]
  exact xr.2.1
theorem turn_x {P : Program} {w : World} {K : PySem.W.Frag} {tg : Expr} {d : Addr} {ep n : Nat} (it : Addr) : L2.Turn P w K tg (Itx w d ep n) [it] it (fun i h => h.IsKeyIter it d i n ep) where
  mem := by simp
  obj := fun i h st b hb => by
    have z : b = it := by simpa using hb
    subst z
    obtain ⟨oi, e1, c1, d1⟩ := st
    exact ⟨oi, e1, fun v q => by rw [d1] at q; cases q⟩
  keep := fun i h h' st k => st.at fun oi e => k it (by simp) oi e
  item := by
    intro X hP hw hK hc i pins s σ H E I hf st hg
    subst hP hw hK
    obtain ⟨⟨xs, hd, hn⟩, hi⟩ := hg
    obtain ⟨f0, f1, f2, f3, f4, f5⟩ := hf it (by simp)
    obtain ⟨es, raw, sz, ks⟩ := raw_of (dx_of I.hok hd)
    have hi' : i < es.size := by rw [sz, hn]; exact hi
    obtain ⟨x, ex, rx⟩ := ks i hi'
    have st' : s.heap.IsKeyIter it d i es.size ep := by rw [sz, hn]; exact st
    refine wpAny_pyNext_keys_item_raw st' raw hi' fun h' st'' sb => ?_
    have I1 : L2.Inv X pins σ H { s with heap := h' } := I.turned (t' := s.toks) (fun b ob hb e => (sb.2 b hb).trans e) f0 f1 f3 f4 f5
    rw [sz, hn] at st''
    obtain ⟨oi, e1, c1, d1⟩ := id st''
    refine ⟨es[i].key, rfl, L2.go_of (s := { s with heap := h' }) e1 c1 d1 (by decide) ⟨x.kv, H, I1, rx, ⟨rfl, fun zs ez => ?_⟩, st'', fun b hb => (hf b hb).1⟩⟩
    obtain ⟨es2, raw2, sz2, ks2⟩ := raw_of (dx_of I.hok ez)
    have ee : es2 = es := by
      obtain ⟨o1, g1, _, g2⟩ := raw
      obtain ⟨o2, g3, _, g4⟩ := raw2
      rw [g1] at g3; cases g3; rw [g2] at g4; cases g4; rfl
    subst ee
    obtain ⟨x2, ex2, rx2⟩ := ks2 i hi'
    exact ⟨x2, ex2, RelV.one rx rx2⟩
  done := by
    intro X hP hw hK hc i pins s σ H E I hf st hg
    subst hP hw hK
    obtain ⟨⟨xs, hd, hn⟩, hi⟩ := hg
    obtain ⟨f0, f1, f2, f3, f4, f5⟩ := hf it (by simp)
    obtain ⟨es, raw, sz, ks⟩ := raw_of (dx_of I.hok hd)
    have st' : s.heap.IsKeyIter it d i es.size ep := by rw [sz, hn]; exact st
    exact wpAny_pyNext_keys_end_raw (I.ok.hd hc) st' raw (by rw [sz, hn]; exact hi) fun h' eb => ⟨rfl, I.turned (t' := s.toks) (fun b ob hb e => eb b ob hb e) f0 f1 f3 f4 f5⟩
  self := fun A i s Q E st h => wpAny_pyIter_keyiter st h
section
variable {X : Cx} {tg e : Expr} {td : L2.TE}
theorem pi_x (he : PE X e td) : PI X tg e (fun σ H R => td σ H fun x H1 => ∃ d ep xs, x = .ref d ∧ H1 d = some (dxO X.w d ep xs) ∧ R (Itx X.w d ep xs.length) H1) := by
  refine ⟨fun pins s σ H R I h => ?_⟩
  refine thn (he.run pins s σ H _ I h) fun u s1 ⟨x, H1, I1, rx, d, ep, xs, ex, hd, q⟩ => ?_
  subst ex
  obtain rfl : u = Value.ref d := rx
  have dx := dx_of I1.hok hd
  obtain ⟨es, raw, sz, _⟩ := raw_of dx
  refine wpAny_pyIter_dict_raw dx.2.1 raw (pi_one (tk := s1.toks) I1 _ (turn_x _) ⟨_, Heap.get?_push_size _ rfl, rfl, ?_⟩ q)
  rw [sz] <;> rfl
/-- {k: v} -/
theorem pe_dsp1 (hu : X.A.units + 8 < cLine) {pos : Pos} {k v : Expr} {tk tv : TE} (hk : PE X k tk) (hv : PE X v tv) : PE X (.Dict [some k] [v] pos) (fun σ H Q => ∀ p, H p = none → tk σ (upd H p (dxO X.w p 0 [])) fun x H1 => tv σ H1 fun y H2 => ∃ H3, XPut X.w H2 p x y H3 ∧ Q (.ref p) H3) := ⟨fun pins s σ H Q I h => by
  have hn := I.hok.fresh (Nat.le_refl s.heap.objs.size)
  have I1 := I.laid (a := s.heap.objs.size) (o := dxO X.w s.heap.objs.size 0 []) (h' := s.heap.push { cls := .type "dict", data := .dict #[] }) (t' := s.toks) (fun _ _ q => Heap.get?_push_of_some _ q) (Nat.le_refl _)
    (dx_ok ⟨Nat.zero_le _, beq_eq_false_iff_ne.mpr (Nat.ne_of_gt I.big), [], .nil, _, _, Heap.get?_push_size _ rfl, ⟨rfl, rfl, rfl⟩, rfl, rfl⟩)
  rw [arm_eval_Dict, zip_pairTrees [some k] [v] X.env pos rfl rfl, dictDisplay_pairs _ (by simp [pairTrees]) (by simp [pairTrees])]
  refine wpAny_bind (wpAny_standAt (wpAny_bind ?_))
  unfold subDict
  refine wpAny_bind (wpAny_alloc ?_)
  refine wpAny_bind (wpAny_holding ?_)
  rw [if_pos (by simp [pairTrees])]
  refine wpAny_bind (pairTrees_cons_walk (thn (hk.run pins _ σ _ _ I1 (h _ hn)) fun u s1 ⟨x, H1, J1, rx, q1⟩ => thn (hv.run pins s1 σ H1 _ J1 q1) fun r s2 ⟨y, H2, J2, ry, q2⟩ => pairTrees_nil_walk ?_))
  obtain ⟨H3, ⟨ep, xs, kk, eH, d, ky, dk, hl, eH'⟩, q⟩ := q2
  subst eH'
  refine wpAny_holding ?_
  rw [List.forIn_cons]
  refine wpAny_bind (wpAny_bind ?_)
  show wpAny _ _ (dictSet s.heap.objs.size u r >>= fun _ => pure (ForInStep.yield PUnit.unit)) _ _ s2
  refine wpAny_bind (x_dictSet hu J2 eH d ky dk rx ry hl fun s3 J3 => wpAny_pure ?_)
  show wpAny _ _ (forIn [] _ _) _ _ _
  rw [List.forIn_nil]
  exact wpAny_pure (wpAny_pure (wpAny_pure (wpAny_pure ⟨.ref s.heap.objs.size, _, J3, rfl, q⟩)))⟩
theorem pe_dnewX {pos : Pos} : PE X (.Dict [] [] pos) (fun σ H Q => ∀ p, H p = none → Q (.ref p) (upd H p (dxO X.w p 0 []))) := ⟨fun pins s σ H Q I h =>
  wpAny_Dict_empty ⟨.ref s.heap.objs.size, _, I.laid (a := s.heap.objs.size) (o := dxO X.w s.heap.objs.size 0 []) (t' := s.toks) (fun _ _ q => Heap.get?_push_of_some _ q) (Nat.le_refl _)
    (dx_ok ⟨Nat.zero_le _, beq_eq_false_iff_ne.mpr (Nat.ne_of_gt I.big), [], .nil, _, _, Heap.get?_push_size _ rfl, ⟨rfl, rfl, rfl⟩, rfl, rfl⟩), rfl, h _ (I.hok.fresh (Nat.le_refl _))⟩⟩
theorem vals_by : ∀ {xs : List V} {us : List Value}, us.length = xs.length → (∀ (j : Nat) (x : V) (u : Value), xs[j]? = some x → us[j]? = some u → L2.RelV x u) → Vals xs us
  | [], [], _, _ => .nil
  | [], _ :: _, l, _ => by simp at l
  | _ :: _, [], l, _ => by simp at l
  | x :: xs, u :: us, l, h => .cons (h 0 x u rfl rfl) (vals_by (by simpa using l) fun j y v e1 e2 => h (j + 1) y v (by simpa using e1) (by simpa using e2))
theorem call_lenX : CallR X (.builtin "len") (fun vs H Q => ∃ (a : Addr) (ep : Nat) (xs : List DX), vs = [.ref a] ∧ H a = some (dxO X.w a ep xs) ∧ Q (.int xs.length) H) := by
  intro pins s σ H vs us Q I r ⟨a, ep, xs, ev, e, q⟩
  subst ev
  obtain ⟨u, eu, rx⟩ := vals1 r
  subst eu
  cases rx
  have dx := dx_of I.hok e
  obtain ⟨es, raw, sz, _⟩ := raw_of dx
  refine PyProof.Rows.call_len_slot (n := xs.length) raw.typeIs F.slot_dict_len (fun R' hq => call_len_raw dx.2.1 raw (by rw [sz]; exact hq)) (by omega) (by have := dx.1; rw [sizeLine_eq] at this; omega) ?_
  exact ⟨.int xs.length, H, I.tok _, ⟨_, rfl⟩, q⟩
theorem call_listX (hc : X.calm = true) : CallR X (.type "list") (fun vs H Q => ∃ (a : Addr) (ep : Nat) (xs : List DX), vs = [.ref a] ∧ H a = some (dxO X.w a ep xs) ∧ ∀ p, H p = none → Q (.ref p) (upd H p (.lst (xs.map DX.kv)))) := by
  intro pins s σ H vs us Q I r ⟨a, ep, xs, ev, e, q⟩
  subst ev
  obtain ⟨u, eu, rx⟩ := vals1 r
  subst eu
  cases rx
  have dx := dx_of I.hok e
  obtain ⟨es, raw, sz, ks⟩ := raw_of dx
  refine PySem.W.kdl_call (KdlSrc.rawDict (es := es) (ep := ep) dx.2.1) (I.ok.hd hc) raw (by rw [sz]; exact dx.1) fun h' tk acc c' hk hD hacc => ?_
  have hv : Vals (xs.map DX.kv) acc.toList := vals_by (by rw [Array.length_toList, hacc.1, sz, List.length_map]) fun j x v ex ev => by
    obtain ⟨hi, e1⟩ := hacc.2 j v (by rw [← Array.getElem?_toList]; exact ev)
    obtain ⟨y, ey, ry⟩ := ks j hi
    rw [List.getElem?_map, ey] at ex
    cases ex
    rw [e1]; exact ry
  refine ⟨.ref s.heap.objs.size, upd H s.heap.objs.size (.lst (xs.map DX.kv)), I.laid (t' := tk) hk (Nat.le_refl _)
    (show ObjOk X.prog X.w _ _ _ (.lst (xs.map DX.kv)) from ⟨by rw [List.length_map]; exact dx.1, acc.toList, c', hv, by rw [Array.toArray_toList]; exact hD⟩), rfl, q _ (I.hok.fresh (Nat.le_refl _))⟩
theorem call_isiX : CallR X (.builtin "isinstance") (fun vs H Q => ∃ (a : Addr) (ep : Nat) (xs : List DX) (c : String) (b : Bool), vs = [.ref a, .ty c] ∧ H a = some (dxO X.w a ep xs) ∧ kitB "dict" c = some b ∧ Q (.bl b) H) := by
  intro pins s σ H vs us Q I r ⟨a, ep, xs, c, b, ev, e, hk, q⟩
  subst ev
  obtain ⟨u1, u2, rfl, r1, r2⟩ := vals2 r
  cases (show u1 = Value.ref a from r1)
  cases (show u2 = Value.type c from r2)
  obtain ⟨_, _, _, _, dd⟩ := dx_of I.hok e
  obtain ⟨o, _, ho, hc, _⟩ := dd
  exact PySem.W.kia_one PySem.W.kitx_dict I.kIn ⟨o, ho, hc.1⟩ (kit_ty hk) (fun z => nomatch z) fun tk => ⟨.bl b, H, I.tok tk, rfl, q⟩
/-- o.m(e, ..), o a dict -/
theorem pe_bmX {id : String} {m : Str} {o e1 : Expr} {es : List Expr} {apos cpos : Pos} {to : L2.TE} {t : L2.TA} {rr : V → List V → Hp → VK → Prop} (slot : Slot "dict" m id) (hty : typeOf (.builtin id) = pure (.type "method_descriptor")) (hm : MtR X id rr) (ho : PE X o to) (ha : PA X (e1 :: es) t)
    (hbase : attributeBase o m X.env (eval o X.env) = eval o X.env)
    (hfew : ((backTo cpos (starEach (e1 :: es) X.env)).all (fun x => !x.1) && (backToKw cpos (keywordEach [] X.env)).all (fun x => x.1.isSome)
      && decide ((e1 :: es).length + ([] : List Keyword).length + (if ([] : List Keyword).isEmpty then 0 else 1) < 30)) = true)
    (hline : (apos.endLine == cpos.line) = true) (hs : starEach (e1 :: es) X.env = (false, eval e1 X.env) :: starEach es X.env) (hplain : (backTo cpos (starEach es X.env)).any (·.1) = false) :
    PE X (.Call (.Attribute o m apos) (e1 :: es) [] cpos) (fun σ H Q => to σ H fun x H1 => (∃ a ep xs, x = .ref a ∧ H1 a = some (dxO X.w a ep xs)) ∧ t σ H1 fun vs H2 => rr x vs H2 Q) := by
  refine ⟨fun pins s σ H Q I h => ?_⟩
  refine wpAny_Call_method_late hbase hfew hline rfl (thn (ho.run pins s σ H _ I h) fun v s1 ⟨x, H1, I1, r1, ⟨a, ep, xs, ex, eH⟩, q1⟩ => ?_)
  subst ex
  obtain rfl : v = Value.ref a := r1
  obtain ⟨_, _, ys, _, dd⟩ := dx_of I1.hok eH
  have h1 : s1.TypeIs (.ref a) "dict" := dd.typeIs
  have h2 : ∀ b, Value.ref a = .ref b → ∃ ob, s1.heap.get? b = some ob ∧ ob.dict = none := fun b e => by
    injection e with e; subst e
    obtain ⟨ob, _, ho', hc', _⟩ := dd
    exact ⟨ob, ho', hc'.2.1⟩
  refine ⟨"dict", id, PySem.F.plainAttrs_dict, slot, hty, h1, h2, ?_⟩
  have hA := ha.run cpos pins s1 σ H1 _ I1 q1
  rw [hs] at hA ⊢
  refine Calls.callWith_builtin (by show (false || (backTo cpos (starEach es X.env)).any (·.1)) = false; rw [hplain] <;> rfl) (Calls.evalArgs_plain ?_)
  exact thn hA fun us s2 ⟨vs, H2, I2, r2, q2⟩ => hm pins s2 σ H2 (.ref a) vs _ us Q I2 rfl r2 q2
end
end Mi
set_option linter.all false
set_option maxRecDepth 100000
set_option maxHeartbeats 4000000
/-! Each combinator of the mirror is what the program's construct does. -/
namespace Mi
open PySem PySem.Spec L2
/-- where the classes stand, the fields' names -/
structure Cc where
  /-- the script -/
  sa : Addr
  sx : List Int
  exc : Nat → Addr
  cls : Nat → Addr
  fld : Nat → PySem.Str
  wd : World
def sS (l : List Nat) : PySem.Str := ⟨l.toArray⟩
theorem sS_cps (l : List Nat) : (sS l).cps.toList = l := by simp [sS]
theorem sS_len (l : List Nat) : (sS l).length = l.length := by
  show l.toArray.size = l.length
  simp
theorem sS_app (a b : List Nat) : sS a ++ sS b = sS (a ++ b) := by
  show (⟨(sS a).cps ++ (sS b).cps⟩ : PySem.Str) = _
  simp [sS]
theorem sS_inj {a b : List Nat} : sS a = sS b ↔ a = b := by
  constructor
  · intro h
    have := congrArg (fun s : PySem.Str => s.cps.toList) h
    simpa [sS] using this
  · rintro rfl; rfl
theorem strOk_len {s : List Nat} (h : strOk s = true) : s.length ≤ lim := of_decide_eq_true (Bool.and_eq_true_iff.mp h).2
theorem strOk_app {s t : List Nat} (h : strOk s = true) (h' : strOk t = true) (l : s.length + t.length ≤ lim) : strOk (s ++ t) = true := by
  have a := (Bool.and_eq_true_iff.mp h).1
  have b := (Bool.and_eq_true_iff.mp h').1
  unfold okS at a b
  unfold strOk okS
  rw [List.all_append, a, b]
  simpa using l
theorem strOk_sub {s t : List Nat} (h : strOk s = true) (m : ∀ c ∈ t, c ∈ s) (l : t.length ≤ s.length) : strOk t = true := by
  have a := (Bool.and_eq_true_iff.mp h).1
  unfold okS at a
  rw [List.all_eq_true] at a
  unfold strOk okS
  rw [Bool.and_eq_true_iff, List.all_eq_true]
  exact ⟨fun c q => a c (m c q), decide_eq_true (Nat.le_trans l (strOk_len h))⟩
theorem strOk_sign {s : List Nat} {c : Nat} (h : strOk s = true) (m : c ∈ s) : strOk [c] = true :=
  strOk_sub h (fun d q => by simp at q; exact q ▸ m) (List.length_pos_of_mem m)
theorem strOk_cut {s : List Nat} (h : strOk s = true) (lo hi : Option Int) : strOk (cut s lo hi) = true :=
  strOk_sub h (fun c q => List.mem_of_mem_drop (List.mem_of_mem_take q)) (by unfold cut; simp only [List.length_take, List.length_drop]; omega)
/-- r: where the objects of the mirror's heap stand -/
def VR (C : Cc) (r : List Addr) : MV → V → Prop
  | .non, x => x = .non
  | .bl b, x => x = .bl b
  | .int i, x => x = .int i
  | .str s, x => x = .str (sS s) ∧ strOk s = true
  | .ref n, x => ∃ a, r[n]? = some a ∧ x = .ref a
  | .scr xs, x => xs = C.sx ∧ x = .ref C.sa
abbrev VRs (C : Cc) (r : List Addr) : List MV → List V → Prop := Paired (VR C r)
def OptR (C : Cc) (r : List Addr) : Option MV → Option V → Prop
  | none, x => x = none
  | some v, x => ∃ y, x = some y ∧ VR C r v y
abbrev ER (C : Cc) (r : List Addr) : Env → L2.St → Prop := Paired (OptR C r)
/-- r goes on to r' -/
def Up (r r' : List Addr) : Prop := ∀ (n : Nat) (a : Addr), r[n]? = some a → r'[n]? = some a
theorem Up.refl (r : List Addr) : Up r r := fun _ _ h => h
theorem Up.trans {r r1 r2 : List Addr} (a : Up r r1) (b : Up r1 r2) : Up r r2 := fun n x h => b n x (a n x h)
theorem Up.app (r : List Addr) (p : List Addr) : Up r (r ++ p) := fun n a h => by
  rw [List.getElem?_append_left (List.getElem?_eq_some_iff.mp h).1]; exact h
section
variable {C : Cc} {r r' : List Addr}
theorem VR.up (u : Up r r') : ∀ {v : MV} {x : V}, VR C r v x → VR C r' v x
  | .non, _, h => h
  | .bl _, _, h => h
  | .int _, _, h => h
  | .str _, _, h => h
  | .ref n, _, ⟨a, h, e⟩ => ⟨a, u n a h, e⟩
  | .scr _, _, h => h
theorem VRs.up (u : Up r r') : ∀ {v : List MV} {x : List V}, VRs C r v x → VRs C r' v x
  | _, _, .nil => .nil
  | _, _, .cons a t => .cons (a.up u) (VRs.up u t)
theorem OptR.up (u : Up r r') : ∀ {v : Option MV} {x : Option V}, OptR C r v x → OptR C r' v x
  | none, _, h => h
  | some _, _, ⟨y, e, h⟩ => ⟨y, e, h.up u⟩
theorem ER.up (u : Up r r') : ∀ {v : Env} {x : L2.St}, ER C r v x → ER C r' v x
  | _, _, .nil => .nil
  | _, _, .cons a t => .cons (a.up u) (ER.up u t)
theorem VR.det : ∀ {v : MV} {x y : V}, VR C r v x → VR C r v y → x = y
  | .non, _, _, h, k => h.trans k.symm
  | .bl _, _, _, h, k => h.trans k.symm
  | .int _, _, _, h, k => h.trans k.symm
  | .str _, _, _, h, k => h.1.trans k.1.symm
  | .ref n, _, _, ⟨a, h, e⟩, ⟨b, k, f⟩ => by rw [h] at k; cases k; rw [e, f]
  | .scr _, _, _, h, k => h.2.trans k.2.symm
theorem OptR.det : ∀ {v : Option MV} {x y : Option V}, OptR C r v x → OptR C r v y → x = y
  | none, _, _, h, k => h.trans k.symm
  | some _, _, _, ⟨_, e, h⟩, ⟨_, f, k⟩ => by rw [e, f, h.det k]
theorem ER.det : ∀ {v : Env} {x y : L2.St}, ER C r v x → ER C r v y → x = y
  | _, _, _, .nil, .nil => rfl
  | _, _, _, .cons a t, .cons b u => by rw [a.det b, ER.det t u]
theorem VRs.length {xs : List MV} {ys : List V} (h : VRs C r xs ys) : xs.length = ys.length := Paired.length h
theorem VRs.ints : ∀ (xs : List Int), VRs C r (xs.map .int) (xs.map V.int)
  | [] => .nil
  | _ :: t => .cons rfl (VRs.ints t)
end
theorem Paired.getL {α β : Type} {F : α → β → Prop} : ∀ {xs : List α} {ys : List β} {i : Nat} {x : α}, Paired F xs ys → xs[i]? = some x → ∃ y, ys[i]? = some y ∧ F x y
  | _, _, _, _, .nil, e => by simp at e
  | _, _, 0, _, .cons r _, e => by simp at e; subst e; exact ⟨_, rfl, r⟩
  | _, _, i + 1, x, .cons _ t, e => by
    obtain ⟨u, h1, h2⟩ := Paired.getL (i := i) (x := x) t (by simpa using e)
    exact ⟨u, by simpa using h1, h2⟩
theorem Paired.setL {α β : Type} {F : α → β → Prop} {x : α} {y : β} (q : F x y) : ∀ {xs : List α} {ys : List β} (i : Nat), Paired F xs ys → Paired F (xs.set i x) (ys.set i y)
  | _, _, _, .nil => .nil
  | _, _, 0, .cons _ t => .cons q t
  | _, _, i + 1, .cons r t => .cons r (Paired.setL q i t)
theorem Paired.app {α β : Type} {F : α → β → Prop} : ∀ {xs zs : List α} {ys ws : List β}, Paired F xs ys → Paired F zs ws → Paired F (xs ++ zs) (ys ++ ws)
  | _, _, _, _, .nil, s => s
  | _, _, _, _, .cons r t, s => .cons r (Paired.app t s)
theorem Paired.takeL {α β : Type} {F : α → β → Prop} : ∀ {xs : List α} {ys : List β} (n : Nat), Paired F xs ys → Paired F (xs.take n) (ys.take n)
  | _, _, 0, _ => .nil
  | _, _, _ + 1, .nil => .nil
  | _, _, n + 1, .cons r t => .cons r (Paired.takeL n t)
theorem Paired.dropL {α β : Type} {F : α → β → Prop} : ∀ {xs : List α} {ys : List β} (n : Nat), Paired F xs ys → Paired F (xs.drop n) (ys.drop n)
  | _, _, 0, r => r
  | _, _, _ + 1, .nil => .nil
  | _, _, n + 1, .cons _ t => Paired.dropL n t
theorem Paired.revL {α β : Type} {F : α → β → Prop} {xs : List α} {ys : List β} (p : Paired F xs ys) : Paired F xs.reverse ys.reverse := by
  induction p with
  | nil => exact .nil
  | cons r _ ih => rw [List.reverse_cons, List.reverse_cons]; exact Paired.app ih (.cons r .nil)
theorem Paired.eraseL {α β : Type} {F : α → β → Prop} : ∀ {xs : List α} {ys : List β} (n : Nat), Paired F xs ys → Paired F (xs.eraseIdx n) (ys.eraseIdx n)
  | _, _, _, .nil => .nil
  | _, _, 0, .cons _ t => t
  | _, _, n + 1, .cons r t => .cons r (Paired.eraseL n t)
theorem Paired.flatRep {α β : Type} {F : α → β → Prop} {xs : List α} {ys : List β} (p : Paired F xs ys) : ∀ k : Nat, Paired F (List.replicate k xs).flatten (List.replicate k ys).flatten
  | 0 => .nil
  | k + 1 => by
    rw [List.replicate_succ, List.replicate_succ, List.flatten_cons, List.flatten_cons]
    exact Paired.app p (Paired.flatRep p k)

/-! ### heaps -/
mutual
/-- a key -/
def T.nk : T → NestedKey
  | .int i => .num i
  | .str s => .text (sS s)
  | .tup xs => .tup (T.nks xs)
  | _ => .none
def T.nks : List T → List NestedKey
  | [] => []
  | x :: xs => T.nk x :: T.nks xs
end
def zipX : List T → List V → List V → List DX
  | t :: ts, k :: ks, x :: xs => ⟨t.nk, k, x⟩ :: zipX ts ks xs
  | _, _, _ => []
section
variable (C : Cc) (K : PySem.W.Frag)
def OR (r : List Addr) (H : Hp) (a : Addr) : Obj → Prop
  | .lst xs => ∃ vs, VRs C r xs vs ∧ H a = some (.lst vs)
  | .tup xs => ∃ vs, VRs C r xs vs ∧ H a = some (.tup vs)
  | .dct ep ts ks xs => ∃ us vs : List V, VRs C r ks us ∧ VRs C r xs vs ∧ ts.length = xs.length ∧ ks.length = xs.length ∧ ts.Nodup ∧ (∀ t ∈ ts, t.keyN 8 = true) ∧ H a = some (dxO C.wd a ep (zipX ts us vs))
/-- the script: locked, or of the written part -/
def Scr (H : Hp) : Prop := (∃ o, H C.sa = some (.frz o (.lst (C.sx.map V.int)))) ∨ (∃ (o : PySem.Obj) (its : Array Value) (n : Nat), K.lookup C.sa = some o ∧ o.cls = .type "list" ∧ o.dict = none ∧ o.data = .seq its n ∧ its.size ≤ sizeLine ∧ Vals (C.sx.map V.int) its.toList)
structure Sim (r : List Addr) (h : MH) (H : Hp) : Prop where
  len : r.length = h.length
  ob : ∀ (n : Nat) (o : Obj) (a : Addr), h[n]? = some o → r[n]? = some a → OR C r H a o
  nd : ∀ (m n : Nat) (a : Addr), r[m]? = some a → r[n]? = some a → m = n
  scr : Scr C K H
  sz : ∀ (n : Nat) (o : Obj), h[n]? = some o → o.len ≤ lim
  sxl : C.sx.length ≤ lim
end
/-- from (r, H) on to (r', H') -/
structure Go (r : List Addr) (H : Hp) (r' : List Addr) (H' : Hp) : Prop where
  up : Up r r'
  fr : ∀ a o, a ∉ r → H a = some o → a ∉ r' ∧ H' a = some o
theorem Go.refl (r : List Addr) (H : Hp) : Go r H r H := ⟨Up.refl r, fun _ _ h e => ⟨h, e⟩⟩
theorem Go.trans {r r1 r2 : List Addr} {H H1 H2 : Hp} (a : Go r H r1 H1) (b : Go r1 H1 r2 H2) : Go r H r2 H2 :=
  ⟨a.up.trans b.up, fun x o h e => let ⟨h1, e1⟩ := a.fr x o h e; b.fr x o h1 e1⟩
section
variable {C : Cc} {K : PySem.W.Frag} {r r' : List Addr} {h : MH} {H H' : Hp} {a p : Addr} {o : Obj} {n : Nat}
theorem OR.mono (u : Up r r') (e : H' a = H a) : OR C r H a o → OR C r' H' a o := by
  cases o with
  | lst xs => rintro ⟨vs, q, e1⟩; exact ⟨vs, VRs.up u q, e.trans e1⟩
  | tup xs => rintro ⟨vs, q, e1⟩; exact ⟨vs, VRs.up u q, e.trans e1⟩
  | dct ep ts ks xs => rintro ⟨us, vs, q, q', l, l', nd, g, e1⟩; exact ⟨us, vs, VRs.up u q, VRs.up u q', l, l', nd, g, e.trans e1⟩
theorem OR.some : OR C r H a o → ∃ u, H a = some u := by
  cases o with
  | lst xs => rintro ⟨vs, q, e1⟩; exact ⟨_, e1⟩
  | tup xs => rintro ⟨vs, q, e1⟩; exact ⟨_, e1⟩
  | dct ep ts ks xs => rintro ⟨us, vs, q, q', l, l', nd, g, e1⟩; exact ⟨_, e1⟩
theorem Sim.at (S : Sim C K r h H) (e : h[n]? = some o) : ∃ a, r[n]? = some a ∧ OR C r H a o := by
  have hn : n < r.length := by rw [S.len]; exact (List.getElem?_eq_some_iff.mp e).1
  exact ⟨r[n], List.getElem?_eq_getElem hn, S.ob n o _ e (List.getElem?_eq_getElem hn)⟩
theorem Sim.mem (S : Sim C K r h H) (e : r[n]? = some a) : ∃ u, H a = some u := by
  have hn : n < h.length := by rw [← S.len]; exact (List.getElem?_eq_some_iff.mp e).1
  exact (S.ob n _ a (List.getElem?_eq_getElem hn) e).some
theorem Sim.out (S : Sim C K r h H) (hp : H p = none) : p ∉ r := fun hm => by
  obtain ⟨i, hi, e⟩ := List.getElem_of_mem hm
  obtain ⟨u, e2⟩ := S.mem (n := i) (a := p) (by rw [List.getElem?_eq_getElem hi, e])
  rw [hp] at e2; cases e2
theorem Scr.keep (s : Scr C K H) (f : ∀ o, H C.sa = some (.frz o (.lst (C.sx.map V.int))) → H' C.sa = H C.sa) : Scr C K H' := by
  rcases s with ⟨o, e⟩ | s
  · exact .inl ⟨o, (f o e).trans e⟩
  · exact .inr s
/-- a new object -/
theorem Sim.alloc (S : Sim C K r h H) (hp : H p = none) {u : HO} (new : OR C (r ++ [p]) (upd H p u) p o) (hl : o.len ≤ lim) : Sim C K (r ++ [p]) (h ++ [o]) (upd H p u) where
  len := by simp [S.len]
  ob := fun m q b e1 e2 => by
    by_cases hm : m < h.length
    · rw [List.getElem?_append_left hm] at e1
      rw [List.getElem?_append_left (by rw [S.len]; exact hm)] at e2
      have z := S.ob m q b e1 e2
      have hb : b ≠ p := fun hb => by
        subst hb
        obtain ⟨u, e⟩ := z.some
        rw [hp] at e; cases e
      exact z.mono (Up.app r _) (upd_ne hb)
    · rw [List.getElem?_append_right (by omega)] at e1
      rw [List.getElem?_append_right (by rw [S.len]; omega)] at e2
      have hm1 : m - h.length = 0 := by
        have := (List.getElem?_eq_some_iff.mp e1).1
        simp at this; omega
      rw [S.len, hm1] at e2
      rw [hm1] at e1
      simp at e1 e2
      subst e1 e2
      exact new
  nd := fun m n b e1 e2 => by
    have np := S.out hp
    have lt : ∀ k, (r ++ [p])[k]? = some b → r[k]? = some b ∨ k = r.length ∧ b = p := fun k ek => by
      by_cases hk : k < r.length
      · rw [List.getElem?_append_left hk] at ek
        exact .inl ek
      · rw [List.getElem?_append_right (by omega)] at ek
        have hk1 : k - r.length = 0 := by
          have := (List.getElem?_eq_some_iff.mp ek).1
          simp at this; omega
        rw [hk1] at ek
        simp at ek
        exact .inr ⟨by omega, ek.symm⟩
    rcases lt m e1 with f1 | ⟨l1, f1⟩ <;> rcases lt n e2 with f2 | ⟨l2, f2⟩
    · exact S.nd m n b f1 f2
    · subst f2; exact (np (List.mem_of_getElem? f1)).elim
    · subst f1; exact (np (List.mem_of_getElem? f2)).elim
    · omega
  scr := S.scr.keep fun o e => upd_ne (ne_of_none e hp)
  sz := fun n q e => by
    rcases Nat.lt_or_ge n h.length with l | l
    · rw [List.getElem?_append_left l] at e
      exact S.sz n q e
    · rw [List.getElem?_append_right l] at e
      have : q ∈ [o] := List.mem_of_getElem? e
      simp at this
      subst this
      exact hl
  sxl := S.sxl
/-- an object written -/
theorem Sim.write (S : Sim C K r h H) (e : r[n]? = some a) {o' : Obj} {u : HO} (he : h[n]? = some o) (new : OR C r (upd H a u) a o') (hl : o'.len ≤ lim) : Sim C K r (h.set n o') (upd H a u) where
  len := by simp [S.len]
  ob := fun m q b e1 e2 => by
    by_cases hm : m = n
    · subst hm
      rw [e] at e2; cases e2
      rw [List.getElem?_set_self (List.getElem?_eq_some_iff.mp he).1] at e1
      cases e1
      exact new
    · rw [List.getElem?_set_ne (Ne.symm hm)] at e1
      have z := S.ob m q b e1 e2
      exact z.mono (Up.refl r) (upd_ne fun hb => hm (S.nd m n a (hb ▸ e2) e))
  nd := S.nd
  scr := S.scr.keep fun ob e1 => upd_ne fun hb => by
    have z := S.ob n o a he e
    rw [hb] at e1
    cases o with
    | lst xs => obtain ⟨_, _, e2⟩ := z; rw [e1] at e2; cases e2
    | tup xs => obtain ⟨_, _, e2⟩ := z; rw [e1] at e2; cases e2
    | dct ep ts ks xs =>
      obtain ⟨_, _, _, _, _, _, _, _, e2⟩ := z
      rw [e1] at e2
      cases e2
  sz := fun m q e1 => by
    by_cases hm : n = m
    · subst hm
      rw [List.getElem?_set_self (List.getElem?_eq_some_iff.mp he).1] at e1
      cases e1
      exact hl
    · rw [List.getElem?_set_ne hm] at e1
      exact S.sz m q e1
  sxl := S.sxl
/-- an object beside -/
theorem Sim.aside (S : Sim C K r h H) (hp : H p = none) (u : HO) : Sim C K r h (upd H p u) where
  len := S.len
  ob := fun m q b e1 e2 => (S.ob m q b e1 e2).mono (Up.refl r) (upd_ne fun hb => by
    obtain ⟨u, e⟩ := S.mem e2
    rw [hb, hp] at e; cases e)
  nd := S.nd
  scr := S.scr.keep fun ob e1 => upd_ne (ne_of_none e1 hp)
  sz := S.sz
  sxl := S.sxl
theorem Go.write (e : r[n]? = some a) {u : HO} : Go r H r (upd H a u) :=
  ⟨Up.refl r, fun b o hb e1 => ⟨hb, by rw [upd_ne (fun z => hb (by rw [z]; exact List.mem_of_getElem? e))]; exact e1⟩⟩
theorem Go.alloc (hp : H p = none) {u : HO} : Go r H (r ++ [p]) (upd H p u) :=
  ⟨Up.app r _, fun b o hb e1 => by
    have hne : b ≠ p := ne_of_none e1 hp
    exact ⟨by simp [hb, hne], by rw [upd_ne hne]; exact e1⟩⟩
theorem Go.aside (hp : H p = none) {u : HO} : Go r H r (upd H p u) :=
  ⟨Up.refl r, fun b o hb e1 => ⟨hb, by rw [upd_ne (ne_of_none e1 hp)]; exact e1⟩⟩
theorem Scr.seq (s : Scr C K H) : SqL K H C.sa (C.sx.map V.int) := by
  rcases s with ⟨o, e⟩ | ⟨o, its, n, e⟩
  · exact .inl (.inr ⟨o, e⟩)
  · exact .inr ⟨o, its, n, e⟩
end

/-! ### what is wanted of a result -/
section
variable (C : Cc) (K : PySem.W.Frag)
def RP {α : Type} (r : List Addr) (H : Hp) (ok : List Addr → α → MH → Hp → Prop) (ex : Nat → List Addr → MH → Hp → Prop) : Res α → Prop
  | .ok v h' => ∀ r' H', Go r H r' H' → Sim C K r' h' H' → ok r' v h' H'
  | .exc c h' => ∀ r' H', Go r H r' H' → Sim C K r' h' H' → ex c r' h' H'
  | .stuck => False
abbrev noEx : Nat → List Addr → MH → Hp → Prop := fun _ _ _ _ => False
/-- an exception of the mirror's class c, wished for by W -/
abbrev wx (W : WX) (σ : L2.St) : Nat → List Addr → MH → Hp → Prop := fun c _ _ H' => W (.ref (C.exc c)) none σ H'
def wE (W : WX) (e : E) : TE := fun σ H Q => ∃ r ρ h, Sim C K r h H ∧ ER C r ρ σ ∧ RP C K r H (fun r' v _ H' => ∀ x, VR C r' v x → Q x H') (wx C W σ) (e ρ h)
def wT (W : WX) (e : E) : TT := fun σ H Q => ∃ r ρ h, Sim C K r h H ∧ ER C r ρ σ ∧ RP C K r H (fun _ v _ H' => ∃ b, v = .bl b ∧ Q b H') (wx C W σ) (e ρ h)
def wA (W : WX) (e : EA) : TA := fun σ H Q => ∃ r ρ h, Sim C K r h H ∧ ER C r ρ σ ∧ RP C K r H (fun r' v _ H' => ∀ x, VRs C r' v x → Q x H') (wx C W σ) (e ρ h)
def wO (W : WX) (e : EO) : TO := fun σ H Q => ∃ r ρ h, Sim C K r h H ∧ ER C r ρ σ ∧ RP C K r H (fun _ v _ H' => Q v H') (wx C W σ) (e ρ h)
/-- what is wanted of a statement's end -/
def SRP (W : WX) (D : Ends) (r : List Addr) (H : Hp) : SR → Prop
  | .nx ρ h' => ∀ r' σ H', Go r H r' H' → Sim C K r' h' H' → ER C r' ρ σ → D.nx σ H'
  | .rt v h' => ∀ r' H', Go r H r' H' → Sim C K r' h' H' → ∀ x, VR C r' v x → D.rt x H'
  | .bk ρ h' => ∀ r' σ H', Go r H r' H' → Sim C K r' h' H' → ER C r' ρ σ → D.bk σ H'
  | .ct ρ h' => ∀ r' σ H', Go r H r' H' → Sim C K r' h' H' → ER C r' ρ σ → D.ct σ H'
  | .exc c ρ h' => ∀ r' σ H', Go r H r' H' → Sim C K r' h' H' → ER C r' ρ σ → W (.ref (C.exc c)) none σ H'
  | .stuck => False
def wS (W : WX) (s : S) : TS := fun D σ H => ∃ r ρ h, Sim C K r h H ∧ ER C r ρ σ ∧ SRP C K W D r H (s ρ h)
end
section
variable {C : Cc} {K : PySem.W.Frag} {r r1 : List Addr} {H H1 : Hp}
theorem RP.go {α : Type} {ok ok' : List Addr → α → MH → Hp → Prop} {ex ex' : Nat → List Addr → MH → Hp → Prop} {x : Res α} (g : Go r H r1 H1) (q : RP C K r H ok ex x)
    (f : ∀ r' v h' H', Go r1 H1 r' H' → ok r' v h' H' → ok' r' v h' H') (f' : ∀ c r' h' H', Go r1 H1 r' H' → ex c r' h' H' → ex' c r' h' H') : RP C K r1 H1 ok' ex' x := by
  cases x with
  | ok v h' => exact fun r' H' g' S => f _ _ _ _ g' (q r' H' (g.trans g') S)
  | exc c h' => exact fun r' H' g' S => f' _ _ _ _ g' (q r' H' (g.trans g') S)
  | stuck => exact q
theorem RP.imp {α : Type} {ok ok' : List Addr → α → MH → Hp → Prop} {ex : Nat → List Addr → MH → Hp → Prop} {x : Res α} (q : RP C K r H ok ex x)
    (f : ∀ r' v h' H', Go r H r' H' → Sim C K r' h' H' → ok r' v h' H' → ok' r' v h' H') : RP C K r H ok' ex x := by
  cases x with
  | ok v h' => exact fun r' H' g' S => f _ _ _ _ g' S (q r' H' g' S)
  | exc c h' => exact q
  | stuck => exact q
theorem RP.bind {α β : Type} {ok : List Addr → β → MH → Hp → Prop} {ex : Nat → List Addr → MH → Hp → Prop} {x : Res α} {f : α → MH → Res β}
    (q : RP C K r H ok ex (x.bind f)) : RP C K r H (fun r1 a h1 H1 => RP C K r1 H1 ok ex (f a h1)) ex x := by
  cases x with
  | ok v h' => exact fun r' H' g S => q.go g (fun _ _ _ _ _ z => z) fun _ _ _ _ _ z => z
  | exc c h' => exact q
  | stuck => exact q
theorem SRP.go {W : WX} {D : Ends} {x : SR} (g : Go r H r1 H1) (q : SRP C K W D r H x) : SRP C K W D r1 H1 x := by
  cases x with
  | nx _ _ => exact fun r' σ H' g' => q r' σ H' (g.trans g')
  | rt _ _ => exact fun r' H' g' => q r' H' (g.trans g')
  | bk _ _ => exact fun r' σ H' g' => q r' σ H' (g.trans g')
  | ct _ _ => exact fun r' σ H' g' => q r' σ H' (g.trans g')
  | exc _ _ _ => exact fun r' σ H' g' => q r' σ H' (g.trans g')
  | stuck => exact q
theorem RP.into {α : Type} {W : WX} {D : Ends} {ρ : Env} {σ : L2.St} {x : Res α} {f : α → MH → SR} (R : ER C r ρ σ)
    (q : SRP C K W D r H (x.into ρ f)) : RP C K r H (fun r1 a h1 H1 => SRP C K W D r1 H1 (f a h1)) (wx C W σ) x := by
  cases x with
  | ok v h' => exact fun r' H' g S => SRP.go g q
  | exc c h' => exact fun r' H' g S => q r' σ H' g S (R.up g.up)
  | stuck => exact q
end
/-! ### judgements: an expression does what its mirror does -/
section
variable (C : Cc)
structure AE (X : Cx) (W : WX) (e : Expr) (m : E) : Prop where
  pe : PE X e (wE C X.K W m)
structure AT (X : Cx) (W : WX) (e : Expr) (m : E) : Prop where
  pt : PT X e (wT C X.K W m)
structure AA (X : Cx) (W : WX) (e : List Expr) (m : EA) : Prop where
  pa : PA X e (wA C X.K W m)
structure AO (X : Cx) (W : WX) (e : Option Expr) (m : EO) : Prop where
  po : PO X e (wO C X.K W m)
structure AS (X : Cx) (W : WX) (s : Stmt) (m : S) : Prop where
  ps : PS X s (wS C X.K W m)
structure ASs (X : Cx) (W : WX) (s : List Stmt) (m : S) : Prop where
  ps : PSs X s (wS C X.K W m)
end
theorem PE.imp {X : Cx} {e : Expr} {t t' : TE} (h : PE X e t) (f : ∀ σ H Q, t' σ H Q → t σ H Q) : PE X e t' := ⟨fun pins s σ H Q I q => h.run pins s σ H Q I (f _ _ _ q)⟩
theorem PT.imp {X : Cx} {e : Expr} {t t' : TT} (h : PT X e t) (f : ∀ σ H Q, t' σ H Q → t σ H Q) : PT X e t' := ⟨fun pins s σ H Q I q => h.run pins s σ H Q I (f _ _ _ q)⟩
theorem PW.imp {X : Cx} {e : Expr} {t t' : TT} (h : PW X e t) (f : ∀ σ H Q, t' σ H Q → t σ H Q) : PW X e t' := ⟨fun wh pins s σ H Q I q => h.run wh pins s σ H Q I (f _ _ _ q)⟩
theorem PA.imp {X : Cx} {e : List Expr} {t t' : TA} (h : PA X e t) (f : ∀ σ H Q, t' σ H Q → t σ H Q) : PA X e t' := ⟨fun pos pins s σ H Q I q => h.run pos pins s σ H Q I (f _ _ _ q)⟩
theorem PS.imp {X : Cx} {e : Stmt} {t t' : TS} (h : PS X e t) (f : ∀ D σ H, t' D σ H → t D σ H) : PS X e t' := ⟨fun pins s σ H D I q => h.run pins s σ H D I (f _ _ _ q)⟩
theorem PSs.imp {X : Cx} {e : List Stmt} {t t' : TS} (h : PSs X e t) (f : ∀ D σ H, t' D σ H → t D σ H) : PSs X e t' := ⟨fun pins s σ H D I q => h.run pins s σ H D I (f _ _ _ q)⟩
/-- an operator by values -/
def OpA (C : Cc) (X : Cx) (F : Value → Value → Sem Value) (f : Op2) : Prop := ∃ R, OpR X F R ∧ ∀ r h H x y x' y' Q, Sim C X.K r h H → VR C r x x' → VR C r y y' → RP C X.K r H (fun r' v _ H' => ∀ z, VR C r' v z → Q z H') noEx (f x y h) → R x' y' H Q
theorem noEx_wx {C : Cc} {K : PySem.W.Frag} {W : WX} {σ : L2.St} {r : List Addr} {H : Hp} {α : Type} {ok : List Addr → α → MH → Hp → Prop} {x : Res α} (hx : ∀ c h, x ≠ .exc c h) (q : RP C K r H ok (wx C W σ) x) : RP C K r H ok noEx x := by
  cases x with
  | ok v h' => exact q
  | exc c h' => exact (hx c h' rfl).elim
  | stuck => exact q
section
variable {C : Cc} {X : Cx} {W : WX} {a b c : Expr} {ea eb ec : E} {pos : Pos} {es : List Expr} {eas : EA}
/-- an operator that never raises -/
def NoX (f : Op2) : Prop := ∀ x y h c h', f x y h ≠ .exc c h'
theorem ae_var (i : Nat) {x : PySem.Str} (hN : X.N[i]? = some x := by rfl) (hv : Vis X.env.scope x := by first | exact Or.inl rfl | exact Or.inr (Or.inl rfl) | exact Or.inr (Or.inr rfl)) (hd : (x == ("__debug__" : PySem.Str)) = false := by decide)
    (hcd : (x == ("__classdict__" : PySem.Str)) = false := by decide) : AE C X W (.Name x pos) (eVar i) := ⟨PE.imp (pe_var hN hv hd hcd) fun σ H Q ⟨r, ρ, h, S, R, q⟩ => by
  unfold eVar at q
  split at q
  · rename_i v e
    obtain ⟨o, e1, y, e2, rv⟩ := Paired.getL R e
    subst e2
    exact ⟨y, e1, q r H (Go.refl r H) S y rv⟩
  · exact q.elim⟩
theorem ae_c {v : MV} {x : V} (hx : ∀ r, VR C r v x) (h : PE X a (tC x)) : AE C X W a (eC v) := ⟨PE.imp h fun σ H Q ⟨r, ρ, hh, S, R, q⟩ => q r H (Go.refl r H) S x (hx r)⟩
theorem ae_int {i j pos} : AE C X W (.Constant (.int i) j pos) (eC (.int i)) := ae_c (fun _ => rfl) pe_int
theorem ae_bl {b j pos} : AE C X W (.Constant (.bool b) j pos) (eC (.bl b)) := ae_c (fun _ => rfl) pe_bl
theorem ae_non {j pos} : AE C X W (.Constant .none j pos) (eC .non) := ae_c (fun _ => rfl) pe_non
theorem ae_str {x : PySem.Str} (l : List Nat) {j pos} (e : x = sS l := by rfl) (hk : strOk l = true := by decide +kernel) : AE C X W (.Constant (.str x) j pos) (eC (.str l)) := ae_c (fun _ => by subst e; exact ⟨rfl, hk⟩) pe_str
/-- a name of the module's that holds an int or a text -/
theorem ae_glob {x : PySem.Str} {v : MV} {u : Value} {y : V} (hg : Gl X x) (hm : X.mg x = some u) (ru : RelV y u) (hy : ∀ r, VR C r v y) (hd : (x == ("__debug__" : PySem.Str)) = false := by decide) : AE C X W (.Name x pos) (eC v) := ae_c hy (pe_glob hg hm ru hd)
theorem w2 {R : R2} {f : Op2} (hf : NoX f) (hR : ∀ r h H x y x' y' Q, Sim C X.K r h H → VR C r x x' → VR C r y y' → RP C X.K r H (fun r' v _ H' => ∀ z, VR C r' v z → Q z H') noEx (f x y h) → R x' y' H Q) {σ : L2.St} {H : Hp} {Q : VK}
    (w : wE C X.K W (e2 f ea eb) σ H Q) : tOp R (wE C X.K W ea) (wE C X.K W eb) σ H Q := by
  obtain ⟨r, ρ, h, S, RE, q⟩ := w
  refine ⟨r, ρ, h, S, RE, (RP.bind q).imp fun r1 x h1 H1 g1 S1 q1 x' rx => ?_⟩
  refine ⟨r1, ρ, h1, S1, RE.up g1.up, (RP.bind q1).imp fun r2 y h2 H2 g2 S2 q2 y' ry => ?_⟩
  exact hR r2 h2 H2 x y x' y' Q S2 (rx.up g2.up) ry (noEx_wx (hf x y h2) q2)
theorem ae_op {op : Operator} {f : Op2} (o : OpA C X (binaryOp op) f) (hf : NoX f) (ha : AE C X W a ea) (hb : AE C X W b eb) : AE C X W (.BinOp a op b pos) (e2 f ea eb) :=
  let ⟨_, ho, hR⟩ := o; ⟨PE.imp (pe_op ho ha.pe hb.pe) fun _ _ _ w => w2 hf hR w⟩
theorem ae_cmp {op : CmpOp} {f : Op2} (o : OpA C X (compareOp op) f) (hf : NoX f) (ha : AE C X W a ea) (hb : AE C X W b eb) (hm : behindInMarks op b = false := by rfl) : AE C X W (.Compare a [op] [b] pos) (e2 f ea eb) :=
  let ⟨_, ho, hR⟩ := o; ⟨PE.imp (pe_cmpR ho ha.pe hb.pe hm) fun _ _ _ w => w2 hf hR w⟩
theorem wT_wE {K : PySem.W.Frag} {e : E} {σ : L2.St} {H : Hp} {Q : Bool → Hp → Prop} (w : wT C K W e σ H Q) : wE C K W e σ H fun x H' => ∃ k, x = .bl k ∧ Q k H' := by
  obtain ⟨r, ρ, h, S, RE, q⟩ := w
  refine ⟨r, ρ, h, S, RE, q.imp fun r1 v h1 H1 g1 S1 ⟨b, e, q1⟩ x rx => ?_⟩
  subst e
  exact ⟨b, rx, q1⟩
theorem at_cmp {op : CmpOp} {f : Op2} (o : OpA C X (compareOp op) f) (hf : NoX f) (ha : AE C X W a ea) (hb : AE C X W b eb) (hm : behindInMarks op b = false := by rfl) : AT C X W (.Compare a [op] [b] pos) (e2 f ea eb) :=
  let ⟨_, ho, hR⟩ := o; ⟨PT.imp (pt_cmpR ho ha.pe hb.pe hm) fun _ _ _ w => w2 hf hR (wT_wE w)⟩
/-- a test by its value: a call, a name, a constant -/
theorem at_val {m : E} (h : AE C X W a m) (he : ∀ whole, isTrue a X.env whole = (do let v ← whole; standAt a.pos; holding [v] (truthy v)) := by intro _; rfl) : AT C X W a m :=
  ⟨PT.imp (pt_val h.pe he) fun _ _ _ w => wT_wE w⟩
theorem wChain {R R' : R2} {f g : Op2} (hf : NoX f) (hg : NoX g) (hR : ∀ r h H x y x' y' Q, Sim C X.K r h H → VR C r x x' → VR C r y y' → RP C X.K r H (fun r' v _ H' => ∀ z, VR C r' v z → Q z H') noEx (f x y h) → R x' y' H Q)
    (hR' : ∀ r h H x y x' y' Q, Sim C X.K r h H → VR C r x x' → VR C r y y' → RP C X.K r H (fun r' v _ H' => ∀ z, VR C r' v z → Q z H') noEx (g x y h) → R' x' y' H Q) {σ : L2.St} {H : Hp} {Q : VK}
    (w : wE C X.K W (eChain f g ea eb ec) σ H Q) : tChain R R' (wE C X.K W ea) (wE C X.K W eb) (wE C X.K W ec) σ H Q := by
  obtain ⟨r, ρ, h, S, RE, q⟩ := w
  refine ⟨r, ρ, h, S, RE, (RP.bind q).imp fun r1 x h1 H1 g1 S1 q1 x' rx => ?_⟩
  refine ⟨r1, ρ, h1, S1, RE.up g1.up, (RP.bind q1).imp fun r2 y h2 H2 g2 S2 q2 y' ry => ?_⟩
  refine hR r2 h2 H2 x y x' y' _ S2 (rx.up g2.up) ry (noEx_wx (hf x y h2) ((RP.bind q2).imp fun r3 z h3 H3 g3 S3 q3 z' rz => ?_))
  cases z with
  | bl k =>
    refine ⟨k, rz, ?_⟩
    cases k with
    | true =>
      refine iteT ⟨r3, ρ, h3, S3, RE.up (g1.up.trans (g2.up.trans g3.up)), (RP.bind q3).imp fun r4 v h4 H4 g4 S4 q4 v' rv => ?_⟩
      exact hR' r4 h4 H4 y v y' v' Q S4 (ry.up (g3.up.trans g4.up)) rv (noEx_wx (hg y v h4) q4)
    | false => exact iteF (q3 r3 H3 (Go.refl _ _) S3 _ rfl)
  | non => exact q3.elim
  | int _ => exact q3.elim
  | str _ => exact q3.elim
  | ref _ => exact q3.elim
  | scr _ => exact q3.elim
theorem ae_chain {op op' : CmpOp} {f g : Op2} (o : OpA C X (compareOp op) f) (hf : NoX f) (o' : OpA C X (compareOp op') g) (hg : NoX g) (ha : AE C X W a ea) (hb : AE C X W b eb) (hc : AE C X W c ec)
    (hm : lastMarks [op, op'] [b, c] = false := by with_unfolding_all rfl) : AE C X W (.Compare a [op, op'] [b, c] pos) (eChain f g ea eb ec) :=
  let ⟨_, ho, hR⟩ := o; let ⟨_, ho', hR'⟩ := o'; ⟨PE.imp (pe_chain ho ho' ha.pe hb.pe hc.pe hm) fun _ _ _ w => wChain hf hg hR hR' w⟩
theorem at_chain {op op' : CmpOp} {f g : Op2} (o : OpA C X (compareOp op) f) (hf : NoX f) (o' : OpA C X (compareOp op') g) (hg : NoX g) (ha : AE C X W a ea) (hb : AE C X W b eb) (hc : AE C X W c ec)
    (hm : lastMarks [op, op'] [b, c] = false := by with_unfolding_all rfl) : AT C X W (.Compare a [op, op'] [b, c] pos) (eChain f g ea eb ec) :=
  let ⟨_, ho, hR⟩ := o; let ⟨_, ho', hR'⟩ := o'; ⟨PT.imp (pt_chain ho ho' ha.pe hb.pe hc.pe hm) fun _ _ _ w => wChain hf hg hR hR' (wT_wE w)⟩
end

section
variable {C : Cc} {X : Cx} {W : WX} {a b c : Expr} {ea eb ec : E} {pos : Pos} {es rest : List Expr} {eas : EA}
/-! ### and, or, not -/
structure AW (C : Cc) (X : Cx) (W : WX) (e : Expr) (m : E) : Prop where
  pw : PW X e (wT C X.K W m)
theorem aw_and1 (ha : AT C X W a ea) : AW C X W (.BoolOp .And [a] pos) ea := ⟨pw_and1 ha.pt⟩
theorem aw_or1 (ha : AT C X W a ea) : AW C X W (.BoolOp .Or [a] pos) ea := ⟨pw_or1 ha.pt⟩
theorem aw_and (ha : AT C X W a ea) (hb : AW C X W (.BoolOp .And (b :: rest) pos) eb) : AW C X W (.BoolOp .And (a :: b :: rest) pos) (eAnd ea eb) :=
  ⟨PW.imp (pw_and ha.pt hb.pw) fun σ H Q ⟨r, ρ, h, S, RE, q⟩ => by
    refine ⟨r, ρ, h, S, RE, (RP.bind q).imp fun r1 v h1 H1 g1 S1 q1 => ?_⟩
    cases v with
    | bl k =>
      refine ⟨k, rfl, ?_⟩
      cases k with
      | true => exact iteT ⟨r1, ρ, h1, S1, RE.up g1.up, q1⟩
      | false =>
        refine iteF ?_
        obtain ⟨k, e, q2⟩ := q1 r1 H1 (Go.refl _ _) S1
        cases e; exact q2
    | non => exact q1.elim
    | int _ => exact q1.elim
    | str _ => exact q1.elim
    | ref _ => exact q1.elim
    | scr _ => exact q1.elim⟩
theorem aw_or (ha : AT C X W a ea) (hb : AW C X W (.BoolOp .Or (b :: rest) pos) eb) : AW C X W (.BoolOp .Or (a :: b :: rest) pos) (eOr ea eb) :=
  ⟨PW.imp (pw_or ha.pt hb.pw) fun σ H Q ⟨r, ρ, h, S, RE, q⟩ => by
    refine ⟨r, ρ, h, S, RE, (RP.bind q).imp fun r1 v h1 H1 g1 S1 q1 => ?_⟩
    cases v with
    | bl k =>
      refine ⟨k, rfl, ?_⟩
      cases k with
      | true =>
        refine iteT ?_
        obtain ⟨k, e, q2⟩ := q1 r1 H1 (Go.refl _ _) S1
        cases e; exact q2
      | false => exact iteF ⟨r1, ρ, h1, S1, RE.up g1.up, q1⟩
    | non => exact q1.elim
    | int _ => exact q1.elim
    | str _ => exact q1.elim
    | ref _ => exact q1.elim
    | scr _ => exact q1.elim⟩
theorem AW.at (h : AW C X W a ea) : AT C X W a ea := ⟨h.pw.pt⟩
theorem at_not (ha : AT C X W a ea) : AT C X W (.UnaryOp .Not a pos) (eNot ea) :=
  ⟨PT.imp (pt_not ha.pt) fun σ H Q ⟨r, ρ, h, S, RE, q⟩ => by
    refine ⟨r, ρ, h, S, RE, (RP.bind q).imp fun r1 v h1 H1 g1 S1 q1 => ?_⟩
    cases v with
    | bl k =>
      obtain ⟨k', e, q2⟩ := q1 r1 H1 (Go.refl _ _) S1
      cases e
      exact ⟨k, rfl, q2⟩
    | non => exact q1.elim
    | int _ => exact q1.elim
    | str _ => exact q1.elim
    | ref _ => exact q1.elim
    | scr _ => exact q1.elim⟩
theorem ae_one {op} (ha : AE C X W a ea) : AE C X W (.BoolOp op [a] pos) ea := ⟨pe_one ha.pe⟩
theorem ae_and (ha : AE C X W a ea) (hb : AE C X W (.BoolOp .And (b :: rest) pos) eb) : AE C X W (.BoolOp .And (a :: b :: rest) pos) (eAnd ea eb) :=
  ⟨PE.imp (pe_and ha.pe hb.pe) fun σ H Q ⟨r, ρ, h, S, RE, q⟩ => by
    refine ⟨r, ρ, h, S, RE, (RP.bind q).imp fun r1 v h1 H1 g1 S1 q1 x rx => ?_⟩
    cases v with
    | bl k =>
      refine ⟨k, rx, ?_⟩
      cases k with
      | true => exact iteT ⟨r1, ρ, h1, S1, RE.up g1.up, q1⟩
      | false => exact iteF (q1 r1 H1 (Go.refl _ _) S1 _ rfl)
    | non => exact q1.elim
    | int _ => exact q1.elim
    | str _ => exact q1.elim
    | ref _ => exact q1.elim
    | scr _ => exact q1.elim⟩
theorem ae_or (ha : AE C X W a ea) (hb : AE C X W (.BoolOp .Or (b :: rest) pos) eb) : AE C X W (.BoolOp .Or (a :: b :: rest) pos) (eOr ea eb) :=
  ⟨PE.imp (pe_or ha.pe hb.pe) fun σ H Q ⟨r, ρ, h, S, RE, q⟩ => by
    refine ⟨r, ρ, h, S, RE, (RP.bind q).imp fun r1 v h1 H1 g1 S1 q1 x rx => ?_⟩
    cases v with
    | bl k =>
      refine ⟨k, rx, ?_⟩
      cases k with
      | true => exact iteT (q1 r1 H1 (Go.refl _ _) S1 _ rfl)
      | false => exact iteF ⟨r1, ρ, h1, S1, RE.up g1.up, q1⟩
    | non => exact q1.elim
    | int _ => exact q1.elim
    | str _ => exact q1.elim
    | ref _ => exact q1.elim
    | scr _ => exact q1.elim⟩
theorem ae_not (ha : AE C X W a ea) : AE C X W (.UnaryOp .Not a pos) (eNot ea) :=
  ⟨PE.imp (pe_not ha.pe) fun σ H Q ⟨r, ρ, h, S, RE, q⟩ => by
    refine ⟨r, ρ, h, S, RE, (RP.bind q).imp fun r1 v h1 H1 g1 S1 q1 x rx => ?_⟩
    cases v with
    | bl k => exact ⟨k, rx, q1 r1 H1 (Go.refl _ _) S1 _ rfl⟩
    | non => exact q1.elim
    | int _ => exact q1.elim
    | str _ => exact q1.elim
    | ref _ => exact q1.elim
    | scr _ => exact q1.elim⟩
/-- one place -/
theorem w1 {R : V → Hp → VK → Prop} {f : MV → MH → Res MV} (hf : ∀ x h c h', f x h ≠ .exc c h') (hR : ∀ r h H x x' Q, Sim C X.K r h H → VR C r x x' → RP C X.K r H (fun r' v _ H' => ∀ z, VR C r' v z → Q z H') noEx (f x h) → R x' H Q) {σ : L2.St} {H : Hp} {Q : VK}
    (w : wE C X.K W (e1 f ea) σ H Q) : wE C X.K W ea σ H fun x H1 => R x H1 Q := by
  obtain ⟨r, ρ, h, S, RE, q⟩ := w
  refine ⟨r, ρ, h, S, RE, (RP.bind q).imp fun r1 x h1 H1 g1 S1 q1 x' rx => ?_⟩
  exact hR r1 h1 H1 x x' Q S1 rx (noEx_wx (hf x h1) q1)
theorem ae_neg (ha : AE C X W a ea) : AE C X W (.UnaryOp .USub a pos) (eNeg ea) :=
  ⟨PE.imp (pe_un un_neg ha.pe) fun σ H Q w => w1 (fun x h c h' => by cases x <;> (intro z; cases z)) (fun r h H x x' Q S rx q => by
    cases x with
    | int i => exact ⟨i, rx, q r H (Go.refl _ _) S _ rfl⟩
    | non => exact q.elim
    | bl _ => exact q.elim
    | str _ => exact q.elim
    | ref _ => exact q.elim
    | scr _ => exact q.elim) w⟩
/-! ### is -/
theorem isNon_eq {r : List Addr} : ∀ {x : MV} {x' : V}, VR C r x x' → decide (x' = .non) = isNon x
  | .non, _, rx => by cases rx; rfl
  | .bl _, _, rx => by cases rx; rfl
  | .int _, _, rx => by cases rx; rfl
  | .str _, _, rx => by obtain ⟨rfl, _⟩ := rx; rfl
  | .ref _, _, ⟨_, _, e⟩ => by cases e; rfl
  | .scr _, _, ⟨_, e⟩ => by cases e; rfl
theorem wIsN {σ : L2.St} {H : Hp} {Q : VK} (w : wE C X.K W (eIsN ea) σ H Q) : tIsN (wE C X.K W ea) σ H Q :=
  w1 (R := fun x H Q => Q (.bl (decide (x = .non))) H) (fun x h c h' => by intro z; cases z) (fun r h H x x' Q S rx q => by
    rw [isNon_eq rx]
    exact q r H (Go.refl _ _) S _ rfl) w
theorem wNotN {σ : L2.St} {H : Hp} {Q : VK} (w : wE C X.K W (eNotN ea) σ H Q) : tNotN (wE C X.K W ea) σ H Q :=
  w1 (R := fun x H Q => Q (.bl (!decide (x = .non))) H) (fun x h c h' => by intro z; cases z) (fun r h H x x' Q S rx q => by
    rw [isNon_eq rx]
    exact q r H (Go.refl _ _) S _ rfl) w
theorem ae_isN {j p2} (ha : AE C X W a ea) : AE C X W (.Compare a [.Is] [.Constant .none j p2] pos) (eIsN ea) := ⟨PE.imp (pe_cmp (pc_isN ha.pe)) fun σ H Q w => wIsN w⟩
theorem ae_notN {j p2} (ha : AE C X W a ea) : AE C X W (.Compare a [.IsNot] [.Constant .none j p2] pos) (eNotN ea) := ⟨PE.imp (pe_cmp (pc_notN ha.pe)) fun σ H Q w => wNotN w⟩
theorem at_isN {j p2} (ha : AE C X W a ea) : AT C X W (.Compare a [.Is] [.Constant .none j p2] pos) (eIsN ea) := ⟨PT.imp (pt_cmp (pc_isN ha.pe)) fun σ H Q w => wIsN (wT_wE w)⟩
theorem at_notN {j p2} (ha : AE C X W a ea) : AT C X W (.Compare a [.IsNot] [.Constant .none j p2] pos) (eNotN ea) := ⟨PT.imp (pt_cmp (pc_notN ha.pe)) fun σ H Q w => wNotN (wT_wE w)⟩
/-- x is True, x is False -/
theorem wIsB {b : Bool} {σ : L2.St} {H : Hp} {Q : VK} (w : wE C X.K W (eIsB b ea) σ H Q) : tOp rIsB (wE C X.K W ea) (tC (.bl b)) σ H Q :=
  w1 (R := fun x H Q => rIsB x (.bl b) H Q) (fun x h c h' => by cases x <;> (intro z; cases z)) (fun r h H x x' Q S rx q => by
    cases x with
    | bl k => exact ⟨k, b, rx, rfl, q r H (Go.refl _ _) S _ rfl⟩
    | non => exact q.elim
    | int _ => exact q.elim
    | str _ => exact q.elim
    | ref _ => exact q.elim
    | scr _ => exact q.elim) w
theorem ae_isB {b j p2} (ha : AE C X W a ea) : AE C X W (.Compare a [.Is] [.Constant (.bool b) j p2] pos) (eIsB b ea) := ⟨PE.imp (pe_cmpR op_isBl ha.pe pe_bl (by rfl)) fun σ H Q w => wIsB w⟩
theorem at_isB {b j p2} (ha : AE C X W a ea) : AT C X W (.Compare a [.Is] [.Constant (.bool b) j p2] pos) (eIsB b ea) := ⟨PT.imp (pt_cmpR op_isBl ha.pe pe_bl (by rfl)) fun σ H Q w => wIsB (wT_wE w)⟩
/-! ### arguments, displays -/
theorem aa_nil : AA C X W [] aNil := ⟨PA.imp pa_nil fun σ H Q ⟨r, ρ, h, S, RE, q⟩ => q r H (Go.refl _ _) S _ .nil⟩
theorem aa_cons (ha : AE C X W a ea) (hr : AA C X W es eas) (hs : starEach (a :: es) X.env = (false, eval a X.env) :: starEach es X.env := by rfl) : AA C X W (a :: es) (aCons ea eas) :=
  ⟨PA.imp (pa_cons ha.pe hr.pa hs) fun σ H Q ⟨r, ρ, h, S, RE, q⟩ => by
    refine ⟨r, ρ, h, S, RE, (RP.bind q).imp fun r1 v h1 H1 g1 S1 q1 x rx => ?_⟩
    refine ⟨r1, ρ, h1, S1, RE.up g1.up, (RP.bind q1).imp fun r2 vs h2 H2 g2 S2 q2 xs rxs => ?_⟩
    exact q2 r2 H2 (Go.refl _ _) S2 _ (.cons (rx.up g2.up) rxs)⟩
theorem lim_eq : (lim : Nat) = sizeLine := by rw [sizeLine_eq]
theorem rp_allocL {r : List Addr} {h : MH} {H : Hp} {xs : List MV} {ys : List V} {ok : List Addr → MV → MH → Hp → Prop} {ex : Nat → List Addr → MH → Hp → Prop} (S : Sim C X.K r h H) (rx : VRs C r xs ys) (q : RP C X.K r H ok ex (alloc (.lst xs) h)) (hl : xs.length ≤ lim) {p : Addr} (hp : H p = none) :
    ok (r ++ [p]) (.ref h.length) (h ++ [.lst xs]) (upd H p (.lst ys)) ∧ VR C (r ++ [p]) (.ref h.length) (.ref p) :=
  ⟨q _ _ (Go.alloc hp) (S.alloc hp ⟨ys, VRs.up (Up.app r _) rx, upd_same⟩ hl), ⟨p, by rw [← S.len]; simp, rfl⟩⟩
theorem rp_allocT {r : List Addr} {h : MH} {H : Hp} {xs : List MV} {ys : List V} {ok : List Addr → MV → MH → Hp → Prop} {ex : Nat → List Addr → MH → Hp → Prop} (S : Sim C X.K r h H) (rx : VRs C r xs ys) (q : RP C X.K r H ok ex (alloc (.tup xs) h)) (hl : xs.length ≤ lim) {p : Addr} (hp : H p = none) :
    ok (r ++ [p]) (.ref h.length) (h ++ [.tup xs]) (upd H p (.tup ys)) ∧ VR C (r ++ [p]) (.ref h.length) (.ref p) :=
  ⟨q _ _ (Go.alloc hp) (S.alloc hp ⟨ys, VRs.up (Up.app r _) rx, upd_same⟩ hl), ⟨p, by rw [← S.len]; simp, rfl⟩⟩
theorem ae_tup {k} (h : AA C X W es eas) : AE C X W (.Tuple es k pos) (eTup eas) :=
  ⟨PE.imp (pe_tup h.pa) fun σ H Q ⟨r, ρ, hh, S, RE, q⟩ => by
    refine ⟨r, ρ, hh, S, RE, (RP.bind q).imp fun r1 vs h1 H1 g1 S1 q1 xs rx => ?_⟩
    unfold allocT at q1
    split at q1
    · rename_i hl
      refine ⟨by rw [← rx.length, ← lim_eq]; exact hl, fun p hp => ?_⟩
      obtain ⟨z, zr⟩ := rp_allocT S1 rx q1 hl hp
      exact z _ zr
    · exact q1.elim⟩
theorem ae_lst (h : AA C X W es eas) : AE C X W (.List es pos) (eLst eas) :=
  ⟨PE.imp (pe_lst h.pa) fun σ H Q ⟨r, ρ, hh, S, RE, q⟩ => by
    refine ⟨r, ρ, hh, S, RE, (RP.bind q).imp fun r1 vs h1 H1 g1 S1 q1 xs rx => ?_⟩
    unfold allocL at q1
    split at q1
    · rename_i hl
      refine ⟨by rw [← rx.length, ← lim_eq]; exact hl, fun p hp => ?_⟩
      obtain ⟨z, zr⟩ := rp_allocL S1 rx q1 hl hp
      exact z _ zr
    · exact q1.elim⟩
/-! ### subscripts, slices -/
def IxA (C : Cc) (X : Cx) (f : Op2) : Prop := ∃ R, IxR X R ∧ ∀ r h H x y x' y' Q, Sim C X.K r h H → VR C r x x' → VR C r y y' → RP C X.K r H (fun r' v _ H' => ∀ z, VR C r' v z → Q z H') noEx (f x y h) → R x' y' H Q
theorem ae_ixBy {f : Op2} (o : IxA C X f) (hf : NoX f) (ha : AE C X W a ea) (hb : AE C X W b eb) (hp : PlainIx b := by exact fun _ _ => rfl) : AE C X W (.Subscript a b pos) (e2 f ea eb) :=
  let ⟨_, ho, hR⟩ := o; ⟨PE.imp (pe_ix ho ha.pe hb.pe hp) fun _ _ _ w => w2 hf hR w⟩
theorem ao_none : AO C X W none oNone := ⟨⟨fun pins s σ H Q I ⟨r, ρ, h, S, RE, q⟩ => po_none.run pins s σ H Q I (q r H (Go.refl _ _) S)⟩⟩
theorem ao_some (ha : AE C X W a ea) : AO C X W (some a) (oSome ea) := ⟨⟨fun pins s σ H Q I ⟨r, ρ, h, S, RE, q⟩ => (po_some ha.pe).run pins s σ H Q I (by
  refine ⟨r, ρ, h, S, RE, (RP.bind q).imp fun r1 v h1 H1 g1 S1 q1 x rx => ?_⟩
  cases v with
  | int i => exact ⟨i, rx, q1 r1 H1 (Go.refl _ _) S1⟩
  | non => exact q1.elim
  | bl _ => exact q1.elim
  | str _ => exact q1.elim
  | ref _ => exact q1.elim
  | scr _ => exact q1.elim)⟩⟩
def SlA (C : Cc) (X : Cx) (f : MV → Option Int → Option Int → MH → Res MV) : Prop := ∃ R, SlR X R ∧ ∀ r h H x x' lo hi Q, Sim C X.K r h H → VR C r x x' → RP C X.K r H (fun r' v _ H' => ∀ z, VR C r' v z → Q z H') noEx (f x lo hi h) → R x' lo hi H Q
theorem ae_sliceBy {lo hi : Option Expr} {ol oh : EO} {p2 : Pos} (o : SlA C X slice) (hf : ∀ x l u h c h', slice x l u h ≠ .exc c h') (ha : AE C X W a ea) (hl : AO C X W lo ol) (hh : AO C X W hi oh) : AE C X W (.Subscript a (.Slice lo hi none p2) pos) (eSlice ea ol oh) :=
  let ⟨_, ho, hR⟩ := o
  ⟨PE.imp (pe_slice ho ha.pe hl.po hh.po) fun σ H Q ⟨r, ρ, h, S, RE, q⟩ => by
    refine ⟨r, ρ, h, S, RE, (RP.bind q).imp fun r1 v h1 H1 g1 S1 q1 x rx => ?_⟩
    refine ⟨r1, ρ, h1, S1, RE.up g1.up, (RP.bind q1).imp fun r2 l h2 H2 g2 S2 q2 => ?_⟩
    refine ⟨r2, ρ, h2, S2, RE.up (g1.up.trans g2.up), (RP.bind q2).imp fun r3 u h3 H3 g3 S3 q3 => ?_⟩
    exact hR r3 h3 H3 v x l u Q S3 (rx.up (g2.up.trans g3.up)) (noEx_wx (hf v l u h3) q3)⟩
/-! ### built-in functions by values -/
def CallA (C : Cc) (X : Cx) (F : Value) (f : Fn) : Prop := ∃ R, CallR X F R ∧ ∀ r h H xs xs' Q, Sim C X.K r h H → VRs C r xs xs' → RP C X.K r H (fun r' v _ H' => ∀ z, VR C r' v z → Q z H') noEx (f xs h) → R xs' H Q
def NoXF (f : Fn) : Prop := ∀ x h c h', f x h ≠ .exc c h'
theorem wCB {R : List V → Hp → VK → Prop} {f : Fn} (hf : NoXF f) (hR : ∀ r h H xs xs' Q, Sim C X.K r h H → VRs C r xs xs' → RP C X.K r H (fun r' v _ H' => ∀ z, VR C r' v z → Q z H') noEx (f xs h) → R xs' H Q) {σ : L2.St} {H : Hp} {Q : VK}
    (w : wE C X.K W (eCall f eas) σ H Q) : tCB R (wA C X.K W eas) σ H Q := by
  obtain ⟨r, ρ, h, S, RE, q⟩ := w
  refine ⟨r, ρ, h, S, RE, (RP.bind q).imp fun r1 x h1 H1 g1 S1 q1 x' rx => ?_⟩
  exact hR r1 h1 H1 x x' Q S1 rx (noEx_wx (hf x h1) q1)
theorem ae_blt {id : String} {x : PySem.Str} {p : Pos} {f : Fn} (o : CallA C X (.builtin id) f) (hf : NoXF f) (hg : Gl X x) (hm : X.mg x = none) (hv : bootBuiltins x = some (.builtin id)) (ha : AA C X W (a :: es) eas) (hn : x ≠ "__name__" := by decide) (hdb : (x == ("__debug__" : PySem.Str)) = false := by decide)
    (he : starEach (a :: es) X.env = (false, eval a X.env) :: starEach es X.env := by rfl) (hpl : (backTo pos (starEach es X.env)).any (·.1) = false := by rfl) : AE C X W (.Call (.Name x p) (a :: es) [] pos) (eCall f eas) :=
  let ⟨_, ho, hR⟩ := o; ⟨PE.imp (pe_callB ho hg hm hv ha.pa hn hdb he hpl) fun _ _ _ w => wCB hf hR w⟩
theorem ae_bty {T : String} {x : PySem.Str} {p : Pos} {f : Fn} (o : CallA C X (.type T) f) (hf : NoXF f) (hg : Gl X x) (hm : X.mg x = none) (hv : bootBuiltins x = some (.type T)) (ha : AA C X W (a :: es) eas) (hn : x ≠ "__name__" := by decide) (hdb : (x == ("__debug__" : PySem.Str)) = false := by decide)
    (he : starEach (a :: es) X.env = (false, eval a X.env) :: starEach es X.env := by rfl) (hpl : (backTo pos (starEach es X.env)).any (·.1) = false := by rfl) : AE C X W (.Call (.Name x p) (a :: es) [] pos) (eCall f eas) :=
  let ⟨_, ho, hR⟩ := o; ⟨PE.imp (pe_callTy ho hg hm hv ha.pa hn hdb he hpl) fun _ _ _ w => wCB hf hR w⟩
/-! ### methods of lists, texts, asInts -/
def MtA (C : Cc) (X : Cx) (id : String) (f : Fn) : Prop := ∃ R, MtR X id R ∧ ∀ r h H x xs x' xs' Q, Sim C X.K r h H → VR C r x x' → VRs C r xs xs' → RP C X.K r H (fun r' v _ H' => ∀ z, VR C r' v z → Q z H') noEx (f (x :: xs) h) → R x' xs' H Q
end

/-! ### targets -/
theorem PG.imp {X : Cx} {e : Expr} {t t' : TG} (h : PG X e t) (f : ∀ v σ H Q, t' v σ H Q → t v σ H Q) : PG X e t' := ⟨fun pins s σ H v u Q I r q => h.run pins s σ H v u Q I r (f _ _ _ _ q)⟩
theorem PG.or {X : Cx} {e : Expr} {t t' : TG} (h : PG X e t) (h' : PG X e t') : PG X e (fun v σ H Q => t v σ H Q ∨ t' v σ H Q) := ⟨fun pins s σ H v u Q I r q => q.elim (h.run pins s σ H v u Q I r) (h'.run pins s σ H v u Q I r)⟩
theorem PGs.imp {X : Cx} {e : List Expr} {t t' : TGs} (h : PGs X e t) (f : ∀ v σ H Q, t' v σ H Q → t v σ H Q) : PGs X e t' := ⟨fun pins s σ H v u Q I r q => h.run pins s σ H v u Q I r (f _ _ _ _ q)⟩
section
variable (C : Cc) (K : PySem.W.Frag)
def wG (g : G) : TG := fun x σ H Q => ∃ r ρ h v ρ1, Sim C K r h H ∧ ER C r ρ σ ∧ VR C r v x ∧ g v ρ h = some ρ1 ∧ ∀ σ1, ER C r ρ1 σ1 → Q σ1 H
def wGs (g : Gs) : TGs := fun xs σ H Q => ∃ r ρ h vs ρ1, Sim C K r h H ∧ ER C r ρ σ ∧ VRs C r vs xs ∧ g vs ρ h = some ρ1 ∧ ∀ σ1, ER C r ρ1 σ1 → Q σ1 H
/-- an item that came of H0 -/
def ItmR (r : List Addr) (H0 : Hp) : Itm → V → Hp → Prop
  | .one v, x, H => H = H0 ∧ VR C r v x
  | .two v w, x, H => ∃ T x' y', x = .ref T ∧ H0 T = none ∧ H = upd H0 T (.tup [x', y']) ∧ VR C r v x' ∧ VR C r w y'
def wGI (g : GI) : TG := fun x σ H Q => ∃ r ρ h m ρ1 H0, Sim C K r h H0 ∧ ER C r ρ σ ∧ ItmR C r H0 m x H ∧ g m ρ h = some ρ1 ∧ ∀ σ1, ER C r ρ1 σ1 → Q σ1 H
structure AG (X : Cx) (tg : Expr) (g : G) : Prop where
  pg : PG X tg (wG C X.K g)
structure AGs (X : Cx) (tg : List Expr) (g : Gs) : Prop where
  pg : PGs X tg (wGs C X.K g)
structure AGI (X : Cx) (tg : Expr) (g : GI) : Prop where
  pg : PG X tg (wGI C X.K g)
end
theorem ItmR.sim {C : Cc} {K : PySem.W.Frag} {r : List Addr} {h : MH} {H0 H : Hp} {m : Itm} {x : V} (S : Sim C K r h H0) (i : ItmR C r H0 m x H) : Sim C K r h H ∧ Go r H0 r H := by
  cases m with
  | one v => obtain ⟨rfl, _⟩ := i; exact ⟨S, Go.refl _ _⟩
  | two v w => obtain ⟨T, x', y', rfl, n, rfl, _⟩ := i; exact ⟨S.aside n _, Go.aside n⟩
theorem items_sz {C : Cc} {K : PySem.W.Frag} {r : List Addr} {h : MH} {H : Hp} {v : MV} {x : V} {xs : List MV} (S : Sim C K r h H) (rv : VR C r v x) (e : items h v = some xs) : xs.length ≤ lim := by
  unfold items at e
  split at e
  · split at e
    · rename_i q; cases e; exact S.sz _ _ q
    · rename_i q; cases e; exact S.sz _ _ q
    · cases e
  · cases e
    obtain ⟨rfl, _⟩ := rv
    simpa using S.sxl
  · cases e
theorem isL_sz {C : Cc} {K : PySem.W.Frag} {r : List Addr} {h : MH} {H : Hp} {v : MV} {x : V} {xs : List MV} (S : Sim C K r h H) (rv : VR C r v x) (e : isL h v = some xs) : xs.length ≤ lim := by
  unfold isL at e
  split at e
  · split at e
    · rename_i q; cases e; exact S.sz _ _ q
    · cases e
  · cases e
    obtain ⟨rfl, _⟩ := rv
    simpa using S.sxl
  · cases e
theorem items_seq {C : Cc} {K : PySem.W.Frag} {r : List Addr} {h : MH} {H : Hp} {v : MV} {x : V} {xs : List MV} (S : Sim C K r h H) (rv : VR C r v x) (e : items h v = some xs) :
    ∃ a vs, x = .ref a ∧ VRs C r xs vs ∧ ((isL h v = some xs ∧ SqL K H a vs) ∨ (isT h v = some xs ∧ H a = some (.tup vs))) := by
  cases v with
  | ref n =>
    obtain ⟨a, ea, rfl⟩ := rv
    cases eh : h[n]? with
    | none => simp [items, eh] at e
    | some o =>
      cases o with
      | lst ys =>
        simp [items, eh] at e
        subst e
        obtain ⟨vs, rvs, eH⟩ := S.ob n _ a eh ea
        exact ⟨a, vs, rfl, rvs, .inl ⟨by simp [isL, eh], SqL.of eH⟩⟩
      | tup ys =>
        simp [items, eh] at e
        subst e
        obtain ⟨vs, rvs, eH⟩ := S.ob n _ a eh ea
        exact ⟨a, vs, rfl, rvs, .inr ⟨by simp [isT, eh], eH⟩⟩
      | dct _ _ _ _ => simp [items, eh] at e
  | scr ys =>
    obtain ⟨rfl, rfl⟩ := rv
    cases e
    exact ⟨_, _, rfl, VRs.ints _, .inl ⟨rfl, S.scr.seq⟩⟩
  | non => cases e
  | bl _ => cases e
  | int _ => cases e
  | str _ => cases e
theorem isL_seq {C : Cc} {K : PySem.W.Frag} {r : List Addr} {h : MH} {H : Hp} {v : MV} {x : V} {xs : List MV} (S : Sim C K r h H) (rv : VR C r v x) (e : isL h v = some xs) :
    ∃ a vs, x = .ref a ∧ VRs C r xs vs ∧ SqL K H a vs := by
  cases v with
  | ref n =>
    obtain ⟨a, ea, rfl⟩ := rv
    cases eh : h[n]? with
    | none => simp [isL, eh] at e
    | some o =>
      cases o with
      | lst ys =>
        simp [isL, eh] at e
        subst e
        obtain ⟨vs, rvs, eH⟩ := S.ob n _ a eh ea
        exact ⟨a, vs, rfl, rvs, SqL.of eH⟩
      | tup ys => simp [isL, eh] at e
      | dct _ _ _ _ => simp [isL, eh] at e
  | scr ys =>
    obtain ⟨rfl, rfl⟩ := rv
    cases e
    exact ⟨_, _, rfl, VRs.ints _, S.scr.seq⟩
  | non => cases e
  | bl _ => cases e
  | int _ => cases e
  | str _ => cases e
section
variable {C : Cc} {X : Cx} {W : WX} {a b c : Expr} {ea eb ec : E} {pos : Pos} {es rest : List Expr} {eas : EA} {tg : Expr} {tgs : List Expr}
theorem ag_name (i : Nat) {x : PySem.Str} (hN : X.N.Nodup) (hi : X.N[i]? = some x := by rfl) (hx : Loc X.env.scope x := by first | exact Or.inl rfl | exact Or.inr rfl) (hf : X.fn x = true ∨ X.env.scope.names.lookup x = some .local := by first | exact .inl rfl | exact .inr rfl) : AG C X (.Name x pos) (gName i) :=
  ⟨PG.imp (pg_name hN hi hx) fun x σ H Q ⟨r, ρ, h, v, ρ1, S, R, rv, e, k⟩ => by cases e; exact k _ (Paired.setL ⟨x, rfl, rv⟩ i R)⟩
theorem ags_nil : AGs C X [] gNil := ⟨PGs.imp pgs_nil fun xs σ H Q ⟨r, ρ, h, vs, ρ1, S, R, rv, e, k⟩ => by
  cases rv with
  | nil => cases e; exact ⟨rfl, k _ R⟩
  | cons _ _ => cases e⟩
theorem ags_cons {g : G} {gs : Gs} (ha : AG C X tg g) (hb : AGs C X tgs gs) (hs : (assignEach (tg :: tgs) X.env).map (fun x => x.2) = assign tg X.env :: (assignEach tgs X.env).map (fun x => x.2) := by rfl) : AGs C X (tg :: tgs) (gCons g gs) := ⟨PGs.imp (pgs_cons ha.pg hb.pg hs) fun xs σ H Q ⟨r, ρ, h, vs, ρ1, S, R, rv, e, k⟩ => by
  cases rv with
  | nil => cases e
  | cons r1 r2 =>
    unfold gCons at e
    simp only at e
    split at e
    · rename_i ρ2 e2
      exact ⟨_, _, rfl, r, ρ, h, _, ρ2, S, R, r1, e2, fun σ1 R1 => ⟨r, ρ2, h, _, ρ1, S, R1, r2, e, k⟩⟩
    · cases e⟩
theorem ag_tup {gs : Gs} {n : Nat} {j : Nat} (hc : X.calm = true) (h : AGs C X es gs) (hn : (assignEach es X.env).length = n := by rfl) (hst : (assignEach es X.env).findIdx? (·.1) = none := by rfl) : AG C X (.Tuple es j pos) (gTup n gs) :=
  ⟨PG.imp (PG.or (pg_tup hc h.pg hn hst) (pg_lst hc h.pg hn hst)) fun x σ H Q ⟨r, ρ, h, v, ρ1, S, R, rv, e, k⟩ => by
    unfold gTup at e
    split at e
    · rename_i xs ei
      split at e
      · rename_i el
        obtain ⟨a, vs, rfl, rvs, ⟨_, q⟩ | ⟨_, q⟩⟩ := items_seq S rv ei
        · exact .inr ⟨a, vs, rfl, q, by rw [← rvs.length]; exact el, r, ρ, h, xs, ρ1, S, R, rvs, e, k⟩
        · exact .inl ⟨a, vs, rfl, SqT.of q, by rw [← rvs.length]; exact el, r, ρ, h, xs, ρ1, S, R, rvs, e, k⟩
      · cases e
    · cases e⟩
theorem agi_one {g : G} (h : AG C X tg g) : AGI C X tg (gOne g) := ⟨PG.imp h.pg fun x σ H Q ⟨r, ρ, h, m, ρ1, H0, S, R, i, e, k⟩ => by
  cases m with
  | one v => obtain ⟨rfl, rv⟩ := i; exact ⟨r, ρ, h, v, ρ1, S, R, rv, e, k⟩
  | two v w => cases e⟩
theorem agi_two {t1 t2 : Expr} {g k : G} {j : Nat} (hc : X.calm = true) (h1 : AG C X t1 g) (h2 : AG C X t2 k) (hn : (assignEach [t1, t2] X.env).length = 2 := by rfl) (hst : (assignEach [t1, t2] X.env).findIdx? (·.1) = none := by rfl) (hs1 : (assignEach [t1, t2] X.env).map (fun x => x.2) = assign t1 X.env :: (assignEach [t2] X.env).map (fun x => x.2) := by rfl) (hs2 : (assignEach [t2] X.env).map (fun x => x.2) = assign t2 X.env :: (assignEach [] X.env).map (fun x => x.2) := by rfl) : AGI C X (.Tuple [t1, t2] j pos) (gTwo g k) :=
  have hs : AGs C X [t1, t2] (gCons g (gCons k gNil)) := ags_cons h1 (ags_cons h2 ags_nil hs2) hs1
  ⟨PG.imp (PG.or (ag_tup (n := 2) hc hs hn hst).pg (pg_tup hc hs.pg hn hst)) fun x σ H Q ⟨r, ρ, h, m, ρ1, H0, S, R, i, e, kk⟩ => by
    cases m with
    | one v => obtain ⟨rfl, rv⟩ := i; exact .inl ⟨r, ρ, h, v, ρ1, S, R, rv, e, kk⟩
    | two v w =>
      have i0 := i
      obtain ⟨T, x', y', rfl, n, rfl, rv, rw'⟩ := i
      exact .inr ⟨T, [x', y'], rfl, SqT.of upd_same, rfl, r, ρ, h, [v, w], ρ1, (ItmR.sim S i0).1, R, .cons rv (.cons rw' .nil), e, kk⟩⟩
/-! ### statements -/
theorem as_pass : AS C X W (.Pass pos) sSkip := ⟨PS.imp ps_pass fun D σ H ⟨r, ρ, h, S, R, q⟩ => q r σ H (Go.refl _ _) S R⟩
theorem ass_nil : ASs C X W [] sSkip := ⟨PSs.imp pss_nil fun D σ H ⟨r, ρ, h, S, R, q⟩ => q r σ H (Go.refl _ _) S R⟩
theorem SRP.then {D : Ends} {r : List Addr} {H : Hp} {K : PySem.W.Frag} {x : SR} {f : S} (q : SRP C K W D r H (x.then f)) : SRP C K W { D with nx := wS C K W f D } r H x := by
  cases x with
  | nx ρ h => exact fun r' σ H' g S R => ⟨r', ρ, h, S, R, SRP.go g q⟩
  | rt _ _ => exact q
  | bk _ _ => exact q
  | ct _ _ => exact q
  | exc _ _ _ => exact q
  | stuck => exact q
theorem ass_cons {s : Stmt} {ss : List Stmt} {m n : S} (h1 : AS C X W s m) (h2 : ASs C X W ss n) : ASs C X W (s :: ss) (sSeq m n) :=
  ⟨PSs.imp (pss_cons h1.ps h2.ps) fun D σ H ⟨r, ρ, h, S, R, q⟩ => ⟨r, ρ, h, S, R, SRP.then q⟩⟩
theorem ass_one {s : Stmt} {m : S} (h1 : AS C X W s m) : ASs C X W [s] m := ⟨pss_one h1.ps⟩
theorem as_expr (ha : AE C X W a ea) (hs : swapsWith a none pos.line X.env = pure false := by rfl) : AS C X W (.Expr a pos) (sExpr ea) :=
  ⟨PS.imp (ps_expr ha.pe hs) fun D σ H ⟨r, ρ, h, S, R, q⟩ => ⟨r, ρ, h, S, R, (RP.into R q).imp fun r1 v h1 H1 g1 S1 q1 x rx => q1 r1 σ H1 (Go.refl _ _) S1 (R.up g1.up)⟩⟩
theorem as_ret (ha : AE C X W a ea) : AS C X W (.Return (some a) pos) (sRet ea) :=
  ⟨PS.imp (ps_ret ha.pe) fun D σ H ⟨r, ρ, h, S, R, q⟩ => ⟨r, ρ, h, S, R, (RP.into R q).imp fun r1 v h1 H1 g1 S1 q1 x rx => q1 r1 H1 (Go.refl _ _) S1 x rx⟩⟩
theorem as_retN : AS C X W (.Return none pos) sRetN := ⟨PS.imp ps_retN fun D σ H ⟨r, ρ, h, S, R, q⟩ => q r H (Go.refl _ _) S _ rfl⟩
theorem as_if {s1 s2 : List Stmt} {m n : S} (hc : AT C X W a ea) (h1 : ASs C X W s1 m) (h2 : ASs C X W s2 n) : AS C X W (.If a s1 s2 pos) (sIf ea m n) :=
  ⟨PS.imp (ps_if hc.pt h1.ps h2.ps) fun D σ H ⟨r, ρ, h, S, R, q⟩ => ⟨r, ρ, h, S, R, (RP.into R q).imp fun r1 v h1 H1 g1 S1 q1 => by
    cases v with
    | bl k =>
      refine ⟨k, rfl, ?_⟩
      cases k with
      | true => exact iteT ⟨r1, ρ, h1, S1, R.up g1.up, q1⟩
      | false => exact iteF ⟨r1, ρ, h1, S1, R.up g1.up, q1⟩
    | non => exact q1.elim
    | int _ => exact q1.elim
    | str _ => exact q1.elim
    | ref _ => exact q1.elim
    | scr _ => exact q1.elim⟩⟩
theorem wAsg {g : G} {D : Ends} {σ : L2.St} {H : Hp} (w : wS C X.K W (sAsg g ea) D σ H) : tAsg (wE C X.K W ea) (wG C X.K g) D σ H := by
  obtain ⟨r, ρ, h, S, R, q⟩ := w
  refine ⟨r, ρ, h, S, R, (RP.into R q).imp fun r1 v h1 H1 g1 S1 q1 x rx => ?_⟩
  split at q1
  · rename_i ρ1 e
    exact ⟨r1, ρ, h1, v, ρ1, S1, R.up g1.up, rx, e, fun σ1 R1 => q1 r1 σ1 H1 (Go.refl _ _) S1 R1⟩
  · exact q1.elim
theorem as_asg {g : G} (ha : AE C X W a ea) (hg : AG C X tg g) (h1 : swapsWithSole [tg] a pos.line X.env = pure false := by rfl) (h2 : swappedStores [tg] a X.env = pure none := by rfl) (h3 : (assignEach [tg] X.env).map (fun x => x.2) = [assign tg X.env] := by rfl) : AS C X W (.Assign [tg] a pos) (sAsg g ea) :=
  ⟨PS.imp (ps_asg ha.pe hg.pg h1 h2 h3) fun D σ H w => wAsg w⟩
theorem as_set (i : Nat) {x : PySem.Str} {p2 : Pos} (hN : X.N.Nodup) (ha : AE C X W a ea) (hi : X.N[i]? = some x := by rfl) (hx : Loc X.env.scope x := by first | exact Or.inl rfl | exact Or.inr rfl) (h1 : swapsWith a (some (.Name x p2)) pos.line X.env = pure false := by rfl)
    (hf : X.fn x = true ∨ X.env.scope.names.lookup x = some .local := by first | exact .inl rfl | exact .inr rfl) : AS C X W (.Assign [.Name x p2] a pos) (sAsg (gName i) ea) :=
  ⟨PS.imp (ps_set hN hi hx ha.pe h1 hf) fun D σ H w => by
    have z := wAsg w
    obtain ⟨r, ρ, h, S, R, q⟩ := z
    refine ⟨r, ρ, h, S, R, q.imp fun r1 v h1 H1 g1 S1 q1 x rx => ?_⟩
    obtain ⟨r2, ρ2, h2, v2, ρ3, S2, R2, rv2, e, k⟩ := q1 x rx
    cases e
    exact k _ (Paired.setL ⟨x, rfl, rv2⟩ i R2)⟩
/-- x += e, x -= e of asInts -/
theorem as_aug {op : Operator} {f : Int → Int → Int} {F : Op2} (i : Nat) {x : PySem.Str} {p2 : Pos} (hN : X.N.Nodup) (hF : ∀ j k h, F (.int j) (.int k) h = .ok (.int (f j k)) h) (ho : PIp X op (ipI f))
    (hs : ∀ v w h, ¬ (∃ j k, v = MV.int j ∧ w = MV.int k) → F v w h = .stuck) (ha : AE C X W a ea) (hi : X.N[i]? = some x := by rfl) (hx : Loc X.env.scope x := by first | exact Or.inl rfl | exact Or.inr rfl)
    (hf : X.fn x = true ∨ X.env.scope.names.lookup x = some .local := by first | exact .inl rfl | exact .inr rfl) : AS C X W (.AugAssign (.Name x p2) op a pos) (sAsg (gName i) (e2 F (eVar i) ea)) :=
  ⟨PS.imp (ps_aug hN hi hx ha.pe ho hf) fun D σ H ⟨r, ρ, h, S, R, q⟩ => by
    have q1 := RP.into R q
    unfold e2 at q1
    have q2 := RP.bind q1
    unfold eVar at q2
    split at q2
    · rename_i v e
      obtain ⟨o, e1, y, e2, rv⟩ := Paired.getL R e
      subst e2
      have q3 := q2 r H (Go.refl _ _) S
      refine ⟨y, e1, r, ρ, h, S, R, (RP.bind q3).imp fun r1 w h1 H1 g1 S1 q4 z rz => ?_⟩
      by_cases hc : ∃ j k, v = MV.int j ∧ w = MV.int k
      · obtain ⟨j, k, rfl, rfl⟩ := hc
        rw [hF] at q4
        refine ⟨j, k, rv, rz, ?_⟩
        exact q4 r1 H1 (Go.refl _ _) S1 r1 _ H1 (Go.refl _ _) S1 (Paired.setL ⟨_, rfl, rfl⟩ i (R.up g1.up))
      · rw [hs v w h1 hc] at q4
        exact q4.elim
    · exact q2.elim⟩
end

section
variable {C : Cc} {X : Cx} {W : WX} {a : Expr} {ea : E} {pos : Pos}
theorem as_augAdd (i : Nat) {x : PySem.Str} {p2 : Pos} (hN : X.N.Nodup) (ha : AE C X W a ea) (hi : X.N[i]? = some x := by rfl) (hx : Loc X.env.scope x := by first | exact Or.inl rfl | exact Or.inr rfl)
    (hf : X.fn x = true ∨ X.env.scope.names.lookup x = some .local := by first | exact .inl rfl | exact .inr rfl) : AS C X W (.AugAssign (.Name x p2) .Add a pos) (sAsg (gName i) (e2 augAdd (eVar i) ea)) :=
  as_aug i hN (fun j k h => rfl) ip_add (fun v w h hc => by
    unfold augAdd
    split
    · exact (hc ⟨_, _, rfl, rfl⟩).elim
    · rfl) ha hi hx hf
theorem as_augSub (i : Nat) {x : PySem.Str} {p2 : Pos} (hN : X.N.Nodup) (ha : AE C X W a ea) (hi : X.N[i]? = some x := by rfl) (hx : Loc X.env.scope x := by first | exact Or.inl rfl | exact Or.inr rfl)
    (hf : X.fn x = true ∨ X.env.scope.names.lookup x = some .local := by first | exact .inl rfl | exact .inr rfl) : AS C X W (.AugAssign (.Name x p2) .Sub a pos) (sAsg (gName i) (e2 opSub (eVar i) ea)) :=
  as_aug i hN (fun j k h => rfl) ip_sub (fun v w h hc => by
    unfold opSub
    split
    · exact (hc ⟨_, _, rfl, rfl⟩).elim
    · rfl) ha hi hx hf
end
/-! ### what is walked -/
theorem PI.imp {X : Cx} {tg e : Expr} {t t' : TI} (h : PI X tg e t) (f : ∀ σ H R, t' σ H R → t σ H R) : PI X tg e t' := ⟨fun pins s σ H R I q => h.run pins s σ H R I (f _ _ _ q)⟩
theorem PI.or {X : Cx} {tg e : Expr} {t t' : TI} (h : PI X tg e t) (h' : PI X tg e t') : PI X tg e (fun σ H R => t σ H R ∨ t' σ H R) := ⟨fun pins s σ H R I q => q.elim (h.run pins s σ H R I) (h'.run pins s σ H R I)⟩
/-- J' gives what J tells, from (r, ..) on -/
structure Real (C : Cc) (K : PySem.W.Frag) (r : List Addr) (J : It) (J' : L2.It) : Prop where
  len : J.itms.length ≤ lim
  go : ∀ (i : Nat) (m : Itm) r1 h1 H, Up r r1 → Sim C K r1 h1 H → J.good h1 = true → J.itms[i]? = some m → J'.go i H
  stop : ∀ r1 h1 H, Up r r1 → Sim C K r1 h1 H → J.good h1 = true → J'.stop J.itms.length H
  yld : ∀ (i : Nat) (m : Itm) r1 h1 H x H', Up r r1 → Sim C K r1 h1 H → J.good h1 = true → J.itms[i]? = some m → J'.yld i H x H' → ItmR C r1 H m x H'
def wI (C : Cc) (K : PySem.W.Frag) (W : WX) (m : EI) : TI := fun σ H R => ∃ r ρ h, Sim C K r h H ∧ ER C r ρ σ ∧ RP C K r H (fun r' J _ H' => ∀ J', Real C K r' J J' → R J' H') (wx C W σ) (m ρ h)
structure AI (C : Cc) (X : Cx) (W : WX) (tg e : Expr) (m : EI) : Prop where
  pi : PI X tg e (wI C X.K W m)
theorem RP.bindB {C : Cc} {K : PySem.W.Frag} {r : List Addr} {H : Hp} {α β : Type} {ok : List Addr → β → MH → Hp → Prop} {ex : Nat → List Addr → MH → Hp → Prop} {x : Res α} {f : α → MH → Res β}
    (q : RP C K r H ok ex (x.bind f)) : RP C K r H (fun _ a h1 _ => RP C K r H ok ex (f a h1)) ex x := by
  cases x with
  | ok v h' => exact fun r' H' g S => q
  | exc c h' => exact q
  | stuck => exact q
theorem RP.ofCalm {C : Cc} {K : PySem.W.Frag} {r : List Addr} {H : Hp} {α : Type} {ok : List Addr → α → MH → Hp → Prop} {ex ex' : Nat → List Addr → MH → Hp → Prop} {x : Res α} (q : RP C K r H ok ex x.calm) : RP C K r H ok ex' x := by
  cases x with
  | ok v h' => exact q
  | exc c h' => exact q.elim
  | stuck => exact q
/-! ### the own names of a comprehension -/
theorem wipeL_get (σ : L2.St) (i : Nat) : ∀ vs : List Nat, (L2.wipe σ vs)[i]? = if i ∈ vs then σ[i]?.map (fun _ => none) else σ[i]?
  | [] => by simp [L2.wipe]
  | v :: vs => by
    unfold L2.wipe
    rw [List.getElem?_set, wipeL_get σ i vs, L2.wipe_length]
    by_cases h : v = i
    · subst h
      by_cases hl : v < σ.length
      · simp [hl]
      · have : σ[v]? = none := List.getElem?_eq_none_iff.mpr (by omega)
        simp [hl, this]
    · have : i ≠ v := fun z => h z.symm
      simp [h, this]
theorem wipeL_idem (σ : L2.St) (vs : List Nat) : L2.wipe (L2.wipe σ vs) vs = L2.wipe σ vs := by
  apply List.ext_getElem?
  intro i
  rw [wipeL_get, wipeL_get]
  split <;> simp [Function.comp_def]
theorem ER.wipe {C : Cc} {r : List Addr} {ρ : Env} {σ : L2.St} (R : ER C r ρ σ) : ∀ vs : List Nat, ER C r (Mi.wipe ρ vs) (L2.wipe σ vs)
  | [] => R
  | v :: vs => by
    unfold Mi.wipe L2.wipe
    exact Paired.setL (F := OptR C r) (x := none) (y := none) rfl v (ER.wipe R vs)
theorem wipe_get (s : Env) (i : Nat) : ∀ vs : List Nat, (Mi.wipe s vs)[i]? = if i ∈ vs then s[i]?.map (fun _ => none) else s[i]?
  | [] => by simp [Mi.wipe]
  | v :: vs => by
    have hl : ∀ vs : List Nat, (Mi.wipe s vs).length = s.length := fun vs => by
      induction vs with
      | nil => rfl
      | cons v vs ih => unfold Mi.wipe; rw [List.length_set, ih]
    unfold Mi.wipe
    rw [List.getElem?_set, wipe_get s i vs, hl]
    by_cases h : v = i
    · subst h
      by_cases hl : v < s.length
      · simp [hl]
      · have : s[v]? = none := List.getElem?_eq_none_iff.mpr (by omega)
        simp [hl, this]
    · have : i ≠ v := fun z => h z.symm
      simp [h, this]
theorem wipe_set {s : Env} {i : Nat} {v : Option MV} {vs : List Nat} (h : i ∈ vs) : Mi.wipe (s.set i v) vs = Mi.wipe s vs := by
  apply List.ext_getElem?
  intro j
  rw [wipe_get, wipe_get, List.getElem?_set]
  split
  · rename_i hj
    by_cases e : i = j
    · subst e
      by_cases hl : i < s.length
      · simp [hl]
      · have : s[i]? = none := List.getElem?_eq_none_iff.mpr (by omega)
        simp [hl, this]
    · simp [e]
  · rename_i hj
    have e : i ≠ j := fun z => hj (z ▸ h)
    simp [e]
/-- a target that stores own names alone -/
def GW (vs : List Nat) (g : G) : Prop := ∀ v ρ h ρ1, g v ρ h = some ρ1 → Mi.wipe ρ1 vs = Mi.wipe ρ vs
def GsW (vs : List Nat) (g : Gs) : Prop := ∀ v ρ h ρ1, g v ρ h = some ρ1 → Mi.wipe ρ1 vs = Mi.wipe ρ vs
def GIW (vs : List Nat) (g : GI) : Prop := ∀ v ρ h ρ1, g v ρ h = some ρ1 → Mi.wipe ρ1 vs = Mi.wipe ρ vs
theorem gw_name {vs : List Nat} {i : Nat} (h : i ∈ vs := by decide) : GW vs (Mi.gName i) := fun v ρ hh ρ1 e => by cases e; exact wipe_set h
theorem gsw_nil {vs : List Nat} : GsW vs Mi.gNil := fun v ρ hh ρ1 e => by
  cases v with
  | nil => cases e; rfl
  | cons _ _ => cases e
theorem gsw_cons {vs : List Nat} {g : G} {gs : Gs} (a : GW vs g) (b : GsW vs gs) : GsW vs (Mi.gCons g gs) := fun v ρ hh ρ1 e => by
  cases v with
  | nil => cases e
  | cons x xs =>
    unfold Mi.gCons at e
    simp only at e
    split at e
    · rename_i ρ2 e2
      exact (b _ _ _ _ e).trans (a _ _ _ _ e2)
    · cases e
theorem gw_tup {vs : List Nat} {n : Nat} {gs : Gs} (b : GsW vs gs) : GW vs (Mi.gTup n gs) := fun v ρ hh ρ1 e => by
  unfold Mi.gTup at e
  split at e
  · split at e
    · exact b _ _ _ _ e
    · cases e
  · cases e
theorem giw_one {vs : List Nat} {g : G} (a : GW vs g) : GIW vs (gOne g) := fun v ρ hh ρ1 e => by
  cases v with
  | one x => exact a _ _ _ _ e
  | two _ _ => cases e
theorem giw_two {vs : List Nat} {g k : G} (a : GW vs g) (b : GW vs k) : GIW vs (gTwo g k) := fun v ρ hh ρ1 e => by
  cases v with
  | one x => exact gw_tup (gsw_cons a (gsw_cons b gsw_nil)) _ _ _ _ e
  | two x y => exact gsw_cons a (gsw_cons b gsw_nil) [x, y] ρ hh ρ1 e
/-- no exception leaves -/
abbrev W0 : WX := fun _ _ _ _ => False
structure ATs (C : Cc) (X : Cx) (W : WX) (es : List Expr) (m : E) : Prop where
  pt : PTs X es (wT C X.K W m)
theorem ats_nil {C : Cc} {X : Cx} {W : WX} : ATs C X W [] eT := ⟨⟨fun pins s σ H Q I ⟨r, ρ, h, S, R, q⟩ => pts_nil.run pins s σ H Q I (by
  obtain ⟨b, e, q⟩ := q r H (Go.refl _ _) S
  cases e; exact q)⟩⟩
theorem ats_one {C : Cc} {X : Cx} {W : WX} {c : Expr} {m : E} (h : AT C X W c m) : ATs C X W [c] m := ⟨pts_one h.pt⟩
section
variable {C : Cc} {X : Cx} {W : WX}
theorem wLc {it : EI} {g : GI} {c e : E} {vs : List Nat} (hw : GIW vs g) {σ : L2.St} {H : Hp} {Q : VK} (w : wE C X.K W (eLc it g c e vs) σ H Q) :
    tLc (wI C X.K W it) (wGI C X.K g) (wT C X.K W0 c) (wE C X.K W0 e) vs σ H Q := by
  obtain ⟨r, ρ, h, S, R, q⟩ := w
  refine ⟨r, ρ, h, S, R, (RP.bind q).imp fun r1 J h1 H1 g1 S1 q1 J' RJ D hD => ?_⟩
  have R1 := R.up g1.up
  have q2 := RP.bindB q1
  refine ⟨fun i m Hc => m = J.itms.length - i ∧ i ≤ J.itms.length ∧ ∃ rc hc accM acc, accM.length ≤ i ∧ Go r1 H1 rc Hc ∧ D ∉ rc ∧ Hc D = some (.lst acc) ∧ VRs C rc accM acc ∧ Sim C X.K rc hc Hc ∧
    RP C X.K r1 H1 (fun _ xs h2 _ => RP C X.K r1 H1 (fun r' v _ H' => ∀ x, VR C r' v x → Q x H') (wx C W σ) (alloc (.lst xs) h2)) (wx C W σ) (lcGo J.good g c e (Mi.wipe ρ vs) (J.itms.drop i) accM hc),
    ⟨_, rfl, Nat.zero_le _, r1, h1, [], [], Nat.le_refl _, Go.aside hD, S1.out hD, upd_same, .nil, S1.aside hD _, by simpa using q2⟩, ?_⟩
  rintro i m Hc ⟨rfl, hi, rc, hc, accM, acc, la, gc, nD, eD, rv, Sc, qc⟩
  by_cases hlt : i < J.itms.length
  · -- a turn
    refine .inr ?_
    have em : J.itms[i]? = some J.itms[i] := List.getElem?_eq_getElem hlt
    rw [List.drop_eq_getElem_cons hlt] at qc
    unfold lcGo at qc
    split at qc
    · rename_i hgood
      split at qc
      · rename_i ρ1 eg
        refine ⟨RJ.go i _ rc hc Hc gc.up Sc hgood em, fun H' => ∃ rc hc accM acc, accM.length ≤ i + 1 ∧ Go r1 H1 rc H' ∧ D ∉ rc ∧ H' D = some (.lst acc) ∧ VRs C rc accM acc ∧ Sim C X.K rc hc H' ∧
          RP C X.K r1 H1 (fun _ xs h2 _ => RP C X.K r1 H1 (fun r' v _ H' => ∀ x, VR C r' v x → Q x H') (wx C W σ) (alloc (.lst xs) h2)) (wx C W σ) (lcGo J.good g c e (Mi.wipe ρ vs) (J.itms.drop (i + 1)) accM hc),
          fun H' n => ⟨J.itms.length - (i + 1), by omega, rfl, hlt, n⟩, fun x H' y => ?_⟩
        have iy := RJ.yld i _ rc hc Hc x H' gc.up Sc hgood em y
        obtain ⟨S', g'⟩ := ItmR.sim Sc iy
        refine ⟨rc, Mi.wipe ρ vs, hc, J.itms[i], ρ1, Hc, Sc, ER.wipe (R1.up gc.up) vs, iy, eg, fun σ1 R' => ⟨?_, ?_⟩⟩
        · have z1 := ER.wipe R' vs
          rw [hw _ _ _ _ eg] at z1
          have z2 := ER.wipe (ER.wipe (R1.up gc.up) vs) vs
          rw [z1.det z2, wipeL_idem]
        · have gc' := gc.trans g'
          obtain ⟨nD', eD'⟩ := g'.fr D _ nD eD
          refine ⟨rc, ρ1, hc, S', R', ?_⟩
          refine (RP.go gc' (RP.ofCalm (ex' := noEx) (RP.bindB qc)) (fun _ _ _ _ _ z => z) (fun _ _ _ _ _ z => z)).imp fun r2 b h2 H2 g2 S2 qb => ?_
          cases b with
          | bl k =>
            refine ⟨k, rfl, ?_⟩
            obtain ⟨nD2, eD2⟩ := g2.fr D _ nD' eD'
            cases k with
            | true =>
              refine iteT ⟨r2, ρ1, h2, S2, R'.up g2.up, ?_⟩
              refine (RP.go (gc'.trans g2) (RP.ofCalm (ex' := noEx) (RP.bindB qb)) (fun _ _ _ _ _ z => z) (fun _ _ _ _ _ z => z)).imp fun r3 v h3 H3 g3 S3 qv x3 rx3 => ?_
              obtain ⟨nD3, eD3⟩ := g3.fr D _ nD2 eD2
              · have hl : accM.length < lim := by have := RJ.len; omega
                have ua : H3 D ≠ none := fun z => by rw [z] at eD3; cases eD3
                refine ⟨acc, eD3, by rw [← rv.length, ← lim_eq]; exact hl, r3, h3, accM ++ [v], acc ++ [x3], by simp; exact la, ⟨(gc'.trans (g2.trans g3)).up, fun a o hna ea => ?_⟩, nD3, upd_same, Paired.app (VRs.up (g2.trans g3).up rv) (.cons rx3 .nil), ?_, qv⟩
                · obtain ⟨n1, e1⟩ := (gc'.trans (g2.trans g3)).fr a o hna ea
                  exact ⟨n1, by rw [upd_ne (ne_of_none ea hD)]; exact e1⟩
                · refine ⟨S3.len, fun n o a e1 e2 => (S3.ob n o a e1 e2).mono (Up.refl _) (upd_ne fun z => nD3 (z ▸ List.mem_of_getElem? e2)), S3.nd, S3.scr.keep fun o e => upd_ne fun z => ?_, S3.sz, S3.sxl⟩
                  rw [z, eD3] at e; cases e
            | false => exact iteF ⟨r2, h2, accM, acc, by omega, gc'.trans g2, nD2, eD2, VRs.up g2.up rv, S2, qb⟩
          | non => exact qb.elim
          | int _ => exact qb.elim
          | str _ => exact qb.elim
          | ref _ => exact qb.elim
          | scr _ => exact qb.elim
      · exact qc.elim
    · exact qc.elim
  · have ei : i = J.itms.length := by omega
    subst ei
    rw [List.drop_length] at qc
    unfold lcGo at qc
    split at qc
    · rename_i hgood
      refine .inl ⟨RJ.stop rc hc Hc gc.up Sc hgood, ?_⟩
      have q3 := qc rc Hc gc Sc
      have e0 : H1 D = none := hD
      refine q3 (rc ++ [D]) Hc ⟨gc.up.trans (Up.app _ _), fun a o hna ea => ?_⟩ ⟨by simp [Sc.len], fun n o a e1 e2 => ?_, fun m n a e1 e2 => ?_, Sc.scr, fun n o e => ?_, Sc.sxl⟩ _ ⟨D, by rw [← Sc.len]; simp, rfl⟩
      · obtain ⟨n1, e1⟩ := gc.fr a o hna ea
        exact ⟨by simp [n1, ne_of_none ea e0], e1⟩
      · by_cases hn : n < hc.length
        · rw [List.getElem?_append_left hn] at e1
          rw [List.getElem?_append_left (by rw [Sc.len]; exact hn)] at e2
          exact (Sc.ob n o a e1 e2).mono (Up.app _ _) rfl
        · rw [List.getElem?_append_right (by omega)] at e1
          rw [List.getElem?_append_right (by rw [Sc.len]; omega)] at e2
          have hn1 : n - hc.length = 0 := by
            have := (List.getElem?_eq_some_iff.mp e1).1
            simp at this; omega
          rw [Sc.len, hn1] at e2
          rw [hn1] at e1
          simp at e1 e2
          subst e1 e2
          exact ⟨acc, VRs.up (Up.app _ _) rv, eD⟩
      · have lt : ∀ k : Nat, (rc ++ [D])[k]? = some a → rc[k]? = some a ∨ k = rc.length ∧ a = D := fun k ek => by
          by_cases hk : k < rc.length
          · rw [List.getElem?_append_left hk] at ek
            exact .inl ek
          · rw [List.getElem?_append_right (by omega)] at ek
            have hk1 : k - rc.length = 0 := by
              have := (List.getElem?_eq_some_iff.mp ek).1
              simp at this; omega
            rw [hk1] at ek
            simp at ek
            exact .inr ⟨by omega, ek.symm⟩
        rcases lt m e1 with f1 | ⟨l1, f1⟩ <;> rcases lt n e2 with f2 | ⟨l2, f2⟩
        · exact Sc.nd m n a f1 f2
        · subst f2; exact (nD (List.mem_of_getElem? f1)).elim
        · subst f1; exact (nD (List.mem_of_getElem? f2)).elim
        · omega
      · rcases Nat.lt_or_ge n hc.length with l | l
        · rw [List.getElem?_append_left l] at e
          exact Sc.sz n o e
        · rw [List.getElem?_append_right l] at e
          have : o ∈ [Obj.lst accM] := List.mem_of_getElem? e
          simp at this
          subst this
          exact Nat.le_trans la RJ.len
    · exact qc.elim
end

section
variable {C : Cc} {X : Cx} {W : WX} {a b c : Expr} {ea eb ec : E} {pos : Pos} {es rest : List Expr} {eas : EA} {tg : Expr}
theorem ae_lc {elt iter : Expr} {ifs : List Expr} {scope : Scope} {own : List (PySem.Str × Nat)} {it : EI} {g : GI} {ct ce : E} {vs : List Nat} (hc : X.calm = true) (hN : X.N.Nodup) (hi : AI C X W tg iter it) (ok : BlkOk X.N X.env.scope scope own)
    (hg : ∀ (s : Shared) (H : Hp) (D : Addr) (cl : List (PySem.Str × Addr)) (fp : List Addr), AGI C (X.blk s H scope (compEnvC scope cl D X.env) fp) tg g)
    (ht : ∀ (s : Shared) (H : Hp) (D : Addr) (cl : List (PySem.Str × Addr)) (fp : List Addr), ATs C (X.blk s H scope (compEnvC scope cl D X.env) fp) W0 ifs ct)
    (he : ∀ (s : Shared) (H : Hp) (D : Addr) (cl : List (PySem.Str × Addr)) (fp : List Addr), AE C (X.blk s H scope (compEnvC scope cl D X.env) fp) W0 elt ce)
    (hw : GIW vs g) (hv : own.map (fun x => x.2) = vs := by rfl) (hfs : ∀ x : Value, foldedSetIterable iter X.env x = pure x := by intro _; rfl) : AE C X W (.ListComp elt [⟨tg, iter, ifs, 0⟩] scope pos) (eLc it g ct ce vs) := by
  subst hv
  exact ⟨PE.imp (pe_lc hc hN hi.pi ok (fun s H D cl fp => (hg s H D cl fp).pg) (fun s H D cl fp => (ht s H D cl fp).pt) (fun s H D cl fp => (he s H D cl fp).pe) hfs) fun σ H Q w => wLc hw w⟩
theorem as_setLc (i : Nat) {elt iter : Expr} {ifs : List Expr} {scope : Scope} {own : List (PySem.Str × Nat)} {it : EI} {g : GI} {ct ce : E} {vs : List Nat} {y : PySem.Str} {py spos : Pos} (hc : X.calm = true) (hN : X.N.Nodup) (hi : AI C X W tg iter it) (ok : BlkOk X.N X.env.scope scope own)
    (hg : ∀ (s : Shared) (H : Hp) (D : Addr) (cl : List (PySem.Str × Addr)) (fp : List Addr), AGI C (X.blk s H scope (compEnvC scope cl D X.env) fp) tg g)
    (ht : ∀ (s : Shared) (H : Hp) (D : Addr) (cl : List (PySem.Str × Addr)) (fp : List Addr), ATs C (X.blk s H scope (compEnvC scope cl D X.env) fp) W0 ifs ct)
    (he : ∀ (s : Shared) (H : Hp) (D : Addr) (cl : List (PySem.Str × Addr)) (fp : List Addr), AE C (X.blk s H scope (compEnvC scope cl D X.env) fp) W0 elt ce)
    (hw : GIW vs g) (hiN : X.N[i]? = some y := by rfl) (hy : X.env.scope.names.lookup y = some .local := by rfl) (hs : swapsWith (.ListComp elt [⟨tg, iter, ifs, 0⟩] scope pos) (some (.Name y py)) spos.line X.env = pure true := by exact sw_true rfl rfl rfl (by decide +kernel))
    (hv : own.map (fun x => x.2) = vs := by rfl) (hfs : ∀ x : Value, foldedSetIterable iter X.env x = pure x := by intro _; rfl) : AS C X W (.Assign [.Name y py] (.ListComp elt [⟨tg, iter, ifs, 0⟩] scope pos) spos) (sAsg (gName i) (eLc it g ct ce vs)) := by
  subst hv
  exact ⟨PS.imp (ps_setLc hc hN hiN hy hs hi.pi ok (fun s H D cl fp => (hg s H D cl fp).pg) (fun s H D cl fp => (ht s H D cl fp).pt) (fun s H D cl fp => (he s H D cl fp).pe) hfs) fun D σ H w => by
    obtain ⟨r, ρ, h, S, R, q⟩ := w
    refine wLc (C := C) (W := W) hw ⟨r, ρ, h, S, R, (RP.into R q).imp fun r1 v h1 H1 g1 S1 q1 x rx => ?_⟩
    exact q1 r1 _ H1 (Go.refl _ _) S1 (Paired.setL ⟨x, rfl, rx⟩ i (R.up g1.up))⟩
/-! ### loops -/
theorem SRP.turn {D : Ends} {r : List Addr} {H : Hp} {K : PySem.W.Frag} {x : SR} {f : S} (q : SRP C K W D r H (Mi.turn f x)) :
    SRP C K W { nx := wS C K W f D, rt := D.rt, bk := D.nx, ct := wS C K W f D } r H x := by
  cases x with
  | nx ρ h => exact fun r' σ H' g S R => ⟨r', ρ, h, S, R, SRP.go g q⟩
  | rt _ _ => exact q
  | bk _ _ => exact q
  | ct ρ h => exact fun r' σ H' g S R => ⟨r', ρ, h, S, R, SRP.go g q⟩
  | exc _ _ _ => exact q
  | stuck => exact q
theorem as_while {s : List Stmt} {m : S} (hp : PassesOwn (model X.prog X.w) X.A X.env X.xe) (hc : AT C X W a ea) (hb : ASs C X W s m) : AS C X W (.While a s [] pos) (sWhile ea m) :=
  ⟨PS.imp (ps_while hp hc.pt hb.ps) fun D σ H w => by
    refine ⟨fun n σ H => wS C X.K W (wloop ea m n) D σ H, ⟨_, w⟩, fun n σ H ⟨r, ρ, h, S, R, q⟩ => ?_⟩
    cases n with
    | zero => exact q.elim
    | succ n =>
      unfold wloop at q
      refine ⟨r, ρ, h, S, R, (RP.into R q).imp fun r1 v h1 H1 g1 S1 q1 => ?_⟩
      cases v with
      | bl k =>
        refine ⟨k, rfl, ?_⟩
        cases k with
        | true =>
          refine iteT ⟨fun σ H => wS C X.K W (wloop ea m n) D σ H, fun σ' H' z => ⟨n, Nat.lt_succ_self n, z⟩, r1, ρ, h1, S1, R.up g1.up, ?_⟩
          refine SRP.turn ?_
          exact q1
        | false => exact iteF (q1 r1 σ H1 (Go.refl _ _) S1 (R.up g1.up))
      | non => exact q1.elim
      | int _ => exact q1.elim
      | str _ => exact q1.elim
      | ref _ => exact q1.elim
      | scr _ => exact q1.elim⟩
theorem as_for {iter : Expr} {s : List Stmt} {it : EI} {g : GI} {m : S} (hp : PassesOwn (model X.prog X.w) X.A X.env X.xe) (hc : X.calm = true) (hi : AI C X W tg iter it) (hg : AGI C X tg g) (hb : ASs C X W s m)
    (hfs : ∀ x : Value, foldedSetIterable iter X.env x = pure x := by intro _; rfl) : AS C X W (.For tg iter s [] pos) (sFor it g m) :=
  ⟨PS.imp (ps_for hp hc hi.pi hg.pg hb.ps hfs) fun D σ H ⟨r, ρ, h, S, R, q⟩ => by
    refine ⟨r, ρ, h, S, R, (RP.into R q).imp fun r1 J h1 H1 g1 S1 q1 J' RJ => ?_⟩
    refine ⟨fun i n σ Hc => n = J.itms.length - i ∧ i ≤ J.itms.length ∧ ∃ rc ρc hc, Up r1 rc ∧ Sim C X.K rc hc Hc ∧ ER C rc ρc σ ∧ SRP C X.K W D rc Hc (loop J.good g m (J.itms.drop i) ρc hc),
      ⟨_, rfl, Nat.zero_le _, r1, ρ, h1, Up.refl _, S1, R.up g1.up, by simpa using q1⟩, ?_⟩
    rintro i n σc Hc ⟨rfl, hi, rc, ρc, hc, uc, Sc, Rc, qc⟩
    by_cases hlt : i < J.itms.length
    · refine .inr ?_
      have em : J.itms[i]? = some J.itms[i] := List.getElem?_eq_getElem hlt
      rw [List.drop_eq_getElem_cons hlt] at qc
      unfold loop at qc
      split at qc
      · rename_i hgood
        split at qc
        · rename_i ρ1 eg
          refine ⟨RJ.go i _ rc hc Hc uc Sc hgood em, fun σ' H' => ∃ rc ρc hc, Up r1 rc ∧ Sim C X.K rc hc H' ∧ ER C rc ρc σ' ∧ SRP C X.K W D rc H' (loop J.good g m (J.itms.drop (i + 1)) ρc hc),
            fun σ' H' z => ⟨J.itms.length - (i + 1), by omega, rfl, hlt, z⟩, fun x H' y => ?_⟩
          have iy := RJ.yld i _ rc hc Hc x H' uc Sc hgood em y
          obtain ⟨S', g'⟩ := ItmR.sim Sc iy
          refine ⟨rc, ρc, hc, J.itms[i], ρ1, Hc, Sc, Rc, iy, eg, fun σ1 R' => ?_⟩
          refine ⟨rc, ρ1, hc, S', R', ?_⟩
          have q3 := SRP.turn (SRP.go g' qc)
          revert q3 qc
          cases m ρ1 hc with
          | nx ρ2 h2 => exact fun qc _ r' σ' H2 g2 S2 R2 => ⟨r', ρ2, h2, uc.trans g2.up, S2, R2, SRP.go (g'.trans g2) qc⟩
          | ct ρ2 h2 => exact fun qc _ r' σ' H2 g2 S2 R2 => ⟨r', ρ2, h2, uc.trans g2.up, S2, R2, SRP.go (g'.trans g2) qc⟩
          | bk ρ2 h2 => exact fun _ q3 => q3
          | rt v h2 => exact fun _ q3 => q3
          | exc k ρ2 h2 => exact fun _ q3 => q3
          | stuck => exact fun _ q3 => q3
        · exact qc.elim
      · exact qc.elim
    · have ei : i = J.itms.length := by omega
      subst ei
      rw [List.drop_length] at qc
      unfold loop at qc
      split at qc
      · rename_i hgood
        exact .inl ⟨RJ.stop rc hc Hc uc Sc hgood, qc rc σc Hc (Go.refl _ _) Sc Rc⟩
      · exact qc.elim⟩
end

/-! ### iterators -/
theorem sameL_eq {h : MH} {a : Nat} {xs : List MV} (e : sameL h a xs = true) : h[a]? = some (.lst xs) := by
  unfold sameL at e
  split at e
  · rename_i ys eh
    rw [eh, of_decide_eq_true e]
  · cases e
theorem sameT_eq {h : MH} {a : Nat} {xs : List MV} (e : sameT h a xs = true) : h[a]? = some (.tup xs) := by
  unfold sameT at e
  split at e
  · rename_i ys eh
    rw [eh, of_decide_eq_true e]
  · cases e
theorem map_one {xs : List MV} {i : Nat} {m : Itm} (e : (xs.map Itm.one)[i]? = some m) : ∃ v, xs[i]? = some v ∧ m = .one v := by
  rw [List.getElem?_map] at e
  cases q : xs[i]? with
  | none => rw [q] at e; cases e
  | some v => rw [q] at e; cases e; exact ⟨v, rfl, rfl⟩
section
variable {C : Cc} {K : PySem.W.Frag} {r : List Addr}
theorem real_lst {p : Nat} {a : Addr} {xs : List MV} (e : r[p]? = some a) (hl : xs.length ≤ lim) : Real C K r (.lst p xs) (Itl K a) where
  len := by simpa [It.itms] using hl
  go := fun i m r1 h1 H u S g em => by
    obtain ⟨v, ev, rfl⟩ := map_one em
    obtain ⟨vs, rv, eH⟩ := S.ob p _ a (sameL_eq g) (u p a e)
    obtain ⟨y, ey, _⟩ := Paired.getL rv ev
    exact ⟨vs, y, SqL.of eH, ey⟩
  stop := fun r1 h1 H u S g => by
    obtain ⟨vs, rv, eH⟩ := S.ob p _ a (sameL_eq g) (u p a e)
    exact ⟨vs, SqL.of eH, by rw [← rv.length]; simp [It.itms]⟩
  yld := fun i m r1 h1 H x H' u S g em y => by
    obtain ⟨v, ev, rfl⟩ := map_one em
    obtain ⟨vs, rv, eH⟩ := S.ob p _ a (sameL_eq g) (u p a e)
    obtain ⟨z, ez, rz⟩ := Paired.getL rv ev
    have := y.2 vs (SqL.of eH)
    rw [ez] at this; cases this
    exact ⟨y.1, rz⟩
theorem real_tup {p : Nat} {a : Addr} {xs : List MV} (e : r[p]? = some a) (hl : xs.length ≤ lim) : Real C K r (.tup p xs) (Itt K a) where
  len := by simpa [It.itms] using hl
  go := fun i m r1 h1 H u S g em => by
    obtain ⟨v, ev, rfl⟩ := map_one em
    obtain ⟨vs, rv, eH⟩ := S.ob p _ a (sameT_eq g) (u p a e)
    obtain ⟨y, ey, _⟩ := Paired.getL rv ev
    exact ⟨vs, y, SqT.of eH, ey⟩
  stop := fun r1 h1 H u S g => by
    obtain ⟨vs, rv, eH⟩ := S.ob p _ a (sameT_eq g) (u p a e)
    exact ⟨vs, SqT.of eH, by rw [← rv.length]; simp [It.itms]⟩
  yld := fun i m r1 h1 H x H' u S g em y => by
    obtain ⟨v, ev, rfl⟩ := map_one em
    obtain ⟨vs, rv, eH⟩ := S.ob p _ a (sameT_eq g) (u p a e)
    obtain ⟨z, ez, rz⟩ := Paired.getL rv ev
    have := y.2 vs (SqT.of eH)
    rw [ez] at this; cases this
    exact ⟨y.1, rz⟩
theorem real_scr (hl : C.sx.length ≤ lim) : Real C K r (.vals (C.sx.map .int)) (Itl K C.sa) where
  len := by simpa [It.itms] using hl
  go := fun i m r1 h1 H u S g em => by
    obtain ⟨v, ev, rfl⟩ := map_one em
    obtain ⟨y, ey, _⟩ := Paired.getL (VRs.ints (C := C) (r := r1) C.sx) ev
    exact ⟨_, y, S.scr.seq, ey⟩
  stop := fun r1 h1 H u S g => ⟨_, S.scr.seq, by simp [It.itms]⟩
  yld := fun i m r1 h1 H x H' u S g em y => by
    obtain ⟨v, ev, rfl⟩ := map_one em
    obtain ⟨z, ez, rz⟩ := Paired.getL (VRs.ints (C := C) (r := r1) C.sx) ev
    have := y.2 _ S.scr.seq
    rw [ez] at this; cases this
    exact ⟨y.1, rz⟩
theorem real_str {z : List Nat} (hz : strOk z = true) : Real C K r (.vals (z.map fun c => .str [c])) (Its (sS z)) where
  len := by simpa [It.itms] using strOk_len hz
  go := fun i m r1 h1 H u S g em => by
    have := (List.getElem?_eq_some_iff.mp em).1
    simpa [It.itms, sS, Its] using this
  stop := fun r1 h1 H u S g => by simp [It.itms, sS, Its]
  yld := fun i m r1 h1 H x H' u S g em y => by
    obtain ⟨v, ev, rfl⟩ := map_one em
    obtain ⟨e1, c, ec, ex⟩ := y
    rw [List.getElem?_map] at ev
    have ec' : z[i]? = some c := by simpa [sS] using ec
    rw [ec'] at ev
    cases ev
    exact ⟨e1, by rw [ex]; exact ⟨rfl, strOk_sign hz (List.mem_of_getElem? ec')⟩⟩
theorem real_rng {lo hi : Int} (hl : (rng lo hi).length ≤ lim) : Real C K r (.vals (rng lo hi)) (Itr lo (hi - lo).toNat) where
  len := by simpa [It.itms] using hl
  go := fun i m r1 h1 H u S g em => by
    have := (List.getElem?_eq_some_iff.mp em).1
    simpa [It.itms, rng, Itr] using this
  stop := fun r1 h1 H u S g => by
    simp [It.itms, rng, Itr]
    try omega
  yld := fun i m r1 h1 H x H' u S g em y => by
    obtain ⟨v, ev, rfl⟩ := map_one em
    obtain ⟨e1, ex⟩ := y
    unfold rng at ev
    rw [List.getElem?_map] at ev
    have hi : i < (hi - lo).toNat := by
      have := (List.getElem?_eq_some_iff.mp em).1
      simpa [It.itms, rng] using this
    rw [List.getElem?_range hi] at ev
    cases ev
    exact ⟨e1, ex⟩
theorem enum_at {xs : List MV} {i : Nat} {m : Itm} (e : ((List.range xs.length).zipWith (fun (i : Nat) x => Itm.two (.int (i : Int)) x) xs)[i]? = some m) : ∃ v, xs[i]? = some v ∧ m = .two (.int (i : Int)) v := by
  rw [List.getElem?_zipWith] at e
  cases q : xs[i]? with
  | none => rw [q] at e; split at e <;> simp_all
  | some v =>
    have hi : i < xs.length := (List.getElem?_eq_some_iff.mp q).1
    rw [q, List.getElem?_range hi] at e
    cases e
    exact ⟨v, rfl, rfl⟩
theorem real_enum {p : Nat} {a : Addr} {xs : List MV} (e : r[p]? = some a) (hl : xs.length ≤ lim) : Real C K r (.enum p xs) (Ite K a) where
  len := by simpa [It.itms] using hl
  go := fun i m r1 h1 H u S g em => by
    obtain ⟨v, ev, rfl⟩ := enum_at em
    obtain ⟨vs, rv, eH⟩ := S.ob p _ a (sameL_eq g) (u p a e)
    obtain ⟨y, ey, _⟩ := Paired.getL rv ev
    exact ⟨vs, y, SqL.of eH, ey⟩
  stop := fun r1 h1 H u S g => by
    obtain ⟨vs, rv, eH⟩ := S.ob p _ a (sameL_eq g) (u p a e)
    exact ⟨vs, SqL.of eH, by rw [← rv.length]; simp [It.itms]⟩
  yld := fun i m r1 h1 H x H' u S g em y => by
    obtain ⟨v, ev, rfl⟩ := enum_at em
    obtain ⟨vs, rv, eH⟩ := S.ob p _ a (sameL_eq g) (u p a e)
    obtain ⟨z, ez, rz⟩ := Paired.getL rv ev
    obtain ⟨T, w, rfl, n, e2, hx⟩ := y
    have := hx vs (SqL.of eH)
    rw [ez] at this; cases this
    exact ⟨T, _, _, rfl, n, e2, rfl, rz⟩
theorem zip_at {xs ys : List MV} {i : Nat} {m : Itm} (e : (xs.zipWith Itm.two ys)[i]? = some m) : ∃ v w, xs[i]? = some v ∧ ys[i]? = some w ∧ m = .two v w := by
  rw [List.getElem?_zipWith] at e
  cases q : xs[i]? with
  | none => rw [q] at e; simp at e
  | some v =>
    cases q2 : ys[i]? with
    | none => rw [q, q2] at e; simp at e
    | some w => rw [q, q2] at e; cases e; exact ⟨v, w, rfl, rfl, rfl⟩
theorem real_zip {p p2 : Nat} {a b : Addr} {xs ys : List MV} (e : r[p]? = some a) (e2 : r[p2]? = some b) (hl : xs.length ≤ lim) : Real C K r (.zip p p2 xs ys) (Itz K a b) where
  len := by simp only [It.itms, List.length_zipWith]; omega
  go := fun i m r1 h1 H u S g em => by
    have g' := Bool.and_eq_true_iff.mp g
    obtain ⟨v, w, ev, ew, rfl⟩ := zip_at em
    obtain ⟨vs, rv, eH⟩ := S.ob p _ a (sameL_eq g'.1) (u p a e)
    obtain ⟨ws, rw', eH2⟩ := S.ob p2 _ b (sameL_eq g'.2) (u p2 b e2)
    obtain ⟨y, ey, _⟩ := Paired.getL rv ev
    obtain ⟨y2, ey2, _⟩ := Paired.getL rw' ew
    exact ⟨vs, ws, y, y2, SqL.of eH, SqL.of eH2, ey, ey2⟩
  stop := fun r1 h1 H u S g => by
    have g' := Bool.and_eq_true_iff.mp g
    obtain ⟨vs, rv, eH⟩ := S.ob p _ a (sameL_eq g'.1) (u p a e)
    obtain ⟨ws, rw', eH2⟩ := S.ob p2 _ b (sameL_eq g'.2) (u p2 b e2)
    refine ⟨vs, ws, SqL.of eH, SqL.of eH2, ?_⟩
    rw [← rv.length, ← rw'.length]
    simp only [It.itms, List.length_zipWith]
    omega
  yld := fun i m r1 h1 H x H' u S g em y => by
    have g' := Bool.and_eq_true_iff.mp g
    obtain ⟨v, w, ev, ew, rfl⟩ := zip_at em
    obtain ⟨vs, rv, eH⟩ := S.ob p _ a (sameL_eq g'.1) (u p a e)
    obtain ⟨ws, rw', eH2⟩ := S.ob p2 _ b (sameL_eq g'.2) (u p2 b e2)
    obtain ⟨z, ez, rz⟩ := Paired.getL rv ev
    obtain ⟨z2, ez2, rz2⟩ := Paired.getL rw' ew
    obtain ⟨T, x1, y1, rfl, n, e3, hx, hy⟩ := y
    have := hx vs (SqL.of eH)
    rw [ez] at this; cases this
    have := hy ws (SqL.of eH2)
    rw [ez2] at this; cases this
    exact ⟨T, _, _, rfl, n, e3, rz, rz2⟩
end
section
variable {C : Cc} {X : Cx} {W : WX} {a b c : Expr} {ea eb ec : E} {pos : Pos} {es rest : List Expr} {eas : EA} {tg : Expr}
theorem ai_seq (ha : AE C X W a ea) : AI C X W tg a (iSeq ea) :=
  ⟨⟨fun pins s σ H R I ⟨r, ρ, h, S, RE, q⟩ => by
    -- the value decides which iterator it is
    have q1 := RP.bind q
    refine (PI.or (PI.or (pi_list ha.pe) (pi_tup ha.pe)) (pi_str ha.pe) : PI X tg a _).run pins s σ H R I ?_
    cases e : ea ρ h with
    | stuck => rw [e] at q1; exact q1.elim
    | exc k h' =>
      rw [e] at q1
      exact .inl (.inl ⟨r, ρ, h, S, RE, by rw [e]; exact q1⟩)
    | ok v h1 =>
      rw [e] at q1
      cases v with
      | ref p =>
        cases eh : h1[p]? with
        | none => 
          have := fun r' H' (g : Go r H r' H') (S' : Sim C X.K r' h1 H') => q1 r' H' g S'
          refine .inl (.inl ⟨r, ρ, h, S, RE, ?_⟩)
          rw [e]
          intro r' H' g S'
          have z := this r' H' g S'
          simp only [eh] at z
          exact z.elim
        | some o =>
          cases o with
          | lst xs =>
            refine .inl (.inl ⟨r, ρ, h, S, RE, ?_⟩)
            rw [e]
            intro r' H' g S' x rx
            have z := q1 r' H' g S'
            simp only [eh] at z
            obtain ⟨ad, ead, rfl⟩ := rx
            obtain ⟨vs, rv, eH⟩ := S'.ob p _ ad eh ead
            exact ⟨ad, rfl, ⟨vs, SqL.of eH⟩, z r' H' (Go.refl _ _) S' _ (real_lst ead (S'.sz _ _ eh))⟩
          | tup xs =>
            refine .inl (.inr ⟨r, ρ, h, S, RE, ?_⟩)
            rw [e]
            intro r' H' g S' x rx
            have z := q1 r' H' g S'
            simp only [eh] at z
            obtain ⟨ad, ead, rfl⟩ := rx
            obtain ⟨vs, rv, eH⟩ := S'.ob p _ ad eh ead
            exact ⟨ad, rfl, ⟨vs, SqT.of eH⟩, z r' H' (Go.refl _ _) S' _ (real_tup ead (S'.sz _ _ eh))⟩
          | dct _ _ _ _ =>
            refine .inr ⟨r, ρ, h, S, RE, ?_⟩
            rw [e]; intro r' H' g S'
            have z := q1 r' H' g S'
            simp only [eh] at z
            exact z.elim
      | str x =>
        refine .inr ⟨r, ρ, h, S, RE, ?_⟩
        rw [e]
        intro r' H' g S' y ry
        have z := q1 r' H' g S'
        exact ⟨sS x, ry.1, z r' H' (Go.refl _ _) S' _ (real_str ry.2)⟩
      | scr xs =>
        refine .inl (.inl ⟨r, ρ, h, S, RE, ?_⟩)
        rw [e]
        intro r' H' g S' y ry
        have z := q1 r' H' g S'
        obtain ⟨rfl, rfl⟩ := ry
        exact ⟨C.sa, rfl, ⟨_, S'.scr.seq⟩, z r' H' (Go.refl _ _) S' _ (real_scr S'.sxl)⟩
      | non =>
        refine .inr ⟨r, ρ, h, S, RE, ?_⟩
        rw [e]; intro r' H' g S'; exact (q1 r' H' g S').elim
      | bl _ =>
        refine .inr ⟨r, ρ, h, S, RE, ?_⟩
        rw [e]; intro r' H' g S'; exact (q1 r' H' g S').elim
      | int _ =>
        refine .inr ⟨r, ρ, h, S, RE, ?_⟩
        rw [e]; intro r' H' g S'; exact (q1 r' H' g S').elim⟩⟩
theorem rngOk_iff {i : Int} (h : rngOk i = true) : -(2 ^ 62) ≤ i ∧ i < 2 ^ 62 := by
  unfold rngOk at h
  have := of_decide_eq_true h
  omega
theorem rng_len {i j : Int} (h : rngOk i = true) (h2 : rngOk j = true) : (rng i j).length ≤ lim := by
  unfold rngOk at h h2
  have := of_decide_eq_true h
  have := of_decide_eq_true h2
  simp only [rng, List.length_map, List.length_range]
  show _ ≤ 16777216
  omega
theorem wRng (w : wI C X.K W (iRng ea) σ H R) : iRng1 (tCons (wE C X.K W ea) tNil) σ H R := by
  obtain ⟨r, ρ, h, S, RE, q⟩ := w
  refine ⟨r, ρ, h, S, RE, (RP.bind q).imp fun r1 v h1 H1 g1 S1 q1 x rx => ?_⟩
  cases v with
  | int j =>
    simp only at q1
    split at q1
    · rename_i hj
      have e : Itr 0 j.toNat = Itr 0 (j - 0).toNat := by simp
      refine ⟨j, by rw [show x = V.int j from rx], (rngOk_iff hj).1, (rngOk_iff hj).2, ?_⟩
      rw [e]
      exact q1 r1 H1 (Go.refl _ _) S1 _ (real_rng (rng_len (by decide) hj))
    · exact q1.elim
  | non => exact q1.elim
  | bl _ => exact q1.elim
  | str _ => exact q1.elim
  | ref _ => exact q1.elim
  | scr _ => exact q1.elim
theorem ai_rng {p : Pos} (hg : Gl X "range") (hm : X.mg "range" = none) (ha : AE C X W a ea) (hs : starEach [a] X.env = [(false, eval a X.env)] := by rfl) : AI C X W tg (.Call (.Name "range" p) [a] [] pos) (iRng ea) :=
  ⟨PI.imp (pi_range1 hg hm (pa_cons ha.pe pa_nil hs) hs) fun σ H R w => wRng w⟩
theorem ai_rng2 {p : Pos} (hg : Gl X "range") (hm : X.mg "range" = none) (ha : AE C X W a ea) (hb : AE C X W b eb) (hs : starEach [a, b] X.env = [(false, eval a X.env), (false, eval b X.env)] := by rfl) (hs2 : starEach [b] X.env = [(false, eval b X.env)] := by rfl) : AI C X W tg (.Call (.Name "range" p) [a, b] [] pos) (iRng2 ea eb) :=
  ⟨PI.imp (pi_range2 hg hm (pa_cons ha.pe (pa_cons hb.pe pa_nil hs2) (by rw [hs, hs2])) hs hs2) fun σ H R w => by
    obtain ⟨r, ρ, h, S, RE, q⟩ := w
    refine ⟨r, ρ, h, S, RE, (RP.bind q).imp fun r1 v h1 H1 g1 S1 q1 x rx => ?_⟩
    refine ⟨r1, ρ, h1, S1, RE.up g1.up, (RP.bind q1).imp fun r2 u h2 H2 g2 S2 q2 y ry => ?_⟩
    cases v with
    | int i =>
      cases u with
      | int j =>
        simp only at q2
        split at q2
        · rename_i hj
          obtain ⟨h1, h2⟩ := Bool.and_eq_true_iff.mp hj
          exact ⟨i, j, by rw [show x = V.int i from rx, show y = V.int j from ry], ⟨(rngOk_iff h1).1, (rngOk_iff h1).2, (rngOk_iff h2).1, (rngOk_iff h2).2⟩, q2 r2 H2 (Go.refl _ _) S2 _ (real_rng (rng_len h1 h2))⟩
        · exact q2.elim
      | non => exact q2.elim
      | bl _ => exact q2.elim
      | str _ => exact q2.elim
      | ref _ => exact q2.elim
      | scr _ => exact q2.elim
    | non => exact q2.elim
    | bl _ => exact q2.elim
    | str _ => exact q2.elim
    | ref _ => exact q2.elim
    | scr _ => exact q2.elim⟩
theorem ai_enum {p tpos : Pos} {elts : List Expr} {kk : Nat} (hg : Gl X "enumerate") (hm : X.mg "enumerate" = none) (ha : AE C X W a ea) (hs : starEach [a] X.env = [(false, eval a X.env)] := by rfl) : AI C X W (.Tuple elts kk tpos) (.Call (.Name "enumerate" p) [a] [] pos) (iEnum ea) :=
  ⟨PI.imp (pi_enum hg hm (pa_cons ha.pe pa_nil hs) hs) fun σ H R w => by
    obtain ⟨r, ρ, h, S, RE, q⟩ := w
    refine ⟨r, ρ, h, S, RE, (RP.bind q).imp fun r1 v h1 H1 g1 S1 q1 x rx => ?_⟩
    cases v with
    | ref p =>
      simp only at q1
      split at q1
      · rename_i xs eh
        obtain ⟨ad, ead, rfl⟩ := rx
        obtain ⟨vs, rv, eH⟩ := S1.ob p _ ad eh ead
        exact ⟨ad, vs, rfl, SqL.of eH, q1 r1 H1 (Go.refl _ _) S1 _ (real_enum ead (S1.sz _ _ eh))⟩
      · exact q1.elim
    | non => exact q1.elim
    | bl _ => exact q1.elim
    | str _ => exact q1.elim
    | int _ => exact q1.elim
    | scr _ => exact q1.elim⟩
theorem ai_zip {p tpos : Pos} {elts : List Expr} {kk : Nat} (hg : Gl X "zip") (hm : X.mg "zip" = none) (ha : AE C X W a ea) (hb : AE C X W b eb) (hs : starEach [a, b] X.env = [(false, eval a X.env), (false, eval b X.env)] := by rfl) (hs2 : starEach [b] X.env = [(false, eval b X.env)] := by rfl) (hpl : (backTo pos (starEach [b] X.env)).any (fun x => x.1) = false := by rfl) : AI C X W (.Tuple elts kk tpos) (.Call (.Name "zip" p) [a, b] [] pos) (iZip ea eb) :=
  ⟨PI.imp (pi_zip hg hm (pa_cons ha.pe (pa_cons hb.pe pa_nil hs2) (by rw [hs, hs2])) (by rw [hs, hs2]) hpl) fun σ H R w => by
    obtain ⟨r, ρ, h, S, RE, q⟩ := w
    refine ⟨r, ρ, h, S, RE, (RP.bind q).imp fun r1 v h1 H1 g1 S1 q1 x rx => ?_⟩
    refine ⟨r1, ρ, h1, S1, RE.up g1.up, (RP.bind q1).imp fun r2 u h2 H2 g2 S2 q2 y ry => ?_⟩
    cases v with
    | ref p =>
      cases u with
      | ref p2 =>
        simp only at q2
        split at q2
        · rename_i xs ys eh eh2
          obtain ⟨ad, ead, rfl⟩ := rx.up g2.up
          obtain ⟨ad2, ead2, rfl⟩ := ry
          obtain ⟨vs, rv, eH⟩ := S2.ob p _ ad eh ead
          obtain ⟨ws, rw', eH2⟩ := S2.ob p2 _ ad2 eh2 ead2
          exact ⟨ad, ad2, vs, ws, rfl, SqL.of eH, SqL.of eH2, q2 r2 H2 (Go.refl _ _) S2 _ (real_zip ead ead2 (S2.sz _ _ eh))⟩
        · exact q2.elim
      | non => exact q2.elim
      | bl _ => exact q2.elim
      | str _ => exact q2.elim
      | int _ => exact q2.elim
      | scr _ => exact q2.elim
    | non => exact q2.elim
    | bl _ => exact q2.elim
    | str _ => exact q2.elim
    | int _ => exact q2.elim
    | scr _ => exact q2.elim⟩
end

/-! ### data -/
mutual
def T.py : T → PyData
  | .non => .none
  | .bl b => .bool b
  | .int i => .int i
  | .str s => .str (sS s)
  | .lst xs => .list (T.pys xs)
  | .tup xs => .tuple (T.pys xs)
  | .scr _ => .dict []
  | .dct _ _ => .dict []
def T.pys : List T → List PyData
  | [] => []
  | x :: xs => T.py x :: T.pys xs
end
theorem sS_beq (a b : List Nat) : (sS a == sS b) = (a == b) := by
  by_cases h : a = b
  · subst h; simp
  · rw [beq_eq_false_iff_ne.mpr h]
    exact beq_eq_false_iff_ne.mpr fun e => h (sS_inj.mp e)
mutual
theorem T.eqv_py : ∀ a b : T, PyData.eqv (T.py a) (T.py b) = T.eqv a b
  | .non, b => by cases b <;> simp [T.py, T.eqv, PyData.eqv]
  | .bl _, b => by cases b <;> simp [T.py, T.eqv, PyData.eqv]
  | .int _, b => by cases b <;> simp [T.py, T.eqv, PyData.eqv]
  | .str _, b => by cases b <;> simp [T.py, T.eqv, PyData.eqv, sS_beq]
  | .lst xs, b => by cases b <;> simp [T.py, T.eqv, PyData.eqv, T.eqvs_py]
  | .tup xs, b => by cases b <;> simp [T.py, T.eqv, PyData.eqv, T.eqvs_py]
  | .scr _, b => by cases b <;> simp [T.py, T.eqv, PyData.eqv]
  | .dct _ _, b => by cases b <;> simp [T.py, T.eqv, PyData.eqv]
theorem T.eqvs_py : ∀ a b : List T, PyData.eqvAll (T.pys a) (T.pys b) = T.eqvs a b
  | [], [] => by simp [T.pys, T.eqvs, PyData.eqvAll]
  | [], _ :: _ => by simp [T.pys, T.eqvs, PyData.eqvAll]
  | _ :: _, [] => by simp [T.pys, T.eqvs, PyData.eqvAll]
  | x :: xs, y :: ys => by simp [T.pys, T.eqvs, PyData.eqvAll, T.eqv_py x y, T.eqvs_py xs ys]
end
theorem pys_ints : ∀ xs : List Int, T.pys (xs.map T.int) = xs.map PyData.int
  | [] => rfl
  | x :: xs => by simp [T.pys, T.py, pys_ints xs]
theorem dp_ints {K : PySem.W.Frag} {H : Hp} : ∀ xs : List Int, DpAll K H (xs.map V.int) (xs.map PyData.int)
  | [] => .nil
  | x :: xs => .cons (.int x) (dp_ints xs)
theorem lay_ints : ∀ xs : List Int, PyData.canLayAll0 (xs.map PyData.int) = true ∧ PyData.depthAll (xs.map PyData.int) = 0
  | [] => by simp [PyData.canLayAll0, PyData.depthAll]
  | x :: xs => by simp [PyData.canLayAll0, PyData.depthAll, PyData.canLay0, PyData.depth, lay_ints xs]
section
variable {C : Cc} {K : PySem.W.Frag} {r : List Addr} {h : MH} {H : Hp}
mutual
theorem toT_dp (S : Sim C K r h H) : ∀ (n : Nat) (v : MV) (t : T) (x : V), toT n h v = some t → VR C r v x → Dp K H x (T.py t) ∧ PyData.canLay0 (T.py t) = true ∧ (T.py t).depth ≤ n
  | n, .non, t, x, e, rv => by
    unfold toT at e; cases e; cases rv
    exact ⟨.non, by simp [T.py, PyData.canLay0], by simp [T.py, PyData.depth]⟩
  | n, .bl b, t, x, e, rv => by
    unfold toT at e; cases e; cases rv
    exact ⟨.bl b, by simp [T.py, PyData.canLay0], by simp [T.py, PyData.depth]⟩
  | n, .int i, t, x, e, rv => by
    unfold toT at e; cases e; cases rv
    exact ⟨.int i, by simp [T.py, PyData.canLay0], by simp [T.py, PyData.depth]⟩
  | n, .str s, t, x, e, rv => by
    unfold toT at e
    cases e
    obtain ⟨rfl, hk⟩ := rv
    have hs := (Bool.and_eq_true_iff.mp hk).1
    refine ⟨.str _, ?_, by simp [T.py, PyData.depth]⟩
    simp only [T.py, PyData.canLay0, PyData.strOk, sS]
    simpa [okS] using hs
  | 0, .scr xs, t, x, e, rv => by unfold toT at e; cases e
  | n + 1, .scr xs, t, x, e, rv => by
    unfold toT at e; cases e
    obtain ⟨rfl, rfl⟩ := rv
    simp only [T.py, pys_ints]
    exact ⟨.lst S.scr.seq (dp_ints _), by simp [PyData.canLay0, lay_ints], by simp [PyData.depth, lay_ints]⟩
  | 0, .ref a, t, x, e, rv => by unfold toT at e; cases e
  | n + 1, .ref p, t, x, e, rv => by
    obtain ⟨a, ea, rfl⟩ := rv
    unfold toT at e
    cases eh : h[p]? with
    | none => rw [eh] at e; cases e
    | some o =>
      rw [eh] at e
      cases o with
      | lst xs =>
        simp only at e
        cases es : toTs n h xs with
        | none => rw [es] at e; cases e
        | some ts =>
          rw [es] at e; cases e
          obtain ⟨vs, rv, eH⟩ := S.ob p _ a eh ea
          obtain ⟨q1, q2, q3⟩ := toTs_dp S n xs ts vs es rv
          simp only [T.py]
          exact ⟨.lst (SqL.of eH) q1, by simpa [PyData.canLay0] using q2, by simp [PyData.depth]; omega⟩
      | tup xs =>
        simp only at e
        cases es : toTs n h xs with
        | none => rw [es] at e; cases e
        | some ts =>
          rw [es] at e; cases e
          obtain ⟨vs, rv, eH⟩ := S.ob p _ a eh ea
          obtain ⟨q1, q2, q3⟩ := toTs_dp S n xs ts vs es rv
          simp only [T.py]
          exact ⟨.tup (SqT.of eH) q1, by simpa [PyData.canLay0] using q2, by simp [PyData.depth]; omega⟩
      | dct _ _ _ _ => cases e
theorem toTs_dp (S : Sim C K r h H) : ∀ (n : Nat) (vs : List MV) (ts : List T) (xs : List V), toTs n h vs = some ts → VRs C r vs xs → DpAll K H xs (T.pys ts) ∧ PyData.canLayAll0 (T.pys ts) = true ∧ PyData.depthAll (T.pys ts) ≤ n
  | n, [], ts, xs, e, rv => by
    unfold toTs at e; cases e
    cases rv
    exact ⟨.nil, by simp [T.pys, PyData.canLayAll0], by simp [T.pys, PyData.depthAll]⟩
  | n, v :: vs, ts, xs, e, rv => by
    cases rv with
    | cons r1 r2 =>
      unfold toTs at e
      cases e1 : toT n h v with
      | none => rw [e1] at e; simp at e
      | some t =>
        cases e2 : toTs n h vs with
        | none => rw [e1, e2] at e; simp at e
        | some ts' =>
          rw [e1, e2] at e
          cases e
          obtain ⟨p1, p2, p3⟩ := toT_dp S n v t _ e1 r1
          obtain ⟨q1, q2, q3⟩ := toTs_dp S n vs ts' _ e2 r2
          exact ⟨.cons p1 q1, by simp [T.pys, PyData.canLayAll0, p2, q2], by simp [T.pys, PyData.depthAll]; omega⟩
end
end

/-! ### operators -/
theorem opI_ok {C : Cc} {X : Cx} {F : Value → Value → Sem Value} {g : Int → Int → V} {k : Int → Int → MV} {P : Int → Int → Prop} {f : Op2} (ho : OpR X F (rI P g)) (hk : ∀ i j r, VR C r (k i j) (g i j))
    (hf : ∀ x y h v h', f x y h = .ok v h' → ∃ i j, x = .int i ∧ y = .int j ∧ P i j ∧ v = k i j ∧ h' = h) (hn : NoX f) : OpA C X F f :=
  ⟨_, ho, fun r h H x y x' y' Q S rx ry q => by
    cases e : f x y h with
    | stuck => rw [e] at q; exact q.elim
    | exc c h' => exact (hn x y h c h' e).elim
    | ok v h' =>
      obtain ⟨i, j, rfl, rfl, p, rfl, rfl⟩ := hf x y h v h' e
      rw [e] at q
      exact ⟨i, j, rx, ry, p, q r H (Go.refl _ _) S _ (hk i j r)⟩⟩
theorem rI0_rI {g : Int → Int → V} {X : Cx} {F : Value → Value → Sem Value} (h : OpR X F (rI0 g)) : OpR X F (rI (fun _ _ => True) g) := fun pins s σ H x y v u Q I rx ry ⟨i, j, e1, e2, _, q⟩ => h pins s σ H x y v u Q I rx ry ⟨i, j, e1, e2, q⟩
theorem OpA.or {C : Cc} {X : Cx} {F : Value → Value → Sem Value} {f f1 f2 : Op2} (a : OpA C X F f1) (b : OpA C X F f2) (e : ∀ x y h, f x y h = f1 x y h ∨ f x y h = f2 x y h) : OpA C X F f :=
  let ⟨_, o1, h1⟩ := a; let ⟨_, o2, h2⟩ := b
  ⟨_, o1.or o2, fun r h H x y x' y' Q S rx ry q => by
    rcases e x y h with z | z
    · rw [z] at q; exact .inl (h1 r h H x y x' y' Q S rx ry q)
    · rw [z] at q; exact .inr (h2 r h H x y x' y' Q S rx ry q)⟩
section
variable {C : Cc} {X : Cx}
theorem nox_alloc {o : Obj} {h : MH} {c : Nat} {h' : MH} : alloc o h ≠ .exc c h' := fun z => by cases z
theorem nox_allocL {o : List MV} {h : MH} {c : Nat} {h' : MH} : allocL o h ≠ .exc c h' := fun z => by
  unfold allocL at z; split at z <;> cases z
theorem nox_allocT {o : List MV} {h : MH} {c : Nat} {h' : MH} : allocT o h ≠ .exc c h' := fun z => by
  unfold allocT at z; split at z <;> cases z
theorem nox_add : NoX opAdd := fun x y h c h' z => by
  unfold opAdd at z
  split at z
  · cases z
  · split at z <;> cases z
  · split at z
    · exact nox_allocL z
    · split at z
      · cases z
      · split at z
        · cases z
        · exact nox_allocT z
    · cases z
  · cases z
def addI : Op2
  | .int i, .int j, h => .ok (.int (i + j)) h
  | _, _, _ => .stuck
def addS : Op2
  | .str x, .str y, h => if x.length + y.length ≤ lim then .ok (.str (x ++ y)) h else .stuck
  | _, _, _ => .stuck
def addL : Op2
  | .ref a, .ref b, h => match h[a]?, h[b]? with
    | some (.lst xs), some (.lst ys) => allocL (xs ++ ys) h
    | _, _ => .stuck
  | _, _, _ => .stuck
theorem oa_addI : OpA C X (binaryOp .Add) addI := opI_ok (P := fun _ _ => True) (k := fun i j => .int (i + j)) (rI0_rI op_add) (fun _ _ _ => rfl) (fun x y h v h' e => by
  unfold addI at e; split at e <;> cases e; exact ⟨_, _, rfl, rfl, trivial, rfl, rfl⟩) (fun x y h c h' e => by unfold addI at e; split at e <;> cases e)
theorem oa_addS : OpA C X (binaryOp .Add) addS := ⟨_, op_add_str, fun r h H x y x' y' Q S rx ry q => by
  unfold addS at q
  split at q
  · split at q
    · rename_i a b _ hl
      obtain ⟨rfl, k1⟩ := rx
      obtain ⟨rfl, k2⟩ := ry
      refine ⟨_, _, rfl, rfl, ?_, ?_⟩
      · rw [sS_len, sS_len, ← lim_eq]; exact hl
      · rw [sS_app]
        exact q r H (Go.refl _ _) S _ ⟨rfl, strOk_app k1 k2 hl⟩
    · exact q.elim
  · exact q.elim⟩
theorem oa_addL : OpA C X (binaryOp .Add) addL := ⟨_, op_cat, fun r h H x y x' y' Q S rx ry q => by
  unfold addL at q
  split at q
  · split at q
    · rename_i a b h0 xs ys ea eb
      obtain ⟨p, ep, rfl⟩ := rx
      obtain ⟨p2, ep2, rfl⟩ := ry
      obtain ⟨vs, rv, eH⟩ := S.ob _ _ p ea ep
      obtain ⟨ws, rw', eH2⟩ := S.ob _ _ p2 eb ep2
      unfold allocL at q
      split at q
      · rename_i hl
        refine ⟨p, p2, vs, ws, rfl, rfl, eH, eH2, by rw [← rv.length, ← rw'.length, ← lim_eq]; simpa using hl, fun pn hp => ?_⟩
        obtain ⟨z, zr⟩ := rp_allocL S (Paired.app rv rw') q hl hp
        exact z _ zr
      · exact q.elim
    · exact q.elim
  · exact q.elim⟩
def addT : Op2
  | .ref a, .ref b, h => match h[a]?, h[b]? with
    | some (.tup xs), some (.tup ys) => if xs.isEmpty then .ok (.ref b) h else if ys.isEmpty then .ok (.ref a) h else allocT (xs ++ ys) h
    | _, _ => .stuck
  | _, _, _ => .stuck
theorem oa_addT : OpA C X (binaryOp .Add) addT := ⟨_, op_catA, fun r h H x y x' y' Q S rx ry q => by
  unfold addT at q
  split at q
  · split at q
    · rename_i a b h0 xs ys ea eb
      obtain ⟨p, ep, rfl⟩ := rx
      obtain ⟨p2, ep2, rfl⟩ := ry
      obtain ⟨vs, rv, eH⟩ := S.ob _ _ p ea ep
      obtain ⟨ws, rw', eH2⟩ := S.ob _ _ p2 eb ep2
      have la : xs.length ≤ lim := S.sz _ _ ea
      have lb : ys.length ≤ lim := S.sz _ _ eb
      have e1 : xs.isEmpty = true ↔ vs = [] := by
        have := rv.length
        cases xs <;> cases vs <;> simp at this ⊢
      have e2 : ys.isEmpty = true ↔ ws = [] := by
        have := rw'.length
        cases ys <;> cases ws <;> simp at this ⊢
      have hl : vs.length + ws.length ≤ sizeLine := by
        rw [← rv.length, ← rw'.length, ← lim_eq]
        split at q
        · rename_i hx
          rw [List.isEmpty_iff.mp hx]
          simpa using lb
        · split at q
          · rename_i hy
            rw [List.isEmpty_iff.mp hy]
            simpa using la
          · unfold allocT at q
            split at q
            · rename_i hl
              simpa using hl
            · exact q.elim
      refine ⟨p, p2, vs, ws, rfl, rfl, SqT.of eH, SqT.of eH2, hl, fun hx => ?_, fun hx hy => ?_, fun hx hy pn hp => ?_⟩
      · rw [if_pos (e1.mpr hx)] at q
        exact q r H (Go.refl _ _) S _ ⟨p2, ep2, rfl⟩
      · rw [if_neg (fun z => hx (e1.mp z)), if_pos (e2.mpr hy)] at q
        exact q r H (Go.refl _ _) S _ ⟨p, ep, rfl⟩
      · rw [if_neg (fun z => hx (e1.mp z)), if_neg (fun z => hy (e2.mp z))] at q
        unfold allocT at q
        split at q
        · rename_i hl
          obtain ⟨z, zr⟩ := rp_allocT S (Paired.app rv rw') q hl hp
          exact z _ zr
        · exact q.elim
    · exact q.elim
  · exact q.elim⟩
def addLT : Op2
  | .ref a, .ref b, h => match h[a]?, h[b]? with
    | some (.lst xs), some (.lst ys) => allocL (xs ++ ys) h
    | some (.tup xs), some (.tup ys) => if xs.isEmpty then .ok (.ref b) h else if ys.isEmpty then .ok (.ref a) h else allocT (xs ++ ys) h
    | _, _ => .stuck
  | _, _, _ => .stuck
theorem oa_addLT : OpA C X (binaryOp .Add) addLT := OpA.or oa_addL oa_addT fun x y h => by
  cases x <;> cases y <;> try exact .inl rfl
  rename_i a b
  unfold addLT addL addT
  cases h1 : h[a]? with
  | none => left; simp [h1]
  | some o =>
    cases h2 : h[b]? with
    | none => left; simp [h1, h2]
    | some o2 => cases o <;> cases o2 <;> first | (left; simp [h1, h2]; done) | (right; simp [h1, h2]; done)
theorem oa_add : OpA C X (binaryOp .Add) opAdd := OpA.or oa_addI (OpA.or (f := fun x y h => match x, y with | .str a, .str b => addS (.str a) (.str b) h | x, y => addLT x y h) oa_addS oa_addLT (fun x y h => by
    cases x <;> cases y <;> first | exact .inl rfl | exact .inr rfl)) (fun x y h => by
  cases x <;> cases y <;> first | exact .inl rfl | exact .inr rfl)
theorem nox_sub : NoX opSub := fun x y h c h' e => by unfold opSub at e; split at e <;> cases e
theorem oa_sub : OpA C X (binaryOp .Sub) opSub := opI_ok (P := fun _ _ => True) (k := fun i j => .int (i - j)) (rI0_rI op_sub) (fun _ _ _ => rfl) (fun x y h v h' e => by
  unfold opSub at e; split at e <;> cases e; exact ⟨_, _, rfl, rfl, trivial, rfl, rfl⟩) nox_sub
def mulI : Op2
  | .int i, .int j, h => if small i || small j then .ok (.int (i * j)) h else .stuck
  | _, _, _ => .stuck
def mulL : Op2
  | .ref a, .int k, h => match h[a]? with
    | some (.lst xs) => if -(2 ^ 63) ≤ k ∧ k < 2 ^ 63 then allocL (List.replicate k.toNat xs).flatten h else .stuck
    | _ => .stuck
  | _, _, _ => .stuck
theorem nox_mul : NoX opMul := fun x y h c h' z => by
  unfold opMul at z
  split at z
  · split at z <;> cases z
  · split at z
    · split at z
      · exact nox_allocL z
      · cases z
    · cases z
  · cases z
theorem small_iff {i : Int} (h : small i = true) : -(2 ^ 64) < i ∧ i < 2 ^ 64 := by
  unfold small at h
  obtain ⟨h1, h2⟩ := Bool.and_eq_true_iff.mp h
  exact ⟨of_decide_eq_true h1, of_decide_eq_true h2⟩
theorem oa_mulI : OpA C X (binaryOp .Mult) mulI := opI_ok (P := CMul) (k := fun i j => .int (i * j)) op_mul (fun _ _ _ => rfl) (fun x y h v h' e => by
  unfold mulI at e
  split at e
  · split at e
    · rename_i hs
      cases e
      refine ⟨_, _, rfl, rfl, ?_, rfl, rfl⟩
      rcases Bool.or_eq_true_iff.mp hs with z | z
      · exact .inl (small_iff z)
      · exact .inr (small_iff z)
    · cases e
  · cases e) (fun x y h c h' e => by unfold mulI at e; split at e <;> (try split at e) <;> cases e)
theorem oa_mulL : OpA C X (binaryOp .Mult) mulL := ⟨_, op_rep, fun r h H x y x' y' Q S rx ry q => by
  unfold mulL at q
  split at q
  · rename_i a k
    split at q
    · rename_i xs ea
      split at q
      · rename_i hk
        obtain ⟨p, ep, rfl⟩ := rx
        cases ry
        obtain ⟨vs, rv, eH⟩ := S.ob _ _ p ea ep
        unfold allocL at q
        split at q
        · rename_i hl
          refine ⟨p, k, vs, rfl, rfl, eH, hk.1, hk.2, ?_, fun pn hp => ?_⟩
          · have : (List.replicate k.toNat xs).flatten.length = xs.length * k.toNat := by simp [Nat.mul_comm]
            rw [← rv.length, ← lim_eq, ← this]; exact hl
          · obtain ⟨z, zr⟩ := rp_allocL S (Paired.flatRep rv k.toNat) q hl hp
            exact z _ zr
        · exact q.elim
      · exact q.elim
    · exact q.elim
  · exact q.elim⟩
theorem oa_mul : OpA C X (binaryOp .Mult) opMul := OpA.or oa_mulI oa_mulL (fun x y h => by
  cases x <;> cases y <;> first | exact .inl rfl | exact .inr rfl)
theorem nox_div : NoX opDiv := fun x y h c h' e => by unfold opDiv at e; split at e <;> (try split at e) <;> cases e
theorem oa_div : OpA C X (binaryOp .FloorDiv) opDiv := opI_ok (P := CDivW) (k := fun i j => .int (i / j)) op_fdivW (fun _ _ _ => rfl) (fun x y h v h' e => by
  unfold opDiv at e
  split at e
  · split at e
    · rename_i hs
      cases e
      obtain ⟨h1, h2⟩ := Bool.and_eq_true_iff.mp hs
      exact ⟨_, _, rfl, rfl, ⟨of_decide_eq_true h1, of_decide_eq_true h2⟩, rfl, rfl⟩
    · cases e
  · cases e) nox_div
theorem nox_mod : NoX opMod := fun x y h c h' e => by unfold opMod at e; split at e <;> (try split at e) <;> cases e
theorem oa_mod : OpA C X (binaryOp .Mod) opMod := opI_ok (P := fun _ j => 0 < j) (k := fun i j => .int (i % j)) op_mod (fun _ _ _ => rfl) (fun x y h v h' e => by
  unfold opMod at e
  split at e
  · split at e
    · rename_i hs
      cases e
      exact ⟨_, _, rfl, rfl, hs, rfl, rfl⟩
    · cases e
  · cases e) nox_mod
theorem powOk_iff {i j : Int} (h : powOk i j = true) : CPow i j := by
  unfold powOk at h
  obtain ⟨h1, h3⟩ := Bool.and_eq_true_iff.mp h
  obtain ⟨h1, h2⟩ := Bool.and_eq_true_iff.mp h1
  exact ⟨of_decide_eq_true h1, of_decide_eq_true h2, of_decide_eq_true h3⟩
theorem nox_pow : NoX opPow := fun x y h c h' e => by unfold opPow at e; split at e <;> (try split at e) <;> cases e
theorem oa_pow : OpA C X (binaryOp .Pow) opPow := opI_ok (P := CPow) (k := fun i j => .int (i ^ j.toNat)) op_pow (fun _ _ _ => rfl) (fun x y h v h' e => by
  unfold opPow at e
  split at e
  · split at e
    · rename_i hs
      cases e
      exact ⟨_, _, rfl, rfl, powOk_iff hs, rfl, rfl⟩
    · cases e
  · cases e) nox_pow
theorem nox_shl : NoX opShl := fun x y h c h' e => by unfold opShl at e; split at e <;> (try split at e) <;> cases e
theorem oa_shl : OpA C X (binaryOp .LShift) opShl := opI_ok (P := CPow) (k := fun i j => .int (i * 2 ^ j.toNat)) op_shl (fun _ _ _ => rfl) (fun x y h v h' e => by
  unfold opShl at e
  split at e
  · split at e
    · rename_i hs
      cases e
      exact ⟨_, _, rfl, rfl, powOk_iff hs, rfl, rfl⟩
    · cases e
  · cases e) nox_shl
theorem nox_shr : NoX opShr := fun x y h c h' e => by unfold opShr at e; split at e <;> (try split at e) <;> cases e
theorem oa_shr : OpA C X (binaryOp .RShift) opShr := opI_ok (P := fun _ j => 0 ≤ j) (k := fun i j => .int (i / 2 ^ j.toNat)) op_shr (fun _ _ _ => rfl) (fun x y h v h' e => by
  unfold opShr at e
  split at e
  · split at e
    · rename_i hs
      cases e
      exact ⟨_, _, rfl, rfl, hs, rfl, rfl⟩
    · cases e
  · cases e) nox_shr
theorem nox_and : NoX opAnd := fun x y h c h' e => by unfold opAnd at e; split at e <;> (try split at e) <;> cases e
theorem oa_and : OpA C X (binaryOp .BitAnd) opAnd := ⟨_, op_and, fun r h H x y x' y' Q S rx ry q => by
  unfold opAnd at q
  split at q
  · split at q
    · rename_i i j hs
      obtain ⟨h1, h2⟩ := Bool.and_eq_true_iff.mp hs
      cases rx; cases ry
      refine ⟨i, j, rfl, rfl, ?_⟩
      show Q (V.int (Builtin.bitAnd i j)) H
      rw [PyProof.Rows.bitAnd_pp (of_decide_eq_true h1) (of_decide_eq_true h2)]
      exact q r H (Go.refl _ _) S _ rfl
    · exact q.elim
  · exact q.elim⟩
theorem nat_or_and (a b : Nat) : (a ||| b) + (a &&& b) = a + b := by
  induction a using Nat.strongRecOn generalizing b with
  | ind a ih =>
    by_cases ha : a = 0
    · subst ha; simp
    · have h2 := ih (a / 2) (by omega) (b / 2)
      have e1 : (a ||| b) / 2 = a / 2 ||| b / 2 := Nat.or_div_two
      have e2 : (a &&& b) / 2 = a / 2 &&& b / 2 := Nat.and_div_two
      have m1 : (a ||| b) % 2 + (a &&& b) % 2 = a % 2 + b % 2 := by
        have o1 : (a ||| b) % 2 = 1 ↔ (a % 2 = 1 ∨ b % 2 = 1) := Nat.or_mod_two_eq_one
        have o2 : (a &&& b) % 2 = 1 ↔ (a % 2 = 1 ∧ b % 2 = 1) := Nat.and_mod_two_eq_one
        omega
      omega
theorem nox_or : NoX opOr := fun x y h c h' e => by unfold opOr at e; split at e <;> (try split at e) <;> cases e
theorem oa_or : OpA C X (binaryOp .BitOr) opOr := ⟨_, op_or, fun r h H x y x' y' Q S rx ry q => by
  unfold opOr at q
  split at q
  · split at q
    · rename_i i j hs
      obtain ⟨h1, h2⟩ := Bool.and_eq_true_iff.mp hs
      have p1 : 0 ≤ i := of_decide_eq_true h1
      have p2 : 0 ≤ j := of_decide_eq_true h2
      cases rx; cases ry
      refine ⟨i, j, rfl, rfl, ?_⟩
      have e : Builtin.bitOr i j = ((i.toNat ||| j.toNat : Nat) : Int) := by
        rw [PyProof.Rows.bitOr_and, PyProof.Rows.bitAnd_pp p1 p2]
        have := nat_or_and i.toNat j.toNat
        omega
      show Q (V.int (Builtin.bitOr i j)) H
      rw [e]
      exact q r H (Go.refl _ _) S _ rfl
    · exact q.elim
  · exact q.elim⟩
theorem nox_lt : NoX opLt := fun x y h c h' e => by unfold opLt at e; split at e <;> cases e
theorem oa_lt : OpA C X (compareOp .Lt) opLt := opI_ok (P := fun _ _ => True) (k := fun i j => .bl (decide (i < j))) (rI0_rI op_lt) (fun _ _ _ => rfl) (fun x y h v h' e => by
  unfold opLt at e; split at e <;> cases e; exact ⟨_, _, rfl, rfl, trivial, rfl, rfl⟩) nox_lt
theorem nox_le : NoX opLe := fun x y h c h' e => by unfold opLe at e; split at e <;> cases e
theorem oa_le : OpA C X (compareOp .LtE) opLe := opI_ok (P := fun _ _ => True) (k := fun i j => .bl (decide (i ≤ j))) (rI0_rI op_le) (fun _ _ _ => rfl) (fun x y h v h' e => by
  unfold opLe at e; split at e <;> cases e; exact ⟨_, _, rfl, rfl, trivial, rfl, rfl⟩) nox_le
theorem nox_gt : NoX opGt := fun x y h c h' e => by unfold opGt at e; split at e <;> cases e
theorem oa_gt : OpA C X (compareOp .Gt) opGt := opI_ok (P := fun _ _ => True) (k := fun i j => .bl (decide (j < i))) (rI0_rI op_gt) (fun _ _ _ => rfl) (fun x y h v h' e => by
  unfold opGt at e; split at e <;> cases e; exact ⟨_, _, rfl, rfl, trivial, rfl, rfl⟩) nox_gt
theorem nox_ge : NoX opGe := fun x y h c h' e => by unfold opGe at e; split at e <;> cases e
theorem oa_ge : OpA C X (compareOp .GtE) opGe := opI_ok (P := fun _ _ => True) (k := fun i j => .bl (decide (j ≤ i))) (rI0_rI op_ge) (fun _ _ _ => rfl) (fun x y h v h' e => by
  unfold opGe at e; split at e <;> cases e; exact ⟨_, _, rfl, rfl, trivial, rfl, rfl⟩) nox_ge
theorem shaped_of {t : T} {n : Nat} (hn : n ≤ 64) (h : PyData.canLay0 (T.py t) = true ∧ (T.py t).depth ≤ n) : SeqAt.shaped (T.py t) = true := by
  unfold SeqAt.shaped
  rw [h.1, decide_eq_true (Nat.le_trans h.2 hn)]; rfl
theorem nox_eq : NoX opEq := fun x y h c h' e => by unfold opEq at e; split at e <;> cases e
theorem nox_ne : NoX opNe := fun x y h c h' e => by unfold opNe at e; split at e <;> cases e
theorem eqT_ok {r : List Addr} {h : MH} {H : Hp} {x y : MV} {x' y' : V} {b : Bool} (S : Sim C X.K r h H) (rx : VR C r x x') (ry : VR C r y y') (e : eqT x y h = some b) :
    ∃ d f, Dp X.K H x' d ∧ Dp X.K H y' f ∧ SeqAt.shaped d = true ∧ SeqAt.shaped f = true ∧ PyData.eqv d f = b := by
  unfold eqT at e
  split at e
  · rename_i a c ea ec
    cases e
    obtain ⟨p1, p2⟩ := toT_dp S _ _ _ _ ea rx
    obtain ⟨q1, q2⟩ := toT_dp S _ _ _ _ ec ry
    exact ⟨_, _, p1, q1, shaped_of (by decide) p2, shaped_of (by decide) q2, T.eqv_py a c⟩
  · cases e
theorem oa_eq (hu : X.A.units + 64 < cLine) : OpA C X (compareOp .Eq) opEq := ⟨_, op_eqD hu, fun r h H x y x' y' Q S rx ry q => by
  unfold opEq at q
  split at q
  · rename_i b e
    obtain ⟨d, f, h1, h2, h3, h4, e2⟩ := eqT_ok (X := X) S rx ry e
    exact ⟨d, f, h1, h2, h3, h4, by rw [e2]; exact q r H (Go.refl _ _) S _ rfl⟩
  · exact q.elim⟩
theorem oa_ne (hu : X.A.units + 64 < cLine) : OpA C X (compareOp .NotEq) opNe := ⟨_, op_neD hu, fun r h H x y x' y' Q S rx ry q => by
  unfold opNe at q
  split at q
  · rename_i b e
    obtain ⟨d, f, h1, h2, h3, h4, e2⟩ := eqT_ok (X := X) S rx ry e
    exact ⟨d, f, h1, h2, h3, h4, by rw [e2]; exact q r H (Go.refl _ _) S _ rfl⟩
  · exact q.elim⟩
end

section
variable {C : Cc} {X : Cx}
/-! ### in -/
def inS (neg : Bool) : Op2 := fun x y h => match x, y with
  | .str [c], .str s => .ok (.bl (if neg then !decide (c ∈ s) else decide (c ∈ s))) h
  | _, _ => .stuck
def inL (neg : Bool) : Op2 := fun x y h => match y with
  | .str _ => .stuck
  | _ => match toT deep h y, toT deep h x with
    | some (.lst ts), some t => .ok (.bl (if neg then !(ts.any fun z => T.eqv z t) else ts.any fun z => T.eqv z t)) h
    | _, _ => .stuck
theorem any_py (ts : List T) (t : T) : ((T.pys ts).any fun z => PyData.eqv z (T.py t)) = ts.any fun z => T.eqv z t := by
  induction ts with
  | nil => rfl
  | cons x xs ih => simp only [T.pys, List.any_cons, T.eqv_py, ih]
theorem sign_eq (c : Nat) : sS [c] = ⟨#[c]⟩ := rfl
theorem oa_inS0 : OpA C X (compareOp .In) (inS false) := ⟨_, op_in_sign, fun r h H x y x' y' Q S rx ry q => by
  unfold inS at q
  split at q
  · rename_i c s
    obtain ⟨rfl, k1⟩ := rx
    obtain ⟨rfl, k2⟩ := ry
    exact ⟨c, sS s, rfl, rfl, by rw [sS_cps]; exact q r H (Go.refl _ _) S _ rfl⟩
  · exact q.elim⟩
theorem oa_inS1 : OpA C X (compareOp .NotIn) (inS true) := ⟨_, op_notIn_sign, fun r h H x y x' y' Q S rx ry q => by
  unfold inS at q
  split at q
  · rename_i c s
    obtain ⟨rfl, k1⟩ := rx
    obtain ⟨rfl, k2⟩ := ry
    exact ⟨c, sS s, rfl, rfl, by rw [sS_cps]; exact q r H (Go.refl _ _) S _ rfl⟩
  · exact q.elim⟩
theorem inL_ok {neg : Bool} {r : List Addr} {h : MH} {H : Hp} {x y : MV} {x' y' : V} {Q : VK} (S : Sim C X.K r h H) (rx : VR C r x x') (ry : VR C r y y') (q : RP C X.K r H (fun r' v _ H' => ∀ z, VR C r' v z → Q z H') noEx (inL neg x y h)) :
    ∃ d ds, Dp X.K H x' d ∧ Dp X.K H y' (.list ds) ∧ SeqAt.shaped d = true ∧ SeqAt.shaped (.list ds) = true ∧ Q (.bl (if neg then !(ds.any fun z => PyData.eqv z d) else ds.any fun z => PyData.eqv z d)) H := by
  unfold inL at q
  split at q
  · exact q.elim
  · split at q
    · rename_i ts t e1 e2
      obtain ⟨p1, p2⟩ := toT_dp S _ _ _ _ e1 ry
      obtain ⟨q1, q2⟩ := toT_dp S _ _ _ _ e2 rx
      have s1 := shaped_of (by decide) p2
      simp only [T.py] at p1 s1
      refine ⟨_, _, q1, p1, shaped_of (by decide) q2, s1, ?_⟩
      rw [any_py]
      exact q r H (Go.refl _ _) S _ rfl
    · exact q.elim
theorem oa_inL0 (hu : X.A.units + 65 < cLine) : OpA C X (compareOp .In) (inL false) := ⟨_, op_inD hu, fun r h H x y x' y' Q S rx ry q => inL_ok S rx ry q⟩
theorem oa_inL1 (hu : X.A.units + 65 < cLine) : OpA C X (compareOp .NotIn) (inL true) := ⟨_, op_notInD hu, fun r h H x y x' y' Q S rx ry q => inL_ok S rx ry q⟩
theorem nox_in : NoX opIn := fun x y h c h' e => by unfold opIn at e; split at e <;> cases e
theorem nox_notIn : NoX opNotIn := fun x y h c h' e => by unfold opNotIn at e; split at e <;> cases e
theorem inQ_cases (x y : MV) (h : MH) : (inQ x y h = none) ∨ (∃ c s, x = .str [c] ∧ y = .str s ∧ inQ x y h = some (decide (c ∈ s))) ∨ ∃ ts t, (∀ s, y ≠ .str s) ∧ toT deep h y = some (.lst ts) ∧ toT deep h x = some t ∧ inQ x y h = some (ts.any fun z => T.eqv z t) := by
  unfold inQ
  split
  · split
    · exact .inr (.inl ⟨_, _, rfl, rfl, rfl⟩)
    · exact .inl rfl
  · split
    · rename_i ts t e1 e2
      exact .inr (.inr ⟨ts, t, fun s z => (by cases z), e1, e2, rfl⟩)
    · exact .inl rfl
  · exact .inl rfl
theorem inL_eq {neg : Bool} {x y : MV} {h : MH} {ts : List T} {t : T} (hy : ∀ s, y ≠ .str s) (e1 : toT deep h y = some (.lst ts)) (e2 : toT deep h x = some t) : inL neg x y h = .ok (.bl (if neg then !(ts.any fun z => T.eqv z t) else ts.any fun z => T.eqv z t)) h := by
  unfold inL
  split
  · rename_i s; exact (hy s rfl).elim
  · rw [e1, e2]
theorem stuck_or {f : Op2} {F : Value → Value → Sem Value} (a : OpA C X F f) : OpA C X F f := a
theorem oa_in (hu : X.A.units + 65 < cLine) : OpA C X (compareOp .In) opIn := OpA.or (OpA.or (f := fun x y h => match inQ x y h with | none => .stuck | some _ => match y with | .str _ => inS false x y h | _ => .stuck) oa_inS0 ⟨_, op_inD hu, fun r h H x y x' y' Q S rx ry (q : RP C X.K r H _ noEx ((fun _ _ _ => .stuck : Op2) x y h)) => q.elim⟩ (fun x y h => by
    try dsimp only
    split
    · exact .inr rfl
    · split
      · exact .inl rfl
      · exact .inr rfl)) (oa_inL0 hu) (fun x y h => by
  rcases inQ_cases x y h with e | ⟨c, s, rfl, rfl, e⟩ | ⟨ts, t, hy, e1, e2, e⟩
  · refine .inl ?_
    unfold opIn
    try dsimp only
    rw [e]
  · refine .inl ?_
    unfold opIn
    try dsimp only
    rw [e]
    rfl
  · refine .inr ?_
    rw [inL_eq hy e1 e2]
    unfold opIn
    rw [e]
    rfl)
theorem oa_notIn (hu : X.A.units + 65 < cLine) : OpA C X (compareOp .NotIn) opNotIn := OpA.or (OpA.or (f := fun x y h => match inQ x y h with | none => .stuck | some _ => match y with | .str _ => inS true x y h | _ => .stuck) oa_inS1 ⟨_, op_notInD hu, fun r h H x y x' y' Q S rx ry (q : RP C X.K r H _ noEx ((fun _ _ _ => .stuck : Op2) x y h)) => q.elim⟩ (fun x y h => by
    try dsimp only
    split
    · exact .inr rfl
    · split
      · exact .inl rfl
      · exact .inr rfl)) (oa_inL1 hu) (fun x y h => by
  rcases inQ_cases x y h with e | ⟨c, s, rfl, rfl, e⟩ | ⟨ts, t, hy, e1, e2, e⟩
  · refine .inl ?_
    unfold opNotIn
    try dsimp only
    rw [e]
  · refine .inl ?_
    unfold opNotIn
    try dsimp only
    rw [e]
    rfl
  · refine .inr ?_
    rw [inL_eq hy e1 e2]
    unfold opNotIn
    rw [e]
    rfl)
/-! ### x[i], slices -/
theorem ixN_eq (n : Nat) (i : Int) : Mi.ixN n i = L2.ixN n i := rfl
theorem atI_some {α : Type} {xs : List α} {i : Int} {v : α} (h : Mi.atI xs i = some v) : ∃ j, L2.ixN xs.length i = some j ∧ xs[j]? = some v := by
  unfold Mi.atI at h
  rw [ixN_eq] at h
  cases e : L2.ixN xs.length i with
  | none => rw [e] at h; cases h
  | some j => rw [e] at h; exact ⟨j, rfl, h⟩
theorem atI_pair {α β : Type} {F : α → β → Prop} {xs : List α} {ys : List β} {i : Int} {v : α} (p : Paired F xs ys) (h : Mi.atI xs i = some v) : ∃ w, L2.atI ys i = some w ∧ F v w := by
  obtain ⟨j, e1, e2⟩ := atI_some h
  obtain ⟨w, e3, f⟩ := Paired.getL p e2
  refine ⟨w, ?_, f⟩
  unfold L2.atI
  rw [← Paired.length p, e1]
  exact e3
theorem nox_ix : NoX opIx := fun x y h c h' e => by
  unfold opIx at e
  split at e
  · split at e <;> cases e
  · split at e
    · split at e <;> cases e
    · cases e
  · cases e
theorem ia_ix : IxA C X opIx := ⟨_, ix_seq, fun r h H x y x' y' Q S rx ry q => by
  unfold opIx at q
  split at q
  · rename_i s i
    obtain ⟨rfl, k1⟩ := rx
    cases ry
    split at q
    · rename_i c e
      obtain ⟨j, e1, e2⟩ := atI_some e
      refine .inr (.inr ⟨sS s, i, c, rfl, rfl, by rw [sS_len, ← lim_eq]; exact strOk_len k1, ?_, q r H (Go.refl _ _) S _ ⟨rfl, strOk_sign k1 (List.mem_of_getElem? e2)⟩⟩)
      rw [sS_cps]
      unfold L2.atI
      rw [e1]; exact e2
    · exact q.elim
  · rename_i v i hv
    cases ry
    split at q
    · rename_i xs ei
      split at q
      · rename_i w ew
        obtain ⟨a, vs, rfl, rvs, ⟨_, hq⟩ | ⟨_, hq⟩⟩ := items_seq S rx ei
        · obtain ⟨z, ez, rz⟩ := atI_pair rvs ew
          exact .inl ⟨a, vs, i, z, rfl, rfl, hq, ez, q r H (Go.refl _ _) S _ rz⟩
        · obtain ⟨z, ez, rz⟩ := atI_pair rvs ew
          exact .inr (.inl ⟨a, vs, i, z, rfl, rfl, SqT.of hq, ez, q r H (Go.refl _ _) S _ rz⟩)
      · exact q.elim
    · exact q.elim
  · exact q.elim⟩
theorem clip_eq (n d : Nat) (o : Option Int) : clip n d o = HT.sIx n d o := by cases o <;> rfl
theorem nox_slice : ∀ x l u h c h', slice x l u h ≠ .exc c h' := fun x l u h c h' e => by
  unfold slice at e
  split at e
  · cases e
  · split at e
    · exact nox_alloc e
    · unfold sliceT at e
      split at e
      · split at e
        · split at e
          · cases e
          · exact nox_alloc e
        · cases e
      · cases e
theorem sa_slice : SlA C X slice := ⟨_, ((sl_list (X := X)).or sl_str).or sl_tupA, fun r h H x x' lo hi Q S rx q => by
  unfold slice at q
  split at q
  · rename_i s
    obtain ⟨rfl, k1⟩ := rx
    refine .inl (.inr ⟨sS s, rfl, by rw [sS_len, ← lim_eq]; exact strOk_len k1, ?_⟩)
    have e : cutS (sS s) lo hi = sS (cut s lo hi) := by
      unfold cutS cut
      rw [sS_cps, sS_len]
      simp only [clip_eq]
      rfl
    rw [e]
    exact q r H (Go.refl _ _) S _ ⟨rfl, strOk_cut k1 lo hi⟩
  · split at q
    · rename_i xs ei
      obtain ⟨a, vs, rfl, rvs, hq⟩ := isL_seq S rx ei
      refine .inl (.inl ⟨a, vs, rfl, hq, fun p hp => ?_⟩)
      have rc : VRs C r (cut xs lo hi) (cutV vs lo hi) := by
        unfold cut cutV
        rw [← rvs.length]
        simp only [clip_eq]
        exact Paired.takeL _ (Paired.dropL _ rvs)
      obtain ⟨z, zr⟩ := rp_allocL S rc q (Nat.le_trans (by unfold cut; simp only [List.length_take, List.length_drop]; omega) (isL_sz S rx ei)) hp
      exact z _ zr
    · unfold sliceT at q
      split at q
      · split at q
        · rename_i n xs en
          obtain ⟨a, ea, rfl⟩ := rx
          obtain ⟨vs, rv, eH⟩ := S.ob _ _ a en ea
          have hc : (clip xs.length 0 lo = 0 ∧ clip xs.length xs.length hi = xs.length) ↔ (HT.sIx vs.length 0 lo = 0 ∧ HT.sIx vs.length vs.length hi = vs.length) := by
            rw [clip_eq, clip_eq, rv.length]
          refine .inr ⟨a, vs, rfl, SqT.of eH, fun hw => ?_, fun hw p hp => ?_⟩
          · rw [if_pos (hc.mpr hw)] at q
            exact q r H (Go.refl _ _) S _ ⟨a, ea, rfl⟩
          · rw [if_neg (fun z => hw (hc.mp z))] at q
            have rc : VRs C r (cut xs lo hi) (cutV vs lo hi) := by
              unfold cut cutV
              rw [← rv.length]
              simp only [clip_eq]
              exact Paired.takeL _ (Paired.dropL _ rv)
            obtain ⟨z, zr⟩ := rp_allocT S rc q (Nat.le_trans (m := xs.length) (by unfold cut; simp only [List.length_take, List.length_drop]; omega) (S.sz _ _ en)) hp
            exact z _ zr
        · exact q.elim
      · exact q.elim⟩
theorem ae_rev {W : WX} {a : Expr} {ea : E} {k : Nat} {p1 p2 p3 pos : Pos} (ha : AE C X W a ea) : AE C X W (.Subscript a (.Slice none none (some (.UnaryOp .USub (.Constant (.int 1) k p1) p2)) p3) pos) (e1 sliceBack ea) :=
  ⟨PE.imp (pe_revL ha.pe) fun σ H Q w => w1 (R := fun x H1 Q => ∃ a xs, x = .ref a ∧ SqL X.K H1 a xs ∧ ∀ p, H1 p = none → Q (.ref p) (upd H1 p (.lst xs.reverse))) (fun x h c h' e => by
      unfold sliceBack at e
      split at e
      · split at e
        · exact nox_alloc e
        · cases e
      · cases e) (fun r h H x x' Q S rx q => by
    unfold sliceBack at q
    split at q
    · rename_i n
      split at q
      · rename_i xs en
        obtain ⟨a, ea, rfl⟩ := rx
        obtain ⟨vs, rv, eH⟩ := S.ob _ _ a en ea
        refine ⟨a, vs, rfl, SqL.of eH, fun p hp => ?_⟩
        obtain ⟨z, zr⟩ := rp_allocL S (Paired.revL rv) q (by rw [List.length_reverse]; exact S.sz _ _ en) hp
        exact z _ zr
      · exact q.elim
    · exact q.elim) w⟩
/-! ### built-in functions -/
theorem CallA.or {F : Value} {f f1 f2 : Fn} (a : CallA C X F f1) (b : CallA C X F f2) (e : ∀ x h, f x h = f1 x h ∨ f x h = f2 x h) : CallA C X F f :=
  let ⟨_, o1, h1⟩ := a; let ⟨_, o2, h2⟩ := b
  ⟨_, o1.or o2, fun r h H x x' Q S rx q => by
    rcases e x h with z | z
    · rw [z] at q; exact .inl (h1 r h H x x' Q S rx q)
    · rw [z] at q; exact .inr (h2 r h H x x' Q S rx q)⟩
theorem VRs.one {r : List Addr} {v : MV} {xs : List V} (h : VRs C r [v] xs) : ∃ x, xs = [x] ∧ VR C r v x := by
  cases h with
  | cons a t => cases t; exact ⟨_, rfl, a⟩
theorem VRs.two {r : List Addr} {v w : MV} {xs : List V} (h : VRs C r [v, w] xs) : ∃ x y, xs = [x, y] ∧ VR C r v x ∧ VR C r w y := by
  cases h with
  | cons a t => cases t with | cons b u => cases u; exact ⟨_, _, rfl, a, b⟩
def lenS : Fn
  | [.str s], h => .ok (.int s.length) h
  | _, _ => .stuck
def lenL : Fn
  | [v], h => match items h v with
    | some xs => .ok (.int xs.length) h
    | none => .stuck
  | _, _ => .stuck
theorem noxf_len : NoXF fLen := fun x h c h' e => by
  unfold fLen at e
  split at e
  · cases e
  · split at e <;> cases e
  · cases e
theorem ca_len : CallA C X (.builtin "len") fLen := CallA.or (f1 := lenS) (f2 := lenL) ⟨_, call_len_str, fun r h H x x' Q S rx q => by
    unfold lenS at q
    split at q
    · rename_i s
      obtain ⟨y, rfl, ry⟩ := rx.one
      obtain ⟨rfl, k1⟩ := ry
      exact ⟨sS s, rfl, by rw [sS_len, ← lim_eq]; exact strOk_len k1, by rw [sS_len]; exact q r H (Go.refl _ _) S _ rfl⟩
    · exact q.elim⟩ ⟨_, call_len_seq, fun r h H x x' Q S rx q => by
    unfold lenL at q
    split at q
    · rename_i v
      split at q
      · rename_i xs ei
        obtain ⟨y, rfl, ry⟩ := rx.one
        obtain ⟨a, vs, rfl, rvs, ⟨_, hq⟩ | ⟨_, hq⟩⟩ := items_seq S ry ei
        · exact ⟨a, vs, rfl, .inl hq, by rw [← rvs.length]; exact q r H (Go.refl _ _) S _ rfl⟩
        · exact ⟨a, vs, rfl, .inr (SqT.of hq), by rw [← rvs.length]; exact q r H (Go.refl _ _) S _ rfl⟩
      · exact q.elim
    · exact q.elim⟩ (fun x h => by
  match x with
  | [] => exact .inl rfl
  | _ :: _ :: _ => exact .inl (by simp [fLen, lenS])
  | [v] => cases v <;> first | exact .inl rfl | exact .inr rfl)
theorem noxf_list : NoXF fList := fun x h c h' e => by
  unfold fList at e
  split at e
  · split at e
    · exact nox_alloc e
    · cases e
  · cases e
theorem ca_list : CallA C X (.type "list") fList := ⟨_, call_list_of, fun r h H x x' Q S rx q => by
  unfold fList at q
  split at q
  · rename_i v
    split at q
    · rename_i xs ei
      obtain ⟨y, rfl, ry⟩ := rx.one
      obtain ⟨a, vs, rfl, rvs, hh⟩ := items_seq S ry ei
      have hq : SqL X.K H a vs ∨ SqT X.K H a vs := hh.elim (fun z => .inl z.2) fun z => .inr (SqT.of z.2)
      refine ⟨a, vs, rfl, hq, fun p hp => ?_⟩
      obtain ⟨z, zr⟩ := rp_allocL S rvs q (items_sz S ry ei) hp
      exact z _ zr
    · exact q.elim
  · exact q.elim⟩
theorem noxf_tuple : NoXF fTuple := fun x h c h' e => by
  unfold fTuple at e
  split at e
  · split at e
    · exact nox_alloc e
    · cases e
    · cases e
  · cases e
theorem ca_tuple : CallA C X (.type "tuple") fTuple := ⟨_, call_tuple_of, fun r h H x x' Q S rx q => by
  unfold fTuple at q
  split at q
  · rename_i n
    obtain ⟨y, rfl, a, ea, rfl⟩ := rx.one
    split at q
    · rename_i xs en
      obtain ⟨vs, rv, eH⟩ := S.ob _ _ a en ea
      refine ⟨a, vs, rfl, .inl ⟨SqL.of eH, fun p hp => ?_⟩⟩
      obtain ⟨z, zr⟩ := rp_allocT S rv q (S.sz _ _ en) hp
      exact z _ zr
    · rename_i xs en
      obtain ⟨vs, rv, eH⟩ := S.ob _ _ a en ea
      exact ⟨a, vs, rfl, .inr ⟨SqT.of eH, q r H (Go.refl _ _) S _ ⟨a, ea, rfl⟩⟩⟩
    · exact q.elim
  · exact q.elim⟩
theorem asBls_map : ∀ {xs : List MV} {bs : List Bool}, asBls xs = some bs → xs = bs.map .bl
  | [], bs, e => by cases e; rfl
  | x :: xs, bs, e => by
    cases x with
    | bl b =>
      simp only [asBls] at e
      cases q : asBls xs with
      | none => rw [q] at e; cases e
      | some cs => rw [q] at e; cases e; rw [asBls_map q]; rfl
    | non => cases e
    | int _ => cases e
    | str _ => cases e
    | ref _ => cases e
    | scr _ => cases e
theorem asInts_map : ∀ {xs : List MV} {bs : List Int}, asInts xs = some bs → xs = bs.map .int
  | [], bs, e => by cases e; rfl
  | x :: xs, bs, e => by
    cases x with
    | int b =>
      simp only [asInts] at e
      cases q : asInts xs with
      | none => rw [q] at e; cases e
      | some cs => rw [q] at e; cases e; rw [asInts_map q]; rfl
    | non => cases e
    | bl _ => cases e
    | str _ => cases e
    | ref _ => cases e
    | scr _ => cases e
theorem vrs_bls {r : List Addr} : ∀ {bs : List Bool} {xs : List V}, VRs C r (bs.map .bl) xs → xs = bs.map V.bl
  | [], _, .nil => rfl
  | _ :: _, _, .cons a t => by cases a; rw [vrs_bls t]; rfl
theorem vrs_ints {r : List Addr} : ∀ {bs : List Int} {xs : List V}, VRs C r (bs.map .int) xs → xs = bs.map V.int
  | [], _, .nil => rfl
  | _ :: _, _, .cons a t => by cases a; rw [vrs_ints t]; rfl
theorem noxf_all : NoXF fAll := fun x h c h' e => by
  unfold fAll at e
  split at e
  · split at e
    · split at e <;> cases e
    · cases e
  · cases e
theorem ca_all (hc : X.calm = true) : CallA C X (.builtin "all") fAll := ⟨_, cr_all hc, fun r h H x x' Q S rx q => by
  unfold fAll at q
  split at q
  · rename_i v
    split at q
    · rename_i xs ei
      split at q
      · rename_i bs eb
        obtain ⟨y, rfl, ry⟩ := rx.one
        obtain ⟨a, vs, rfl, rvs, hq⟩ := isL_seq S ry ei
        rw [asBls_map eb] at rvs
        rw [vrs_bls rvs] at hq
        exact ⟨a, bs, rfl, hq, q r H (Go.refl _ _) S _ rfl⟩
      · exact q.elim
    · exact q.elim
  · exact q.elim⟩
theorem noxf_sum : NoXF fSum := fun x h c h' e => by
  unfold fSum at e
  split at e
  · split at e
    · split at e <;> cases e
    · cases e
  · cases e
theorem ca_sum (hc : X.calm = true) : CallA C X (.builtin "sum") fSum := ⟨_, cr_sum hc, fun r h H x x' Q S rx q => by
  unfold fSum at q
  split at q
  · rename_i v
    split at q
    · rename_i xs ei
      split at q
      · rename_i bs eb
        obtain ⟨y, rfl, ry⟩ := rx.one
        obtain ⟨a, vs, rfl, rvs, hq⟩ := isL_seq S ry ei
        rw [asInts_map eb] at rvs
        rw [vrs_ints rvs] at hq
        exact ⟨a, bs, rfl, hq, q r H (Go.refl _ _) S _ rfl⟩
      · exact q.elim
    · exact q.elim
  · exact q.elim⟩
theorem noxf_max : NoXF fMax := fun x h c h' e => by unfold fMax at e; split at e <;> cases e
theorem ca_max (hc : X.calm = true) : CallA C X (.builtin "max") fMax := ⟨_, call_max2 hc, fun r h H x x' Q S rx q => by
  unfold fMax at q
  split at q
  · rename_i i j
    obtain ⟨y, z, rfl, ry, rz⟩ := rx.two
    cases ry; cases rz
    exact ⟨i, j, rfl, q r H (Go.refl _ _) S _ rfl⟩
  · exact q.elim⟩
theorem noxf_min : NoXF fMin := fun x h c h' e => by unfold fMin at e; split at e <;> cases e
theorem ca_min (hc : X.calm = true) : CallA C X (.builtin "min") fMin := ⟨_, call_min2 hc, fun r h H x x' Q S rx q => by
  unfold fMin at q
  split at q
  · rename_i i j
    obtain ⟨y, z, rfl, ry, rz⟩ := rx.two
    cases ry; cases rz
    exact ⟨i, j, rfl, q r H (Go.refl _ _) S _ rfl⟩
  · exact q.elim⟩
theorem noxf_int : NoXF fInt := fun x h c h' e => by unfold fInt at e; split at e <;> cases e
theorem ca_int : CallA C X (.type "int") fInt := ⟨_, call_int1, fun r h H x x' Q S rx q => by
  unfold fInt at q
  split at q
  · rename_i b
    obtain ⟨y, rfl, ry⟩ := rx.one
    cases ry
    exact .inr ⟨b, rfl, q r H (Go.refl _ _) S _ rfl⟩
  · exact q.elim⟩
end

/-! ### methods, stores -/
section
variable {C : Cc} {X : Cx} {W : WX} {a b c : Expr} {ea eb ec : E} {pos : Pos} {es rest : List Expr} {eas : EA} {tg : Expr}
def tyName : Ty → String
  | .tint => "int"
  | .tbool => "bool"
  | .tstr => "str"
  | .tlist => "list"
  | .ttuple => "tuple"
  | .tdict => "dict"
theorem isTy_list {h : MH} {v : MV} (e : isTy .tlist h v = some true) : ∃ xs, isL h v = some xs := by
  cases v with
  | ref n =>
    cases eh : h[n]? with
    | none => simp [isTy, eh] at e
    | some o => cases o with
      | lst xs => exact ⟨xs, by simp [isL, eh]⟩
      | tup xs => simp [isTy, eh] at e
      | dct _ _ _ _ => simp [isTy, eh] at e
  | scr xs => exact ⟨_, rfl⟩
  | non => cases e
  | bl _ => cases e
  | int _ => cases e
  | str _ => cases e
theorem ae_methL {o e : Expr} {m : PySem.Str} {apos cpos : Pos} {id : String} {f : Fn} (om : MtA C X id f) (hf : NoXF f) (pa : PlainAttrs "list") (slot : Slot "list" m id) (hty : typeOf (.builtin id) = pure (.type "method_descriptor")) (ho : AE C X W o eb) (ha : AA C X W (e :: es) eas)
    (h1 : attributeBase o m X.env (eval o X.env) = eval o X.env := by rfl) (h2 : (((backTo cpos (starEach (e :: es) X.env)).all (!·.1) && (backToKw cpos (keywordEach [] X.env)).all (·.1.isSome)) && decide ((e :: es).length + ([] : List Keyword).length + (if ([] : List Keyword).isEmpty then 0 else 1) < 30)) = true := by rfl) (h3 : (apos.endLine == cpos.line) = true := by rfl)
    (h4 : starEach (e :: es) X.env = (false, eval e X.env) :: starEach es X.env := by rfl) (h5 : (backTo cpos (starEach es X.env)).any (·.1) = false := by rfl) : AE C X W (.Call (.Attribute o m apos) (e :: es) [] cpos) (eMeth .tlist f eb eas) :=
  let ⟨_, hm, hR⟩ := om
  ⟨PE.imp (pe_bm pa slot hty hm ho.pe ha.pa h1 h2 h3 h4 h5) fun σ H Q ⟨r, ρ, h, S, R, q⟩ => by
    refine ⟨r, ρ, h, S, R, (RP.bind q).imp fun r1 v h1 H1 g1 S1 q1 x rx => ?_⟩
    split at q1
    · rename_i hty
      obtain ⟨xs, ex⟩ := isTy_list hty
      obtain ⟨ad, vs, rfl, rv, hq⟩ := isL_seq S1 rx ex
      refine ⟨.inl ⟨rfl, _, hq⟩, r1, ρ, h1, S1, R.up g1.up, (RP.bind q1).imp fun r2 as h2 H2 g2 S2 q2 xs' rxs => ?_⟩
      exact hR r2 h2 H2 v as _ xs' Q S2 (rx.up g2.up) rxs (noEx_wx (hf _ _) q2)
    · exact q1.elim⟩
theorem ae_methL0 {o : Expr} {m : PySem.Str} {apos cpos : Pos} {id : String} {f : Fn} (om : MtA C X id f) (hf : NoXF f) (pa : PlainAttrs "list") (slot : Slot "list" m id) (hty : typeOf (.builtin id) = pure (.type "method_descriptor")) (ho : AE C X W o eb)
    (h1 : attributeBase o m X.env (eval o X.env) = eval o X.env := by rfl) (h3 : (apos.endLine == cpos.line) = true := by rfl) : AE C X W (.Call (.Attribute o m apos) [] [] cpos) (eMeth .tlist f eb aNil) :=
  let ⟨_, hm, hR⟩ := om
  ⟨PE.imp (pe_bm0 pa slot hty hm ho.pe h1 h3) fun σ H Q ⟨r, ρ, h, S, R, q⟩ => by
    refine ⟨r, ρ, h, S, R, (RP.bind q).imp fun r1 v h1 H1 g1 S1 q1 x rx => ?_⟩
    split at q1
    · rename_i hty
      obtain ⟨xs, ex⟩ := isTy_list hty
      obtain ⟨ad, vs, rfl, rv, hq⟩ := isL_seq S1 rx ex
      refine ⟨.inl ⟨rfl, _, hq⟩, ?_⟩
      exact hR r1 h1 H1 v [] _ [] Q S1 rx .nil (noEx_wx (hf _ _) q1)
    · exact q1.elim⟩
theorem noxf_append : NoXF mAppend := fun x h c h' e => by
  unfold mAppend at e
  split at e
  · split at e
    · split at e <;> cases e
    · cases e
  · cases e
theorem ma_append : MtA C X "list.append" mAppend := ⟨_, mt_append, fun r h H x xs x' xs' Q S rx rxs q => by
  unfold mAppend at q
  split at q
  · rename_i n v e
    cases e
    split at q
    · rename_i ys en
      split at q
      · rename_i hl
        obtain ⟨a, ea, rfl⟩ := rx
        obtain ⟨vs, rv, eH⟩ := S.ob _ _ a en ea
        obtain ⟨y, rfl, ry⟩ := rxs.one
        exact ⟨a, vs, y, rfl, rfl, eH, by rw [← rv.length, ← lim_eq]; exact hl, q r _ (Go.write ea) (S.write ea en ⟨_, Paired.app rv (.cons ry .nil), upd_same⟩ (by simp only [Obj.len, List.length_append, List.length_cons, List.length_nil]; omega)) _ rfl⟩
      · exact q.elim
    · exact q.elim
  · exact q.elim⟩
theorem noxf_clear : NoXF mClear := fun x h c h' e => by
  unfold mClear at e
  split at e
  · split at e <;> cases e
  · cases e
theorem ma_clear : MtA C X "list.clear" mClear := ⟨_, mt_clear, fun r h H x xs x' xs' Q S rx rxs q => by
  unfold mClear at q
  split at q
  · rename_i n e
    cases e
    cases rxs
    split at q
    · rename_i ys en
      obtain ⟨a, ea, rfl⟩ := rx
      obtain ⟨vs, rv, eH⟩ := S.ob _ _ a en ea
      exact ⟨a, vs, rfl, rfl, eH, q r _ (Go.write ea) (S.write ea en ⟨_, .nil, upd_same⟩ (by simp [Obj.len])) _ rfl⟩
    · exact q.elim
  · exact q.elim⟩
theorem noxf_pop : NoXF mPop := fun x h c h' e => by
  unfold mPop at e
  split at e
  · split at e
    · split at e <;> cases e
    · cases e
  · split at e
    · split at e
      · split at e
        · split at e <;> cases e
        · cases e
      · cases e
    · cases e
  · cases e
theorem ma_pop : MtA C X "list.pop" mPop := ⟨_, MtR.or (X := X) (id := "list.pop") mt_pop mt_popAt, fun r h H x xs x' xs' Q S rx rxs q => by
  unfold mPop at q
  split at q
  · rename_i n e
    cases e
    cases rxs
    split at q
    · rename_i ys en
      split at q
      · rename_i y ey
        obtain ⟨a, ea, rfl⟩ := rx
        obtain ⟨vs, rv, eH⟩ := S.ob _ _ a en ea
        obtain ⟨z, ez, rz⟩ := Paired.getL rv ey
        refine .inl ⟨a, vs, z, rfl, rfl, eH, by rw [← rv.length]; exact ez, q r _ (Go.write ea) (S.write ea en ⟨_, ?_, upd_same⟩ (by have := S.sz _ _ en; simp only [Obj.len, List.length_dropLast] at this ⊢; omega)) _ rz⟩
        rw [List.dropLast_eq_take, List.dropLast_eq_take, rv.length]
        exact Paired.takeL _ rv
      · exact q.elim
    · exact q.elim
  · rename_i n i e
    cases e
    obtain ⟨y, rfl, ry⟩ := rxs.one
    cases ry
    split at q
    · rename_i ys en
      split at q
      · rename_i hi
        split at q
        · rename_i k ek
          split at q
          · rename_i y ey
            obtain ⟨a, ea, rfl⟩ := rx
            obtain ⟨vs, rv, eH⟩ := S.ob _ _ a en ea
            obtain ⟨z, ez, rz⟩ := Paired.getL rv ey
            rw [ixN_eq, rv.length] at ek
            exact .inr ⟨a, vs, i, k, z, rfl, rfl, eH, hi.1, hi.2, (ixN_seq ek).1, ez, q r _ (Go.write ea) (S.write ea en ⟨_, Paired.eraseL k rv, upd_same⟩ (Nat.le_trans (List.length_eraseIdx_le _ _) (S.sz _ _ en))) _ rz⟩
          · exact q.elim
        · exact q.elim
      · exact q.elim
    · exact q.elim
  · exact q.elim⟩
theorem ae_append {o e : Expr} {apos cpos : Pos} (ho : AE C X W o eb) (ha : AA C X W [e] eas) (h1 : attributeBase o "append" X.env (eval o X.env) = eval o X.env := by rfl) (h2 : (((backTo cpos (starEach [e] X.env)).all (!·.1) && (backToKw cpos (keywordEach [] X.env)).all (·.1.isSome)) && decide (([e] : List Expr).length + ([] : List Keyword).length + (if ([] : List Keyword).isEmpty then 0 else 1) < 30)) = true := by rfl) (h3 : (apos.endLine == cpos.line) = true := by rfl)
    (h4 : starEach [e] X.env = (false, eval e X.env) :: starEach [] X.env := by rfl) (h5 : (backTo cpos (starEach [] X.env)).any (·.1) = false := by rfl) : AE C X W (.Call (.Attribute o "append" apos) [e] [] cpos) (eMeth .tlist mAppend eb eas) :=
  ae_methL ma_append noxf_append PySem.F.plainAttrs_list PySem.F.slot_list_append PySem.F.type_list_append ho ha h1 h2 h3 h4 h5
theorem ae_pop1 {o e : Expr} {apos cpos : Pos} (ho : AE C X W o eb) (ha : AA C X W [e] eas) (h1 : attributeBase o "pop" X.env (eval o X.env) = eval o X.env := by rfl) (h2 : (((backTo cpos (starEach [e] X.env)).all (!·.1) && (backToKw cpos (keywordEach [] X.env)).all (·.1.isSome)) && decide (([e] : List Expr).length + ([] : List Keyword).length + (if ([] : List Keyword).isEmpty then 0 else 1) < 30)) = true := by rfl) (h3 : (apos.endLine == cpos.line) = true := by rfl)
    (h4 : starEach [e] X.env = (false, eval e X.env) :: starEach [] X.env := by rfl) (h5 : (backTo cpos (starEach [] X.env)).any (·.1) = false := by rfl) : AE C X W (.Call (.Attribute o "pop" apos) [e] [] cpos) (eMeth .tlist mPop eb eas) :=
  ae_methL ma_pop noxf_pop PySem.F.plainAttrs_list PySem.F.slot_list_pop PySem.F.type_list_pop ho ha h1 h2 h3 h4 h5
theorem ae_pop0 {o : Expr} {apos cpos : Pos} (ho : AE C X W o eb) (h1 : attributeBase o "pop" X.env (eval o X.env) = eval o X.env := by rfl) (h3 : (apos.endLine == cpos.line) = true := by rfl) : AE C X W (.Call (.Attribute o "pop" apos) [] [] cpos) (eMeth .tlist mPop eb aNil) :=
  ae_methL0 ma_pop noxf_pop PySem.F.plainAttrs_list PySem.F.slot_list_pop PySem.F.type_list_pop ho h1 h3
theorem ae_clear0 {o : Expr} {apos cpos : Pos} (ho : AE C X W o eb) (h1 : attributeBase o "clear" X.env (eval o X.env) = eval o X.env := by rfl) (h3 : (apos.endLine == cpos.line) = true := by rfl) : AE C X W (.Call (.Attribute o "clear" apos) [] [] cpos) (eMeth .tlist mClear eb aNil) :=
  ae_methL0 ma_clear noxf_clear PySem.F.plainAttrs_list PySem.F.slot_list_clear PySem.F.type_list_clear ho h1 h3
/-- n.bit_length() -/
theorem bitLen_eq (i : Int) : ((Builtin.Int.intBits i : Nat) : Int) = bitLen i := by
  unfold Builtin.Int.intBits bitLen
  by_cases h : i = 0
  · simp [h]
  · have : (i == 0) = false := by simpa using h
    rw [this, if_neg h]
    rfl
theorem ae_bits {o : Expr} {apos cpos : Pos} (ho : AE C X W o eb) (h1 : attributeBase o "bit_length" X.env (eval o X.env) = eval o X.env := by rfl) (h3 : (apos.endLine == cpos.line) = true := by rfl) : AE C X W (.Call (.Attribute o "bit_length" apos) [] [] cpos) (e1 (fun v h => mBitLen [v] h) eb) :=
  ⟨PE.imp (pe_bits ho.pe h1 h3) fun σ H Q w => w1 (R := fun x H1 Q => ∃ i, x = .int i ∧ Q (.int (Builtin.Int.intBits i : Nat)) H1) (fun x h c h' e => by unfold mBitLen at e; split at e <;> cases e) (fun r h H x x' Q S rx q => by
    cases x with
    | int i => exact ⟨i, rx, by rw [bitLen_eq]; exact q r H (Go.refl _ _) S _ rfl⟩
    | non => exact q.elim
    | bl _ => exact q.elim
    | str _ => exact q.elim
    | ref _ => exact q.elim
    | scr _ => exact q.elim) w⟩
/-- isinstance(e, T), T a built-in type -/
theorem isTy_ok {K : PySem.W.Frag} {r : List Addr} {h : MH} {H : Hp} {v : MV} {x : V} {t : Ty} {b : Bool} (S : Sim C K r h H) (rx : VR C r v x) (e : isTy t h v = some b) : (∃ s : String, TyX K H x (.type s) ∧ kitB s (tyName t) = some b) ∨ ∃ (a : Addr) (ep : Nat) (xs : List DX), x = .ref a ∧ H a = some (dxO C.wd a ep xs) ∧ kitB "dict" (tyName t) = some b := by
  have go : ∀ s : Ty, TyX K H x (.type (tyName s)) → (s == t || (s == .tbool && t == .tint)) = b → (∃ s : String, TyX K H x (.type s) ∧ kitB s (tyName t) = some b) ∨ ∃ (a : Addr) (ep : Nat) (xs : List DX), x = .ref a ∧ H a = some (dxO C.wd a ep xs) ∧ kitB "dict" (tyName t) = some b := fun s h1 h2 => .inl ⟨_, h1, by
    subst h2
    cases s <;> cases t <;> decide +kernel⟩
  cases v with
  | non =>
    cases rx
    exact .inl ⟨"NoneType", .base .non, by cases e; cases t <;> decide +kernel⟩
  | bl k => cases rx; exact go .tbool (.base (.bl k)) (by cases e; cases t <;> rfl)
  | int k => cases rx; exact go .tint (.base (.int k)) (by cases e; cases t <;> rfl)
  | str k => obtain ⟨rfl, _⟩ := rx; exact go .tstr (.base (.str _)) (by cases e; cases t <;> rfl)
  | ref n =>
    obtain ⟨a, ea, rfl⟩ := rx
    cases eh : h[n]? with
    | none => simp [isTy, eh] at e
    | some o => cases o with
      | lst xs =>
        obtain ⟨vs, rv, eH⟩ := S.ob _ _ a eh ea
        refine go .tlist (.base (.lst eH)) ?_
        simp only [isTy, eh] at e
        cases e; cases t <;> rfl
      | tup xs =>
        obtain ⟨vs, rv, eH⟩ := S.ob _ _ a eh ea
        refine go .ttuple (.base (.tup eH)) ?_
        simp only [isTy, eh] at e
        cases e; cases t <;> rfl
      | dct ep ts ks xs =>
        obtain ⟨us, vs, _, _, _, _, _, _, eH⟩ := S.ob _ _ a eh ea
        simp only [isTy, eh] at e
        refine .inr ⟨a, ep, _, rfl, eH, ?_⟩
        cases e; cases t <;> decide +kernel
  | scr xs =>
    obtain ⟨rfl, rfl⟩ := rx
    have hx : TyX K H (.ref C.sa) (.type "list") := by
      rcases S.scr with ⟨o, e1⟩ | ⟨o, its, n, e1, e2, _⟩
      · exact .base (.frz e1)
      · exact .kList e1 e2
    exact go .tlist hx (by cases e; cases t <;> rfl)
theorem ae_isi {p p2 : Pos} {T : PySem.Str} (hw : C.wd = X.w) (t : Ty) (hg : Gl X "isinstance") (hm : X.mg "isinstance" = none) (hg2 : Gl X T) (hm2 : X.mg T = none) (hT : bootBuiltins T = some (.type (tyName t))) (ha : AE C X W a ea) (hn : T ≠ "__name__" := by decide) (hd : (T == ("__debug__" : PySem.Str)) = false := by decide)
    (hs : starEach [a, .Name T p2] X.env = (false, eval a X.env) :: starEach [.Name T p2] X.env := by rfl) (hs2 : starEach [.Name T p2] X.env = (false, eval (.Name T p2) X.env) :: starEach [] X.env := by rfl) (hpl : (backTo pos (starEach [.Name T p2] X.env)).any (fun x => x.1) = false := by rfl) :
    AE C X W (.Call (.Name "isinstance" p) [a, .Name T p2] [] pos) (eIsi t ea) :=
  ⟨PE.imp (pe_callB (call_isi.or call_isiX) hg hm (by decide +kernel) (pa_cons ha.pe (pa_cons (pe_bltn (v := .ty (tyName t)) hg2 hm2 hT rfl hn hd) pa_nil hs2) hs) (by decide) (by decide) hs hpl) fun σ H Q w =>
    w1 (R := fun x H1 Q => rIsi X.K [x, .ty (tyName t)] H1 Q ∨ ∃ (a : Addr) (ep : Nat) (xs : List DX) (c : String) (b : Bool), [x, V.ty (tyName t)] = [.ref a, .ty c] ∧ H1 a = some (dxO X.w a ep xs) ∧ kitB "dict" c = some b ∧ Q (.bl b) H1) (fun x h c h' e => by split at e <;> cases e) (fun r h H x x' Q S rx q => by
      split at q
      · rename_i b e
        rcases isTy_ok S rx e with ⟨s, h1, h2⟩ | ⟨a, ep, xs, rfl, h1, h2⟩
        · exact .inl ⟨x', _, _, _, b, rfl, .ty _, h1, kit_ty h2, q r H (Go.refl _ _) S _ rfl⟩
        · exact .inr ⟨a, ep, xs, _, b, rfl, by rw [← hw]; exact h1, h2, q r H (Go.refl _ _) S _ rfl⟩
      · exact q.elim) w⟩
/-- list(range(..)) -/
theorem rng_rel {r : List Addr} (i j : Int) : VRs C r (rng i j) (rgV i j) := by
  unfold rng rgV
  induction List.range (j - i).toNat with
  | nil => exact .nil
  | cons k ks ih => exact .cons rfl ih
theorem wRange {Q : VK} {r : List Addr} {h : MH} {H : Hp} {i j : Int} (S : Sim C X.K r h H) {σ : L2.St} (q : RP C X.K r H (fun r' v _ H' => ∀ z, VR C r' v z → Q z H') (wx C W σ) (if rngOk i && rngOk j then alloc (.lst (rng i j)) h else .stuck)) :
    RgOk i j ∧ ∀ q, H q = none → Q (.ref q) (upd H q (.lst (rgV i j))) := by
  split at q
  · rename_i hh
    obtain ⟨h1, h2⟩ := Bool.and_eq_true_iff.mp hh
    have hl := rng_len h1 h2
    obtain ⟨a1, a2⟩ := rngOk_iff h1
    obtain ⟨b1, b2⟩ := rngOk_iff h2
    refine ⟨⟨a1, a2, b1, b2, Nat.le_trans (m := lim) (by simpa only [rng, List.length_map, List.length_range] using hl) (by decide)⟩, fun p hp => ?_⟩
    obtain ⟨z, zr⟩ := rp_allocL S (rng_rel i j) q hl hp
    exact z _ zr
  · exact q.elim
theorem ae_listRng {p p2 pos2 : Pos} (hc : X.calm = true) (hg : Gl X "list") (hm : X.mg "list" = none) (hg2 : Gl X "range") (hm2 : X.mg "range" = none) (ha : AE C X W a ea) (na : starEach [a] X.env = (false, eval a X.env) :: starEach [] X.env := by rfl)
    (nb : starEach [.Call (.Name "range" p2) [a] [] pos2] X.env = (false, eval (.Call (.Name "range" p2) [a] [] pos2) X.env) :: starEach [] X.env := by rfl) : AE C X W (.Call (.Name "list" p) [.Call (.Name "range" p2) [a] [] pos2] [] pos) (eListRng (eC (.int 0)) ea) :=
  ⟨PE.imp (pe_listRg hc hg hm (prg_1 hg2 hm2 ha.pe na) nb) fun σ H Q ⟨r, ρ, h, S, R, q⟩ => by
    refine ⟨r, ρ, h, S, R, (RP.bind q).imp fun r1 v h1 H1 g1 S1 q2 x rx => ?_⟩
    cases v with
    | int j => exact ⟨j, rx, wRange S1 q2⟩
    | non => exact q2.elim
    | bl _ => exact q2.elim
    | str _ => exact q2.elim
    | ref _ => exact q2.elim
    | scr _ => exact q2.elim⟩
theorem ae_listRng2 {p p2 pos2 : Pos} (hc : X.calm = true) (hg : Gl X "list") (hm : X.mg "list" = none) (hg2 : Gl X "range") (hm2 : X.mg "range" = none) (ha : AE C X W a ea) (hb : AE C X W b eb) (na : starEach [a, b] X.env = (false, eval a X.env) :: starEach [b] X.env := by rfl) (na2 : starEach [b] X.env = (false, eval b X.env) :: starEach [] X.env := by rfl) (na3 : (backTo pos2 (starEach [b] X.env)).any (fun x => x.1) = false := by rfl)
    (nb : starEach [.Call (.Name "range" p2) [a, b] [] pos2] X.env = (false, eval (.Call (.Name "range" p2) [a, b] [] pos2) X.env) :: starEach [] X.env := by rfl) : AE C X W (.Call (.Name "list" p) [.Call (.Name "range" p2) [a, b] [] pos2] [] pos) (eListRng ea eb) :=
  ⟨PE.imp (pe_listRg hc hg hm (prg_2 hg2 hm2 ha.pe hb.pe na na2 na3) nb) fun σ H Q ⟨r, ρ, h, S, R, q⟩ => by
    refine ⟨r, ρ, h, S, R, (RP.bind q).imp fun r1 v h1 H1 g1 S1 q1 x rx => ?_⟩
    refine ⟨r1, ρ, h1, S1, R.up g1.up, (RP.bind q1).imp fun r2 u h2 H2 g2 S2 q2 y ry => ?_⟩
    cases v with
    | int i =>
      cases u with
      | int j => exact ⟨i, j, rx, ry, wRange S2 q2⟩
      | non => exact q2.elim
      | bl _ => exact q2.elim
      | str _ => exact q2.elim
      | ref _ => exact q2.elim
      | scr _ => exact q2.elim
    | non => exact q2.elim
    | bl _ => exact q2.elim
    | str _ => exact q2.elim
    | ref _ => exact q2.elim
    | scr _ => exact q2.elim⟩
/-- o[i] = e -/
theorem as_setIx {o i : Expr} {eo ei : E} {p2 : Pos} (ha : AE C X W a ea) (ho : AE C X W o eo) (hi : AE C X W i ei) (h1 : swapsWithSole [.Subscript o i p2] a pos.line X.env = pure false := by rfl) (h2 : swappedStores [.Subscript o i p2] a X.env = pure none := by rfl) (h3 : (assignEach [.Subscript o i p2] X.env).map (fun x => x.2) = [assign (.Subscript o i p2) X.env] := by rfl)
    (h4 : ∀ v, assign (.Subscript o i p2) X.env v = (do
      let ov ← holding [v] (eval o X.env)
      let iv ← holding [v, ov] (eval i X.env)
      standAt p2
      holding [v, ov, iv] (setItem ov iv v)
      release [v, ov, iv] []) := by intro _; rfl) : AS C X W (.Assign [.Subscript o i p2] a pos) (sSetIx ea eo ei) :=
  ⟨PS.imp (ps_asg ha.pe (pg_sub ho.pe hi.pe set_list h4) h1 h2 h3) fun D σ H ⟨r, ρ, h, S, R, q⟩ => by
    refine ⟨r, ρ, h, S, R, (RP.into R q).imp fun r1 v h1 H1 g1 S1 q1 x rx => ?_⟩
    refine ⟨r1, ρ, h1, S1, R.up g1.up, (RP.into (R.up g1.up) q1).imp fun r2 u h2 H2 g2 S2 q2 y ry => ?_⟩
    refine ⟨r2, ρ, h2, S2, R.up (g1.up.trans g2.up), (RP.into (R.up (g1.up.trans g2.up)) q2).imp fun r3 k h3 H3 g3 S3 q3 z rz => ?_⟩
    split at q3
    · rename_i h4 e
      unfold setIx at e
      split at e
      · rename_i n j
        split at e
        · rename_i xs en
          split at e
          · rename_i m em
            cases e
            obtain ⟨a, ea, rfl⟩ := ry.up g3.up
            cases rz
            obtain ⟨vs, rv, eH⟩ := S3.ob _ _ a en ea
            rw [ixN_eq, rv.length] at em
            exact ⟨a, vs, j, m, rfl, rfl, eH, em, q3 r3 σ _ (Go.write ea) (S3.write ea en ⟨_, Paired.setL (rx.up (g2.up.trans g3.up)) m rv, upd_same⟩ (by have := S3.sz _ _ en; simpa [Obj.len] using this)) (R.up (g1.up.trans (g2.up.trans g3.up)))⟩
          · cases e
        · cases e
      · cases e
    · exact q3.elim⟩
end

/-! ### defs -/
/-- the promise of a def that does what fn does -/
def spF (C : Cc) (K : PySem.W.Frag) (n : Nat) (fn : Fn) : Sp := fun vs H Q E => vs.length = n ∧ ∃ r h ms, Sim C K r h H ∧ VRs C r ms vs ∧
  RP C K r H (fun r' v _ H' => ∀ x, VR C r' v x → Q x H') (fun c _ _ H' => E (.ref (C.exc c)) none H') (fn ms h)
/-- a def of the module that keeps it -/
structure Kno (P : Program) (w : World) (K : PySem.W.Frag) (mg : PySem.Str → Option Value) (base : Heap) (C : Cc) (x : PySem.Str) (n k : Nat) (fn : Fn) : Prop where
  it : ∃ f fd ps, FnOk P w K mg base (L2.CX P w) k f fd ps (spF C K n fn) ∧ mg x = some (.ref f) ∧ PySem.W.keepIn K (.ref f) = true ∧ Binds K fd ps []
theorem Kno.mono {P : Program} {w : World} {K : PySem.W.Frag} {mg : PySem.Str → Option Value} {base : Heap} {C : Cc} {x : PySem.Str} {n j k : Nat} {fn : Fn} (h : Kno P w K mg base C x n j fn) (hk : j ≤ k) : Kno P w K mg base C x n k fn :=
  let ⟨f, fd, ps, a, b, c, d⟩ := h.it; ⟨f, fd, ps, a.mono hk, b, c, d⟩
section
variable {C : Cc} {X : Cx} {W : WX} {a b c : Expr} {ea eb ec : E} {pos : Pos} {es rest : List Expr} {eas : EA} {tg : Expr}
/-- f(..): as many arguments as it has parameters (n written) -/
def LenA (n : Nat) (as : EA) : Prop := ∀ s h xs h', as s h = .ok xs h' → xs.length = n
theorem lenA_nil : LenA 0 aNil := fun s h xs h' e => by cases e; rfl
theorem lenA_cons {n : Nat} {e : E} {as : EA} (h : LenA n as) : LenA (n + 1) (aCons e as) := fun s hh xs h' q => by
  unfold aCons at q
  cases e1 : e s hh with
  | ok v h1 =>
    rw [e1] at q
    simp only [Res.bind_ok] at q
    cases e2 : as s h1 with
    | ok vs h2 =>
      rw [e2] at q
      simp only [Res.bind_ok] at q
      cases q
      simp [h _ _ _ _ e2]
    | exc _ _ => rw [e2] at q; cases q
    | stuck => rw [e2] at q; cases q
  | exc _ _ => rw [e1] at q; cases q
  | stuck => rw [e1] at q; cases q
theorem ae_call {x : PySem.Str} {p : Pos} {n k : Nat} {fn : Fn} (kn : Kno X.prog X.w X.K X.mg X.base C x n k fn) (hr : Room k X.A) (tk : Takes X W) (hg : Gl X x) (hl : LenA n eas) (ha : AA C X W (a :: es) eas) (hdb : (x == ("__debug__" : PySem.Str)) = false := by decide)
    (he : starEach (a :: es) X.env = (false, eval a X.env) :: starEach es X.env := by rfl) (hpl : (backTo pos (starEach es X.env)).any (fun x => x.1) = false := by rfl) : AE C X W (.Call (.Name x p) (a :: es) [] pos) (eCall fn eas) :=
  let ⟨f, fd, ps, F, hm, hk, hb⟩ := kn.it
  ⟨PE.imp (pe_callS F hr hg hm hk hb (fun σ => passAt tk σ) ha.pa hdb he hpl) fun σ H Q ⟨r, ρ, h, S, R, q⟩ => by
    refine ⟨r, ρ, h, S, R, ?_⟩
    have q1 := RP.bind q
    cases e : eas ρ h with
    | ok xs h1 =>
      rw [e] at q1
      intro r' H' g S' y ry
      have q2 := q1 r' H' g S'
      exact ⟨by rw [← ry.length]; exact hl _ _ _ _ e, r', h1, xs, S', ry, q2⟩
    | exc c h1 => rw [e] at q1; exact q1
    | stuck => rw [e] at q1; exact q1⟩
/-- a def without parameters -/
theorem ae_call0 {x : PySem.Str} {p : Pos} {k : Nat} {fn : Fn} (kn : Kno X.prog X.w X.K X.mg X.base C x 0 k fn) (hr : Room k X.A) (tk : Takes X (fun cls d _ H => False)) (hg : Gl X x) (hdb : (x == ("__debug__" : PySem.Str)) = false := by decide) : AE C X W (.Call (.Name x p) [] [] pos) (fun s h => (fn [] h).calm) :=
  let ⟨f, fd, ps, F, hm, hk, hb⟩ := kn.it
  ⟨PE.imp (pe_call0 F hr hg hm hk hb .nil (E := E0) (passes_call tk fun _ _ _ _ z => z) hdb) fun σ H Q ⟨r, ρ, h, S, R, q⟩ => by
    refine ⟨rfl, r, h, [], S, .nil, ?_⟩
    exact RP.ofCalm q⟩
/-- raise C('..') -/
theorem as_raise {x m : PySem.Str} {j : Nat} {p p2 pos' : Pos} (k : Nat) (hc : X.calm = true) (tk : Takes X W) (q : PySem.W.excIn X.K (C.exc k) [.type "ValueError", .type "Exception", .type "BaseException", .type "object"] "ValueError.__new__" = true) (gC : X.mg x = some (.ref (C.exc k))) (kC : PySem.W.keepIn X.K (.ref (C.exc k)) = true)
    (h1 : PySem.W.subIn X.K (.ref (C.exc k)) (.type "BaseException") = some true) (h2 : PySem.W.typeIn X.K (.ref (C.exc k)) = some (.type "type")) (hg : Gl X x) (hdb : (x == ("__debug__" : PySem.Str)) = false := by decide) :
    AS C X W (.Raise (some (.Call (.Name x p) [.Constant (.str m) j p2] [] pos')) none pos) (sRaise k) :=
  ⟨PS.imp (ps_raise hc tk (pmk_own PySem.F.excBase_ValueError q gC kC (raises_own h1 h2) hg hdb)) fun D σ H ⟨r, ρ, h, S, R, z⟩ => z r σ H (Go.refl _ _) S R⟩
end
/-- what leaves a def -/
abbrev WD (E : XK) : WX := fun cls d _ H => E cls d H
theorem fBody_len {n k : Nat} {m : S} {ms : List MV} {h : MH} (e : fBody n k m ms h ≠ .stuck) : ms.length = n := by
  unfold fBody at e
  split at e
  · assumption
  · exact (e rfl).elim
theorem er_start {C : Cc} {r : List Addr} {ms : List MV} {vs : List V} {N : List PySem.Str} {k : Nat} (rv : VRs C r ms vs) (hk : N.length = k) : ER C r (ms.map some ++ List.replicate (k - ms.length) none) (L2.start N vs) := by
  subst hk
  unfold L2.start
  rw [rv.length]
  refine Paired.app ?_ ?_
  · induction rv with
    | nil => exact .nil
    | cons a _ ih => exact .cons ⟨_, rfl, a⟩ ih
  · induction (N.length - vs.length) with
    | zero => exact .nil
    | succ n ih => exact .cons rfl ih
open PyProof.Rows in
/-- THE RULE for a def -/
theorem fn_def {P : Program} {w : World} {K : PySem.W.Frag} {mg : PySem.Str → Option Value} {base : Heap} {C : Cc} {x qual : PySem.Str} {st : Stmt} {f : Addr} {fd : FuncData} {N ps : List PySem.Str} {n k m : Nat} {b : S} (F : FunD K x qual (defArgs st) (defBody st) (defScope st) [] [] f fd) (Sc : FnScope N ps (defScope st))
    (hn : ps.length = n) (hk : N.length = k)
    (body : ∀ (cdv : Value) (A : Around) (outer : List PySem.Env) (s : Shared) (H : Hp) (E : XK), Room m (A.deeper (envOfC qual (defScope st) s.heap.objs.size f cdv)) →
      ASs C (cxOf (L2.CX P w) P w K mg base N qual (defScope st) f cdv A outer s H E) (WD E) (defBody st) b) : FnOk P w K mg base (L2.CX P w) (m + 1) f fd ps (spF C K n (fBody n k b)) :=
  F.ok Sc (fun vs H Q E h => by rw [h.1, hn]) (fun cdv A outer s H vs Q E hr h => ⟨_, (body cdv A outer s H E hr).ps, by
    obtain ⟨hl, r, h0, ms, S, rv, q⟩ := h
    have hms : ms.length = n := by rw [rv.length]; exact hl
    refine ⟨r, ms.map some ++ List.replicate (k - ms.length) none, h0, S, er_start rv hk, ?_⟩
    unfold fBody at q
    rw [if_pos hms] at q
    rw [hms]
    revert q
    cases b (ms.map some ++ List.replicate (k - n) none) h0 with
    | nx ρ h1 => exact fun q r' σ H' g S' R' => q r' H' g S' _ rfl
    | rt v h1 => exact fun q r' H' g S' x rx => q r' H' g S' x rx
    | exc c ρ h1 => exact fun q r' σ H' g S' R' => q r' H' g S'
    | bk _ _ => exact fun q => q.elim
    | ct _ _ => exact fun q => q.elim
    | stuck => exact fun q => q.elim⟩)
/-- a def that stands under its name -/
def Std (K : PySem.W.Frag) (mg : PySem.Str → Option Value) (x : PySem.Str) (st : Stmt) : Prop := ∃ f fd, FunD K x x (defArgs st) (defBody st) (defScope st) [] [] f fd ∧ mg x = some (.ref f)
open PyProof.Rows in
theorem kno_def {P : Program} {w : World} {K : PySem.W.Frag} {mg : PySem.Str → Option Value} {base : Heap} {C : Cc} {x : PySem.Str} {st : Stmt} (N ps : List PySem.Str) {n k : Nat} (m : Nat) {b : S} (F : Std K mg x st) (Sc : FnScope N ps (defScope st))
    (hb : ∀ (kV doc pm : Value) (an : Option Addr) (cdv ct : Value) (us : List Value), us.length = ps.length → bindArgs (PySem.W.fnOf x x (defArgs st) (defBody st) (defScope st) .none kV doc pm an cdv ct) ⟨us, []⟩ = pure (ps.zip us))
    (hn : ps.length = n) (hk : N.length = k)
    (body : ∀ (f : Addr) (cdv : Value) (A : Around) (outer : List PySem.Env) (s : Shared) (H : Hp) (E : XK), Room m (A.deeper (envOfC x (defScope st) s.heap.objs.size f cdv)) →
      ASs C (cxOf (L2.CX P w) P w K mg base N x (defScope st) f cdv A outer s H E) (WD E) (defBody st) b) : Kno P w K mg base C x n (m + 1) (fBody n k b) :=
  let ⟨f, fd, D, hm⟩ := F
  ⟨f, fd, ps, fn_def D Sc hn hk (body f), hm, D.kp, D.bindsN hb⟩
theorem as_stuck {C : Cc} {X : Cx} {W : WX} {ss : List Stmt} : ASs C X W ss (fun _ _ => .stuck) :=
  ⟨⟨fun pins s σ H D I ⟨r, ρ, h, S, R, q⟩ => q.elim⟩⟩
theorem fBody_stuck (n k : Nat) : fBody n k (fun _ _ => .stuck) = fun _ _ => .stuck := by
  funext vs h
  unfold fBody
  split <;> rfl
theorem kno_stuck {P : Program} {w : World} {K : PySem.W.Frag} {mg : PySem.Str → Option Value} {base : Heap} {C : Cc} {x : PySem.Str} {n k m : Nat} (h : Kno P w K mg base C x n m (fBody n k fun _ _ => .stuck)) : Kno P w K mg base C x n m (fun _ _ => .stuck) := by
  rw [fBody_stuck] at h; exact h
theorem Room.hu {k : Nat} {A : Around} (r : Room k A) : A.units + 64 < cLine := by have := r.un; omega
theorem Room.hu5 {k : Nat} {A : Around} (r : Room k A) : A.units + 65 < cLine := by have := r.un; omega
/-! ### the law -/
/-- the law's promise: it is true of every script -/
def spLaw (K : PySem.W.Frag) (w : World) (exc cls : Nat → Addr) (fld : Nat → PySem.Str) : Sp := fun vs H Q _ => ∃ (a : Addr) (ns : List Int), vs = [.ref a] ∧ ns.length ≤ 63 ∧ Scr ⟨a, ns, exc, cls, fld, w⟩ K H ∧ ∀ H', Q (.bl true) H'
theorem scr_of {a : Addr} {ns : List Int} {K : PySem.W.Frag} {w : World} {exc cls : Nat → Addr} {fld : Nat → PySem.Str} {H : Hp} (o : Only H) (s : SqL K H a (ns.map V.int)) : Scr ⟨a, ns, exc, cls, fld, w⟩ K H := by
  rcases s with (e | ⟨ob, e⟩) | s
  · rcases o a with z | ⟨_, _, z⟩
    · rw [z] at e; cases e
    · rw [z] at e; cases e
  · exact .inl ⟨ob, e⟩
  · exact .inr s
theorem law_fn {P : Program} {w : World} {K : PySem.W.Frag} {mg : PySem.Str → Option Value} {base : Heap} {k : Nat} {f : Addr} {fd : FuncData} {ps : List PySem.Str} {exc cls : Nat → Addr} {fld : Nat → PySem.Str} {fn : Fn} (hps : ps.length = 1)
    (F : ∀ a ns, FnOk P w K mg base (L2.CX P w) k f fd ps (spF ⟨a, ns, exc, cls, fld, w⟩ K 1 fn)) (ht : ∀ ns : List Int, ns.length ≤ 63 → ∃ h, fn [.scr ns] [] = .ok (.bl true) h) : FnOk P w K mg base CX0 k f fd ps (spLaw K w exc cls fld) := by
  refine ⟨fun vs H Q E h => ?_, fun A outer s H args us vs Q E hr e0 hb r h => ?_⟩
  · obtain ⟨a, ns, rfl, _⟩ := h
    rw [hps]; rfl
  · obtain ⟨a, ns, rfl, hl, sc, k⟩ := h
    refine codeAny_mono ((F a ns).run A outer s H args us _ Q (fun _ _ _ => False) hr e0 hb r ⟨rfl, [], [], [.scr ns], ⟨rfl, fun n o b e1 e2 => by simp at e1, fun m n b e1 e2 => by simp at e1, sc, fun n o e => by simp at e, Nat.le_trans hl (by decide)⟩, .cons ⟨rfl, rfl⟩ .nil, ?_⟩) fun r s' hq => ?_
    · obtain ⟨h, e⟩ := ht ns hl
      rw [e]
      intro r' H' g S' x rx
      cases rx
      exact k H'
    · cases r with
      | error e =>
        obtain ⟨_, _, _, _, _, _, _, _, _, _, _, _, z⟩ := hq
        exact z.elim
      | ok fl => cases fl <;> exact hq
end Mi
set_option linter.all false
set_option maxRecDepth 100000
set_option maxHeartbeats 4000000
/-! sorted(set(xs)) of ints. -/
namespace Mi
open PySem PySem.Spec L2 PyProof.Rows
/-- a set that holds nothing -/
abbrev setO0 (w : World) : PySem.Obj := { cls := .type "set", dict := none, data := .set #[] 0 (.fresh 0 0 (!w.params.followText "set-order")) }
section
variable {P : Program} {w : World} {A : Around} {E : Value → Shared → Prop} {s : Shared}
theorem set_ints {l : Addr} {its : Array Value} (ns : List Int) {Q : Value → Shared → Prop} (hA : A.handled = none) (hL : s.heap.IsList l its) (hI : IntsAre its.toList ns) (hB : ns.length + 1 < scanBound)
    (k : ∀ (g : Heap) (t c : Nat), SetR w g s.heap.objs.size (fun j => decide (j ∈ ns)) c → c ≤ ns.length → (∀ b o, s.heap.get? b = some o → g.get? b = some o) → Q (.ref s.heap.objs.size) { s with heap := g, toks := t }) : wpAny (model P w) A (call (.type "set") [.ref l]) Q E s := by
  have len : its.size = ns.length := (Array.length_toList (xs := its)).symm.trans (IntsAre.length hI)
  obtain ⟨c, tl, hmro⟩ := F.called_set.mro
  have f1 := F.called_set.made; have f2 := F.called_set.sub; have f3 := F.called_set.notType; have f4 := F.called_set.canCreate
  have f5 := F.typeCall_set_1 (.ref l)
  refine wpAny_call (codeAny_of_tree ?_); show wpAny _ _ (callAny (.type "set") _) _ _ _
  refine wpAny_pure ⟨Code.quiet_builtin _ (by decide +kernel), codeAny_builtin F.entry_type_call ?_⟩; rw [Around.under_plain (weight_type_call_type "set" [.ref l] []) rfl]
  repeat (any_goals (first | assumption | wp_step))
  refine codeAny_mono (code_set_led1 (.ref l) (E := E) (Q₁ := fun v s1 => v = .ref s.heap.objs.size ∧ s1 = { s with heap := s.heap.push (setO0 w) }) ⟨rfl, rfl⟩) fun r s1 z => ?_
  rcases r with e | fl; · exact z
  cases fl with
  | ret v =>
    obtain ⟨rfl, rfl⟩ := z
    have at0 : (s.heap.push (setO0 w)).get? s.heap.objs.size = some (setO0 w) := Heap.get?_push_size _ rfl
    have ty0 : Shared.TypeIs { s with heap := s.heap.push (setO0 w) } (.ref s.heap.objs.size) "set" := ⟨_, at0, rfl⟩
    have f6 := F.called_set.init.lookup; have f7 := F.called_set.init.bind (.ref s.heap.objs.size)
    repeat (any_goals (first | assumption | wp_step))
    refine codeAny_mono (codeAny_call_builtin (R := wants (fun r s2 => r = .none ∧ ∃ g t c, s2 = { s with heap := g, toks := t } ∧ SetR w g s.heap.objs.size (fun j => decide (j ∈ ns)) c ∧ c ≤ ns.length ∧ (∀ b o, s.heap.get? b = some o → g.get? b = some o)) E) F.called_set.init.plain F.entry_set_init (check_set_init_1 ty0 ?_)) fun r2 s2 z2 => ?_
    · obtain ⟨⟨oc, od, odt, osl⟩, ol, e1, n, e2⟩ := hL
      simp only at e1 e2; subst e1; subst e2
      have ol' : (s.heap.push (setO0 w)).get? l = some { cls := .type "list", dict := od, data := .seq its n, slots := osl } := Heap.get?_push_of_some _ ol
      have g1 := F.sub_list_set; have g2 := F.sub_list_frozenset; have g3 : (Value.type "list" == Value.type "dict") = false := by decide
      have isl : (s.heap.push (setO0 w)).IsList l its := ⟨_, ol', rfl, n, rfl⟩
      unfold Builtin.«set.__init__» noKeywords Builtin.Frozenset.updateFrom
      generalize hPI : pyIter = PI
      wp_walk
      subst hPI
      refine wpAny_pyIter_list isl ?_; refine wpAny_bind (wpAny_runValue ?_)
      have lS := Heap.lt_size ol
      have sz : (s.heap.push (setO0 w)).objs.size = s.heap.objs.size + 1 := Heap.size_push ..
      have nI : l ≠ (s.heap.push (setO0 w)).objs.size := by rw [sz]; exact Nat.ne_of_lt (Nat.lt_succ_of_lt lS)
      have nS : s.heap.objs.size ∉ [(s.heap.push (setO0 w)).objs.size, l] := by rw [sz]; simp only [List.mem_cons, List.not_mem_nil, or_false, not_or]; exact ⟨Nat.ne_of_lt (Nat.lt_succ_self _), Nat.ne_of_gt lS⟩
      have val : ∀ (i : Nat) (v : Value), its[i]? = some v → ∃ k t, ns[i]? = some k ∧ v = .int k t := fun i v e => by
        obtain ⟨li, _⟩ := Array.getElem?_eq_some_iff.mp e
        obtain ⟨t, q⟩ := PyProof.Rows.IntsAre.int_at hI i v ((Array.getElem?_toList ..).trans e)
        rw [len] at li
        refine ⟨ns[i], t, List.getElem?_eq_getElem li, q.trans ?_⟩
        rw [List.getD_eq_getElem?_getD, List.getElem?_eq_getElem li] <;> rfl
      refine set_update_ints ((Walks.list (by simp [hA]) _ l nI its).toS) s.heap.objs.size nS ns len hB val (its.size - 0) 0 _ (by omega) (Nat.zero_le _) ⟨⟨_, Heap.get?_push_size _ rfl, rfl, rfl⟩, (isl.push _)⟩ ⟨0, Nat.le_refl 0, setR_new_at (Heap.get?_push_of_some _ at0)⟩ fun s' c' mv lc r' => ?_
      obtain ⟨g, x2, x3, t, x5⟩ := s'
      have y1 : x2 = s.gens := mv.gens; have y2 : x3 = s.drawn := mv.drawn; have y3 : x5 = s.os := mv.os
      subst y1; subst y2; subst y3
      show wpAny _ _ _ _ _ _
      refine wpAny_pure ?_
      show wpAny _ _ (ret Value.none) _ _ _
      refine wpAny_pure ⟨rfl, g, t, c', rfl, r', by omega, fun b o e => mv.heap b o ?_ (Heap.get?_push_of_some _ (Heap.get?_push_of_some _ e))⟩
      have lb := Heap.lt_size e
      rw [sz]; simp only [List.mem_cons, List.not_mem_nil, or_false, not_or]; exact ⟨Nat.ne_of_lt lb, Nat.ne_of_lt (Nat.lt_succ_of_lt lb)⟩
    · rcases r2 with e | fl2; · exact z2
      cases fl2 with
      | ret r =>
        obtain ⟨rfl, g, t, c', rfl, h1, h2, h3⟩ := z2
        repeat (any_goals (first | assumption | wp_step))
        exact k _ _ _ h1 h2 h3
      | _ => exact z2.elim
  | _ => exact z.elim
end
end Mi
set_option linter.all false
set_option maxRecDepth 100000
set_option maxHeartbeats 4000000
namespace Mi
open PySem PySem.Spec L2 PyProof.Rows
theorem insI_mem {x y : Int} : ∀ {l : List Int}, y ∈ insI x l ↔ y = x ∨ y ∈ l
  | [] => by simp [insI]
  | z :: r => by
    unfold insI
    split
    · simp
    · split
      · rename_i e; subst e; simp
      · simp only [List.mem_cons, insI_mem (l := r)]
        constructor
        · rintro (h | h | h)
          · exact .inr (.inl h)
          · exact .inl h
          · exact .inr (.inr h)
        · rintro (h | h | h)
          · exact .inr (.inl h)
          · exact .inl h
          · exact .inr (.inr h)
theorem insI_pw {x : Int} : ∀ {l : List Int}, l.Pairwise (· < ·) → (insI x l).Pairwise (· < ·)
  | [], _ => by simp [insI]
  | z :: r, p => by
    have q := List.pairwise_cons.mp p
    unfold insI
    split
    · rename_i h
      refine List.pairwise_cons.mpr ⟨fun y m => ?_, p⟩
      rcases List.mem_cons.mp m with rfl | m
      · exact h
      · exact Int.lt_trans h (q.1 y m)
    · split
      · exact p
      · rename_i h1 h2
        refine List.pairwise_cons.mpr ⟨fun y m => ?_, insI_pw q.2⟩
        rcases insI_mem.mp m with rfl | m
        · omega
        · exact q.1 y m
theorem sdI_mem {y : Int} : ∀ {l : List Int}, y ∈ sdI l ↔ y ∈ l
  | [] => by simp [sdI]
  | x :: r => by rw [sdI, insI_mem, sdI_mem, List.mem_cons]
theorem sdI_pw : ∀ l : List Int, (sdI l).Pairwise (· < ·)
  | [] => .nil
  | x :: r => insI_pw (sdI_pw r)
theorem pw_ext : ∀ {l m : List Int}, l.Pairwise (· < ·) → m.Pairwise (· < ·) → (∀ x, x ∈ l ↔ x ∈ m) → l = m
  | [], [], _, _, _ => rfl
  | [], y :: m, _, _, h => by have := (h y).mpr (by simp); cases this
  | x :: l, [], _, _, h => by have := (h x).mp (by simp); cases this
  | x :: l, y :: m, p, q, h => by
    have p1 := List.pairwise_cons.mp p
    have q1 := List.pairwise_cons.mp q
    have e : x = y := by
      rcases List.mem_cons.mp ((h x).mp (by simp)) with e | e
      · exact e
      · rcases List.mem_cons.mp ((h y).mpr (by simp)) with e' | e'
        · exact e'.symm
        · have a := q1.1 x e
          have b := p1.1 y e'
          omega
    subst e
    rw [pw_ext p1.2 q1.2 fun z => ?_]
    constructor
    · intro m1
      rcases List.mem_cons.mp ((h z).mp (by simp [m1])) with e | e
      · have := p1.1 z m1; omega
      · exact e
    · intro m1
      rcases List.mem_cons.mp ((h z).mpr (by simp [m1])) with e | e
      · have := q1.1 z m1; omega
      · exact e
theorem nd_pw {l : List Int} (h : l.Pairwise (· < ·)) : l.Nodup := h.imp fun h => by omega
/-- as many as there are unlike ones -/
theorem setR_card {w : World} {h : Heap} {a : Addr} {ns : List Int} {c : Nat} (R : SetR w h a (fun j => decide (j ∈ ns)) c) : c = (sdI ns).length := by
  obtain ⟨o, es, ep, t, _, _, _, _, nd, mm, _, _, e, _⟩ := R
  have p : (es.toList.map keyOf).Perm (sdI ns) := (List.perm_ext_iff_of_nodup nd (nd_pw (sdI_pw ns))).mpr fun k => by
    rw [← mm k, sdI_mem, decide_eq_true_eq]
  have := p.length_eq
  rw [List.length_map, Array.length_toList] at this
  omega
def rSetI (K : PySem.W.Frag) (w : World) : List V → Hp → VK → Prop := fun xs H Q => ∃ (l : Addr) (ns : List Int), xs = [.ref l] ∧ SqL K H l (ns.map V.int) ∧ ns.length ≤ 4000 ∧ ∀ p, H p = none → Q (.ref p) (upd H p (SetO w p (fun j => decide (j ∈ ns)) (sdI ns).length))
theorem cr_setI {X : Cx} (hc : X.calm = true) : CallR X (.type "set") (rSetI X.K X.w) := by
  intro pins s σ H xs us Q I r h
  obtain ⟨l, ns, rfl, hl, hn, q⟩ := h
  rw [Vals.ref1 r]
  obtain ⟨its, rv, pl, _⟩ := I.list hl
  have free : H s.heap.objs.size = none := I.hok.fresh (Nat.le_refl _)
  refine set_ints ns (I.ok.hd hc) pl.isList (by simpa using ints_of_vals rv) (by unfold scanBound; omega) fun g t c R _ k => ?_
  have e := setR_card R
  subst e
  exact ⟨.ref s.heap.objs.size, upd H s.heap.objs.size (SetO X.w s.heap.objs.size (fun j => decide (j ∈ ns)) (sdI ns).length), I.laid (t' := t) k (Nat.le_refl _) (setO_new R), rfl, q _ free⟩
section
variable {C : Cc} {X : Cx} {W : WX} {a : Expr} {ea : E} {pos : Pos}
theorem nox_sortSet (x : MV) (h : MH) (c : Nat) (h' : MH) : sortSet x h ≠ .exc c h' := fun e => by
  unfold sortSet at e
  split at e
  · split at e
    · split at e
      · exact nox_alloc e
      · cases e
    · cases e
  · cases e
theorem ae_sortSet {p p2 pos2 : Pos} (hc : X.calm = true) (hg : Gl X "sorted") (hm : X.mg "sorted" = none) (hg2 : Gl X "set") (hm2 : X.mg "set" = none) (ha : AE C X W a ea)
    (na : starEach [a] X.env = (false, eval a X.env) :: starEach [] X.env := by rfl) (nb : starEach [.Call (.Name "set" p2) [a] [] pos2] X.env = (false, eval (.Call (.Name "set" p2) [a] [] pos2) X.env) :: starEach [] X.env := by rfl) :
    AE C X W (.Call (.Name "sorted" p) [.Call (.Name "set" p2) [a] [] pos2] [] pos) (eSortSet ea) :=
  ⟨PE.imp (pe_callB (cr_sortedSet hc) hg hm (by decide +kernel) (pa_cons (pe_callTy (cr_setI hc) hg2 hm2 (by decide +kernel) (pa_cons ha.pe pa_nil na) (by decide) (by decide) na rfl) pa_nil nb) (by decide) (by decide) nb rfl) fun σ H Q w => by
    refine w1 (f := sortSet) (R := fun x H1 Q => tCB (rSortedSet X.w) (tCons (tCB (rSetI X.K X.w) fun σ H Q => Q [x] H) tNil) σ H1 Q) nox_sortSet (fun r h H x x' Q S rx q => ?_) w
    unfold sortSet at q
    split at q
    · rename_i xs ei
      split at q
      · rename_i ns ea
        split at q
        · rename_i hl
          obtain ⟨l, vs, rfl, rvs, hq⟩ := isL_seq S rx ei
          rw [asInts_map ea] at rvs
          rw [vrs_ints rvs] at hq
          refine ⟨l, ns, rfl, hq, hl.1, fun p hp => ⟨p, _, _, rfl, upd_same, hl.2, fun ns' p' pw mm _ hp' => ?_⟩⟩
          have e : ns' = sdI ns := pw_ext pw (sdI_pw ns) fun z => by rw [mm z, sdI_mem, decide_eq_true_eq]
          subst e
          have q' : RP C X.K r (upd H p (SetO X.w p (fun j => decide (j ∈ ns)) (sdI ns).length)) (fun r' v _ H' => ∀ z, VR C r' v z → Q z H') noEx (alloc (.lst ((sdI ns).map .int)) h) :=
            RP.go (Go.aside hp) q (fun _ _ _ _ _ z => z) (fun _ _ _ _ _ z => z)
          obtain ⟨z, zr⟩ := rp_allocL (S.aside hp _) (VRs.ints (sdI ns)) q' (by rw [List.length_map]; exact Nat.le_trans (Nat.le_of_lt hl.2) (by decide)) hp'
          exact z _ zr
        · exact q.elim
      · exact q.elim
    · exact q.elim⟩
end
end Mi
set_option linter.all false
set_option maxRecDepth 100000
set_option maxHeartbeats 4000000
/-! sorted(set(xs)) of texts. -/
namespace Mi
open PySem PySem.Spec L2 PyProof.Rows
abbrev tK (P : Program) (w : World) := PySem.strKind P w
def txOf (e : Int × Value) : PySem.Str := match e.2 with | .str x _ => x | _ => ⟨#[]⟩
def GoodT (w : World) (e : Int × Value) : Prop := ∃ x tk, e.2 = Value.str x tk ∧ e.1 = hashStr w x
abbrev Texts (l : List (Int × Value)) : List PySem.Str := l.map txOf
/-- a set of texts: S those in it, n their number -/
def SetX (w : World) (h : Heap) (a : Addr) (S : PySem.Str → Bool) (n : Nat) : Prop :=
  ∃ (o : PySem.Obj) (es : Array (Int × Value)) (ep : Nat) (t : SetTable), h.get? a = some o ∧ o.ExactSet ∧ o.data = .set es ep t ∧ (∀ e ∈ es.toList, GoodT w e) ∧ (Texts es.toList).Nodup ∧ (∀ k, S k = true ↔ k ∈ Texts es.toList) ∧ es.size < scanBound ∧ t.fits es.size = true ∧ es.size = n ∧ Ris t.place.toList ∧ (w.params.followText "set-order" = true ∨ t.led = true)
section
variable {P : Program} {w : World} {h h' : Heap} {a : Addr} {S : PySem.Str → Bool} {n : Nat}
theorem SetX.to (R : SetX w h a S n) (k : ∀ o, h.get? a = some o → h'.get? a = some o) : SetX w h' a S n := let ⟨o, es, ep, t, g, r⟩ := R; ⟨o, es, ep, t, k o g, r⟩
theorem SetX.same {S' : PySem.Str → Bool} (R : SetX w h a S n) (e : ∀ k, S' k = S k) : SetX w h a S' n := by rw [show S' = S from funext e]; exact R
theorem goodT_elems {l : List (Int × Value)} (g : ∀ e ∈ l, GoodT w e) : ElemsOf (tK P w) l := fun e he => by
  obtain ⟨x, tk, e1, e2⟩ := g e he
  exact ⟨⟨x, by rw [e1]; exact strKind_is P w x tk, e2⟩, by rw [e1] <;> rfl⟩
theorem goodT_is {e : Int × Value} (g : GoodT w e) (k : PySem.Str) : (tK P w).is k e.2 = true ↔ txOf e = k := by
  obtain ⟨x, tk, e1, _⟩ := g
  unfold txOf
  rw [e1]
  have z := strKind_is P w x tk
  constructor
  · intro y; exact (tK P w).inj _ _ _ z y
  · intro y; subst y; exact z
theorem goodT_mem {l : List (Int × Value)} (g : ∀ e ∈ l, GoodT w e) (k : PySem.Str) : k ∈ Texts l ↔ ∃ e ∈ l, (tK P w).is k e.2 = true := by
  rw [List.mem_map]
  exact ⟨fun ⟨e, m, q⟩ => ⟨e, m, (goodT_is (g e m) k).2 q⟩, fun ⟨e, m, q⟩ => ⟨e, m, (goodT_is (g e m) k).1 q⟩⟩
end
section
variable {P : Program} {w : World} {A : Around} {E : Value → Shared → Prop} {s : Shared} {a : Addr} {S : PySem.Str → Bool} {n : Nat}
theorem put_at {h : Heap} {o : PySem.Obj} {es fs : Array (Int × Value)} {ep : Nat} {t u : SetTable} (g : h.get? a = some o) (e : o.data = .set es ep t) : (h.update a (Obj.putSet fs u)).get? a = some { o with data := .set fs (ep + 1) u } := by
  have q := Heap.get?_update_self (Obj.putSet fs u) g (by rw [putSet_of fs u e]; rfl)
  rw [putSet_of fs u e] at q; exact q
theorem setX_tail {G : Bool → Sem Unit} (hG : ∀ (b : Bool) (s1 : Shared) (Q1 : Unit → Shared → Prop), Q1 () s1 → wpAny (model P w) A (G b) Q1 E s1) {o : PySem.Obj} {es : Array (Int × Value)} {ep : Nat} {t : SetTable} (g : s.heap.get? a = some o) (ex : o.ExactSet) (ed : o.data = .set es ep t)
    {fs : Array (Int × Value)} {u : SetTable} {S' : PySem.Str → Bool} (g1 : ∀ e ∈ fs.toList, GoodT w e) (nd : (Texts fs.toList).Nodup) (mm : ∀ k, S' k = true ↔ k ∈ Texts fs.toList) (hb : fs.size < scanBound) (hf : u.fits fs.size = true) (hr : Ris u.place.toList) (hl : w.params.followText "set-order" = true ∨ u.led = true)
    {wd : Bool} {R : Option Bool → Shared → Prop} (hR : ∀ h1, Heap.SameBut a s.heap h1 → SetX w h1 a S' fs.size → R (some true) { s with heap := h1 }) :
    wpAny (model P w) A (do
      storeSet a fs u
      if (!wd && u.tooFull) = true then do
        G (relayAll u fs (SetTable.grown fs.size)).2.2
        storeSet a (relayAll u fs (SetTable.grown fs.size)).1 (relayAll u fs (SetTable.grown fs.size)).2.1
        pure (some true)
      else pure (some true)) R E s := by
  refine wpAny_bind (wpAny_storeSet_of g ed ?_ (fits_of_scanBound hb))
  have q1 := put_at (fs := fs) (u := u) g ed; have sb := Heap.SameBut.update s.heap a (Obj.putSet fs u)
  split
  · have pm := relayAll_perm u fs (SetTable.grown fs.size); have f3 := relayAll_fits u fs (SetTable.grown fs.size)
    have r3 := relayAll_ris u fs (SetTable.grown fs.size); have l3 := relayAll_led u fs (SetTable.grown fs.size)
    generalize relayAll u fs (SetTable.grown fs.size) = Z at pm f3 r3 l3 ⊢
    obtain ⟨ks, v, gave⟩ := Z
    dsimp only at pm f3 r3 l3 ⊢
    have sz : ks.size = fs.size := by rw [← Array.length_toList, pm.length_eq, Array.length_toList]
    refine wpAny_bind (hG _ _ _ (wpAny_bind (wpAny_storeSet_of q1 rfl ?_ (fits_of_scanBound (by rw [sz]; exact hb)))))
    refine wpAny_pure (hR _ (sb.trans (Heap.SameBut.update _ a _)) ⟨_, ks, _, v, put_at q1 rfl, ex, rfl, fun e m => g1 e (pm.mem_iff.mp m), (pm.map txOf).nodup_iff.mpr nd, fun k => (mm k).trans (pm.map txOf).mem_iff.symm, by rw [sz]; exact hb, f3, sz, r3, hl.imp id fun z => by rw [l3]; exact z⟩)
  · exact wpAny_pure (hR _ sb ⟨_, fs, _, u, q1, ex, rfl, g1, nd, mm, hb, hf, rfl, hr, hl⟩)
theorem setX_add {k : PySem.Str} {tk : Tok} {Q : Bool → Shared → Prop} (R : SetX w s.heap a S n) (room : n + 1 < scanBound)
    (hQ : ∀ h1, Heap.SameBut a s.heap h1 → SetX w h1 a (fun j => S j || decide (j = k)) (if S k = true then n else n + 1) → Q (!S k) { s with heap := h1 }) : wpAny (model P w) A (setAddHashed a (.str k tk) ((tK P w).hash k)) Q E s := by
  obtain ⟨o, es, ep, t, g, ex, ed, gd, nd, mm, hb, hf, hn, hr, hl⟩ := R
  have ik : (tK P w).is k (.str k tk) = true := strKind_is P w k tk
  have sc : (Value.str k tk).scannable = true := rfl
  have el : ElemsOf (tK P w) es.toList := goodT_elems gd
  unfold setAddHashed setAddHashedIn; refine wpAny_holding (wpAny_bind (wpAny_setState_of g ed hf ?_)); dsimp only
  rw [byScan_of sc hb el]; simp only [↓reduceIte]; unfold setAddByScan
  refine wpAny_bind (wpAny_bind (wpAny_rule (wpAny_bind (wpAny_setScan_of ik g ed hf el ?_))))
  cases fi : List.findIdx? (fun e => (tK P w).is k e.2) es.toList with
  | some j =>
    dsimp only
    obtain ⟨hj, pj, _⟩ := List.findIdx?_eq_some_iff_getElem.mp fi
    have Sk : S k = true := (mm k).2 ((goodT_mem (P := P) gd k).2 ⟨es.toList[j], List.getElem_mem hj, pj⟩)
    have q := hQ s.heap (Heap.SameBut.refl a s.heap) ⟨o, es, ep, t, g, ex, ed, gd, nd, fun i => by
      rw [Bool.or_eq_true, decide_eq_true_eq, ← mm i]; exact ⟨fun z => z.elim id fun e => e ▸ Sk, .inl⟩, hb, hf, by rw [if_pos Sk]; exact hn, hr, hl⟩
    rw [Sk] at q; exact wpAny_pure (wpAny_pure q)
  | none =>
    dsimp only
    have nk : k ∉ Texts es.toList := fun z => by
      obtain ⟨e, m, q⟩ := (goodT_mem (P := P) gd k).1 z
      have c := List.findIdx?_eq_none_iff.mp fi e m
      rw [q] at c; cases c
    have Sk : S k = false := by
      cases q : S k with
      | false => rfl
      | true => exact absurd ((mm k).1 q) nk
    have gw : ∀ (b : Bool) {s1 : Shared} {Q1 : Unit → Shared → Prop}, Q1 () s1 → wpAny (model P w) A (match b with | true => rule "set.scan.the-table-gave-way" | false => pure ()) Q1 E s1 := fun b s1 Q1 q => by cases b <;> first | exact wpAny_pure q | exact wpAny_rule q
    have pm := layNew_perm t es ((tK P w).hash k) (.str k tk); have f1 := layNew_fits t es ((tK P w).hash k) (.str k tk)
    have r1 := layNew_ris t es ((tK P w).hash k) (.str k tk) hr; have l1 := layNew_led t es ((tK P w).hash k) (.str k tk)
    generalize layNew t es ((tK P w).hash k) (.str k tk) = Z at pm f1 r1 l1 ⊢
    obtain ⟨fs, u, wd, gave⟩ := Z
    dsimp only at pm f1 r1 l1 ⊢
    rw [Array.toList_push] at pm
    have pc : fs.toList.Perm (((tK P w).hash k, Value.str k tk) :: es.toList) := pm.trans (List.perm_append_singleton _ _)
    have pk : (Texts fs.toList).Perm (k :: Texts es.toList) := pc.map txOf
    have g1 : ∀ e ∈ fs.toList, GoodT w e := fun e m => by
      rcases List.mem_cons.mp (pc.mem_iff.mp m) with z | z
      · rw [z]; exact ⟨k, tk, rfl, rfl⟩
      · exact gd e z
    have nd1 : (Texts fs.toList).Nodup := pk.nodup_iff.mpr (List.nodup_cons.mpr ⟨nk, nd⟩)
    have m1 : ∀ i, (S i || decide (i = k)) = true ↔ i ∈ Texts fs.toList := fun i => by
      rw [Bool.or_eq_true, decide_eq_true_eq, mm i, pk.mem_iff, List.mem_cons]; exact Or.comm
    have sz : fs.size = n + 1 := by rw [← Array.length_toList, pc.length_eq, List.length_cons, Array.length_toList, hn]
    have hb1 : fs.size < scanBound := by rw [sz]; exact room
    have led : w.params.followText "set-order" = true ∨ u.led = true := hl.imp id fun z => by rw [l1]; exact z
    have fin : ∀ h1, Heap.SameBut a s.heap h1 → SetX w h1 a (fun j => S j || decide (j = k)) fs.size → Q true { s with heap := h1 } := fun h1 sb r => by
      have q := hQ h1 sb; rw [Sk] at q; rw [sz] at r; exact q r
    refine wpAny_bind (gw _ ?_)
    split
    · refine wpAny_bind ?_; rw [hashByValue_scannable 8 sc]; refine wpAny_pure ?_
      refine setX_tail (fun b s1 Q1 q => ?_) g ex ed g1 nd1 m1 hb1 ?_ ?_ ?_ fun h1 sb r => ?_
      · cases b <;> first | exact wpAny_pure q | exact wpAny_rule q
      · first | (split <;> first | exact f1 | exact SetTable.fits_plain_off f1) | exact f1
      · first | (split <;> exact r1) | exact r1
      · first | (split <;> exact led) | exact led
      · dsimp only; exact wpAny_pure (fin h1 sb r)
    · refine wpAny_bind (wpAny_pure ?_); simp only [↓reduceIte]
      refine setX_tail (fun b s1 Q1 q => ?_) g ex ed g1 nd1 m1 hb1 f1 r1 led fun h1 sb r => ?_
      · cases b <;> first | exact wpAny_pure q | exact wpAny_rule q
      · dsimp only; exact wpAny_pure (fin h1 sb r)
theorem upd_txs {I : Addr} {fp wr : List Addr} {G : Array GenState → Array GenState → Prop} {n : Nat} {Pv : Nat → Value → Prop} {St : Nat → Shared → Prop} {R : Result → Shared → Prop} (W : WalksS P w A.in1 I fp wr G n Pv St) (D : Addr) (hD : D ∉ fp) (xs : List PySem.Str) (hn : n = xs.length) (hb : xs.length + 1 < scanBound)
    (val : ∀ i v, Pv i v → ∃ x t, xs[i]? = some x ∧ v = .str x t) : ∀ (k i : Nat) (s : Shared), n - i = k → i ≤ n → St i s → (∃ c, c ≤ i ∧ SetX w s.heap D (fun j => decide (j ∈ xs.take i)) c) →
      (∀ s1 c, Moved (D :: wr) G s s1 → c ≤ n → SetX w s1.heap D (fun j => decide (j ∈ xs)) c → R (.ok (.ret .none)) s1) → codeAny (model P w) A (.builtin "set.update.loop" ⟨[.ref D, .ref I], []⟩) R s := by
  have nw : D ∉ wr := fun z => hD (W.sub _ z)
  have sub : ∀ b ∈ wr, b ∈ D :: wr := fun b hb => List.mem_cons_of_mem _ hb
  intro k
  induction k with
  | zero =>
    intro i s e hi st ⟨c, hc, r⟩ hR
    obtain rfl : i = n := by omega
    refine codeAny_builtin F.entry_set_update_loop ?_; rw [Around.under_plainId F.plain_set_update_loop _]; show wpAny _ A.in1 (pyNext (.ref I) >>= _) _ _ s
    refine wpAny_bind (W.done s _ _ st fun s1 mv => ?_); show wpAny _ A.in1 (ret Value.none) _ _ s1
    rw [List.take_of_length_le (Nat.le_of_eq hn.symm)] at r
    exact wpAny_pure (hR s1 c (mv.mono sub) hc (r.to fun o e => mv.heap D o nw e))
  | succ k ih =>
    intro i s e hi st ⟨c, hc, r⟩ hR
    have lt : i < n := by omega
    refine codeAny_builtin F.entry_set_update_loop ?_; rw [Around.under_plainId F.plain_set_update_loop _]; show wpAny _ A.in1 (pyNext (.ref I) >>= _) _ _ s
    refine wpAny_bind (W.item i s _ _ lt st fun v s1 pv st1 mv => ?_)
    obtain ⟨x, t, ex, rfl⟩ := val i v pv
    have r1 : SetX w s1.heap D (fun j => decide (j ∈ xs.take i)) c := r.to fun o e => mv.heap D o nw e
    show wpAny _ A.in1 (holding [Value.str x t] (setAdd D (.str x t)) >>= _) _ _ s1
    refine wpAny_bind (wpAny_holding ?_); unfold setAdd; refine wpAny_holding (wpAny_bind ((tK P w).pyHash (k := x) (strKind_is _ _ _ _) ?_))
    refine setX_add (s := { s1 with toks := s1.toks + 1 }) r1 (by omega) fun h1 sb r2 => ?_
    have r3 : SetX w h1 D (fun j => decide (j ∈ xs.take (i + 1))) (if decide (x ∈ xs.take i) = true then c else c + 1) := r2.same fun j => by rw [List.take_add_one, ex]; simp [List.mem_append]
    have c3 : (if decide (x ∈ xs.take i) = true then c else c + 1) ≤ i + 1 := by split <;> omega
    refine wpAny_pure ⟨plainId_quiet F.plain_set_update_loop _, ih (i + 1) _ (by omega) lt (W.frame _ s1 _ _ st1 (Nat.le_succ _) fun b hb o e => ?_) ⟨_, c3, r3⟩ fun s2 c2 mv2 hc2 r4 => hR s2 c2 (Moved.trans W.gtrans ((mv.mono sub).then_heap (Nat.le_succ _) fun b o hb e => ?_) mv2) hc2 r4⟩
    · rw [sb.2 b fun z : b = D => hD (z ▸ hb)]; exact e
    · rw [sb.2 b fun z : b = D => hb (z ▸ List.mem_cons_self)]; exact e
theorem setX_new {h : Heap} {xs : List PySem.Str} (g : h.get? a = some (setO0 w)) : SetX w h a (fun j => decide (j ∈ xs.take 0)) 0 :=
  ⟨_, #[], 0, _, g, ⟨rfl, rfl, rfl⟩, rfl, fun e m => by simp at m, by simp [Texts], fun k => by simp [Texts], by decide, by rfl, rfl, List.Pairwise.nil, by
    show _ ∨ (!w.params.followText "set-order") = true
    cases w.params.followText "set-order" <;> simp⟩
end
end Mi
namespace Mi
open PySem PySem.Spec L2 PyProof.Rows
section
variable {P : Program} {w : World} {A : Around} {E : Value → Shared → Prop} {s : Shared}
theorem set_txs {l : Addr} {its : Array Value} (xs : List PySem.Str) {Q : Value → Shared → Prop} (hA : A.handled = none) (hL : s.heap.IsList l its) (len : its.size = xs.length) (val : ∀ (i : Nat) (v : Value), its[i]? = some v → ∃ x t, xs[i]? = some x ∧ v = .str x t) (hB : xs.length + 1 < scanBound)
    (k : ∀ (g : Heap) (t c : Nat), SetX w g s.heap.objs.size (fun j => decide (j ∈ xs)) c → (∀ b o, s.heap.get? b = some o → g.get? b = some o) → Q (.ref s.heap.objs.size) { s with heap := g, toks := t }) : wpAny (model P w) A (call (.type "set") [.ref l]) Q E s := by
  obtain ⟨c, tl, hmro⟩ := F.called_set.mro
  have f1 := F.called_set.made; have f2 := F.called_set.sub; have f3 := F.called_set.notType; have f4 := F.called_set.canCreate
  have f5 := F.typeCall_set_1 (.ref l)
  refine wpAny_call (codeAny_of_tree ?_); show wpAny _ _ (callAny (.type "set") _) _ _ _
  refine wpAny_pure ⟨Code.quiet_builtin _ (by decide +kernel), codeAny_builtin F.entry_type_call ?_⟩; rw [Around.under_plain (weight_type_call_type "set" [.ref l] []) rfl]
  repeat (any_goals (first | assumption | wp_step))
  refine codeAny_mono (code_set_led1 (.ref l) (E := E) (Q₁ := fun v s1 => v = .ref s.heap.objs.size ∧ s1 = { s with heap := s.heap.push (setO0 w) }) ⟨rfl, rfl⟩) fun r s1 z => ?_
  rcases r with e | fl; · exact z
  cases fl with
  | ret v =>
    obtain ⟨rfl, rfl⟩ := z
    have at0 : (s.heap.push (setO0 w)).get? s.heap.objs.size = some (setO0 w) := Heap.get?_push_size _ rfl
    have ty0 : Shared.TypeIs { s with heap := s.heap.push (setO0 w) } (.ref s.heap.objs.size) "set" := ⟨_, at0, rfl⟩
    have f6 := F.called_set.init.lookup; have f7 := F.called_set.init.bind (.ref s.heap.objs.size)
    repeat (any_goals (first | assumption | wp_step))
    refine codeAny_mono (codeAny_call_builtin (R := wants (fun r s2 => r = .none ∧ ∃ g t c, s2 = { s with heap := g, toks := t } ∧ SetX w g s.heap.objs.size (fun j => decide (j ∈ xs)) c ∧ (∀ b o, s.heap.get? b = some o → g.get? b = some o)) E) F.called_set.init.plain F.entry_set_init (check_set_init_1 ty0 ?_)) fun r2 s2 z2 => ?_
    · obtain ⟨⟨oc, od, odt, osl⟩, ol, e1, n, e2⟩ := hL
      simp only at e1 e2; subst e1; subst e2
      have ol' : (s.heap.push (setO0 w)).get? l = some { cls := .type "list", dict := od, data := .seq its n, slots := osl } := Heap.get?_push_of_some _ ol
      have g1 := F.sub_list_set; have g2 := F.sub_list_frozenset; have g3 : (Value.type "list" == Value.type "dict") = false := by decide
      have isl : (s.heap.push (setO0 w)).IsList l its := ⟨_, ol', rfl, n, rfl⟩
      unfold Builtin.«set.__init__» noKeywords Builtin.Frozenset.updateFrom
      generalize hPI : pyIter = PI
      wp_walk
      subst hPI
      refine wpAny_pyIter_list isl ?_; refine wpAny_bind (wpAny_runValue ?_)
      have lS := Heap.lt_size ol
      have sz : (s.heap.push (setO0 w)).objs.size = s.heap.objs.size + 1 := Heap.size_push ..
      have nI : l ≠ (s.heap.push (setO0 w)).objs.size := by rw [sz]; exact Nat.ne_of_lt (Nat.lt_succ_of_lt lS)
      have nS : s.heap.objs.size ∉ [(s.heap.push (setO0 w)).objs.size, l] := by rw [sz]; simp only [List.mem_cons, List.not_mem_nil, or_false, not_or]; exact ⟨Nat.ne_of_lt (Nat.lt_succ_self _), Nat.ne_of_gt lS⟩
      refine upd_txs ((Walks.list (by simp [hA]) _ l nI its).toS) s.heap.objs.size nS xs len hB val (its.size - 0) 0 _ (by omega) (Nat.zero_le _) ⟨⟨_, Heap.get?_push_size _ rfl, rfl, rfl⟩, (isl.push _)⟩ ⟨0, Nat.le_refl 0, setX_new (Heap.get?_push_of_some _ at0)⟩ fun s' c' mv lc r' => ?_
      obtain ⟨g, x2, x3, t, x5⟩ := s'
      have y1 : x2 = s.gens := mv.gens; have y2 : x3 = s.drawn := mv.drawn; have y3 : x5 = s.os := mv.os
      subst y1; subst y2; subst y3
      show wpAny _ _ _ _ _ _
      refine wpAny_pure ?_
      show wpAny _ _ (ret Value.none) _ _ _
      refine wpAny_pure ⟨rfl, g, t, c', rfl, r', fun b o e => mv.heap b o ?_ (Heap.get?_push_of_some _ (Heap.get?_push_of_some _ e))⟩
      have lb := Heap.lt_size e
      rw [sz]; simp only [List.mem_cons, List.not_mem_nil, or_false, not_or]; exact ⟨Nat.ne_of_lt lb, Nat.ne_of_lt (Nat.lt_succ_of_lt lb)⟩
    · rcases r2 with e | fl2; · exact z2
      cases fl2 with
      | ret r =>
        obtain ⟨rfl, g, t, c', rfl, h1, h2⟩ := z2
        repeat (any_goals (first | assumption | wp_step))
        exact k _ _ _ h1 h2
      | _ => exact z2.elim
  | _ => exact z.elim
def tx1 (v : Value) : PySem.Str := match v with | .str x _ => x | _ => ⟨#[]⟩
abbrev leX (x y : PySem.Str) : Bool := decide (x.cps.toList ≤ y.cps.toList)
theorem each_txs : ∀ vs : List Value, (∀ v ∈ vs, ∃ x t, v = Value.str x t) → PySem.W.EachIs (fun v (x : PySem.Str) => ∃ t, v = .str x t) vs (vs.map tx1)
  | [], _ => .nil
  | v :: vs, m => by
    obtain ⟨x, t, rfl⟩ := m v (by simp)
    exact .cons ⟨t, rfl⟩ (each_txs vs fun u hu => m u (by simp [hu]))
theorem sorted_setX {a : Addr} {S : PySem.Str → Bool} {n : Nat} {Q : Value → Shared → Prop} (R : SetX w s.heap a S n) (hh : A.handled = none) (hu : A.units + 64 < cLine)
    (hQ : ∀ s1 p (out : List Value) (c : Nat) (xs : List PySem.Str), (∀ b o, s.heap.get? b = some o → s1.heap.get? b = some o) → s1.gens = s.gens → s1.os = s.os → s.heap.objs.size ≤ p → s1.heap.get? p = some (seqObj "list" out.toArray c) → PySem.W.EachIs (fun v (x : PySem.Str) => ∃ t, v = .str x t) out xs →
      xs.Pairwise (fun x y => leX x y = true) → xs.Nodup → (∀ k, k ∈ xs ↔ S k = true) → xs.length = n → n < scanBound → Q (.ref p) s1) : wpAny (model P w) A (call (.builtin "sorted") [.ref a]) Q E s := by
  obtain ⟨o, es, ep, t, g, ex, ed, gd, nd, mm, hb, hf, hn, hr, hl⟩ := R
  refine Calls.call_function_entry kind_sorted plain_sorted entry_sorted (args_sorted1 _) ?_; unfold Builtin.«sorted»
  refine wpAny_bind (m := checkCount "sorted" 1 1 _) (wpAny_pure (wpAny_bind (collect_set (A := A.in1) hh ⟨o, g, ex.1, ed⟩ hf hb hr hl fun s1 vs k1 hz g1 o1 pm => ?_)))
  have lv : vs.length = n := by rw [pm.length_eq, List.length_map, Array.length_toList]; exact hn
  have ev := each_txs vs fun v hv => by
    obtain ⟨e, he, q⟩ := List.mem_map.mp (pm.mem_iff.mp hv)
    obtain ⟨x, tk, e1, _⟩ := gd e he
    exact ⟨x, tk, by rw [← q]; exact e1⟩
  have pk : (vs.map tx1).Perm (Texts es.toList) := by
    have q := pm.map tx1
    rw [List.map_map] at q
    refine q.trans (List.Perm.of_eq (List.map_congr_left fun e m => ?_))
    obtain ⟨x, tk, e1, _⟩ := gd e m
    simp only [Function.comp, txOf, tx1, e1]
  have sl : vs.length ≤ sizeLine := by rw [lv, ← hn]; exact fits_of_scanBound hb
  refine wpAny_bind (wpAny_newList ?_ sl)
  have oL : (s1.heap.push (seqObj "list" vs.toArray 0)).get? s1.heap.objs.size = some (seqObj "list" vs.toArray 0) := Heap.get?_push_size _ rfl
  refine wpAny_bind (wpAny_holding (PySem.W.list_sort_data (β := PySem.Str) (enc := PyData.str) (R := fun v x => ∃ t, v = .str x t) oL ev (ev.mono fun v x ⟨t, e⟩ => ⟨[], by rw [e]; exact .str _ _, by simp⟩) (PySem.W.AllAlike.of fun _ _ => by simp [PySem.W.alike]) (PySem.W.Sortable.others fun _ => ⟨by simp, by simp⟩) (by rw [List.length_map]; exact sl) (fun b _ => ?_) fun out lo eo => ?_))
  · have : (PyData.str b).depth = 0 := by simp [PyData.depth]
    simp only [Around.in1_units]; omega
  obtain ⟨c, hc⟩ := sortedHeap_at (vs := vs) (out := out.toArray) oL
  have el : PySem.W.dataLe false (PyData.str : PySem.Str → PyData) = leX := PySem.W.dataLe_str (fun x : PySem.Str => x)
  rw [el] at eo
  have p2 : ((vs.map tx1).mergeSort leX).Perm (Texts es.toList) := (List.mergeSort_perm _ _).trans pk
  refine wpAny_pure ⟨_, rfl, hQ _ s1.heap.objs.size out c _ (fun b u e => ?_) g1 o1 hz hc eo (List.pairwise_mergeSort (fun x y z h1 h2 => ?_) (fun x y => ?_) _) (p2.nodup_iff.mpr nd) (fun k => by rw [p2.mem_iff, ← mm k]) (by rw [p2.length_eq, List.length_map, Array.length_toList]; exact hn) (by rw [← hn]; exact hb)⟩
  · have q := k1 b u e
    have lt := Heap.lt_size q
    show (sortedHeap (s1.heap.push (seqObj "list" vs.toArray 0)) s1.heap.objs.size vs out.toArray).get? b = some u
    rw [sortedHeap_old (Nat.ne_of_lt lt) (by rw [size_push']; exact Nat.lt_succ_of_lt lt)]
    exact Heap.get?_push_of_some _ q
  · simp only [decide_eq_true_eq] at h1 h2 ⊢; exact List.le_trans h1 h2
  · simp only [Bool.or_eq_true, decide_eq_true_eq]; exact List.le_total _ _
end
/-- the set of texts at a -/
def SetXO (w : World) (a : Addr) (S : PySem.Str → Bool) (n : Nat) : HO := .ext fun h => SetX w h a S n
theorem setXO_new {w : World} {P : Program} {H : Hp} {h : Heap} {a : Addr} {S : PySem.Str → Bool} {n : Nat} (R : SetX w h a S n) : ObjOk P w H h a (SetXO w a S n) := by
  have ⟨o, _, _, _, g, _⟩ := R
  exact ⟨R, ⟨o, g⟩, fun h1 h2 p k => SetX.to p k⟩
theorem setXO_get {X : Cx} {pins : List (Addr × PySem.Obj)} {σ : L2.St} {H : Hp} {s : Shared} {a : Addr} {S : PySem.Str → Bool} {n : Nat} (I : L2.Inv X pins σ H s) (e : H a = some (SetXO X.w a S n)) : SetX X.w s.heap a S n := (I.hok a _ e).1
def rSetX (K : PySem.W.Frag) (w : World) : List V → Hp → VK → Prop := fun vs H Q => ∃ (l : Addr) (xs : List PySem.Str), vs = [V.ref l] ∧ SqL K H l (xs.map V.str) ∧ xs.length ≤ 4000 ∧ ∀ p n, H p = none → Q (.ref p) (upd H p (SetXO w p (fun j => decide (j ∈ xs)) n))
theorem vals_strs : ∀ {xs : List PySem.Str} {us : List Value}, Vals (xs.map V.str) us → ∀ (i : Nat) (v : Value), us[i]? = some v → ∃ x t, xs[i]? = some x ∧ v = .str x t
  | [], _, .nil, i, v, e => by simp at e
  | x :: xs, _, .cons r t, 0, v, e => by
    obtain ⟨k, rfl⟩ := r
    simp at e; exact ⟨x, k, rfl, e.symm⟩
  | x :: xs, _, .cons r t, i + 1, v, e => by simpa using vals_strs t i v (by simpa using e)
theorem cr_setX {X : Cx} (hc : X.calm = true) : CallR X (.type "set") (rSetX X.K X.w) := by
  intro pins s σ H vs us Q I r h
  obtain ⟨l, xs, rfl, hl, hn, q⟩ := h
  rw [Vals.ref1 r]
  obtain ⟨its, rv, pl, _⟩ := I.list hl
  have free : H s.heap.objs.size = none := I.hok.fresh (Nat.le_refl _)
  have ln := rv.length
  rw [List.length_map] at ln
  refine set_txs xs (I.ok.hd hc) pl.isList (by simpa using ln.symm) (fun i v e => vals_strs rv i v (by simpa using e)) (by unfold scanBound; omega) fun g t c R k => ?_
  exact ⟨.ref s.heap.objs.size, upd H s.heap.objs.size (SetXO X.w s.heap.objs.size (fun j => decide (j ∈ xs)) c), I.laid (t' := t) k (Nat.le_refl _) (setXO_new R), rfl, q _ _ free⟩
def rSortedX (w : World) : List V → Hp → VK → Prop := fun vs H Q => ∃ (a : Addr) (S : PySem.Str → Bool) (n : Nat), vs = [V.ref a] ∧ H a = some (SetXO w a S n) ∧
  ∀ (xs : List PySem.Str) (p : Addr), xs.Pairwise (fun x y => leX x y = true) → xs.Nodup → (∀ k, k ∈ xs ↔ S k = true) → H p = none → Q (.ref p) (upd H p (.lst (xs.map V.str)))
theorem each_vals : ∀ {us : List Value} {xs : List PySem.Str}, PySem.W.EachIs (fun v (x : PySem.Str) => ∃ t, v = .str x t) us xs → Vals (xs.map V.str) us
  | _, _, .nil => .nil
  | _, _, .cons ⟨t, e⟩ r => .cons ⟨t, e⟩ (each_vals r)
theorem cr_sortedX {X : Cx} (hc : X.calm = true) (hu : X.A.units + 64 < cLine) : CallR X (.builtin "sorted") (rSortedX X.w) := by
  intro pins s σ H vs us Q I r h
  obtain ⟨a, S, n, rfl, ha, q⟩ := h
  have R := setXO_get I ha
  rw [Vals.ref1 r]
  refine sorted_setX R (I.ok.hd hc) hu fun s1 p out c xs k g o hp hg he hs hnd hm hl hb => ?_
  have hlen : (xs.map V.str).length ≤ sizeLine := by rw [List.length_map, hl]; exact fits_of_scanBound hb
  have free : H p = none := I.hok.fresh hp
  have J : L2.Inv X pins σ (upd H p (.lst (xs.map V.str))) { s with heap := s1.heap, gens := s1.gens, drawn := s1.drawn, toks := s1.toks } := I.call (ch := []) (Un.laid k hp free) (I.hok.laid k hp ⟨hlen, out, c, each_vals he, hg⟩) (by rw [g]; exact I.bare) (fun _ z => nomatch z)
  have e : s1 = { s with heap := s1.heap, gens := s1.gens, drawn := s1.drawn, toks := s1.toks } := by cases s1; cases s; cases o; rfl
  rw [e]; exact ⟨.ref p, _, J, rfl, q xs p hs hnd hm free⟩
end Mi
set_option linter.all false
set_option maxRecDepth 100000
set_option maxHeartbeats 4000000
/-! list(x), x a text. -/
namespace Mi
open PySem PySem.Spec PyProof.Rows
section
variable {P : Program} {w : World} {A : Around} {E : Value → Shared → Prop} {s : Shared}
theorem hint_txt {x : PySem.Str} {t : Tok} {Q : Bool → Shared → Prop} (q : Q false s) : wpAny (model P w) A (Builtin.List.listLengthHint (.str x t)) Q E s := by
  unfold Builtin.List.listLengthHint
  refine wpAny_bind (wpAny_specialOf (typeIs_str _ _ _) PySem.F.slot_str_len.lookup ?_)
  generalize hid : ("str.__len__" : String) = i0; wp_delta
  rw [show splitId i0 = some ("str", "__len__") from by subst hid; decide +kernel]; subst hid
  refine wpAny_bind (wpAny_isInstance (T := "str") (b := true) (typeIs_str _ _ _) (by rw [isSubtype_type]; kernel_rfl) ?_)
  refine wpAny_ite_split (fun z => absurd z (by decide)) fun _ => wpAny_ite_split (fun _ => ?_) fun z => absurd (by decide +kernel) z
  exact wpAny_bind (wpAny_typeOf (typeIs_str _ _ _) (wpAny_pure q))
abbrev lstO (xs : Array Value) (c : Nat) : PySem.Obj := { cls := .type "list", dict := none, data := .seq xs c, slots := #[] }
theorem ext_txt {R : Result → Shared → Prop} {x : PySem.Str} {t : Tok} (hh : A.handled = none) (S : Addr) (c0 : Nat) (hS : s.heap.get? S = some (lstO #[] c0)) (hn : x.cps.size ≤ sizeLine)
    (hR : ∀ h1 tk ys c, (∀ b o, b ≠ S → s.heap.get? b = some o → h1.get? b = some o) → h1.get? S = some (lstO ys c) → ItemsOf (SignAt x) ys x.cps.size → R (.ok (.ret .none)) { s with heap := h1, toks := tk }) :
    wpAny (model P w) A.in1 (Builtin.List.listExtendWith (.ref S) (.str x t) .none) (fun f s1 => match f with | .done f => R (.ok f) s1 | .again c => c.quiet = true ∧ codeAny (model P w) A c R s1) (fun e s1 => R (.error e) s1) s := by
  have nI : S ≠ s.heap.objs.size := Nat.ne_of_lt (Heap.lt_size hS)
  have nF : S ∉ [s.heap.objs.size] := by simpa using nI
  unfold Builtin.List.listExtendWith; refine wpAny_bind (wpAny_typeOf (typeIs_str _ _ _) ?_)
  have e1 : Builtin.List.listSameRef (.ref S) (.str x t) = false := rfl
  have e2 : (Value.type "str" == Value.type "list") = false := by decide
  have e3 : (Value.type "str" == Value.type "tuple") = false := by decide
  simp only [e1, e2, e3, Bool.or_false, Bool.false_eq_true, if_false]
  refine wpAny_bind (wpAny_pyIter_str fun o St hW st => ?_)
  have W := hW A.in1 hh
  have go : ∀ (h1 : Heap) (c1 tk : Nat), St 0 h1 → (∀ b o, b ≠ S → s.heap.get? b = some o → h1.get? b = some o) → h1.get? S = some (lstO #[] c1) →
      codeAny (model P w) A (.builtin "list.extend.loop" ⟨[.ref S, .ref s.heap.objs.size, .none], []⟩) R { s with heap := h1, toks := tk } := fun h1 c1 tk st1 k1 g1 => by
    refine codeAny_extend_loopS W.toS hn S nF .none x.cps.size 0 _ #[] c1 rfl (Nat.zero_le _) st1 g1 (ItemsOf.nil _) fun s2 ys c mv g2 hit => ?_
    rw [Moved.eq_with mv]
    refine hR s2.heap s2.toks ys c (fun b o hb e => mv.heap b o (fun m => ?_) (k1 b o hb e)) g2 hit
    rcases List.mem_cons.mp m with z | m
    · exact hb z
    · exact absurd (Heap.lt_size e) (by rw [List.mem_singleton.mp m]; exact Nat.lt_irrefl _)
  refine wpAny_bind (wpAny_holding (hint_txt ?_))
  have g1 := Heap.get?_push_of_some o hS
  refine wpAny_ite_split (fun z => ?_) fun _ => wpAny_pure ⟨plainId_quiet PySem.F.plain_extend_loop _, go _ c0 _ st (fun b o _ e => Heap.get?_push_of_some _ e) g1⟩
  refine wpAny_bind (wpAny_rule (wpAny_bind ?_)); show wpAny _ _ (updateSeq S (·.push .none) >>= fun _ => updateSeq S (·.pop)) _ _ _
  refine wpAny_bind (wpAny_updateSeq g1 rfl ?_); have g2 := Heap.get?_update_self (Obj.mapSeq (·.push Value.none)) g1 rfl
  refine wpAny_updateSeq (hz := by seq_fits) g2 rfl ?_; have g3 := Heap.get?_update_self (Obj.mapSeq (·.pop)) g2 rfl
  refine wpAny_pure ⟨plainId_quiet PySem.F.plain_extend_loop _, go _ _ _ ?_ (fun b o hb e => ?_) g3⟩
  · refine W.frame 0 _ _ st fun b hb o e => ?_
    have ne : S ≠ b := fun z => nF (z ▸ hb)
    exact (Heap.get?_update_other _ _ ne).trans ((Heap.get?_update_other _ _ ne).trans e)
  · exact (Heap.get?_update_other _ _ (Ne.symm hb)).trans ((Heap.get?_update_other _ _ (Ne.symm hb)).trans (Heap.get?_push_of_some _ e))
theorem list_txt {x : PySem.Str} {t : Tok} {Q : Value → Shared → Prop} (hh : A.handled = none) (hn : x.cps.size ≤ sizeLine)
    (hQ : ∀ h1 tk ys c, (∀ b o, s.heap.get? b = some o → h1.get? b = some o) → h1.get? s.heap.objs.size = some (lstO ys c) → ItemsOf (SignAt x) ys x.cps.size → Q (.ref s.heap.objs.size) { s with heap := h1, toks := tk }) :
    wpAny (model P w) A (call (.type "list") [.str x t]) Q E s := by
  refine callType_codes (Q₁ := fun o s1 => o = .ref s.heap.objs.size ∧ s1 = { s with heap := s.heap.push { cls := .type "list", data := .seq #[] } }) PySem.F.called_list (PySem.F.typeCall_list_1 _) PySem.F.entry_list_init (code_list_new _ ⟨rfl, rfl⟩) fun o s1 z => ?_
  obtain ⟨rfl, rfl⟩ := z
  have g1 : (s.heap.push (lstO #[] 0)).get? s.heap.objs.size = some (lstO #[] 0) := Heap.get?_push_size _ rfl
  refine ⟨⟨_, g1, rfl⟩, PySem.F.args_list_init_2 _ _, ?_⟩
  show wpAny _ A.in1.in1 (do let old ← Builtin.List.listItems (.ref s.heap.objs.size); Builtin.List.listUpdate (.ref s.heap.objs.size) (fun _ => #[]); letGo old.toList.reverse; Builtin.List.listExtendWith (.ref s.heap.objs.size) (.str x t) .none) _ _ _
  refine wpAny_bind ?_; unfold Builtin.List.listItems; refine wpAny_bind (wpAny_seqItems g1 rfl (wpAny_pure ?_))
  show wpAny _ A.in1.in1 (updateSeq s.heap.objs.size (fun _ => #[]) >>= fun _ => letGo (#[] : Array Value).toList.reverse >>= fun _ => Builtin.List.listExtendWith (.ref s.heap.objs.size) (.str x t) .none) _ _ _
  refine wpAny_bind (wpAny_updateSeq g1 rfl ?_); have g2 := Heap.get?_update_self (Obj.mapSeq (fun _ => (#[] : Array Value))) g1 rfl
  obtain ⟨c0, g3⟩ : ∃ c0, (Heap.update (s.heap.push (lstO #[] 0)) s.heap.objs.size (Obj.mapSeq (fun _ => (#[] : Array Value)))).get? s.heap.objs.size = some (lstO #[] c0) := ⟨_, g2⟩
  refine wpAny_bind (wpAny_letGo ?_)
  refine ext_txt (A := A.in1) (R := wants (fun r s2 => r = Value.none ∧ Q (.ref s.heap.objs.size) s2) E) (s := { s with heap := Heap.update (s.heap.push (lstO #[] 0)) s.heap.objs.size (Obj.mapSeq (fun _ => (#[] : Array Value))) }) hh _ c0 g3 hn (fun h1 tk ys c k1 g4 hit => ⟨rfl, hQ h1 tk ys c (fun b o e => ?_) g4 hit⟩)
  have lb := Nat.ne_of_lt (Heap.lt_size e)
  exact k1 b o lb ((Heap.get?_update_other _ _ (Ne.symm lb)).trans (Heap.get?_push_of_some _ e))
end
end Mi
set_option linter.all false
set_option maxRecDepth 100000
set_option maxHeartbeats 4000000
namespace Mi
open PySem PySem.Spec L2 PyProof.Rows
/-! ### the order of data -/
mutual
theorem T.alk_py : ∀ a b : T, PySem.W.alike (T.py a) (T.py b) = T.alk a b
  | .non, b => by cases b <;> simp [T.py, T.alk, PySem.W.alike]
  | .bl _, b => by cases b <;> simp [T.py, T.alk, PySem.W.alike]
  | .int _, b => by cases b <;> simp [T.py, T.alk, PySem.W.alike]
  | .str _, b => by cases b <;> simp [T.py, T.alk, PySem.W.alike]
  | .lst xs, b => by cases b <;> simp [T.py, T.alk, PySem.W.alike, T.alks_py]
  | .tup xs, b => by cases b <;> simp [T.py, T.alk, PySem.W.alike, T.alks_py]
  | .scr _, b => by cases b <;> simp [T.py, T.alk, PySem.W.alike]
  | .dct _ _, b => by cases b <;> simp [T.py, T.alk, PySem.W.alike]
theorem T.alks_py : ∀ a b : List T, PySem.W.alikeAll (T.pys a) (T.pys b) = T.alks a b
  | [], b => by cases b <;> simp [T.pys, T.alks, PySem.W.alikeAll]
  | _ :: _, [] => by simp [T.pys, T.alks, PySem.W.alikeAll]
  | x :: xs, y :: ys => by simp [T.pys, T.alks, PySem.W.alikeAll, T.alk_py x y, T.alks_py xs ys]
end
mutual
theorem T.lt_py : ∀ a b : T, T.alk a b = true → PySem.W.dataLt (T.py a) (T.py b) = T.lt a b
  | .non, b, h => by cases b <;> first | (simp only [T.alk] at h; cases h; done) | rfl
  | .bl x, b, h => by
    cases b with
    | bl y => rw [T.py, T.py, PySem.W.dataLt_bool, T.lt]; cases x <;> cases y <;> decide +kernel
    | _ => simp only [T.alk] at h; cases h
  | .int _, b, h => by
    cases b with
    | int y => rw [T.py, T.py, PySem.W.dataLt_int, T.lt]
    | _ => simp only [T.alk] at h; cases h
  | .str _, b, h => by
    cases b with
    | str y => rw [T.py, T.py, PySem.W.dataLt_str, T.lt, sS_cps, sS_cps]
    | _ => simp only [T.alk] at h; cases h
  | .lst xs, b, h => by
    cases b with
    | lst ys => rw [T.py, T.py, PySem.W.dataLt_list, T.lt]; exact T.lts_py xs ys (by simpa only [T.alk] using h)
    | _ => simp only [T.alk] at h; cases h
  | .tup xs, b, h => by
    cases b with
    | tup ys => rw [T.py, T.py, PySem.W.dataLt_tuple, T.lt]; exact T.lts_py xs ys (by simpa only [T.alk] using h)
    | _ => simp only [T.alk] at h; cases h
  | .scr _, b, h => by cases b <;> (simp only [T.alk] at h; cases h)
  | .dct _ _, b, h => by cases b <;> (simp only [T.alk] at h; cases h)
theorem T.lts_py : ∀ a b : List T, T.alks a b = true → PySem.W.rowLt (T.pys a) (T.pys b) = T.lts a b
  | [], [], _ => by decide +kernel
  | [], y :: ys, _ => by
    rw [T.lts, T.pys, T.pys]
    unfold PySem.W.rowLt
    rw [PySem.W.keyToksAll, PySem.W.keyToksAll]
    rfl
  | x :: xs, [], _ => by
    rw [T.lts, T.pys, T.pys]
    unfold PySem.W.rowLt
    rw [PySem.W.keyToksAll, PySem.W.keyToksAll]
    rfl
  | x :: xs, y :: ys, h => by
    simp only [T.alks, Bool.and_eq_true] at h
    rw [T.lts, T.pys, T.pys]
    unfold PySem.W.rowLt
    rw [PySem.W.dataLt_cons (by rw [T.alk_py]; exact h.1), T.eqv_py, T.lt_py x y h.1]
    split
    · exact T.lts_py xs ys h.2
    · rfl
end
theorem pys_map (ts : List T) : T.pys ts = ts.map T.py := by
  induction ts with
  | nil => rw [T.pys]; rfl
  | cons t ts ih => rw [T.pys, ih]; rfl
theorem canSort_alike {ts : List T} (h : canSort ts = true) : ∀ a ∈ ts, ∀ b ∈ ts, T.alk a b = true := by
  unfold canSort at h
  simp only [Bool.and_eq_true, List.all_eq_true] at h
  exact h.2
theorem canSort_ok {ts : List T} (h : canSort ts = true) : PySem.W.Sortable (ts.map T.py) := by
  unfold canSort at h
  simp only [Bool.and_eq_true, Bool.or_eq_true, List.all_eq_true] at h
  rcases h.1 with k | k
  · refine .inl fun d hd => ?_
    obtain ⟨t, ht, rfl⟩ := List.mem_map.mp hd
    have := k t ht
    unfold T.tupNE at this
    split at this
    · exact ⟨_, _, by rw [T.py, T.pys]⟩
    · cases this
  · refine .inr fun d hd => ?_
    obtain ⟨t, ht, rfl⟩ := List.mem_map.mp hd
    have := k t ht
    cases t <;> simp_all [T.plain, T.py]
def rSortD (K : PySem.W.Frag) : List V → Hp → VK → Prop := fun vs H Q => ∃ (a : Addr) (xs : List V) (ts : List T), vs = [V.ref a] ∧ SqL K H a xs ∧ DpAll K H xs (T.pys ts) ∧ canSort ts = true ∧ (∀ t ∈ ts, (T.py t).depth ≤ 59) ∧
  ∀ p, H p = none → Q (.ref p) (upd H p (.lst (sortP xs ts)))
theorem dpAll_len {K : PySem.W.Frag} {H : Hp} : ∀ {xs : List V} {ds : List PyData}, DpAll K H xs ds → xs.length = ds.length
  | _, _, .nil => rfl
  | _, _, .cons _ t => by simp [dpAll_len t]
theorem each_of_dp {K : PySem.W.Frag} {H : Hp} : ∀ {xs : List V} {ts : List T} {us : List Value}, DpAll K H xs (T.pys ts) → Vals xs us →
    PySem.W.EachIs (fun (v : Value) (b : V × T) => RelV b.1 v ∧ Dp K H b.1 (T.py b.2)) us (xs.zip ts)
  | [], [], _, _, .nil => .nil
  | [], _ :: _, _, h, _ => by rw [T.pys] at h; cases h
  | _ :: _, [], _, h, _ => by rw [T.pys] at h; cases h
  | x :: xs, t :: ts, _, h, .cons r rs => by
    rw [T.pys] at h
    cases h with
    | cons h1 h2 => exact .cons ⟨r, h1⟩ (each_of_dp h2 rs)
theorem vals_of_each {α : Type} {f : α → V} : ∀ {us : List Value} {bs : List α}, PySem.W.EachIs (fun (v : Value) (b : α) => RelV (f b) v) us bs → Vals (bs.map f) us
  | _, _, .nil => .nil
  | _, _, .cons h t => .cons h (vals_of_each t)
theorem cr_sortD {X : Cx} (hu : X.A.units + 64 < cLine) : CallR X (.builtin "sorted") (rSortD X.K) := by
  intro pins s σ H vs us Q I r h
  obtain ⟨a, xs, ts, rfl, hs, hd, hc, hdep, q⟩ := h
  obtain ⟨its, rv, hl, hz⟩ := I.list hs
  rw [Vals.ref1 r]
  have ln : xs.length = ts.length := by rw [dpAll_len hd, pys_map, List.length_map]
  have e0 := each_of_dp hd rv
  have al := canSort_alike hc
  have mm : (xs.zip ts).map (fun b : V × T => T.py b.2) = ts.map T.py := by
    have : (fun b : V × T => T.py b.2) = T.py ∘ Prod.snd := rfl
    rw [this, ← List.map_map, List.map_snd_zip (by omega)]
  refine PySem.W.sorted_data (β := V × T) (enc := fun b => T.py b.2) (R := fun v b => RelV b.1 v) hl.isList (e0.mono fun _ _ z => z.1) (e0.mono fun v b z => Dp.reads I _ _ _ z.2 z.1) ?_ (by rw [mm]; exact canSort_ok hc) (by rw [List.length_zip]; omega) (fun b hb => ?_) fun out ho eo => ?_
  · rw [mm]
    intro d hd d' hd'
    obtain ⟨t, ht, rfl⟩ := List.mem_map.mp hd
    obtain ⟨t', ht', rfl⟩ := List.mem_map.mp hd'
    rw [T.alk_py]; exact al t ht t' ht'
  · have := hdep b.2 (List.of_mem_zip hb).2
    omega
  · have es : (xs.zip ts).mergeSort (PySem.W.dataLe false fun b : V × T => T.py b.2) = (xs.zip ts).mergeSort fun p q => T.le p.2 q.2 := PySem.W.sort_congr fun p hp q hq => by
      rw [PySem.W.dataLe_eq]
      show (!PySem.W.dataLt (T.py q.2) (T.py p.2)) = !T.lt q.2 p.2
      rw [T.lt_py _ _ (al _ (List.of_mem_zip hq).2 _ (List.of_mem_zip hp).2)]
    rw [es] at eo
    have rv2 := vals_of_each (f := Prod.fst) eo
    obtain ⟨ep, he'⟩ := PyProof.Rows.sortedAll_at s.heap its (List.toArray out)
    have hlen : (sortP xs ts).length ≤ sizeLine := by
      unfold sortP
      rw [List.length_map, List.length_mergeSort, List.length_zip]; omega
    exact ⟨.ref _, upd H (s.heap.objs.size + 1) (.lst (sortP xs ts)), I.laid (t' := s.toks) (fun _ _ => PyProof.Rows.sortedAll_old) (Nat.le_succ _) ⟨hlen, out, ep, rv2, he'⟩, rfl, q _ (I.hok.fresh (Nat.le_succ _))⟩
theorem noxf_sorted : NoXF fSorted := fun x h c h' e => by
  unfold fSorted at e
  split at e
  · split at e
    · split at e
      · split at e
        · exact nox_alloc e
        · cases e
      · cases e
    · cases e
  · cases e
theorem depth_all {t : T} {ts : List T} (h : t ∈ ts) : (T.py t).depth ≤ PyData.depthAll (T.pys ts) := by
  induction ts with
  | nil => cases h
  | cons x xs ih =>
    rw [T.pys, PyData.depthAll]
    rcases List.mem_cons.mp h with e | h
    · rw [e]; omega
    · have := ih h; omega
theorem VRs.zipP {C : Cc} {r : List Addr} : ∀ {xs : List MV} {ys : List V} {ts : List T}, VRs C r xs ys → Paired (fun (p : MV × T) (q : V × T) => VR C r p.1 q.1 ∧ p.2 = q.2) (xs.zip ts) (ys.zip ts)
  | _, _, [], .nil => .nil
  | _, _, _ :: _, .nil => .nil
  | _, _, [], .cons _ _ => .nil
  | _, _, _ :: _, .cons a t => .cons ⟨a, rfl⟩ (VRs.zipP t)
theorem paired_each {α β : Type} {F : α → β → Prop} : ∀ {xs : List α} {ys : List β}, Paired F xs ys → PySem.W.EachIs F xs ys
  | _, _, .nil => .nil
  | _, _, .cons a t => .cons a (paired_each t)
theorem each_paired {α β : Type} {F : α → β → Prop} : ∀ {xs : List α} {ys : List β}, PySem.W.EachIs F xs ys → Paired F xs ys
  | _, _, .nil => .nil
  | _, _, .cons a t => .cons a (each_paired t)
theorem VRs.sortP {C : Cc} {r : List Addr} {xs : List MV} {ys : List V} (rx : VRs C r xs ys) (ts : List T) : VRs C r (Mi.sortP xs ts) (Mi.sortP ys ts) := by
  have e := PySem.W.sort_each (r := fun p q : MV × T => T.le p.2 q.2) (s := fun p q : V × T => T.le p.2 q.2) (paired_each (VRs.zipP (ts := ts) rx)) fun p hp q hq => by
    have z := fun p hp => ((paired_each (VRs.zipP (ts := ts) rx)).zip p hp).2
    rw [z p hp, z q hq]
  have go : ∀ {as : List (MV × T)} {bs : List (V × T)}, Paired (fun (p : MV × T) (q : V × T) => VR C r p.1 q.1 ∧ p.2 = q.2) as bs → VRs C r (as.map Prod.fst) (bs.map Prod.fst) := by
    intro as bs h
    induction h with
    | nil => exact .nil
    | cons a t ih => exact .cons a.1 ih
  exact go (each_paired e)
section
variable {C : Cc} {X : Cx} {W : WX} {a : Expr} {ea : E} {pos : Pos}
theorem ca_sorted (hu : X.A.units + 64 < cLine) : CallA C X (.builtin "sorted") fSorted := ⟨_, cr_sortD hu, fun r h H x x' Q S rx q => by
  unfold fSorted at q
  split at q
  · rename_i v
    obtain ⟨y, rfl, ry⟩ := rx.one
    split at q
    · rename_i xs ei
      split at q
      · rename_i ts et
        split at q
        · rename_i hc
          obtain ⟨l, vs, rfl, rvs, hq⟩ := isL_seq S ry ei
          obtain ⟨d1, d2, d3⟩ := toTs_dp S _ _ _ _ et rvs
          refine ⟨l, vs, ts, rfl, hq, d1, hc, fun t ht => Nat.le_trans (depth_all ht) d3, fun p hp => ?_⟩
          have hl : (sortP xs ts).length ≤ lim := by
            have := isL_sz S ry ei
            unfold sortP
            rw [List.length_map, List.length_mergeSort, List.length_zip]; omega
          obtain ⟨z, zr⟩ := rp_allocL S (rvs.sortP ts) q hl hp
          exact z _ zr
        · exact q.elim
      · exact q.elim
    · exact q.elim
  · exact q.elim⟩
end
end Mi
namespace Mi
open PySem PySem.Spec L2 PyProof.Rows
/-! ### texts -/
theorem asStrs_map : ∀ {xs : List MV} {ss : List (List Nat)}, asStrs xs = some ss → xs = ss.map .str
  | [], ss, e => by cases e; rfl
  | x :: xs, ss, e => by
    cases x with
    | str b =>
      simp only [asStrs] at e
      cases q : asStrs xs with
      | none => rw [q] at e; cases e
      | some cs => rw [q] at e; cases e; rw [asStrs_map q]; rfl
    | non => cases e
    | bl _ => cases e
    | int _ => cases e
    | ref _ => cases e
    | scr _ => cases e
theorem vrs_strs {C : Cc} {r : List Addr} : ∀ {ss : List (List Nat)} {vs : List V}, VRs C r (ss.map MV.str) vs → vs = (ss.map sS).map V.str ∧ ∀ s ∈ ss, strOk s = true
  | [], _, .nil => ⟨rfl, fun s m => by cases m⟩
  | s :: ss, _, .cons a t => by
    obtain ⟨rfl, k⟩ := a
    obtain ⟨e, q⟩ := vrs_strs t
    refine ⟨by rw [e]; rfl, fun z m => ?_⟩
    rcases List.mem_cons.mp m with e | m
    · rw [e]; exact k
    · exact q z m
theorem VRs.strs {C : Cc} {r : List Addr} : ∀ {ss : List (List Nat)}, (∀ s ∈ ss, strOk s = true) → VRs C r (ss.map MV.str) ((ss.map sS).map V.str)
  | [], _ => .nil
  | s :: ss, k => .cons ⟨rfl, k s (by simp)⟩ (VRs.strs fun z m => k z (by simp [m]))
theorem join_sS (a : List Nat) : ∀ ss : List (List Nat), Str.join (sS a) (ss.map sS) = sS (joinB a ss)
  | [] => rfl
  | [_] => rfl
  | x :: y :: r => by
    show sS x ++ sS a ++ Str.join (sS a) ((y :: r).map sS) = sS (x ++ (a ++ joinB a (y :: r)))
    rw [join_sS a (y :: r), sS_app, sS_app, List.append_assoc]
theorem joinB_len (a : List Nat) : ∀ ss : List (List Nat), (joinB a ss).length ≤ (ss.map List.length).sum + ss.length * a.length
  | [] => by simp [joinB]
  | [x] => by simp [joinB]
  | x :: y :: r => by
    have := joinB_len a (y :: r)
    simp only [joinB, List.length_append, List.map_cons, List.sum_cons, List.length_cons, Nat.add_mul] at this ⊢
    omega
theorem joinB_mem (a : List Nat) : ∀ (ss : List (List Nat)) (c : Nat), c ∈ joinB a ss → c ∈ a ∨ ∃ s ∈ ss, c ∈ s
  | [], c, h => by simp [joinB] at h
  | [x], c, h => .inr ⟨x, by simp, h⟩
  | x :: y :: r, c, h => by
    simp only [joinB, List.mem_append] at h
    rcases h with h | h | h
    · exact .inr ⟨x, by simp, h⟩
    · exact .inl h
    · rcases joinB_mem a (y :: r) c h with z | ⟨s, m, z⟩
      · exact .inl z
      · exact .inr ⟨s, by simp [m], z⟩
theorem strOk_of {s : List Nat} (h : ∀ c ∈ s, ∃ z, strOk z = true ∧ c ∈ z) (l : s.length ≤ lim) : strOk s = true := by
  unfold strOk okS
  simp only [Bool.and_eq_true, List.all_eq_true, decide_eq_true_eq]
  refine ⟨fun c m => ?_, l⟩
  obtain ⟨z, k, q⟩ := h c m
  have := (Bool.and_eq_true_iff.mp k).1
  unfold okS at this
  exact of_decide_eq_true (List.all_eq_true.mp this c q)
section
variable {C : Cc} {X : Cx} {W : WX} {a : Expr} {ea eb : E} {pos : Pos} {es : List Expr} {eas : EA}
theorem ae_methS {o e : Expr} {m : PySem.Str} {apos cpos : Pos} {id : String} {f : Fn} (om : MtA C X id f) (hf : NoXF f) (pa : PlainAttrs "str") (slot : Slot "str" m id) (hty : typeOf (.builtin id) = pure (.type "method_descriptor")) (ho : AE C X W o eb) (ha : AA C X W (e :: es) eas)
    (h1 : attributeBase o m X.env (eval o X.env) = eval o X.env := by rfl) (h2 : (((backTo cpos (starEach (e :: es) X.env)).all (!·.1) && (backToKw cpos (keywordEach [] X.env)).all (·.1.isSome)) && decide ((e :: es).length + ([] : List Keyword).length + (if ([] : List Keyword).isEmpty then 0 else 1) < 30)) = true := by rfl) (h3 : (apos.endLine == cpos.line) = true := by rfl)
    (h4 : starEach (e :: es) X.env = (false, eval e X.env) :: starEach es X.env := by rfl) (h5 : (backTo cpos (starEach es X.env)).any (·.1) = false := by rfl) : AE C X W (.Call (.Attribute o m apos) (e :: es) [] cpos) (eMeth .tstr f eb eas) :=
  let ⟨_, hm, hR⟩ := om
  ⟨PE.imp (pe_bm pa slot hty hm ho.pe ha.pa h1 h2 h3 h4 h5) fun σ H Q ⟨r, ρ, h, S, R, q⟩ => by
    refine ⟨r, ρ, h, S, R, (RP.bind q).imp fun r1 v h1 H1 g1 S1 q1 x rx => ?_⟩
    split at q1
    · rename_i hty
      cases v with
      | str z =>
        obtain ⟨rfl, kz⟩ := rx
        refine ⟨rfl, r1, ρ, h1, S1, R.up g1.up, (RP.bind q1).imp fun r2 as h2 H2 g2 S2 q2 xs' rxs => ?_⟩
        exact hR r2 h2 H2 (.str z) as _ xs' Q S2 ⟨rfl, kz⟩ rxs (noEx_wx (hf _ _) q2)
      | non => simp [isTy] at hty
      | bl b => simp [isTy] at hty
      | int _ => simp [isTy] at hty
      | ref p =>
        exfalso
        simp only [isTy] at hty
        split at hty
        · exact absurd hty (by decide)
        · exact absurd hty (by decide)
        · exact absurd hty (by decide)
        · cases hty
      | scr _ => simp [isTy] at hty
    · exact q1.elim⟩
theorem noxf_join : NoXF mJoin := fun x h c h' e => by
  unfold mJoin at e
  split at e
  · split at e
    · split at e
      · split at e <;> cases e
      · cases e
    · cases e
  · cases e
theorem ma_join : MtA C X "str.join" mJoin := ⟨_, mt_join, fun r h H x xs x' xs' Q S rx rxs q => by
  unfold mJoin at q
  split at q
  · rename_i a v e
    cases e
    obtain ⟨y, rfl, ry⟩ := rxs.one
    split at q
    · rename_i ys ei
      split at q
      · rename_i ss es
        split at q
        · rename_i hl
          obtain ⟨l, vs, rfl, rvs, hq⟩ := isL_seq S ry ei
          rw [asStrs_map es] at rvs
          obtain ⟨rfl, ks⟩ := vrs_strs rvs
          obtain ⟨rfl, ka⟩ := rx
          have e1 : ((ss.map sS).map (·.length)).sum = (ss.map List.length).sum := by
            rw [List.map_map]
            exact congrArg List.sum (List.map_congr_left fun s _ => sS_len s)
          refine ⟨sS a, l, ss.map sS, rfl, rfl, .inl hq, ?_, ?_⟩
          · rw [e1, List.length_map, sS_len]
            exact hl
          · rw [show Txt.join (sS a) (ss.map sS) = Str.join (sS a) (ss.map sS) from TL.join_eq _ _, join_sS]
            refine q r H (Go.refl _ _) S _ ⟨rfl, strOk_of (fun c m => ?_) (Nat.le_trans (joinB_len a ss) hl)⟩
            rcases joinB_mem a ss c m with z | ⟨s, m1, z⟩
            · exact ⟨a, ka, z⟩
            · exact ⟨s, ks s m1, z⟩
        · exact q.elim
      · exact q.elim
    · exact q.elim
  · exact q.elim⟩
theorem ae_join {o e : Expr} {apos cpos : Pos} (ho : AE C X W o eb) (ha : AA C X W [e] eas) (h1 : attributeBase o "join" X.env (eval o X.env) = eval o X.env := by rfl) (h2 : (((backTo cpos (starEach [e] X.env)).all (!·.1) && (backToKw cpos (keywordEach [] X.env)).all (·.1.isSome)) && decide (([e] : List Expr).length + ([] : List Keyword).length + (if ([] : List Keyword).isEmpty then 0 else 1) < 30)) = true := by rfl) (h3 : (apos.endLine == cpos.line) = true := by rfl)
    (h4 : starEach [e] X.env = (false, eval e X.env) :: starEach [] X.env := by rfl) (h5 : (backTo cpos (starEach [] X.env)).any (·.1) = false := by rfl) : AE C X W (.Call (.Attribute o "join" apos) [e] [] cpos) (eMeth .tstr mJoin eb eas) :=
  ae_methS ma_join noxf_join PySem.F.plainAttrs_str PySem.F.slot_str_join PySem.F.type_str_join ho ha h1 h2 h3 h4 h5
/-! ### index -/
theorem noxf_index : NoXF mIndex := fun x h c h' e => by
  unfold mIndex at e
  split at e
  · split at e
    · split at e <;> cases e
    · cases e
  · cases e
theorem ma_index (hu : X.A.units + 65 < cLine) : MtA C X "list.index" mIndex := ⟨_, mt_indexD hu, fun r h H x xs x' xs' Q S rx rxs q => by
  unfold mIndex at q
  split at q
  · rename_i a v e
    cases e
    obtain ⟨y, rfl, ry⟩ := rxs.one
    split at q
    · rename_i ts t e1 e2
      split at q
      · rename_i j ej
        obtain ⟨p1, p2⟩ := toT_dp S _ _ _ _ e1 rx
        obtain ⟨q1, q2⟩ := toT_dp S _ _ _ _ e2 ry
        obtain ⟨l, el, rfl⟩ := rx
        obtain ⟨hj, h1, h2⟩ := List.findIdx?_eq_some_iff_getElem.mp ej
        simp only [T.py] at p1 p2
        have s1 : SeqAt.shaped (.list (T.pys ts)) = true := shaped_of (t := .lst ts) (n := 60) (by decide) (by simpa only [T.py] using p2)
        refine ⟨l, y, T.py t, T.pys ts, j, T.py ts[j], rfl, rfl, p1, q1, s1, shaped_of (by decide) q2, ?_, ?_, ?_, ?_⟩
        · rw [pys_map, List.getElem?_map, List.getElem?_eq_getElem hj]; rfl
        · rw [T.eqv_py]; exact h1
        · intro m z hm hz
          have hm' : m < ts.length := Nat.lt_trans hm hj
          rw [pys_map, List.getElem?_map, List.getElem?_eq_getElem hm'] at hz
          rw [← Option.some.inj hz, T.eqv_py]
          simpa using h2 m hm
        · exact q r H (Go.refl _ _) S _ rfl
      · exact q.elim
    · exact q.elim
  · exact q.elim⟩
theorem ae_index (hu : X.A.units + 65 < cLine) {o e : Expr} {apos cpos : Pos} (ho : AE C X W o eb) (ha : AA C X W [e] eas) (h1 : attributeBase o "index" X.env (eval o X.env) = eval o X.env := by rfl) (h2 : (((backTo cpos (starEach [e] X.env)).all (!·.1) && (backToKw cpos (keywordEach [] X.env)).all (·.1.isSome)) && decide (([e] : List Expr).length + ([] : List Keyword).length + (if ([] : List Keyword).isEmpty then 0 else 1) < 30)) = true := by rfl) (h3 : (apos.endLine == cpos.line) = true := by rfl)
    (h4 : starEach [e] X.env = (false, eval e X.env) :: starEach [] X.env := by rfl) (h5 : (backTo cpos (starEach [] X.env)).any (·.1) = false := by rfl) : AE C X W (.Call (.Attribute o "index" apos) [e] [] cpos) (eMeth .tlist mIndex eb eas) :=
  ae_methL (ma_index hu) noxf_index PySem.F.plainAttrs_list PySem.F.slot_list_index PySem.F.type_list_index ho ha h1 h2 h3 h4 h5
/-! ### list(x) -/
theorem noxf_listB : NoXF fListB := fun x h c h' e => by
  unfold fListB at e
  split at e
  · exact nox_alloc e
  · exact noxf_list _ _ _ _ e
def listS : Fn
  | [.str s], h => alloc (.lst (s.map fun c => .str [c])) h
  | _, _ => .stuck
def rListS : List V → Hp → VK → Prop := fun vs H Q => ∃ z : PySem.Str, vs = [V.str z] ∧ z.cps.size ≤ sizeLine ∧ ∀ p, H p = none → Q (.ref p) (upd H p (.lst (z.cps.toList.map fun c => V.str ⟨#[c]⟩)))
theorem cr_listS (hc : X.calm = true) : CallR X (.type "list") rListS := by
  intro pins s σ H vs us Q I r h
  obtain ⟨z, rfl, hz, q⟩ := h
  obtain ⟨u, rfl, t, rfl⟩ := vals1 r
  refine list_txt (I.ok.hd hc) hz fun h1 tk ys c k g it => ?_
  have lv : ys.toList.length = z.cps.size := by rw [Array.length_toList]; exact it.1
  have hv : Vals (z.cps.toList.map fun c => V.str ⟨#[c]⟩) ys.toList := by
    refine vals_of_at (by rw [List.length_map, Array.length_toList, lv]) fun j x u h1 h2 => ?_
    obtain ⟨d, t, e1, e2⟩ := it.2 j u (by rw [← Array.getElem?_toList]; exact h2)
    rw [List.getElem?_map, Array.getElem?_toList, e1] at h1
    cases h1
    exact ⟨t, e2⟩
  exact ⟨.ref s.heap.objs.size, upd H s.heap.objs.size (.lst (z.cps.toList.map fun c => V.str ⟨#[c]⟩)), I.laid k (Nat.le_refl _) ⟨by rw [List.length_map, Array.length_toList]; exact hz, ys.toList, c, hv, by simpa using g⟩, rfl, q _ (I.hok.fresh (Nat.le_refl _))⟩
theorem ca_listB (hc : X.calm = true) : CallA C X (.type "list") fListB := CallA.or (f1 := listS) (f2 := fList) ⟨_, cr_listS hc, fun r h H x x' Q S rx q => by
    unfold listS at q
    split at q
    · rename_i s
      obtain ⟨y, rfl, ry⟩ := rx.one
      obtain ⟨rfl, k1⟩ := ry
      refine ⟨sS s, rfl, by rw [← lim_eq]; simpa [sS] using strOk_len k1, fun p hp => ?_⟩
      have kk : ∀ z ∈ s.map fun c => [c], strOk z = true := fun z m => by
        obtain ⟨c, mc, rfl⟩ := List.mem_map.mp m
        exact strOk_sign k1 mc
      have e1 : (s.map fun c => MV.str [c]) = (s.map fun c => [c]).map MV.str := by simp
      have e2 : ((sS s).cps.toList.map fun c => V.str ⟨#[c]⟩) = ((s.map fun c => [c]).map sS).map V.str := by rw [sS_cps]; simp [sS]
      rw [e1] at q
      rw [e2]
      obtain ⟨z, zr⟩ := rp_allocL S (VRs.strs kk) q (by rw [List.length_map, List.length_map]; exact strOk_len k1) hp
      exact z _ zr
    · exact q.elim⟩ ca_list fun x h => by
  unfold fListB listS
  split
  · exact .inl rfl
  · exact .inr rfl
/-! ### sorted(set(xs)) -/
theorem ltS_of {x y : List Nat} (h : x ≤ y) (n : x ≠ y) : x < y := Decidable.byContradiction fun k => n (List.le_antisymm h (List.not_lt.mp k))
theorem insS_mem {x y : List Nat} : ∀ {l : List (List Nat)}, y ∈ insS x l ↔ y = x ∨ y ∈ l
  | [] => by simp [insS]
  | z :: r => by
    unfold insS
    split
    · simp
    · split
      · rename_i e; subst e; simp
      · simp only [List.mem_cons, insS_mem (l := r)]
        constructor
        · rintro (h | h | h)
          · exact .inr (.inl h)
          · exact .inl h
          · exact .inr (.inr h)
        · rintro (h | h | h)
          · exact .inr (.inl h)
          · exact .inl h
          · exact .inr (.inr h)
theorem insS_pw {x : List Nat} : ∀ {l : List (List Nat)}, l.Pairwise (· < ·) → (insS x l).Pairwise (· < ·)
  | [], _ => by simp [insS]
  | z :: r, p => by
    have q := List.pairwise_cons.mp p
    unfold insS
    split
    · rename_i h
      refine List.pairwise_cons.mpr ⟨fun y m => ?_, p⟩
      rcases List.mem_cons.mp m with rfl | m
      · exact h
      · exact List.lt_trans h (q.1 y m)
    · split
      · exact p
      · rename_i h1 h2
        refine List.pairwise_cons.mpr ⟨fun y m => ?_, insS_pw q.2⟩
        rcases insS_mem.mp m with rfl | m
        · exact ltS_of (List.not_lt.mp h1) fun e => h2 e.symm
        · exact q.1 y m
theorem sdS_mem {y : List Nat} : ∀ {l : List (List Nat)}, y ∈ sdS l ↔ y ∈ l
  | [] => by simp [sdS]
  | x :: r => by rw [sdS, insS_mem, sdS_mem, List.mem_cons]
theorem sdS_pw : ∀ l : List (List Nat), (sdS l).Pairwise (· < ·)
  | [] => .nil
  | x :: r => insS_pw (sdS_pw r)
theorem pwS_ext : ∀ {l m : List (List Nat)}, l.Pairwise (· < ·) → m.Pairwise (· < ·) → (∀ x, x ∈ l ↔ x ∈ m) → l = m
  | [], [], _, _, _ => rfl
  | [], y :: m, _, _, h => by have := (h y).mpr (by simp); cases this
  | x :: l, [], _, _, h => by have := (h x).mp (by simp); cases this
  | x :: l, y :: m, p, q, h => by
    have p1 := List.pairwise_cons.mp p
    have q1 := List.pairwise_cons.mp q
    have e : x = y := by
      rcases List.mem_cons.mp ((h x).mp (by simp)) with e | e
      · exact e
      · rcases List.mem_cons.mp ((h y).mpr (by simp)) with e' | e'
        · exact e'.symm
        · exact absurd (List.lt_trans (q1.1 x e) (p1.1 y e')) (List.lt_irrefl _)
    subst e
    rw [pwS_ext p1.2 q1.2 fun z => ?_]
    constructor
    · intro m1
      rcases List.mem_cons.mp ((h z).mp (by simp [m1])) with e | e
      · exact absurd (p1.1 z m1) (by rw [e]; exact List.lt_irrefl _)
      · exact e
    · intro m1
      rcases List.mem_cons.mp ((h z).mpr (by simp [m1])) with e | e
      · exact absurd (q1.1 z m1) (by rw [e]; exact List.lt_irrefl _)
      · exact e
theorem sdS_len : ∀ l : List (List Nat), (sdS l).length ≤ l.length
  | [] => by simp [sdS]
  | x :: r => by
    have go : ∀ (l : List (List Nat)), (insS x l).length ≤ l.length + 1 := fun l => by
      induction l with
      | nil => simp [insS]
      | cons y r ih =>
        unfold insS
        split
        · simp
        · split
          · simp
          · simp only [List.length_cons]; omega
    have := sdS_len r
    have := go (sdS r)
    rw [sdS, List.length_cons]; omega
theorem nox_sortSetB (x : MV) (h : MH) (c : Nat) (h' : MH) : sortSetB x h ≠ .exc c h' := fun e => by
  unfold sortSetB at e
  split at e
  · split at e
    · split at e
      · exact nox_alloc e
      · cases e
    · split at e
      · split at e
        · exact nox_alloc e
        · cases e
      · cases e
  · cases e
theorem CallR.alt {f : Value} {R1 R2 : List V → Hp → VK → Prop} (h1 : CallR X f R1) (h2 : CallR X f R2) : CallR X f (fun xs H Q => R1 xs H Q ∨ R2 xs H Q) := h1.or h2
theorem of_leX {xs : List PySem.Str} (p : xs.Pairwise fun x y => leX x y = true) (d : xs.Nodup) : (xs.map fun x => x.cps.toList).Pairwise (· < ·) := by
  rw [List.pairwise_map]
  refine (p.and d).imp fun {x y} ⟨h1, h2⟩ => ?_
  refine ltS_of (of_decide_eq_true h1) fun e => h2 ?_
  exact PySem.W.str_of_cps e
theorem ae_sortSetB {p p2 pos2 : Pos} (hc : X.calm = true) (hu : X.A.units + 64 < cLine) (hg : Gl X "sorted") (hm : X.mg "sorted" = none) (hg2 : Gl X "set") (hm2 : X.mg "set" = none) (ha : AE C X W a ea)
    (na : starEach [a] X.env = (false, eval a X.env) :: starEach [] X.env := by rfl) (nb : starEach [.Call (.Name "set" p2) [a] [] pos2] X.env = (false, eval (.Call (.Name "set" p2) [a] [] pos2) X.env) :: starEach [] X.env := by rfl) :
    AE C X W (.Call (.Name "sorted" p) [.Call (.Name "set" p2) [a] [] pos2] [] pos) (eSortSetB ea) :=
  ⟨PE.imp (pe_callB (CallR.alt (cr_sortedSet hc) (cr_sortedX hc hu)) hg hm (by decide +kernel) (pa_cons (pe_callTy (CallR.alt (cr_setI hc) (cr_setX hc)) hg2 hm2 (by decide +kernel) (pa_cons ha.pe pa_nil na) (by decide) (by decide) na rfl) pa_nil nb) (by decide) (by decide) nb rfl) fun σ H Q w => by
    refine w1 (f := sortSetB) (R := fun x H1 Q => tCB (fun xs H Q => rSortedSet X.w xs H Q ∨ rSortedX X.w xs H Q) (tCons (tCB (fun xs H Q => rSetI X.K X.w xs H Q ∨ rSetX X.K X.w xs H Q) fun σ H Q => Q [x] H) tNil) σ H1 Q) nox_sortSetB (fun r h H x x' Q S rx q => ?_) w
    unfold sortSetB at q
    split at q
    · rename_i xs ei
      split at q
      · rename_i ns ea
        split at q
        · rename_i hl
          obtain ⟨l, vs, rfl, rvs, hq⟩ := isL_seq S rx ei
          rw [asInts_map ea] at rvs
          rw [vrs_ints rvs] at hq
          refine .inl ⟨l, ns, rfl, hq, hl.1, fun p hp => .inl ⟨p, _, _, rfl, upd_same, hl.2, fun ns' p' pw mm _ hp' => ?_⟩⟩
          have e : ns' = sdI ns := pw_ext pw (sdI_pw ns) fun z => by rw [mm z, sdI_mem, decide_eq_true_eq]
          subst e
          have q' : RP C X.K r (upd H p (SetO X.w p (fun j => decide (j ∈ ns)) (sdI ns).length)) (fun r' v _ H' => ∀ z, VR C r' v z → Q z H') noEx (alloc (.lst ((sdI ns).map .int)) h) :=
            RP.go (Go.aside hp) q (fun _ _ _ _ _ z => z) (fun _ _ _ _ _ z => z)
          obtain ⟨z, zr⟩ := rp_allocL (S.aside hp _) (VRs.ints (sdI ns)) q' (by rw [List.length_map]; exact Nat.le_trans (Nat.le_of_lt hl.2) (by decide)) hp'
          exact z _ zr
        · exact q.elim
      · split at q
        · rename_i ss es
          split at q
          · rename_i hl
            obtain ⟨l, vs, rfl, rvs, hq⟩ := isL_seq S rx ei
            rw [asStrs_map es] at rvs
            obtain ⟨rfl, ks⟩ := vrs_strs rvs
            refine .inr ⟨l, ss.map sS, rfl, hq, by rw [List.length_map]; exact hl, fun p n hp => .inr ⟨p, _, n, rfl, upd_same, fun xs' p' pw nd mm hp' => ?_⟩⟩
            have e : (xs'.map fun x => x.cps.toList) = sdS ss := pwS_ext (of_leX pw nd) (sdS_pw ss) fun z => by
              rw [sdS_mem, List.mem_map]
              constructor
              · rintro ⟨x, m, rfl⟩
                obtain ⟨s, ms, e⟩ := List.mem_map.mp (of_decide_eq_true ((mm x).mp m))
                rw [← e, sS_cps]; exact ms
              · intro m
                exact ⟨sS z, (mm _).mpr (decide_eq_true (List.mem_map.mpr ⟨z, m, rfl⟩)), sS_cps z⟩
            have e2 : xs' = (sdS ss).map sS := by
              rw [← e, List.map_map]
              conv => lhs; rw [← List.map_id xs']
              exact List.map_congr_left fun x _ => by simp [sS]
            subst e2
            have ks2 : ∀ s ∈ sdS ss, strOk s = true := fun s m => ks s (sdS_mem.mp m)
            have q' : RP C X.K r (upd H p (SetXO X.w p (fun j => decide (j ∈ ss.map sS)) n)) (fun r' v _ H' => ∀ z, VR C r' v z → Q z H') noEx (alloc (.lst ((sdS ss).map .str)) h) :=
              RP.go (Go.aside hp) q (fun _ _ _ _ _ z => z) (fun _ _ _ _ _ z => z)
            obtain ⟨z, zr⟩ := rp_allocL (S.aside hp _) (VRs.strs ks2) q' (by rw [List.length_map]; exact Nat.le_trans (sdS_len ss) (Nat.le_trans hl (by decide))) hp'
            exact z _ zr
          · exact q.elim
        · exact q.elim
    · exact q.elim⟩
end
end Mi
set_option linter.all false
set_option maxRecDepth 100000
set_option maxHeartbeats 4000000
/-! Dicts: each combinator is sound. -/
namespace Mi
open PySem PySem.Spec L2 PyProof.Rows
/-! ### keys -/
mutual
theorem T.nk_inj : ∀ (t u : T) (m n : Nat), t.keyN m = true → u.keyN n = true → t.nk = u.nk → t = u
  | .non, u, m, n, _, k, e => by cases u <;> first | rfl | (cases n <;> simp [T.keyN] at k; done) | (simp [T.nk] at e; done)
  | .int i, u, m, n, _, k, e => by cases u <;> first | (simp [T.nk] at e; rw [e]; done) | (cases n <;> simp [T.keyN] at k; done) | (simp [T.nk] at e; done)
  | .str i, u, m, n, _, k, e => by cases u <;> first | (simp [T.nk, sS_inj] at e; rw [e]; done) | (cases n <;> simp [T.keyN] at k; done) | (simp [T.nk] at e; done)
  | .tup xs, u, 0, n, h, _, _ => by simp [T.keyN] at h
  | .tup xs, u, m + 1, n, h, k, e => by
    cases u with
    | tup ys =>
      cases n with
      | zero => simp [T.keyN] at k
      | succ n =>
        simp only [T.keyN] at h k
        simp only [T.nk, NestedKey.tup.injEq] at e
        rw [T.nks_inj xs ys m n h k e]
    | bl _ => cases n <;> simp [T.keyN] at k
    | lst _ => cases n <;> simp [T.keyN] at k
    | dct _ _ => cases n <;> simp [T.keyN] at k
    | scr _ => cases n <;> simp [T.keyN] at k
    | _ => simp [T.nk] at e
  | .bl _, u, m, n, h, _, _ => by cases m <;> simp [T.keyN] at h
  | .lst _, u, m, n, h, _, _ => by cases m <;> simp [T.keyN] at h
  | .dct _ _, u, m, n, h, _, _ => by cases m <;> simp [T.keyN] at h
  | .scr _, u, m, n, h, _, _ => by cases m <;> simp [T.keyN] at h
theorem T.nks_inj : ∀ (ts us : List T) (m n : Nat), T.keyNs m ts = true → T.keyNs n us = true → T.nks ts = T.nks us → ts = us
  | [], [], _, _, _, _, _ => rfl
  | [], _ :: _, _, _, _, _, e => by simp [T.nks] at e
  | _ :: _, [], _, _, _, _, e => by simp [T.nks] at e
  | t :: ts, u :: us, m, n, h, k, e => by
    simp only [T.keyNs, Bool.and_eq_true] at h k
    simp only [T.nks, List.cons.injEq] at e
    rw [T.nk_inj t u m n h.1 k.1 e.1, T.nks_inj ts us m n h.2 k.2 e.2]
end
mutual
theorem T.nk_depth : ∀ (t : T) (m : Nat), t.keyN m = true → t.nk.depth ≤ m
  | .non, m, _ => Nat.zero_le _
  | .int _, m, _ => Nat.zero_le _
  | .str _, m, _ => Nat.zero_le _
  | .tup xs, 0, h => by simp [T.keyN] at h
  | .tup xs, m + 1, h => by
    simp only [T.keyN] at h
    simp only [T.nk, NestedKey.depth]
    have := T.nks_depth xs m h
    omega
  | .bl _, m, h => by cases m <;> simp [T.keyN] at h
  | .lst _, m, h => by cases m <;> simp [T.keyN] at h
  | .dct _ _, m, h => by cases m <;> simp [T.keyN] at h
  | .scr _, m, h => by cases m <;> simp [T.keyN] at h
theorem T.nks_depth : ∀ (ts : List T) (m : Nat), T.keyNs m ts = true → NestedKey.depthAll (T.nks ts) ≤ m
  | [], m, _ => Nat.zero_le _
  | t :: ts, m, h => by
    simp only [T.keyNs, Bool.and_eq_true] at h
    simp only [T.nks, NestedKey.depthAll]
    have := T.nk_depth t m h.1
    have := T.nks_depth ts m h.2
    omega
end
section
variable {C : Cc} {K : PySem.W.Frag} {r : List Addr} {h : MH} {H : Hp}
mutual
theorem key_of (S : Sim C K r h H) : ∀ (n : Nat) (v : MV) (x : V) (t : T) (m : Nat), toT n h v = some t → VR C r v x → t.keyN m = true → KeyV H t.nk x
  | n, .non, x, t, m, e, rx, k => by
    cases rx
    have : t = .non := by cases n <;> (simp only [toT] at e; cases e; rfl)
    subst this; exact .none
  | n, .int i, x, t, m, e, rx, k => by
    cases rx
    have : t = .int i := by cases n <;> (simp only [toT] at e; cases e; rfl)
    subst this; exact .num i
  | n, .str i, x, t, m, e, rx, k => by
    obtain ⟨rfl, _⟩ := rx
    have : t = .str i := by cases n <;> (simp only [toT] at e; cases e; rfl)
    subst this; exact .text _
  | n, .bl b, x, t, m, e, rx, k => by
    have : t = .bl b := by cases n <;> (simp only [toT] at e; cases e; rfl)
    subst this; cases m <;> simp [T.keyN] at k
  | 0, .scr _, x, t, m, e, rx, k => by simp [toT] at e
  | n + 1, .scr xs, x, t, m, e, rx, k => by
    simp only [toT] at e; cases e
    cases m <;> simp [T.keyN] at k
  | 0, .ref _, x, t, m, e, rx, k => by simp [toT] at e
  | n + 1, .ref p, x, t, m, e, rx, k => by
    obtain ⟨a, ea, rfl⟩ := rx
    unfold toT at e
    cases eh : h[p]? with
    | none => rw [eh] at e; cases e
    | some o =>
      rw [eh] at e
      cases o with
      | lst xs =>
        simp only at e
        cases es : toTs n h xs with
        | none => rw [es] at e; cases e
        | some ts => rw [es] at e; cases e; cases m <;> simp [T.keyN] at k
      | tup xs =>
        simp only at e
        cases es : toTs n h xs with
        | none => rw [es] at e; cases e
        | some ts =>
          rw [es] at e; cases e
          cases m with
          | zero => simp [T.keyN] at k
          | succ m =>
            simp only [T.keyN] at k
            obtain ⟨vs, rv, eH⟩ := S.ob p _ a eh ea
            exact .tup eH (keys_of S n xs vs ts m es rv k)
      | dct _ _ _ _ => cases e
theorem keys_of (S : Sim C K r h H) : ∀ (n : Nat) (vs : List MV) (xs : List V) (ts : List T) (m : Nat), toTs n h vs = some ts → VRs C r vs xs → T.keyNs m ts = true → KeyVs H (T.nks ts) xs
  | n, [], _, ts, m, e, .nil, k => by
    unfold toTs at e; cases e; exact .nil
  | n, v :: vs, _, ts, m, e, .cons r1 r2, k => by
    unfold toTs at e
    cases e1 : toT n h v with
    | none => rw [e1] at e; simp at e
    | some t =>
      cases e2 : toTs n h vs with
      | none => rw [e1, e2] at e; simp at e
      | some us =>
        rw [e1, e2] at e; cases e
        simp only [T.keyNs, Bool.and_eq_true] at k
        exact .cons (key_of S n v _ t m e1 r1 k.1) (keys_of S n vs _ us m e2 r2 k.2)
end
theorem kT_ok (S : Sim C K r h H) {v : MV} {x : V} {z : T} (rx : VR C r v x) (e : kT h v = some z) : KeyV H z.nk x ∧ z.keyN 8 = true ∧ z.nk.depth ≤ 8 := by
  unfold kT at e
  split at e
  · rename_i t et
    split at e
    · rename_i k
      cases e
      exact ⟨key_of S _ _ _ _ 8 et rx k, k, T.nk_depth _ _ k⟩
    · cases e
  · cases e
theorem zipX_ok (S : Sim C K r h H) : ∀ {ts : List T} {ks : List MV} {us vs : List V}, kSame h ts ks = true → VRs C r ks us → ∀ x ∈ zipX ts us vs, KeyV H x.k x.kv ∧ x.k.depth ≤ 8
  | [], _, _, _, _, _, x, m => by simp [zipX] at m
  | t :: ts, [], _, _, e, .nil, x, m => by simp [zipX] at m
  | t :: ts, k :: ks, u :: us, [], e, .cons _ _, x, m => by simp [zipX] at m
  | t :: ts, k :: ks, u :: us, v :: vs, e, .cons r1 r2, x, m => by
    simp only [kSame, Bool.and_eq_true, decide_eq_true_eq] at e
    rw [zipX] at m
    rcases List.mem_cons.mp m with rfl | m
    · obtain ⟨a, _, c⟩ := kT_ok S r1 e.1
      exact ⟨a, c⟩
    · exact zipX_ok S e.2 r2 x m
theorem zipX_keys : ∀ {ts : List T} {us vs : List V}, ts.length = us.length → ts.length = vs.length → (zipX ts us vs).map DX.k = ts.map T.nk
  | [], _, _, _, _ => by simp [zipX]
  | _ :: _, [], _, l, _ => by simp at l
  | _ :: _, _ :: _, [], _, l => by simp at l
  | t :: ts, u :: us, v :: vs, l, l' => by rw [zipX, List.map_cons, List.map_cons, zipX_keys (by simpa using l) (by simpa using l')]
theorem zipX_len : ∀ {ts : List T} {us vs : List V}, ts.length = us.length → ts.length = vs.length → (zipX ts us vs).length = ts.length
  | [], _, _, _, _ => by simp [zipX]
  | _ :: _, [], _, l, _ => by simp at l
  | _ :: _, _ :: _, [], _, l => by simp at l
  | t :: ts, u :: us, v :: vs, l, l' => by rw [zipX, List.length_cons, List.length_cons, zipX_len (by simpa using l) (by simpa using l')]
theorem zipX_kvs : ∀ {ts : List T} {us vs : List V}, ts.length = us.length → ts.length = vs.length → (zipX ts us vs).map DX.kv = us
  | [], [], _, _, _ => by simp [zipX]
  | [], _ :: _, _, l, _ => by simp at l
  | _ :: _, [], _, l, _ => by simp at l
  | _ :: _, _ :: _, [], _, l => by simp at l
  | t :: ts, u :: us, v :: vs, l, l' => by rw [zipX, List.map_cons, zipX_kvs (by simpa using l) (by simpa using l')]
theorem nk_nodup : ∀ {ts : List T}, ts.Nodup → (∀ t ∈ ts, t.keyN 8 = true) → (ts.map T.nk).Nodup
  | [], _, _ => by simp
  | t :: ts, nd, k => by
    obtain ⟨n1, n2⟩ := List.nodup_cons.mp nd
    rw [List.map_cons, List.nodup_cons]
    refine ⟨fun m => ?_, nk_nodup n2 fun u mu => k u (by simp [mu])⟩
    obtain ⟨u, mu, e⟩ := List.mem_map.mp m
    exact n1 ((T.nk_inj u t 8 8 (k u (by simp [mu])) (k t (by simp)) e) ▸ mu)
theorem xIdx_cons {x : DX} {xs : List DX} {k : NestedKey} : xIdx (x :: xs) k = if x.k = k then some 0 else (xIdx xs k).map (· + 1) := by
  unfold xIdx
  rw [List.findIdx?_cons]
  by_cases e : x.k = k <;> simp [e]
theorem xVal_cons {x : DX} {xs : List DX} {k : NestedKey} : xVal (x :: xs) k = if x.k = k then some x.v else xVal xs k := by
  unfold xVal
  rw [xIdx_cons]
  by_cases e : x.k = k
  · simp [e]
  · rw [if_neg e, if_neg e]
    cases xIdx xs k <;> simp
theorem kGet_x {z : T} (hz : z.keyN 8 = true) : ∀ {ts : List T} {xs : List MV} {us vs : List V}, (∀ t ∈ ts, t.keyN 8 = true) → ts.length = us.length → VRs C r xs vs → OptR C r (kGet ts xs z) (xVal (zipX ts us vs) z.nk)
  | [], xs, us, vs, _, _, _ => by simp [kGet, zipX, xVal, xIdx, OptR]
  | t :: ts, xs, [], vs, _, l, _ => by simp at l
  | t :: ts, [], u :: us, _, _, _, .nil => by simp [kGet, zipX, xVal, xIdx, OptR]
  | t :: ts, x :: xs, u :: us, v :: vs, k, l, .cons r1 r2 => by
    rw [kGet, zipX, xVal_cons]
    by_cases e : t = z
    · rw [if_pos e, if_pos (by rw [e])]
      exact ⟨v, rfl, r1⟩
    · rw [if_neg e, if_neg (fun q => e (T.nk_inj t z 8 8 (k t (by simp)) hz q))]
      exact kGet_x hz (fun u mu => k u (by simp [mu])) (by simpa using l) r2
theorem kHas_x {z : T} (hz : z.keyN 8 = true) : ∀ {ts : List T} {us vs : List V}, (∀ t ∈ ts, t.keyN 8 = true) → ts.length = us.length → ts.length = vs.length → (xIdx (zipX ts us vs) z.nk).isSome = kHas ts z
  | [], us, vs, _, _, _ => by simp [kHas, zipX, xIdx]
  | t :: ts, [], vs, _, l, _ => by simp at l
  | t :: ts, u :: us, [], _, _, l => by simp at l
  | t :: ts, u :: us, v :: vs, k, l, l' => by
    rw [zipX, xIdx_cons]
    unfold kHas
    rw [List.any_cons]
    by_cases e : t = z
    · simp [e]
    · have ne : ¬ t.nk = z.nk := fun q => e (T.nk_inj t z 8 8 (k t (by simp)) hz q)
      have ih := kHas_x hz (ts := ts) (us := us) (vs := vs) (fun u mu => k u (by simp [mu])) (by simpa using l) (by simpa using l')
      unfold kHas at ih
      simp [ne, e, ih]
theorem xSet_cons {x : DX} {xs : List DX} {k : NestedKey} {kv v : V} : xSet (x :: xs) k kv v = if x.k = k then { x with v := v } :: xs else x :: xSet xs k kv v := by
  unfold xSet
  rw [xIdx_cons]
  by_cases e : x.k = k
  · simp [e]
  · rw [if_neg e, if_neg e]
    cases xIdx xs k <;> simp
theorem kSet_x {z : T} (hz : z.keyN 8 = true) {m : MV} {y w : V} (rw' : VR C r m w) : ∀ {ts : List T} {xs : List MV} {us vs : List V}, (∀ t ∈ ts, t.keyN 8 = true) → ts.length = us.length → ts.length = xs.length → VRs C r xs vs →
    (kHas ts z = true → ∃ ws, VRs C r (kSet ts xs z m) ws ∧ xSet (zipX ts us vs) z.nk y w = zipX ts us ws) ∧ (kHas ts z = false → xSet (zipX ts us vs) z.nk y w = zipX (ts ++ [z]) (us ++ [y]) (vs ++ [w]))
  | [], [], [], [], _, _, _, _ => ⟨fun h => by simp [kHas] at h, fun _ => rfl⟩
  | [], _ :: _, _, _, _, _, l, _ => by simp at l
  | [], _, _ :: _, _, _, l, _, _ => by simp at l
  | t :: ts, xs, [], vs, _, l, _, _ => by simp at l
  | t :: ts, [], u :: us, _, _, _, l, .nil => by simp at l
  | t :: ts, x :: xs, u :: us, v :: vs, k, l, l', .cons r1 r2 => by
    obtain ⟨i1, i2⟩ := kSet_x (y := y) hz rw' (ts := ts) (fun u mu => k u (by simp [mu])) (us := us) (by simpa using l) (by simpa using l') r2
    rw [zipX, xSet_cons, kSet]
    by_cases e : t = z
    · have hk : kHas (t :: ts) z = true := by simp [kHas, e]
      refine ⟨fun _ => ⟨w :: vs, by rw [if_pos e]; exact .cons rw' r2, by rw [if_pos (by rw [e])]; rfl⟩, fun h => by rw [hk] at h; cases h⟩
    · have ne : ¬ t.nk = z.nk := fun q => e (T.nk_inj t z 8 8 (k t (by simp)) hz q)
      have hk : kHas (t :: ts) z = kHas ts z := by simp [kHas, e]
      rw [if_neg ne, if_neg e, hk]
      refine ⟨fun h => ?_, fun h => ?_⟩
      · obtain ⟨ws, w1, w2⟩ := i1 h
        exact ⟨v :: ws, .cons r1 w1, by rw [w2]; rfl⟩
      · rw [i2 h]; rfl
theorem kSet_len {κ α : Type} [DecidableEq κ] {z : κ} {v : α} : ∀ (ks : List κ) (xs : List α), (kSet ks xs z v).length = xs.length
  | [], xs => by simp [kSet]
  | k :: ks, [] => by simp [kSet]
  | k :: ks, x :: xs => by rw [kSet]; split <;> simp [kSet_len ks xs]
/-- a dict read -/
theorem xGet_ok (S : Sim C K r h H) {n : Nat} {a : Addr} {ep : Nat} {ts : List T} {ks xs : List MV} (en : h[n]? = some (.dct ep ts ks xs)) (ea : r[n]? = some a) {k : MV} {y : V} (rk : VR C r k y) {z : T} (ez : kT h k = some z) (hk : kSame h ts ks = true) :
    ∃ o, XGet C.wd H a y o (kHas ts z) ∧ OptR C r (kGet ts xs z) o := by
  obtain ⟨us, vs, ru, rv, l1, l2, nd, kn, eH⟩ := S.ob n _ a en ea
  obtain ⟨z1, z2, z3⟩ := kT_ok S rk ez
  have lu : ts.length = us.length := by rw [l1, ← l2]; exact ru.length
  have lv : ts.length = vs.length := by rw [l1]; exact rv.length
  exact ⟨_, ⟨ep, _, z.nk, eH, ⟨zipX_ok S hk ru, by rw [zipX_keys lu lv]; exact nk_nodup nd kn⟩, z1, z3, rfl, kHas_x z2 kn lu lv⟩, kGet_x z2 kn lu rv⟩
/-- a dict written -/
theorem xPut_ok (S : Sim C K r h H) {n : Nat} {a : Addr} {ep : Nat} {ts : List T} {ks xs : List MV} (en : h[n]? = some (.dct ep ts ks xs)) (ea : r[n]? = some a) {k v : MV} {y w : V} (rk : VR C r k y) (rw' : VR C r v w) {z : T} (ez : kT h k = some z) (hk : kSame h ts ks = true) (hl : xs.length < lim) :
    ∃ H', XPut C.wd H a y w H' ∧ Sim C K r (h.set n (if kHas ts z then .dct ep ts ks (kSet ts xs z v) else .dct (ep + 1) (ts ++ [z]) (ks ++ [k]) (xs ++ [v]))) H' ∧ Go r H r H' := by
  obtain ⟨us, vs, ru, rv, l1, l2, nd, kn, eH⟩ := S.ob n _ a en ea
  obtain ⟨z1, z2, z3⟩ := kT_ok S rk ez
  have lu : ts.length = us.length := by rw [l1, ← l2]; exact ru.length
  have lv : ts.length = vs.length := by rw [l1]; exact rv.length
  have len : (zipX ts us vs).length < sizeLine := by rw [zipX_len lu lv, l1, ← lim_eq]; exact hl
  have hh := kHas_x (us := us) (vs := vs) z2 kn lu lv
  obtain ⟨s1, s2⟩ := kSet_x (y := y) z2 rw' kn lu l1 rv
  refine ⟨_, ⟨ep, _, z.nk, eH, ⟨zipX_ok S hk ru, by rw [zipX_keys lu lv]; exact nk_nodup nd kn⟩, z1, z3, len, rfl⟩, S.write ea en ?_ ?_, Go.write ea⟩
  · cases c : kHas ts z with
    | true =>
      obtain ⟨ws, w1, w2⟩ := s1 c
      rw [c] at hh
      obtain ⟨j, ej⟩ := Option.isSome_iff_exists.mp hh
      have e2 : xEp (zipX ts us vs) z.nk ep = ep := by unfold xEp; rw [ej]
      rw [w2, e2, if_pos rfl]
      exact ⟨us, ws, ru, w1, by rw [l1, kSet_len], by rw [l2, kSet_len], nd, kn, upd_same⟩
    | false =>
      rw [c] at hh
      have ej : xIdx (zipX ts us vs) z.nk = none := by cases q : xIdx (zipX ts us vs) z.nk with
        | none => rfl
        | some j => rw [q] at hh; cases hh
      have e2 : xEp (zipX ts us vs) z.nk ep = ep + 1 := by unfold xEp; rw [ej]
      rw [s2 c, e2, if_neg (by decide)]
      refine ⟨us ++ [y], vs ++ [w], Paired.app ru (.cons rk .nil), Paired.app rv (.cons rw' .nil), by simp [l1], by simp [l2], ?_, fun t mt => ?_, upd_same⟩
      · refine List.nodup_append.mpr ⟨nd, by simp, fun a ma b mb q => ?_⟩
        rw [List.mem_singleton.mp mb] at q
        have : kHas ts z = true := List.any_eq_true.mpr ⟨a, ma, by simp [q]⟩
        rw [c] at this; cases this
      · rcases List.mem_append.mp mt with m | m
        · exact kn t m
        · rw [List.mem_singleton.mp m]; exact z2
  · cases c : kHas ts z with
    | true => simp only [if_true, Obj.len, kSet_len]; omega
    | false => simp only [Bool.false_eq_true, if_false, Obj.len, List.length_append, List.length_singleton]; omega
end
section
variable {C : Cc} {X : Cx} {W : WX} {a b c : Expr} {ea eb ec : E} {pos : Pos}
theorem nox_ixB : NoX opIxB := fun x y h c h' e => by
  unfold opIxB at e
  split at e
  · split at e
    · split at e
      · split at e
        · split at e <;> cases e
        · cases e
      · cases e
    · exact nox_ix _ _ _ _ _ e
  · exact nox_ix _ _ _ _ _ e
theorem ia_ixB (hw : C.wd = X.w) (hu : X.A.in1.units + 8 < cLine) : IxA C X opIxB := by
  obtain ⟨R, hR, old⟩ := ia_ix (C := C) (X := X)
  refine ⟨_, hR.or (ix_dx hu), fun r h H x y x' y' Q S rx ry q => ?_⟩
  unfold opIxB at q
  split at q
  · rename_i n
    split at q
    · rename_i ep ts ks xs en
      split at q
      · rename_i z ez
        split at q
        · rename_i hk
          obtain ⟨ad, ead, rfl⟩ := rx
          obtain ⟨o, g, ro⟩ := xGet_ok S en ead ry ez hk
          rw [hw] at g
          split at q
          · rename_i v ev
            rw [ev] at ro
            obtain ⟨w, rfl, rw'⟩ := ro
            exact .inr ⟨ad, w, _, rfl, g, q r H (Go.refl _ _) S _ rw'⟩
          · exact q.elim
        · exact q.elim
      · exact q.elim
    · exact .inl (old r h H _ y x' y' Q S rx ry q)
  · exact .inl (old r h H _ y x' y' Q S rx ry q)
theorem nox_inD : NoX opInD := fun x y h c h' e => by
  unfold opInD at e
  split at e <;> cases e
theorem nox_notInD : NoX opNotInD := fun x y h c h' e => by
  unfold opNotInD at e
  split at e <;> cases e
theorem inD_ok {r : List Addr} {h : MH} {H : Hp} {K : PySem.W.Frag} (S : Sim C K r h H) {x d : MV} {x' d' : V} {b : Bool} (rx : VR C r x x') (rd : VR C r d d') (e : inD x d h = some b) : ∃ ad o, d' = .ref ad ∧ XGet C.wd H ad x' o b := by
  unfold inD at e
  split at e
  · rename_i n
    split at e
    · rename_i ep ts ks xs en
      split at e
      · rename_i z ez
        split at e
        · rename_i hk
          cases e
          obtain ⟨ad, ead, rfl⟩ := rd
          obtain ⟨o, g, _⟩ := xGet_ok S en ead rx ez hk
          exact ⟨ad, o, rfl, g⟩
        · cases e
      · cases e
    · cases e
  · cases e
theorem oa_inD (hw : C.wd = X.w) (hu : X.A.in1.units + 8 < cLine) : OpA C X (compareOp .In) opInD := ⟨_, op_inDx hu, fun r h H x y x' y' Q S rx ry q => by
  unfold opInD at q
  split at q
  · rename_i b e
    obtain ⟨ad, o, rfl, g⟩ := inD_ok S rx ry e
    rw [hw] at g
    exact ⟨ad, o, b, rfl, g, q r H (Go.refl _ _) S _ rfl⟩
  · exact q.elim⟩
theorem oa_notInD (hw : C.wd = X.w) (hu : X.A.in1.units + 8 < cLine) : OpA C X (compareOp .NotIn) opNotInD := ⟨_, op_notInDx hu, fun r h H x y x' y' Q S rx ry q => by
  unfold opNotInD at q
  split at q
  · rename_i b e
    obtain ⟨ad, o, rfl, g⟩ := inD_ok S rx ry e
    rw [hw] at g
    exact ⟨ad, o, b, rfl, g, q r H (Go.refl _ _) S _ rfl⟩
  · exact q.elim⟩
theorem ae_dct (hw : C.wd = X.w) : AE C X W (.Dict [] [] pos) eDct :=
  ⟨PE.imp pe_dnewX fun σ H Q ⟨r, ρ, h, S, RE, q⟩ p hp => by
    have S' := S.alloc (o := .dct 0 [] [] []) hp (u := dxO X.w p 0 []) ⟨[], [], .nil, .nil, rfl, rfl, List.nodup_nil, by simp, by rw [upd_same, hw]; rfl⟩ (by simp [Obj.len])
    exact q _ _ (Go.alloc hp) S' _ ⟨p, by rw [← S.len]; simp, rfl⟩⟩
theorem as_setKey (hw : C.wd = X.w) (hu : X.A.in1.units + 8 < cLine) {o i : Expr} {eo ei : E} {p2 : Pos} (ha : AE C X W a ea) (ho : AE C X W o eo) (hi : AE C X W i ei) (h1 : swapsWithSole [.Subscript o i p2] a pos.line X.env = pure false := by rfl) (h2 : swappedStores [.Subscript o i p2] a X.env = pure none := by rfl) (h3 : (assignEach [.Subscript o i p2] X.env).map (fun x => x.2) = [assign (.Subscript o i p2) X.env] := by rfl)
    (h4 : ∀ v, assign (.Subscript o i p2) X.env v = (do
      let ov ← holding [v] (eval o X.env)
      let iv ← holding [v, ov] (eval i X.env)
      standAt p2
      holding [v, ov, iv] (setItem ov iv v)
      release [v, ov, iv] []) := by intro _; rfl) : AS C X W (.Assign [.Subscript o i p2] a pos) (sSetKey ea eo ei) :=
  ⟨PS.imp (ps_asg ha.pe (pg_sub ho.pe hi.pe (set_dx hu) h4) h1 h2 h3) fun D σ H ⟨r, ρ, h, S, R, q⟩ => by
    refine ⟨r, ρ, h, S, R, (RP.into R q).imp fun r1 v h1 H1 g1 S1 q1 x rx => ?_⟩
    refine ⟨r1, ρ, h1, S1, R.up g1.up, (RP.into (R.up g1.up) q1).imp fun r2 u h2 H2 g2 S2 q2 y ry => ?_⟩
    refine ⟨r2, ρ, h2, S2, R.up (g1.up.trans g2.up), (RP.into (R.up (g1.up.trans g2.up)) q2).imp fun r3 k h3 H3 g3 S3 q3 z rz => ?_⟩
    split at q3
    · rename_i h4 e
      unfold setKey at e
      split at e
      · rename_i n
        split at e
        · rename_i ep ts ks xs en
          split at e
          · rename_i kz ez
            split at e
            · rename_i hl
              have e' := Option.some.inj e
              obtain ⟨ad, ead, rfl⟩ := ry.up g3.up
              obtain ⟨H', g, S4, G4⟩ := xPut_ok S3 en ead rz (rx.up (g2.up.trans g3.up)) ez hl.1 hl.2
              rw [e'] at S4
              rw [hw] at g
              exact ⟨ad, H', rfl, g, q3 r3 σ _ G4 S4 (R.up (g1.up.trans (g2.up.trans g3.up)))⟩
            · cases e
          · cases e
        · cases e
      · cases e
    · exact q3.elim⟩
theorem ae_tupRng {p p2 pos2 : Pos} (hc : X.calm = true) (hg : Gl X "tuple") (hm : X.mg "tuple" = none) (hg2 : Gl X "range") (hm2 : X.mg "range" = none) (ha : AE C X W a ea) (na : starEach [a] X.env = (false, eval a X.env) :: starEach [] X.env := by rfl)
    (nb : starEach [.Call (.Name "range" p2) [a] [] pos2] X.env = (false, eval (.Call (.Name "range" p2) [a] [] pos2) X.env) :: starEach [] X.env := by rfl) : AE C X W (.Call (.Name "tuple" p) [.Call (.Name "range" p2) [a] [] pos2] [] pos) (eTupRng ea) :=
  ⟨PE.imp (pe_tupRg hc hg hm (prg_1 hg2 hm2 ha.pe na) nb) fun σ H Q ⟨r, ρ, h, S, R, q⟩ => by
    refine ⟨r, ρ, h, S, R, (RP.bind q).imp fun r1 v h1 H1 g1 S1 q2 x rx => ?_⟩
    cases v with
    | int j =>
      refine ⟨j, rx, ?_⟩
      dsimp only at q2
      split at q2
      · rename_i hh
        have hl := rng_len (i := 0) (by decide) hh
        obtain ⟨b1, b2⟩ := rngOk_iff hh
        refine ⟨⟨by omega, by omega, b1, b2, Nat.le_trans (m := lim) (by simpa only [rng, List.length_map, List.length_range] using hl) (by decide)⟩, fun p hp => ?_⟩
        obtain ⟨z, zr⟩ := rp_allocT S1 (rng_rel 0 j) q2 hl hp
        exact z _ zr
      · exact q2.elim
    | non => exact q2.elim
    | bl _ => exact q2.elim
    | str _ => exact q2.elim
    | ref _ => exact q2.elim
    | scr _ => exact q2.elim⟩
theorem ae_dsp1 (hw : C.wd = X.w) (hu : X.A.in1.units + 8 < cLine) {k v : Expr} {ek ev : E} (hk : AE C X W k ek) (hv : AE C X W v ev) : AE C X W (.Dict [some k] [v] pos) (eDsp1 ek ev) :=
  ⟨PE.imp (pe_dsp1 (by have : X.A.units + 1 + 8 < cLine := hu; omega) hk.pe hv.pe) fun σ H Q ⟨r, ρ, h, S, RE, q⟩ p hp => by
    have S' := S.alloc (o := .dct 0 [] [] []) hp (u := dxO X.w p 0 []) ⟨[], [], .nil, .nil, rfl, rfl, List.nodup_nil, by simp, by rw [upd_same, hw]; rfl⟩ (by simp [Obj.len])
    have G' := Go.alloc (r := r) (u := dxO X.w p 0 []) hp
    have q' : RP C X.K (r ++ [p]) (upd H p (dxO X.w p 0 [])) (fun r' v _ H' => ∀ x, VR C r' v x → Q x H') (wx C W σ) ((ek ρ (h ++ [.dct 0 [] [] []])).bind fun x h1 => (ev ρ h1).bind fun y h2 => match setKey (.ref h.length) x y h2 with
      | some h3 => .ok (.ref h.length) h3
      | none => .stuck) := RP.go G' q (fun _ _ _ _ _ z => z) fun _ _ _ _ _ z => z
    have er : (r ++ [p])[h.length]? = some p := by rw [← S.len]; simp
    refine ⟨_, ρ, _, S', RE.up G'.up, (RP.bind q').imp fun r1 x h1 H1 g1 S1 q1 z rz => ?_⟩
    refine ⟨r1, ρ, h1, S1, RE.up (G'.up.trans g1.up), (RP.bind q1).imp fun r2 y h2 H2 g2 S2 q2 w rw' => ?_⟩
    split at q2
    · rename_i h3 e
      simp only [setKey] at e
      split at e
      · rename_i ep ts ks xs en
        split at e
        · rename_i kz ez
          split at e
          · rename_i hl
            have e' := Option.some.inj e
            have ead : r2[h.length]? = some p := (g1.up.trans g2.up) _ _ er
            obtain ⟨H', g, S4, G4⟩ := xPut_ok S2 en ead (rz.up g2.up) rw' ez hl.1 hl.2
            rw [e'] at S4
            rw [hw] at g
            exact ⟨H', g, q2 r2 H' G4 S4 _ ⟨p, ead, rfl⟩⟩
          · cases e
        · cases e
      · cases e
    · exact q2.elim⟩
theorem dct_at {r : List Addr} {h : MH} {H : Hp} {K : PySem.W.Frag} (S : Sim C K r h H) {n : Nat} {ep : Nat} {ts : List T} {ks xs : List MV} {x : V} (en : h[n]? = some (.dct ep ts ks xs)) (rx : VR C r (.ref n) x) :
    ∃ a us vs, x = .ref a ∧ r[n]? = some a ∧ VRs C r ks us ∧ VRs C r xs vs ∧ ts.length = us.length ∧ ts.length = vs.length ∧ ts.length = xs.length ∧ H a = some (dxO C.wd a ep (zipX ts us vs)) := by
  obtain ⟨a, ea, rfl⟩ := rx
  obtain ⟨us, vs, ru, rv, l1, l2, nd, kn, eH⟩ := S.ob n _ a en ea
  exact ⟨a, us, vs, rfl, ea, ru, rv, by rw [l1, ← l2]; exact ru.length, by rw [l1]; exact rv.length, l1, eH⟩
theorem noxf_lenB : NoXF fLenB := fun x h c h' e => by
  unfold fLenB at e
  split at e
  · split at e
    · cases e
    · exact noxf_len _ _ _ _ e
  · exact noxf_len _ _ _ _ e
theorem ca_lenB (hw : C.wd = X.w) : CallA C X (.builtin "len") fLenB := by
  obtain ⟨R, hR, old⟩ := ca_len (C := C) (X := X)
  refine ⟨_, hR.or call_lenX, fun r h H x x' Q S rx q => ?_⟩
  unfold fLenB at q
  split at q
  · rename_i n
    split at q
    · rename_i ep ts ks xs en
      obtain ⟨y, rfl, ry⟩ := rx.one
      obtain ⟨a, us, vs, rfl, _, _, _, lu, lv, lx, eH⟩ := dct_at S en ry
      rw [hw] at eH
      exact .inr ⟨a, ep, _, rfl, eH, by rw [zipX_len lu lv, lx]; exact q r H (Go.refl _ _) S _ rfl⟩
    · exact .inl (old r h H _ x' Q S rx q)
  · exact .inl (old r h H _ x' Q S rx q)
theorem noxf_listD : NoXF fListD := fun x h c h' e => by
  unfold fListD at e
  split at e
  · split at e
    · exact nox_alloc e
    · exact noxf_list _ _ _ _ e
  · exact noxf_list _ _ _ _ e
theorem ca_listD (hw : C.wd = X.w) (hc : X.calm = true) : CallA C X (.type "list") fListD := by
  obtain ⟨R, hR, old⟩ := ca_list (C := C) (X := X)
  refine ⟨_, hR.or (call_listX hc), fun r h H x x' Q S rx q => ?_⟩
  unfold fListD at q
  split at q
  · rename_i n
    split at q
    · rename_i ep ts ks xs en
      obtain ⟨y, rfl, ry⟩ := rx.one
      obtain ⟨a, us, vs, rfl, _, ru, _, lu, lv, lx, eH⟩ := dct_at S en ry
      have hl : ks.length ≤ lim := by
        have := S.sz _ _ en
        rw [ru.length, ← lu, lx]
        exact this
      rw [hw] at eH
      refine .inr ⟨a, ep, _, rfl, eH, fun p hp => ?_⟩
      rw [zipX_kvs lu lv]
      obtain ⟨z, zr⟩ := rp_allocL S ru q hl hp
      exact z _ zr
    · exact .inl (old r h H _ x' Q S rx q)
  · exact .inl (old r h H _ x' Q S rx q)
theorem isTy_dict {h : MH} {v : MV} (e : isTy .tdict h v = some true) : ∃ n ep ts ks xs, v = .ref n ∧ h[n]? = some (.dct ep ts ks xs) := by
  cases v with
  | ref n =>
    cases eh : h[n]? with
    | none => simp [isTy, eh] at e
    | some o => cases o with
      | lst xs => simp [isTy, eh] at e
      | tup xs => simp [isTy, eh] at e
      | dct ep ts ks xs => exact ⟨n, ep, ts, ks, xs, rfl, eh⟩
  | non => cases e
  | bl _ => cases e
  | int _ => cases e
  | str _ => cases e
  | scr _ => cases e
theorem VRs.cons2 {r : List Addr} {x : MV} {xs : List MV} {l : List V} (h : VRs C r (x :: xs) l) : ∃ y ys, l = y :: ys ∧ VR C r x y ∧ VRs C r xs ys := by
  cases h with
  | cons a t => exact ⟨_, _, rfl, a, t⟩
theorem mt_getD (hw : C.wd = X.w) (hu : X.A.in1.units + 8 < cLine) : MtA C X "dict.get" mGetD := ⟨_, mt_getDx hu, fun r h H x xs x' xs' Q S rx rxs q => by
  unfold mGetD at q
  split at q
  · rename_i xx hh n k d heq
    injection heq with e1 e2
    subst e1
    subst e2
    split at q
    · rename_i ep ts ks vs en
      split at q
      · rename_i z ez
        split at q
        · rename_i hk
          obtain ⟨y1, ys, rfl, r1, rs⟩ := rxs.cons2
          obtain ⟨y2, rfl, r2⟩ := VRs.one rs
          obtain ⟨a, ea, rfl⟩ := rx
          obtain ⟨o, g, ro⟩ := xGet_ok S en ea r1 ez hk
          rw [hw] at g
          refine ⟨a, _, _, o, _, rfl, rfl, g, q r H (Go.refl _ _) S _ ?_⟩
          cases e : kGet ts vs z with
          | none => rw [e] at ro; cases ro; exact r2
          | some v => rw [e] at ro; obtain ⟨y, rfl, ry⟩ := ro; exact ry
        · exact q.elim
      · exact q.elim
    · exact q.elim
  · exact q.elim⟩
theorem noxf_getD : NoXF mGetD := fun x h c h' e => by
  unfold mGetD at e
  split at e
  · split at e
    · split at e
      · split at e <;> cases e
      · cases e
    · cases e
  · cases e
theorem ae_methD {o e : Expr} {es : List Expr} {eas : EA} {m : PySem.Str} {apos cpos : Pos} {id : String} {f : Fn} (hw : C.wd = X.w) (om : MtA C X id f) (hf : NoXF f) (slot : Slot "dict" m id) (hty : typeOf (.builtin id) = pure (.type "method_descriptor")) (ho : AE C X W o eb) (ha : AA C X W (e :: es) eas)
    (h1 : attributeBase o m X.env (eval o X.env) = eval o X.env := by rfl) (h2 : (((backTo cpos (starEach (e :: es) X.env)).all (!·.1) && (backToKw cpos (keywordEach [] X.env)).all (·.1.isSome)) && decide ((e :: es).length + ([] : List Keyword).length + (if ([] : List Keyword).isEmpty then 0 else 1) < 30)) = true := by rfl) (h3 : (apos.endLine == cpos.line) = true := by rfl)
    (h4 : starEach (e :: es) X.env = (false, eval e X.env) :: starEach es X.env := by rfl) (h5 : (backTo cpos (starEach es X.env)).any (·.1) = false := by rfl) : AE C X W (.Call (.Attribute o m apos) (e :: es) [] cpos) (eMeth .tdict f eb eas) :=
  let ⟨_, hm, hR⟩ := om
  ⟨PE.imp (pe_bmX slot hty hm ho.pe ha.pa h1 h2 h3 h4 h5) fun σ H Q ⟨r, ρ, h, S, R, q⟩ => by
    refine ⟨r, ρ, h, S, R, (RP.bind q).imp fun r1 v h1 H1 g1 S1 q1 x rx => ?_⟩
    split at q1
    · rename_i hty
      obtain ⟨n, ep, ts, ks, xs, rfl, en⟩ := isTy_dict hty
      obtain ⟨a, us, vs, rfl, _, _, _, _, _, _, eH⟩ := dct_at S1 en rx
      rw [hw] at eH
      refine ⟨⟨a, ep, _, rfl, eH⟩, r1, ρ, h1, S1, R.up g1.up, (RP.bind q1).imp fun r2 as h2 H2 g2 S2 q2 xs' rxs => ?_⟩
      exact hR r2 h2 H2 _ as _ xs' Q S2 (rx.up g2.up) rxs (noEx_wx (hf _ _) q2)
    · exact q1.elim⟩
theorem ae_getD (hw : C.wd = X.w) (hu : X.A.in1.units + 8 < cLine) {o e : Expr} {es : List Expr} {eas : EA} {apos cpos : Pos} (ho : AE C X W o eb) (ha : AA C X W (e :: es) eas)
    (h1 : attributeBase o "get" X.env (eval o X.env) = eval o X.env := by rfl) (h2 : (((backTo cpos (starEach (e :: es) X.env)).all (!·.1) && (backToKw cpos (keywordEach [] X.env)).all (·.1.isSome)) && decide ((e :: es).length + ([] : List Keyword).length + (if ([] : List Keyword).isEmpty then 0 else 1) < 30)) = true := by rfl) (h3 : (apos.endLine == cpos.line) = true := by rfl)
    (h4 : starEach (e :: es) X.env = (false, eval e X.env) :: starEach es X.env := by rfl) (h5 : (backTo cpos (starEach es X.env)).any (·.1) = false := by rfl) : AE C X W (.Call (.Attribute o "get" apos) (e :: es) [] cpos) (eMeth .tdict mGetD eb eas) :=
  ae_methD hw (mt_getD hw hu) noxf_getD PySem.F.slot_dict_get PySem.F.type_dict_get ho ha h1 h2 h3 h4 h5
/-! ### walked -/
theorem sameD_eq {h : MH} {a ep : Nat} {ts : List T} {ks : List MV} (e : sameD h a ep ts ks = true) : ∃ xs, h[a]? = some (.dct ep ts ks xs) := by
  unfold sameD at e
  split at e
  · rename_i ep' us ls xs eh
    simp only [Bool.and_eq_true, decide_eq_true_eq] at e
    obtain ⟨⟨rfl, rfl⟩, rfl⟩ := e
    exact ⟨xs, eh⟩
  · cases e
theorem real_dct {K : PySem.W.Frag} {r : List Addr} {p ep n : Nat} {a : Addr} {ts : List T} {ks : List MV} (e : r[p]? = some a) (hn : n = ks.length) (hl : ks.length ≤ lim) : Real C K r (.dct p ep ts ks) (Itx C.wd a ep n) where
  len := by simpa [It.itms] using hl
  go := fun i m r1 h1 H u S g em => by
    obtain ⟨xs, en⟩ := sameD_eq g
    obtain ⟨b, us, vs, eb, eb2, ru, rv, lu, lv, lx, eH⟩ := dct_at S en (x := .ref a) ⟨a, u p a e, rfl⟩
    cases eb
    have := (List.getElem?_eq_some_iff.mp em).1
    simp only [It.itms, List.length_map] at this
    exact ⟨⟨_, eH, by rw [zipX_len lu lv, hn, ru.length, lu]⟩, by rw [hn]; exact this⟩
  stop := fun r1 h1 H u S g => by
    obtain ⟨xs, en⟩ := sameD_eq g
    obtain ⟨b, us, vs, eb, eb2, ru, rv, lu, lv, lx, eH⟩ := dct_at S en (x := .ref a) ⟨a, u p a e, rfl⟩
    cases eb
    exact ⟨⟨_, eH, by rw [zipX_len lu lv, hn, ru.length, lu]⟩, by rw [hn]; simp [It.itms]⟩
  yld := fun i m r1 h1 H x H' u S g em y => by
    obtain ⟨v, ev, rfl⟩ := map_one em
    obtain ⟨xs, en⟩ := sameD_eq g
    obtain ⟨b, us, vs, eb, eb2, ru, rv, lu, lv, lx, eH⟩ := dct_at S en (x := .ref a) ⟨a, u p a e, rfl⟩
    cases eb
    obtain ⟨z, ez, rz⟩ := Paired.getL ru ev
    obtain ⟨d, ed, rfl⟩ := y.2 _ eH
    have : ((zipX ts us vs).map DX.kv)[i]? = some d.kv := by rw [List.getElem?_map, ed]; rfl
    rw [zipX_kvs lu lv, ez] at this
    cases this
    exact ⟨y.1, rz⟩
theorem ai_dct (hw : C.wd = X.w) {tg : Expr} (ha : AE C X W a ea) : AI C X W tg a (iDct ea) :=
  ⟨PI.imp (pi_x ha.pe) fun σ H R ⟨r, ρ, h, S, RE, q⟩ => by
    refine ⟨r, ρ, h, S, RE, (RP.bind q).imp fun r1 v h1 H1 g1 S1 q1 x rx => ?_⟩
    cases v with
    | ref p =>
      simp only at q1
      split at q1
      · rename_i ep ts ks xs en
        obtain ⟨a, us, vs, rfl, ea, ru, rv, lu, lv, lx, eH⟩ := dct_at S1 en rx
        have hl : ks.length ≤ lim := by
          have := S1.sz _ _ en
          rw [ru.length, ← lu, lx]
          exact this
        have z := q1 r1 H1 (Go.refl _ _) S1 _ (real_dct ea (n := (zipX ts us vs).length) (by rw [zipX_len lu lv, lu, ru.length]) hl)
        rw [hw] at eH z
        exact ⟨a, ep, _, rfl, eH, z⟩
      · exact q1.elim
    | non => exact q1.elim
    | bl _ => exact q1.elim
    | int _ => exact q1.elim
    | str _ => exact q1.elim
    | scr _ => exact q1.elim⟩
section
open PySem.W
variable {prog : Program} {w : World} {A : Around} {s : Shared}
theorem firsts_of {M : Model} {A : Around} {E : Value → Shared → Prop} : ∀ {vs : List Value} {ds : List PyData}, EachIs (fun v d => ∃ as, Reads s.heap v d as) vs ds → (∀ d ∈ ds, ∃ xs, d = PyData.tuple xs) →
    ∃ fs : List (Option Value), fs.map Option.isSome = ds.map (fun d => match d with | .tuple (_ :: _) => true | _ => false) ∧ ∀ Q : List (Option Value) → Shared → Prop, Q fs s → wpAny M A (vs.mapM firstOfTuple') Q E s
  | _, _, .nil, _ => ⟨[], rfl, fun Q q => by rw [List.mapM_nil]; exact wpAny_pure q⟩
  | _, _, .cons (b := d) ⟨as, r⟩ t, ht => by
    obtain ⟨fs, h1, h2⟩ := firsts_of (M := M) (A := A) (E := E) t fun d hd => ht d (List.mem_cons_of_mem _ hd)
    obtain ⟨xs, rfl⟩ := ht d (List.mem_cons_self ..)
    cases r with
    | @tuple a o ys n _ _ ho hc hd hr =>
      refine ⟨ys[0]? :: fs, ?_, fun Q q => ?_⟩
      · rw [List.map_cons, List.map_cons, h1]
        congr 1
        rw [← Array.getElem?_toList]
        generalize ys.toList = zs at hr
        cases hr <;> rfl
      · rw [List.mapM_cons]
        refine wpAny_bind ?_
        rw [kas_first_eq]
        refine wpAny_bind (Looks.here (show Looks M s.heap (typeOf (.ref a)) o.cls from (Looks.ld ho).andThen .now) ?_)
        rw [hc, if_neg (by first | decide | simp)]
        refine wpAny_bind (listItems_at ho hd (wpAny_pure ?_))
        exact wpAny_bind (h2 (fun bs s' => wpAny M A (pure (ys[0]? :: bs)) Q E s') (wpAny_pure q))
theorem sortsAt_tups {vs : List Value} {ds : List PyData} (e : EachIs (fun v d => ∃ as, Reads s.heap v d as) vs ds) (hal : AllAlike ds) (ht : ∀ d ∈ ds, ∃ xs, d = PyData.tuple xs) (h0 : ∀ d d' r, ds = d :: d' :: r → ∃ x xs, d = .tuple (x :: xs)) (hu : ∀ d, d ∈ ds → A.units + d.depth < cLine) :
    SortsAt prog w A s (dataKind s.heap ds) vs := by
  by_cases hne : ∀ d ∈ ds, ∃ x r, d = PyData.tuple (x :: r)
  · exact SortsAt.data e hal (.inl hne) hu
  have room : ∀ {d d' : PyData}, d ∈ ds → A.units + min d.depth d'.depth < cLine := fun {d d'} hd => Nat.lt_of_le_of_lt (Nat.add_le_add_left (Nat.min_le_left _ _) _) (hu d hd)
  refine ⟨fun v hv => ?_, general', ?_, fun h2 E Q hq => ?_⟩
  · obtain ⟨d, hd, as, r⟩ := e.left v hv
    exact ⟨_, dataKind_some hal hd r⟩
  · intro E x y a b Q ha hb hq
    obtain ⟨d, as, hd, ra, rfl⟩ := dataKind_inv ha
    obtain ⟨d', as', hd', rb, rfl⟩ := dataKind_inv hb
    show wpAny _ _ (oneLt' false x y) _ _ _
    exact oneLt_alike (f := false) (fun q => nomatch q) ra rb (hal d hd d' hd') (by obtain ⟨xs, rfl⟩ := ht d hd; exact fun q => nomatch q) (room hd) hq
  · obtain ⟨fs, f1, f2⟩ := firsts_of (M := model prog w) (A := A) (E := E) e ht
    rw [kat_kind_eq, List.mapM_toArray, map_eq_pure_bind]
    refine wpAny_bind (wpAny_bind (f2 _ (wpAny_pure ?_)))
    have n1 : ¬ (fs.toArray.all fun x => x.isSome) = true := by
      intro q
      simp only [List.all_toArray, List.all_eq_true] at q
      refine hne fun d hd => ?_
      obtain ⟨xs, rfl⟩ := ht d hd
      have m : (match (PyData.tuple xs) with | .tuple (_ :: _) => true | _ => false) ∈ fs.map Option.isSome := by
        rw [f1]; exact List.mem_map_of_mem hd
      obtain ⟨f, mf, ef⟩ := List.mem_map.mp m
      rw [q f mf] at ef
      cases xs with
      | nil => cases ef
      | cons x r => exact ⟨x, r, rfl⟩
    have hl : ds.length = vs.length := e.length.symm
    obtain ⟨d, d', r, ed⟩ : ∃ d d' r, ds = d :: d' :: r := by
      match ds, hl with
      | [], hl => simp at hl; omega
      | [_], hl => simp at hl; omega
      | d :: d' :: r, _ => exact ⟨d, d', r, rfl⟩
    obtain ⟨x, xs, ex⟩ := h0 d d' r ed
    have p1 : (fs.toArray[0]?.bind id).isSome = true := by
      rw [ed, ex] at f1
      cases fs with
      | nil => simp at f1
      | cons f fs =>
        simp only [List.map_cons, List.cons.injEq] at f1
        simpa using f1.1
    rw [if_neg n1, if_pos p1]
    exact wpAny_pure hq
end
theorem canSortX_alike {ts : List T} (h : canSortX ts = true) : ∀ a ∈ ts, ∀ b ∈ ts, T.alk a b = true := by
  unfold canSortX at h
  rcases Bool.or_eq_true_iff.mp h with h | h
  · exact canSort_alike h
  · simp only [Bool.and_eq_true, List.all_eq_true] at h
    exact h.2
theorem sortsAt_X {prog : Program} {w : World} {A : Around} {s : Shared} {vs : List Value} {ts : List T} (hc : canSortX ts = true) (e : PySem.W.EachIs (fun v d => ∃ as, Reads s.heap v d as) vs (ts.map T.py)) (hal : PySem.W.AllAlike (ts.map T.py)) (hu : ∀ d, d ∈ ts.map T.py → A.units + d.depth < cLine) :
    PySem.W.SortsAt prog w A s (PySem.W.dataKind s.heap (ts.map T.py)) vs := by
  unfold canSortX at hc
  rcases Bool.or_eq_true_iff.mp hc with h | h
  · exact PySem.W.SortsAt.data e hal (canSort_ok h) hu
  · simp only [Bool.and_eq_true, List.all_eq_true] at h
    refine sortsAt_tups e hal (fun d hd => ?_) (fun d d' r ed => ?_) hu
    · obtain ⟨t, mt, rfl⟩ := List.mem_map.mp hd
      have := h.1.2 t mt
      cases t <;> first | exact ⟨_, by rw [T.py]⟩ | cases this
    · have h1 := h.1.1
      match ts, ed, h1 with
      | t :: t' :: q, ed, h1 =>
        simp only [List.map_cons, List.cons.injEq] at ed
        rw [← ed.1]
        have h1 : t.tupNE = true := h1
        unfold T.tupNE at h1
        split at h1
        · exact ⟨_, _, by rw [T.py, T.pys]⟩
        · cases h1
      | [], ed, _ => cases ed
      | [_], ed, _ => cases ed
theorem cr_sortX (hc : X.calm = true) (hu : X.A.units + 64 < cLine) : CallR X (.builtin "sorted") (fun vs H Q => ∃ (a : Addr) (ep : Nat) (xs : List DX) (ts : List T), vs = [V.ref a] ∧ H a = some (dxO X.w a ep xs) ∧ DpAll X.K H (xs.map DX.kv) (T.pys ts) ∧ canSortX ts = true ∧ (∀ t ∈ ts, (T.py t).depth ≤ 59) ∧
    ∀ p, H p = none → Q (.ref p) (upd H p (.lst (sortP (xs.map DX.kv) ts)))) := by
  intro pins s σ H vs us Q I r h
  obtain ⟨a, ep, xs, ts, rfl, e, hd, hcs, hdep, q⟩ := h
  obtain ⟨u, eu, rx⟩ := vals1 r
  subst eu
  cases rx
  have dx := dx_of I.hok e
  obtain ⟨es, raw, sz, ks⟩ := raw_of dx
  refine Calls.call_function_entry kind_sorted plain_sorted entry_sorted (args_sorted1 _) ?_
  unfold Builtin.«sorted»
  refine wpAny_bind (m := checkCount "sorted" 1 1 _) (wpAny_pure ?_)
  refine wpAny_bind (PySem.W.kdu_collect (A := X.A.in1) (KdlSrc.rawDict (es := es) (ep := ep) dx.2.1) (I.ok.hd hc) raw (by rw [sz]; exact dx.1) fun h' tk acc hk hacc => ?_)
  have rv : Vals (xs.map DX.kv) acc.toList := vals_by (by rw [Array.length_toList, hacc.1, sz, List.length_map]) fun j x v ex ev => by
    obtain ⟨hi, e1⟩ := hacc.2 j v (by rw [← Array.getElem?_toList]; exact ev)
    obtain ⟨y, ey, ry⟩ := ks j hi
    rw [List.getElem?_map, ey] at ex
    cases ex
    rw [e1]; exact ry
  have I1 : L2.Inv X pins σ H { s with heap := h', toks := tk } := I.kept hk
  have ln0 : acc.toList.length = xs.length := by rw [← rv.length, List.length_map]
  have hL : acc.toList.length ≤ sizeLine := by rw [ln0]; exact dx.1
  refine wpAny_bind (wpAny_newList ?_ hL)
  have hoL : (h'.push (seqObj "list" acc.toList.toArray 0)).get? h'.objs.size = some (seqObj "list" acc.toList.toArray 0) := Heap.get?_push_size _ rfl
  show wpAny _ _ _ _ _ { s with heap := h'.push (seqObj "list" acc.toList.toArray 0), toks := tk }
  have ln : (xs.map DX.kv).length = ts.length := by rw [dpAll_len hd, pys_map, List.length_map]
  have e0 := each_of_dp hd rv
  have al := canSortX_alike hcs
  have mm : ((xs.map DX.kv).zip ts).map (fun b : V × T => T.py b.2) = ts.map T.py := by
    have : (fun b : V × T => T.py b.2) = T.py ∘ Prod.snd := rfl
    rw [this, ← List.map_map, List.map_snd_zip (by omega)]
  have hal : PySem.W.AllAlike (((xs.map DX.kv).zip ts).map fun b : V × T => T.py b.2) := by
    rw [mm]
    intro d hd d' hd'
    obtain ⟨t, ht, rfl⟩ := List.mem_map.mp hd
    obtain ⟨t', ht', rfl⟩ := List.mem_map.mp hd'
    rw [T.alk_py]; exact al t ht t' ht'
  have er : PySem.W.EachIs (fun v (b : V × T) => ∃ as, Reads (PySem.W.sortingHeap (h'.push (seqObj "list" acc.toList.toArray 0)) h'.objs.size acc.toList) v (T.py b.2) as) acc.toList ((xs.map DX.kv).zip ts) :=
    e0.mono fun v b z => by
      obtain ⟨as, rd⟩ := Dp.reads I1 _ _ _ z.2 z.1
      exact ⟨as, PyProof.Rows.Reads.keeps (fun b o q => PySem.W.sortingHeap_old (Nat.ne_of_lt (Heap.lt_size q)) (Heap.get?_push_of_some _ q)) rd⟩
  have hbd : ∀ d, d ∈ ts.map T.py → X.A.in1.in1.units + d.depth < cLine := fun d hd => by
    obtain ⟨t, mt, rfl⟩ := List.mem_map.mp hd
    have := hdep t mt
    show X.A.units + 1 + 1 + _ < _
    omega
  refine wpAny_bind (wpAny_holding (wpAny_call_entry slot_list_sort ⟨_, hoL, rfl⟩ entry_list_sort
    (PySem.W.list_sort_vals (κ := PySem.W.dataKind (PySem.W.sortingHeap (h'.push (seqObj "list" acc.toList.toArray 0)) h'.objs.size acc.toList) (((xs.map DX.kv).zip ts).map fun b : V × T => T.py b.2)) (s := { s with heap := h'.push (seqObj "list" acc.toList.toArray 0), toks := tk }) hoL
      (by rw [mm]; exact sortsAt_X (s := { s with heap := PySem.W.sortingHeap (h'.push (seqObj "list" acc.toList.toArray 0)) h'.objs.size acc.toList, toks := tk }) hcs (by rw [← mm]; exact PySem.W.each_map (R := fun v d => ∃ as, Reads (PySem.W.sortingHeap (h'.push (seqObj "list" acc.toList.toArray 0)) h'.objs.size acc.toList) v d as) (fun b : V × T => T.py b.2) er) (by rw [← mm]; exact hal) hbd) hL ⟨.none, rfl, ?_⟩)
    (args_list_sort _)))
  · have eo := PySem.W.sortVals_data false (e0.mono fun v (b : V × T) z => (show L2.RelV b.1 v from z.1)) er hal
    generalize PySem.W.sortVals (PySem.W.dataKind _ _) false acc.toList acc.toList = out at eo ⊢
    have es : ((xs.map DX.kv).zip ts).mergeSort (PySem.W.dataLe false fun b : V × T => T.py b.2) = ((xs.map DX.kv).zip ts).mergeSort fun p q => T.le p.2 q.2 := PySem.W.sort_congr fun p hp q hq => by
      rw [PySem.W.dataLe_eq]
      show (!PySem.W.dataLt (T.py q.2) (T.py p.2)) = !T.lt q.2 p.2
      rw [T.lt_py _ _ (al _ (List.of_mem_zip hq).2 _ (List.of_mem_zip hp).2)]
    rw [es] at eo
    have rv2 := vals_of_each (f := Prod.fst) eo
    obtain ⟨ep', he'⟩ := PyProof.Rows.sortedHeap_at (vs := acc.toList) (out := List.toArray out) hoL
    have hlen : (sortP (xs.map DX.kv) ts).length ≤ sizeLine := by
      unfold sortP
      rw [List.length_map, List.length_mergeSort, List.length_zip, List.length_map]
      have := dx.1
      omega
    refine wpAny_pure ⟨_, rfl, .ref h'.objs.size, upd H h'.objs.size (.lst (sortP (xs.map DX.kv) ts)), I1.laid (t' := tk) (fun b u z => ?_) (Nat.le_refl _)
      (show ObjOk X.prog X.w _ _ _ (.lst (sortP (xs.map DX.kv) ts)) from ⟨hlen, out, ep', rv2, he'⟩), rfl, q _ (I1.hok.fresh (Nat.le_refl _))⟩
    have hb : b < h'.objs.size := Heap.lt_size z
    rw [PyProof.Rows.sortedHeap_old (Nat.ne_of_lt hb) (by rw [size_push']; exact Nat.lt_succ_of_lt hb)]
    exact Heap.get?_push_of_some _ z
end
mutual
theorem keyN_fitD : ∀ (t : T) (m : Nat), t.keyN m = true → (T.py t).depth ≤ m
  | .non, m, _ => by simp [T.py, PyData.depth]
  | .int _, m, _ => by simp [T.py, PyData.depth]
  | .str _, m, _ => by simp [T.py, PyData.depth]
  | .tup xs, 0, h => by simp [T.keyN] at h
  | .tup xs, m + 1, h => by
    simp only [T.keyN] at h
    simp only [T.py, PyData.depth]
    have := keyNs_fitD xs m h
    omega
  | .bl _, m, h => by cases m <;> simp [T.keyN] at h
  | .lst _, m, h => by cases m <;> simp [T.keyN] at h
  | .dct _ _, m, h => by cases m <;> simp [T.keyN] at h
  | .scr _, m, h => by cases m <;> simp [T.keyN] at h
theorem keyNs_fitD : ∀ (ts : List T) (m : Nat), T.keyNs m ts = true → PyData.depthAll (T.pys ts) ≤ m
  | [], m, _ => by simp [T.pys, PyData.depthAll]
  | t :: ts, m, h => by
    simp only [T.keyNs, Bool.and_eq_true] at h
    simp only [T.pys, PyData.depthAll]
    have := keyN_fitD t m h.1
    have := keyNs_fitD ts m h.2
    omega
end
theorem kSame_toTs {h : MH} : ∀ {ts : List T} {ks : List MV}, kSame h ts ks = true → toTs deep h ks = some ts ∧ ∀ t ∈ ts, t.keyN 8 = true
  | [], [], _ => ⟨by simp [toTs], by simp⟩
  | [], _ :: _, e => by simp [kSame] at e
  | _ :: _, [], e => by simp [kSame] at e
  | t :: ts, k :: ks, e => by
    simp only [kSame, Bool.and_eq_true, decide_eq_true_eq] at e
    obtain ⟨i1, i2⟩ := kSame_toTs e.2
    have e1 := e.1
    unfold kT at e1
    split at e1
    · rename_i u eu
      split at e1
      · rename_i ku
        cases e1
        exact ⟨by rw [toTs, eu, i1], fun x m => (List.mem_cons.mp m).elim (fun z => z ▸ ku) (i2 x)⟩
      · cases e1
    · cases e1
section
variable {C : Cc} {X : Cx} {W : WX} {a b c : Expr} {ea eb ec : E} {pos : Pos}
theorem noxf_sortedD : NoXF fSortedD := fun x h c h' e => by
  unfold fSortedD at e
  split at e
  · split at e
    · split at e
      · exact nox_alloc e
      · cases e
    · exact noxf_sorted _ _ _ _ e
  · exact noxf_sorted _ _ _ _ e
theorem ca_sortedD (hw : C.wd = X.w) (hc : X.calm = true) (hu : X.A.units + 64 < cLine) : CallA C X (.builtin "sorted") fSortedD := by
  obtain ⟨R, hR, old⟩ := ca_sorted (C := C) (X := X) hu
  refine ⟨_, hR.or (cr_sortX hc hu), fun r h H x x' Q S rx q => ?_⟩
  unfold fSortedD at q
  split at q
  · rename_i n
    split at q
    · rename_i ep ts ks xs en
      split at q
      · rename_i hh
        obtain ⟨y, rfl, ry⟩ := rx.one
        obtain ⟨a, us, vs, rfl, _, ru, _, lu, lv, lx, eH⟩ := dct_at S en ry
        have hl : ks.length ≤ lim := by
          have := S.sz _ _ en
          rw [ru.length, ← lu, lx]
          exact this
        rw [hw] at eH
        obtain ⟨k1, k2⟩ := kSame_toTs hh.1
        obtain ⟨d1, d2, d3⟩ := toTs_dp S _ _ _ _ k1 ru
        refine .inr ⟨a, ep, _, ts, rfl, eH, by rw [zipX_kvs lu lv]; exact d1, hh.2, fun t ht => Nat.le_trans (keyN_fitD t 8 (k2 t ht)) (by decide), fun p hp => ?_⟩
        rw [zipX_kvs lu lv]
        have hl : (sortP ks ts).length ≤ lim := by
          unfold sortP
          rw [List.length_map, List.length_mergeSort, List.length_zip]; omega
        obtain ⟨z, zr⟩ := rp_allocL S (ru.sortP ts) q hl hp
        exact z _ zr
      · exact q.elim
    · exact .inl (old r h H _ x' Q S rx q)
  · exact .inl (old r h H _ x' Q S rx q)
end
end Mi
namespace Mi
theorem hu8_of {A : PySem.Around} (h : A.units + 64 < PySem.cLine) : A.in1.units + 8 < PySem.cLine := by
  show A.units + 1 + 8 < PySem.cLine
  omega
end Mi
set_option linter.all false
set_option maxRecDepth 100000
set_option maxHeartbeats 4000000
namespace Mi
def m_is_lot : Fn := fBody 2 6 ((sSeq (sAsg (gName 2) (eCall fAll (aCons (eLc (iZip (eVar 1) (eSlice (eVar 1) (oSome (eC (.int 1))) oNone)) (gTwo (gName 3) (gName 4)) eT (e2 opLt (eVar 3) (eVar 4)) [3, 4]) aNil)))
    (sRet (eAnd (eVar 2) (eCall fAll (aCons (eLc (iSeq (eVar 1)) (gOne (gName 5)) eT (eChain opLe opLt (eC (.int 0)) (eVar 5) (eVar 0)) [5]) aNil))))))
def m_is_frame : Fn := fBody 1 4 ((sSeq (sAsg (gTup 2 (gCons (gName 1) (gCons (gName 2) gNil))) (eVar 0))
    (sSeq (sIf (eOr (eNot (eChain opLe opLe (eC (.int 0)) (eVar 1) (eC (.int 40)))) (e2 opGt (eCall fLen (aCons (eVar 2) aNil)) (eC (.int 200))))
    (sRet (eC (.bl false)))
    sSkip)
    (sRet (eCall fAll (aCons (eLc (iSeq (eVar 2)) (gOne (gName 3)) eT (eCall m_is_lot (aCons (eVar 1) (aCons (eVar 3) aNil))) [3]) aNil))))))
def m_must_frame : Fn := fBody 1 1 ((sIf (eNot (eCall m_is_frame (aCons (eVar 0) aNil)))
    (sRaise 1)
    sSkip))
def m_holds_all : Fn := fBody 2 3 ((sRet (eCall fAll (aCons (eLc (iSeq (eVar 1)) (gOne (gName 2)) eT (e2 opIn (eVar 2) (eVar 0)) [2]) aNil))))
def m_closed : Fn := fBody 2 7 ((sSeq (sAsg (gTup 2 (gCons (gName 2) (gCons (gName 3) gNil))) (eVar 0))
    (sSeq (sAsg (gName 4) (eListRng (eC (.int 0)) (eVar 2)))
    (sSeq (sFor (iSeq (eVar 3)) (gOne (gName 5))
    (sIf (eCall m_holds_all (aCons (eVar 5) (aCons (eVar 1) aNil)))
    (sAsg (gName 4) (eLc (iSeq (eVar 4)) (gOne (gName 6)) (e2 opIn (eVar 6) (eVar 5)) (eVar 6) [6]))
    sSkip))
    (sRet (eVar 4))))))
def m_must_lot : Fn := fBody 2 2 ((sIf (eNot (eCall m_is_lot (aCons (e2 opIx (eVar 0) (eC (.int 0))) (aCons (eVar 1) aNil))))
    (sRaise 2)
    sSkip))
def m_closing : Fn := fBody 2 2 ((sSeq (sExpr (eCall m_must_frame (aCons (eVar 0) aNil)))
    (sSeq (sExpr (eCall m_must_lot (aCons (eVar 0) (aCons (eVar 1) aNil))))
    (sRet (eCall m_closed (aCons (eVar 0) (aCons (eVar 1) aNil)))))))
def m_common : Fn := fBody 2 3 ((sRet (eLc (iSeq (eVar 0)) (gOne (gName 2)) (e2 opIn (eVar 2) (eVar 1)) (eVar 2) [2])))
def m_all_things : Fn := fBody 1 6 ((sSeq (sAsg (gTup 2 (gCons (gName 1) (gCons (gName 2) gNil))) (eVar 0))
    (sSeq (sAsg (gName 3) (eDsp1 (eTupRng (eVar 1)) (eC (.bl true))))
    (sSeq (sFor (iSeq (eVar 2)) (gOne (gName 4))
    (sFor (iSeq (eCall fListD (aCons (eVar 3) aNil))) (gOne (gName 5))
    (sSetKey (eC (.bl true)) (eVar 3) (eCall fTuple (aCons (eCall m_common (aCons (eCall fList (aCons (eVar 5) aNil)) (aCons (eVar 4) aNil))) aNil)))))
    (sRet (eLc (iSeq (eCall fSortedD (aCons (eVar 3) aNil))) (gOne (gName 5)) eT (eCall fList (aCons (eVar 5) aNil)) [5]))))))
def m_things : Fn := fBody 1 1 ((sSeq (sExpr (eCall m_must_frame (aCons (eVar 0) aNil)))
    (sRet (eCall m_all_things (aCons (eVar 0) aNil)))))
def m__law_at : Fn := fBody 2 2 ((sSeq (sIf (e2 opLt (eVar 1) (eCall fLen (aCons (eVar 0) aNil)))
    (sRet (e2 opIx (eVar 0) (eVar 1)))
    sSkip)
    (sRet (eC (.int 0)))))
def m__law_mixed : Fn := fBody 2 3 ((sSeq (sAsg (gName 2) (e2 opMod (e2 opAdd (e2 opAdd (e2 opAdd (e2 opMul (eVar 0) (eC (.int 1103515245))) (e2 opMul (e2 opMul (eC (.int 7919)) (eVar 1)) (eVar 1))) (eVar 1)) (eC (.int 1))) (eC (.int 2147483647))))
    (sSeq (sAsg (gName 2) (e2 opMod (e2 opAdd (e2 opMul (eVar 2) (eVar 2)) (eC (.int 69621))) (eC (.int 2147483629))))
    (sRet (e2 opMod (e2 opMul (eVar 2) (eC (.int 48271))) (eC (.int 2147483587)))))))
def m__law_purse : Fn := fBody 2 3 ((sSeq (sAsg (gName 2) (eCall m__law_at (aCons (eVar 0) (aCons (eVar 1) aNil))))
    (sRet (eLst (aCons (eCall fMax (aCons (e2 opSub (eVar 2) (e2 opPow (eC (.int 10)) (eC (.int 18)))) (aCons (eC (.int 0)) aNil))) (aCons (e2 opMod (eVar 2) (eC (.int 2147483647))) (aCons (e2 opMul (eC (.int 1000)) (eVar 1)) aNil)))))))
def m__law_draw : Fn := fBody 2 5 ((sSeq (sIf (e2 opGt (e2 opIx (eVar 0) (eC (.int 0))) (eC (.int 0)))
    (sSeq (sAsg (gName 2) (e2 opMod (e2 opIx (eVar 0) (eC (.int 0))) (eVar 1)))
    (sSeq (sSetIx (e2 opDiv (e2 opIx (eVar 0) (eC (.int 0))) (eVar 1)) (eVar 0) (eC (.int 0)))
    (sRet (eVar 2))))
    sSkip)
    (sSeq (sAsg (gName 3) (eC (.int 0)))
    (sSeq (sFor (iRng (e2 opAdd (eC (.int 1)) (e2 opDiv (e1 (fun v h => mBitLen [v] h) (eVar 1)) (eC (.int 30))))) (gOne (gName 4))
    (sSeq (sSetIx (e2 opAdd (e2 opIx (eVar 0) (eC (.int 2))) (eC (.int 1))) (eVar 0) (eC (.int 2)))
    (sAsg (gName 3) (e2 opAdd (e2 opMul (eVar 3) (eC (.int 2147483587))) (eCall m__law_mixed (aCons (e2 opIx (eVar 0) (eC (.int 1))) (aCons (e2 opIx (eVar 0) (eC (.int 2))) aNil)))))))
    (sRet (e2 opMod (eVar 3) (eVar 1)))))))
def m__law_closed : Fn := fBody 2 5 ((sSeq (sAsg (gName 2) (eListRng (eC (.int 0)) (e2 opIx (eVar 0) (eC (.int 0)))))
    (sSeq (sFor (iSeq (e2 opIx (eVar 0) (eC (.int 1)))) (gOne (gName 3))
    (sIf (e2 opEq (eLc (iSeq (eVar 1)) (gOne (gName 4)) (e2 opNotIn (eVar 4) (eVar 3)) (eVar 4) [4]) (eLst aNil))
    (sAsg (gName 2) (eLc (iSeq (eVar 2)) (gOne (gName 4)) (e2 opIn (eVar 4) (eVar 3)) (eVar 4) [4]))
    sSkip))
    (sRet (eVar 2)))))
def m__law_lot : Fn := fBody 2 4 ((sSeq (sAsg (gName 2) (eCall m__law_draw (aCons (eVar 0) (aCons (e2 opShl (eC (.int 1)) (eVar 1)) aNil))))
    (sRet (eLc (iRng (eVar 1)) (gOne (gName 3)) (e2 opEq (e2 opAnd (e2 opShr (eVar 2) (eVar 3)) (eC (.int 1))) (eC (.int 1))) (eVar 3) [3]))))
def m__law_frame : Fn := fBody 2 5 ((sSeq (sAsg (gName 2) (eCall m__law_draw (aCons (eVar 0) (aCons (e2 opAdd (eVar 1) (eC (.int 1))) aNil))))
    (sSeq (sAsg (gName 3) (eLst aNil))
    (sSeq (sFor (iRng (eCall m__law_draw (aCons (eVar 0) (aCons (eC (.int 9)) aNil)))) (gOne (gName 4))
    (sExpr (eMeth .tlist mAppend (eVar 3) (aCons (eCall m__law_lot (aCons (eVar 0) (aCons (eVar 2) aNil))) aNil))))
    (sRet (eTup (aCons (eVar 2) (aCons (eVar 3) aNil))))))))
def m__law_due : Fn := fBody 1 6 ((sSeq (sAsg (gName 1) (eLst (aCons (eListRng (eC (.int 0)) (e2 opIx (eVar 0) (eC (.int 0)))) aNil)))
    (sSeq (sFor (iSeq (e2 opIx (eVar 0) (eC (.int 1)))) (gOne (gName 2))
    (sFor (iSeq (eCall fList (aCons (eVar 1) aNil))) (gOne (gName 3))
    (sSeq (sAsg (gName 4) (eLc (iSeq (eVar 3)) (gOne (gName 5)) (e2 opIn (eVar 5) (eVar 2)) (eVar 5) [5]))
    (sIf (e2 opNotIn (eVar 4) (eVar 1))
    (sExpr (eMeth .tlist mAppend (eVar 1) (aCons (eVar 4) aNil)))
    sSkip))))
    (sRet (eCall fSorted (aCons (eVar 1) aNil))))))
def m__law_all_lots : Fn := fBody 1 5 ((sSeq (sAsg (gName 1) (eLst aNil))
    (sSeq (sFor (iRng (e2 opShl (eC (.int 1)) (e2 opIx (eVar 0) (eC (.int 0))))) (gOne (gName 2))
    (sSeq (sAsg (gName 3) (eLc (iRng (e2 opIx (eVar 0) (eC (.int 0)))) (gOne (gName 4)) (e2 opEq (e2 opAnd (e2 opShr (eVar 2) (eVar 4)) (eC (.int 1))) (eC (.int 1))) (eVar 4) [4]))
    (sIf (e2 opEq (eCall m__law_closed (aCons (eVar 0) (aCons (eVar 3) aNil))) (eVar 3))
    (sExpr (eMeth .tlist mAppend (eVar 1) (aCons (eVar 3) aNil)))
    sSkip)))
    (sRet (eCall fSorted (aCons (eVar 1) aNil))))))
def m__law_right : Fn := fBody 1 8 ((sSeq (sAsg (gName 1) (eCall m__law_due (aCons (eVar 0) aNil)))
    (sSeq (sIf (eAnd (e2 opLt (e2 opIx (eVar 0) (eC (.int 0))) (eC (.int 7))) (e2 opNe (eVar 1) (eCall m__law_all_lots (aCons (eVar 0) aNil))))
    (sRet (eC (.bl false)))
    sSkip)
    (sSeq (sAsg (gName 2) (eLc (iSeq (e2 opIx (eVar 0) (eC (.int 1)))) (gOne (gName 7)) eT (eCall fList (aCons (eVar 7) aNil)) [7]))
    (sSeq (sFor (iRng (eC (.int 3))) (gOne (gName 3))
    (sSeq (sAsg (gName 4) (eCall m_things (aCons (eVar 0) aNil)))
    (sSeq (sIf (eOr (eNot (eIsi .tlist (eVar 4))) (eOr (e2 opNe (eVar 4) (eVar 1)) (e2 opNe (e2 opIx (eVar 0) (eC (.int 1))) (eVar 2))))
    (sRet (eC (.bl false)))
    sSkip)
    (sSeq (sFor (iEnum (eVar 4)) (gTwo (gName 5) (gName 6))
    (sSeq (sIf (eOr (eNot (eIsi .tlist (eVar 6))) (eOr (e2 opNe (eVar 6) (e2 opIx (eVar 1) (eVar 5))) (eAnd (e2 opEq (eVar 3) (eC (.int 0))) (e2 opNe (eCall m_closing (aCons (eVar 0) (aCons (eVar 6) aNil))) (eVar 6)))))
    (sRet (eC (.bl false)))
    sSkip)
    (sExpr (eMeth .tlist mAppend (eVar 6) (aCons (e2 opAdd (eC (.int 20)) (eVar 5)) aNil)))))
    (sSeq (sIf (e2 opNe (eLc (iSeq (eVar 4)) (gOne (gName 6)) eT (eSlice (eVar 6) oNone (oSome (eNeg (eC (.int 1))))) [6]) (eVar 1))
    (sRet (eC (.bl false)))
    sSkip)
    (sExpr (eMeth .tlist mClear (eVar 4) aNil)))))))
    (sRet (eC (.bl true))))))))
def m_law : Fn := fBody 1 4 ((sSeq (sFor (iRng (eC (.int 4))) (gOne (gName 1))
    (sSeq (sAsg (gName 2) (eCall m__law_purse (aCons (eVar 0) (aCons (eVar 1) aNil))))
    (sSeq (sAsg (gName 3) (eCall m__law_frame (aCons (eVar 2) (aCons (e2 opIx (eLst (aCons (eC (.int 6)) (aCons (eC (.int 10)) aNil))) (eCall m__law_draw (aCons (eVar 2) (aCons (eC (.int 2)) aNil)))) aNil))))
    (sIf (eOr (eNot (eCall m__law_right (aCons (eVar 3) aNil))) (eOr (eNot (eCall m__law_right (aCons (eTup (aCons (e2 opIx (eVar 3) (eC (.int 0))) (aCons (eLst aNil) aNil))) aNil))) (eNot (eCall m__law_right (aCons (eTup (aCons (eC (.int 0)) (aCons (e2 opMul (eLst (aCons (eLst aNil) aNil)) (e2 opMod (eVar 1) (eC (.int 3)))) aNil))) aNil)))))
    (sRet (eC (.bl false)))
    sSkip))))
    (sRet (eC (.bl true)))))
end Mi
set_option linter.all false
set_option maxRecDepth 100000
set_option maxHeartbeats 4000000
namespace Mi
open PySem PySem.Spec L2
def top (i : Nat) : Stmt := PySem.Challenge.pw_beneathsay_k12_things.main.body.getD i (.Pass ⟨0, 0, 0, 0⟩)
abbrev s_is_lot : Stmt := top 7
abbrev s_is_frame : Stmt := top 8
abbrev s_must_frame : Stmt := top 9
abbrev s_holds_all : Stmt := top 10
abbrev s_closed : Stmt := top 11
abbrev s_must_lot : Stmt := top 12
abbrev s_closing : Stmt := top 13
abbrev s_common : Stmt := top 14
abbrev s_all_things : Stmt := top 15
abbrev s_things : Stmt := top 16
abbrev s__law_at : Stmt := top 18
abbrev s__law_mixed : Stmt := top 19
abbrev s__law_purse : Stmt := top 20
abbrev s__law_draw : Stmt := top 21
abbrev s__law_closed : Stmt := top 22
abbrev s__law_lot : Stmt := top 23
abbrev s__law_frame : Stmt := top 24
abbrev s__law_due : Stmt := top 25
abbrev s__law_all_lots : Stmt := top 26
abbrev s__law_right : Stmt := top 27
abbrev s_law : Stmt := top 28
structure ExcT (K : PySem.W.Frag) (mg : PySem.Str → Option Value) (x : PySem.Str) (a : Addr) : Prop where
  q : PySem.W.excIn K a [.type "ValueError", .type "Exception", .type "BaseException", .type "object"] "ValueError.__new__" = true
  g : mg x = some (.ref a)
  k : PySem.W.keepIn K (.ref a) = true
  b : PySem.W.subIn K (.ref a) (.type "BaseException") = some true
  t : PySem.W.typeIn K (.ref a) = some (.type "type")
structure Txt (K : PySem.W.Frag) (mg : PySem.Str → Option Value) (exc : Nat → Addr) : Prop where
  f_is_lot : Std K mg "is_lot" s_is_lot
  f_is_frame : Std K mg "is_frame" s_is_frame
  f_must_frame : Std K mg "must_frame" s_must_frame
  f_holds_all : Std K mg "holds_all" s_holds_all
  f_closed : Std K mg "closed" s_closed
  f_must_lot : Std K mg "must_lot" s_must_lot
  f_closing : Std K mg "closing" s_closing
  f_common : Std K mg "common" s_common
  f_all_things : Std K mg "all_things" s_all_things
  f_things : Std K mg "things" s_things
  f__law_at : Std K mg "_law_at" s__law_at
  f__law_mixed : Std K mg "_law_mixed" s__law_mixed
  f__law_purse : Std K mg "_law_purse" s__law_purse
  f__law_draw : Std K mg "_law_draw" s__law_draw
  f__law_closed : Std K mg "_law_closed" s__law_closed
  f__law_lot : Std K mg "_law_lot" s__law_lot
  f__law_frame : Std K mg "_law_frame" s__law_frame
  f__law_due : Std K mg "_law_due" s__law_due
  f__law_all_lots : Std K mg "_law_all_lots" s__law_all_lots
  f__law_right : Std K mg "_law_right" s__law_right
  f_law : Std K mg "law" s_law
  z_all : mg "all" = none
  z_enumerate : mg "enumerate" = none
  z_isinstance : mg "isinstance" = none
  z_len : mg "len" = none
  z_list : mg "list" = none
  z_max : mg "max" = none
  z_range : mg "range" = none
  z_sorted : mg "sorted" = none
  z_tuple : mg "tuple" = none
  z_zip : mg "zip" = none
  c_MOST_LOTS : ∃ t, mg "MOST_LOTS" = some (.int 200 t)
  c_MOST_NUMBERS : ∃ t, mg "MOST_NUMBERS" = some (.int 40 t)
  x_NoFrame : ExcT K mg "NoFrame" (exc 1)
  x_NoLot : ExcT K mg "NoLot" (exc 2)
theorem sc_is_lot : FnScope ["count", "lot", "rising", "one", "other", "number"] ["count", "lot"] (defScope s_is_lot) := ⟨rfl, rfl, rfl, by decide +kernel, rfl, by decide +kernel, by decide +kernel⟩
theorem sc_is_frame : FnScope ["frame", "count", "lots", "lot"] ["frame"] (defScope s_is_frame) := ⟨rfl, rfl, rfl, by decide +kernel, rfl, by decide +kernel, by decide +kernel⟩
theorem sc_must_frame : FnScope ["frame"] ["frame"] (defScope s_must_frame) := ⟨rfl, rfl, rfl, by decide +kernel, rfl, by decide +kernel, by decide +kernel⟩
theorem sc_holds_all : FnScope ["one", "other", "number"] ["one", "other"] (defScope s_holds_all) := ⟨rfl, rfl, rfl, by decide +kernel, rfl, by decide +kernel, by decide +kernel⟩
theorem sc_closed : FnScope ["frame", "lot", "count", "lots", "found", "one", "number"] ["frame", "lot"] (defScope s_closed) := ⟨rfl, rfl, rfl, by decide +kernel, rfl, by decide +kernel, by decide +kernel⟩
theorem sc_must_lot : FnScope ["frame", "lot"] ["frame", "lot"] (defScope s_must_lot) := ⟨rfl, rfl, rfl, by decide +kernel, rfl, by decide +kernel, by decide +kernel⟩
theorem sc_closing : FnScope ["frame", "lot"] ["frame", "lot"] (defScope s_closing) := ⟨rfl, rfl, rfl, by decide +kernel, rfl, by decide +kernel, by decide +kernel⟩
theorem sc_common : FnScope ["one", "other", "number"] ["one", "other"] (defScope s_common) := ⟨rfl, rfl, rfl, by decide +kernel, rfl, by decide +kernel, by decide +kernel⟩
theorem sc_all_things : FnScope ["frame", "count", "lots", "found", "lot", "thing"] ["frame"] (defScope s_all_things) := ⟨rfl, rfl, rfl, by decide +kernel, rfl, by decide +kernel, by decide +kernel⟩
theorem sc_things : FnScope ["frame"] ["frame"] (defScope s_things) := ⟨rfl, rfl, rfl, by decide +kernel, rfl, by decide +kernel, by decide +kernel⟩
theorem sc__law_at : FnScope ["_law_script", "_law_k"] ["_law_script", "_law_k"] (defScope s__law_at) := ⟨rfl, rfl, rfl, by decide +kernel, rfl, by decide +kernel, by decide +kernel⟩
theorem sc__law_mixed : FnScope ["_law_cell", "_law_k", "_law_number"] ["_law_cell", "_law_k"] (defScope s__law_mixed) := ⟨rfl, rfl, rfl, by decide +kernel, rfl, by decide +kernel, by decide +kernel⟩
theorem sc__law_purse : FnScope ["_law_script", "_law_at_here", "_law_cell"] ["_law_script", "_law_at_here"] (defScope s__law_purse) := ⟨rfl, rfl, rfl, by decide +kernel, rfl, by decide +kernel, by decide +kernel⟩
theorem sc__law_draw : FnScope ["_law_purse_here", "_law_out_of", "_law_drawn", "_law_number", "_law_k"] ["_law_purse_here", "_law_out_of"] (defScope s__law_draw) := ⟨rfl, rfl, rfl, by decide +kernel, rfl, by decide +kernel, by decide +kernel⟩
theorem sc__law_closed : FnScope ["_law_frame_here", "_law_lot_here", "_law_found", "_law_one", "_law_number"] ["_law_frame_here", "_law_lot_here"] (defScope s__law_closed) := ⟨rfl, rfl, rfl, by decide +kernel, rfl, by decide +kernel, by decide +kernel⟩
theorem sc__law_lot : FnScope ["_law_purse_here", "_law_count", "_law_bits", "_law_number"] ["_law_purse_here", "_law_count"] (defScope s__law_lot) := ⟨rfl, rfl, rfl, by decide +kernel, rfl, by decide +kernel, by decide +kernel⟩
theorem sc__law_frame : FnScope ["_law_purse_here", "_law_most", "_law_count", "_law_lots", "_law_k"] ["_law_purse_here", "_law_most"] (defScope s__law_frame) := ⟨rfl, rfl, rfl, by decide +kernel, rfl, by decide +kernel, by decide +kernel⟩
theorem sc__law_due : FnScope ["_law_frame_here", "_law_found", "_law_lot_here", "_law_thing", "_law_mutual", "_law_number"] ["_law_frame_here"] (defScope s__law_due) := ⟨rfl, rfl, rfl, by decide +kernel, rfl, by decide +kernel, by decide +kernel⟩
theorem sc__law_all_lots : FnScope ["_law_frame_here", "_law_found", "_law_bits", "_law_lot_here", "_law_number"] ["_law_frame_here"] (defScope s__law_all_lots) := ⟨rfl, rfl, rfl, by decide +kernel, rfl, by decide +kernel, by decide +kernel⟩
theorem sc__law_right : FnScope ["_law_frame_here", "_law_due_here", "_law_stayed", "_law_turn", "_law_found", "_law_k", "_law_one", "_law_lot_here"] ["_law_frame_here"] (defScope s__law_right) := ⟨rfl, rfl, rfl, by decide +kernel, rfl, by decide +kernel, by decide +kernel⟩
theorem sc_law : FnScope ["_law_script", "_law_cell", "_law_purse_here", "_law_frame_here"] ["_law_script"] (defScope s_law) := ⟨rfl, rfl, rfl, by decide +kernel, rfl, by decide +kernel, by decide +kernel⟩
section
variable {P : Program} {w : World} {K : PySem.W.Frag} {mg : PySem.Str → Option Value} {base : Heap} {C : Cc} (hw : C.wd = w)
include hw
theorem k_is_lot (T : Txt K mg C.exc)  : Kno P w K mg base C "is_lot" 2 1 m_is_lot := by
  refine kno_def ["count", "lot", "rising", "one", "other", "number"] ["count", "lot"] 0 T.f_is_lot sc_is_lot (fun _ _ _ _ _ _ us hl => match us, hl with | [_, _], _ => rfl) rfl rfl fun f cdv A outer s H E hr => ?_
  · have nd : (["count", "lot", "rising", "one", "other", "number"] : List PySem.Str).Nodup := sc_is_lot.nd
    have tk := takes_of (X := cxOf (L2.CX P w) P w K mg base ["count", "lot", "rising", "one", "other", "number"] "is_lot" (defScope s_is_lot) f cdv A outer s H E) rfl rfl rfl rfl
    have hp := passes_of (X := cxOf (L2.CX P w) P w K mg base ["count", "lot", "rising", "one", "other", "number"] "is_lot" (defScope s_is_lot) f cdv A outer s H E) rfl
    have hu := Room.hu hr
    have hu5 := Room.hu5 hr
    have hu8 := hu8_of hu
    exact (ass_cons (as_set 2 nd (ae_blt (ca_all rfl) noxf_all rfl T.z_all (by decide +kernel) (aa_cons (ae_lc rfl nd (own := [("one", 3), ("other", 4)]) (ai_zip rfl T.z_zip (ae_var 1) (ae_sliceBy sa_slice nox_slice (ae_var 1) (ao_some (ae_int)) ao_none)) (blkOk_by (N := ["count", "lot", "rising", "one", "other", "number"]) (sc := defScope s_is_lot) (by decide +kernel)) (fun _ _ _ _ _ => (agi_two rfl (ag_name 3 nd) (ag_name 4 nd))) (fun _ _ _ _ _ => ats_nil) (fun _ _ _ _ _ => (ae_cmp oa_lt nox_lt (ae_var 3) (ae_var 4))) (giw_two gw_name gw_name)) aa_nil)))
    (ass_one (as_ret (ae_and (ae_var 2) (ae_one (ae_blt (ca_all rfl) noxf_all rfl T.z_all (by decide +kernel) (aa_cons (ae_lc rfl nd (own := [("number", 5)]) (ai_seq (ae_var 1)) (blkOk_by (N := ["count", "lot", "rising", "one", "other", "number"]) (sc := defScope s_is_lot) (by decide +kernel)) (fun _ _ _ _ _ => (agi_one (ag_name 5 nd))) (fun _ _ _ _ _ => ats_nil) (fun _ _ _ _ _ => (ae_chain oa_le nox_le oa_lt nox_lt (ae_int) (ae_var 5) (ae_var 0))) (giw_one gw_name)) aa_nil)))))))
theorem k_is_frame (T : Txt K mg C.exc) (K_is_lot : Kno P w K mg base C "is_lot" 2 1 m_is_lot) : Kno P w K mg base C "is_frame" 1 2 m_is_frame := by
  refine kno_def ["frame", "count", "lots", "lot"] ["frame"] 1 T.f_is_frame sc_is_frame (fun _ _ _ _ _ _ us hl => match us, hl with | [_], _ => rfl) rfl rfl fun f cdv A outer s H E hr => ?_
  · have nd : (["frame", "count", "lots", "lot"] : List PySem.Str).Nodup := sc_is_frame.nd
    have tk := takes_of (X := cxOf (L2.CX P w) P w K mg base ["frame", "count", "lots", "lot"] "is_frame" (defScope s_is_frame) f cdv A outer s H E) rfl rfl rfl rfl
    have hp := passes_of (X := cxOf (L2.CX P w) P w K mg base ["frame", "count", "lots", "lot"] "is_frame" (defScope s_is_frame) f cdv A outer s H E) rfl
    have hu := Room.hu hr
    have hu5 := Room.hu5 hr
    have hu8 := hu8_of hu
    exact (ass_cons (as_asg (ae_var 0) (ag_tup rfl (ags_cons (ag_name 1 nd) (ags_cons (ag_name 2 nd) ags_nil))))
    (ass_cons (as_if (AW.at (aw_or (at_not (at_chain oa_le nox_le oa_le nox_le (ae_int) (ae_var 1) (by obtain ⟨_, e⟩ := T.c_MOST_NUMBERS; exact ae_glob (y := .int 40) rfl e ⟨_, rfl⟩ (fun _ => rfl)))) (aw_or1 (at_cmp oa_gt nox_gt (ae_blt ca_len noxf_len rfl T.z_len (by decide +kernel) (aa_cons (ae_var 2) aa_nil)) (by obtain ⟨_, e⟩ := T.c_MOST_LOTS; exact ae_glob (y := .int 200) rfl e ⟨_, rfl⟩ (fun _ => rfl))))))
    (ass_one (as_ret (ae_bl)))
    ass_nil)
    (ass_one (as_ret (ae_blt (ca_all rfl) noxf_all rfl T.z_all (by decide +kernel) (aa_cons (ae_lc rfl nd (own := [("lot", 3)]) (ai_seq (ae_var 2)) (blkOk_by (N := ["frame", "count", "lots", "lot"]) (sc := defScope s_is_frame) (by decide +kernel)) (fun _ _ _ _ _ => (agi_one (ag_name 3 nd))) (fun _ _ _ _ _ => ats_nil) (fun _ _ _ _ _ => (ae_call K_is_lot (hr.mono (by decide)) takes0 rfl (lenA_cons (lenA_cons lenA_nil)) (aa_cons (ae_var 1) (aa_cons (ae_var 3) aa_nil)))) (giw_one gw_name)) aa_nil))))))
theorem k_must_frame (T : Txt K mg C.exc) (K_is_frame : Kno P w K mg base C "is_frame" 1 2 m_is_frame) : Kno P w K mg base C "must_frame" 1 3 m_must_frame := by
  refine kno_def ["frame"] ["frame"] 2 T.f_must_frame sc_must_frame (fun _ _ _ _ _ _ us hl => match us, hl with | [_], _ => rfl) rfl rfl fun f cdv A outer s H E hr => ?_
  · have nd : (["frame"] : List PySem.Str).Nodup := sc_must_frame.nd
    have tk := takes_of (X := cxOf (L2.CX P w) P w K mg base ["frame"] "must_frame" (defScope s_must_frame) f cdv A outer s H E) rfl rfl rfl rfl
    have hp := passes_of (X := cxOf (L2.CX P w) P w K mg base ["frame"] "must_frame" (defScope s_must_frame) f cdv A outer s H E) rfl
    have hu := Room.hu hr
    have hu5 := Room.hu5 hr
    have hu8 := hu8_of hu
    exact (ass_one (as_if (at_not (at_val (ae_call K_is_frame (hr.mono (by decide)) tk rfl (lenA_cons lenA_nil) (aa_cons (ae_var 0) aa_nil))))
    (ass_one (as_raise 1 rfl tk T.x_NoFrame.q T.x_NoFrame.g T.x_NoFrame.k T.x_NoFrame.b T.x_NoFrame.t rfl))
    ass_nil))
theorem k_holds_all (T : Txt K mg C.exc)  : Kno P w K mg base C "holds_all" 2 1 m_holds_all := by
  refine kno_def ["one", "other", "number"] ["one", "other"] 0 T.f_holds_all sc_holds_all (fun _ _ _ _ _ _ us hl => match us, hl with | [_, _], _ => rfl) rfl rfl fun f cdv A outer s H E hr => ?_
  · have nd : (["one", "other", "number"] : List PySem.Str).Nodup := sc_holds_all.nd
    have tk := takes_of (X := cxOf (L2.CX P w) P w K mg base ["one", "other", "number"] "holds_all" (defScope s_holds_all) f cdv A outer s H E) rfl rfl rfl rfl
    have hp := passes_of (X := cxOf (L2.CX P w) P w K mg base ["one", "other", "number"] "holds_all" (defScope s_holds_all) f cdv A outer s H E) rfl
    have hu := Room.hu hr
    have hu5 := Room.hu5 hr
    have hu8 := hu8_of hu
    exact (ass_one (as_ret (ae_blt (ca_all rfl) noxf_all rfl T.z_all (by decide +kernel) (aa_cons (ae_lc rfl nd (own := [("number", 2)]) (ai_seq (ae_var 1)) (blkOk_by (N := ["one", "other", "number"]) (sc := defScope s_holds_all) (by decide +kernel)) (fun _ _ _ _ _ => (agi_one (ag_name 2 nd))) (fun _ _ _ _ _ => ats_nil) (fun _ _ _ _ _ => (ae_cmp (oa_in hu5) nox_in (ae_var 2) (ae_var 0))) (giw_one gw_name)) aa_nil))))
theorem k_closed (T : Txt K mg C.exc) (K_holds_all : Kno P w K mg base C "holds_all" 2 1 m_holds_all) : Kno P w K mg base C "closed" 2 2 m_closed := by
  refine kno_def ["frame", "lot", "count", "lots", "found", "one", "number"] ["frame", "lot"] 1 T.f_closed sc_closed (fun _ _ _ _ _ _ us hl => match us, hl with | [_, _], _ => rfl) rfl rfl fun f cdv A outer s H E hr => ?_
  · have nd : (["frame", "lot", "count", "lots", "found", "one", "number"] : List PySem.Str).Nodup := sc_closed.nd
    have tk := takes_of (X := cxOf (L2.CX P w) P w K mg base ["frame", "lot", "count", "lots", "found", "one", "number"] "closed" (defScope s_closed) f cdv A outer s H E) rfl rfl rfl rfl
    have hp := passes_of (X := cxOf (L2.CX P w) P w K mg base ["frame", "lot", "count", "lots", "found", "one", "number"] "closed" (defScope s_closed) f cdv A outer s H E) rfl
    have hu := Room.hu hr
    have hu5 := Room.hu5 hr
    have hu8 := hu8_of hu
    exact (ass_cons (as_asg (ae_var 0) (ag_tup rfl (ags_cons (ag_name 2 nd) (ags_cons (ag_name 3 nd) ags_nil))))
    (ass_cons (as_set 4 nd (ae_listRng rfl rfl T.z_list rfl T.z_range (ae_var 2)))
    (ass_cons (as_for hp rfl (ai_seq (ae_var 3)) (agi_one (ag_name 5 nd))
    (ass_one (as_if (at_val (ae_call K_holds_all (hr.mono (by decide)) tk rfl (lenA_cons (lenA_cons lenA_nil)) (aa_cons (ae_var 5) (aa_cons (ae_var 1) aa_nil))))
    (ass_one (as_setLc 4 rfl nd (own := [("number", 6)]) (ai_seq (ae_var 4)) (blkOk_by (N := ["frame", "lot", "count", "lots", "found", "one", "number"]) (sc := defScope s_closed) (by decide +kernel)) (fun _ _ _ _ _ => (agi_one (ag_name 6 nd))) (fun _ _ _ _ _ => (ats_one (at_cmp (oa_in hu5) nox_in (ae_var 6) (ae_var 5)))) (fun _ _ _ _ _ => (ae_var 6)) (giw_one gw_name)))
    ass_nil)))
    (ass_one (as_ret (ae_var 4))))))
theorem k_must_lot (T : Txt K mg C.exc) (K_is_lot : Kno P w K mg base C "is_lot" 2 1 m_is_lot) : Kno P w K mg base C "must_lot" 2 2 m_must_lot := by
  refine kno_def ["frame", "lot"] ["frame", "lot"] 1 T.f_must_lot sc_must_lot (fun _ _ _ _ _ _ us hl => match us, hl with | [_, _], _ => rfl) rfl rfl fun f cdv A outer s H E hr => ?_
  · have nd : (["frame", "lot"] : List PySem.Str).Nodup := sc_must_lot.nd
    have tk := takes_of (X := cxOf (L2.CX P w) P w K mg base ["frame", "lot"] "must_lot" (defScope s_must_lot) f cdv A outer s H E) rfl rfl rfl rfl
    have hp := passes_of (X := cxOf (L2.CX P w) P w K mg base ["frame", "lot"] "must_lot" (defScope s_must_lot) f cdv A outer s H E) rfl
    have hu := Room.hu hr
    have hu5 := Room.hu5 hr
    have hu8 := hu8_of hu
    exact (ass_one (as_if (at_not (at_val (ae_call K_is_lot (hr.mono (by decide)) tk rfl (lenA_cons (lenA_cons lenA_nil)) (aa_cons (ae_ixBy ia_ix nox_ix (ae_var 0) (ae_int)) (aa_cons (ae_var 1) aa_nil)))))
    (ass_one (as_raise 2 rfl tk T.x_NoLot.q T.x_NoLot.g T.x_NoLot.k T.x_NoLot.b T.x_NoLot.t rfl))
    ass_nil))
theorem k_closing (T : Txt K mg C.exc) (K_closed : Kno P w K mg base C "closed" 2 2 m_closed) (K_must_frame : Kno P w K mg base C "must_frame" 1 3 m_must_frame) (K_must_lot : Kno P w K mg base C "must_lot" 2 2 m_must_lot) : Kno P w K mg base C "closing" 2 4 m_closing := by
  refine kno_def ["frame", "lot"] ["frame", "lot"] 3 T.f_closing sc_closing (fun _ _ _ _ _ _ us hl => match us, hl with | [_, _], _ => rfl) rfl rfl fun f cdv A outer s H E hr => ?_
  · have nd : (["frame", "lot"] : List PySem.Str).Nodup := sc_closing.nd
    have tk := takes_of (X := cxOf (L2.CX P w) P w K mg base ["frame", "lot"] "closing" (defScope s_closing) f cdv A outer s H E) rfl rfl rfl rfl
    have hp := passes_of (X := cxOf (L2.CX P w) P w K mg base ["frame", "lot"] "closing" (defScope s_closing) f cdv A outer s H E) rfl
    have hu := Room.hu hr
    have hu5 := Room.hu5 hr
    have hu8 := hu8_of hu
    exact (ass_cons (as_expr (ae_call K_must_frame (hr.mono (by decide)) tk rfl (lenA_cons lenA_nil) (aa_cons (ae_var 0) aa_nil)))
    (ass_cons (as_expr (ae_call K_must_lot (hr.mono (by decide)) tk rfl (lenA_cons (lenA_cons lenA_nil)) (aa_cons (ae_var 0) (aa_cons (ae_var 1) aa_nil))))
    (ass_one (as_ret (ae_call K_closed (hr.mono (by decide)) tk rfl (lenA_cons (lenA_cons lenA_nil)) (aa_cons (ae_var 0) (aa_cons (ae_var 1) aa_nil)))))))
theorem k_common (T : Txt K mg C.exc)  : Kno P w K mg base C "common" 2 1 m_common := by
  refine kno_def ["one", "other", "number"] ["one", "other"] 0 T.f_common sc_common (fun _ _ _ _ _ _ us hl => match us, hl with | [_, _], _ => rfl) rfl rfl fun f cdv A outer s H E hr => ?_
  · have nd : (["one", "other", "number"] : List PySem.Str).Nodup := sc_common.nd
    have tk := takes_of (X := cxOf (L2.CX P w) P w K mg base ["one", "other", "number"] "common" (defScope s_common) f cdv A outer s H E) rfl rfl rfl rfl
    have hp := passes_of (X := cxOf (L2.CX P w) P w K mg base ["one", "other", "number"] "common" (defScope s_common) f cdv A outer s H E) rfl
    have hu := Room.hu hr
    have hu5 := Room.hu5 hr
    have hu8 := hu8_of hu
    exact (ass_one (as_ret (ae_lc rfl nd (own := [("number", 2)]) (ai_seq (ae_var 0)) (blkOk_by (N := ["one", "other", "number"]) (sc := defScope s_common) (by decide +kernel)) (fun _ _ _ _ _ => (agi_one (ag_name 2 nd))) (fun _ _ _ _ _ => (ats_one (at_cmp (oa_in hu5) nox_in (ae_var 2) (ae_var 1)))) (fun _ _ _ _ _ => (ae_var 2)) (giw_one gw_name))))
theorem k_all_things (T : Txt K mg C.exc) (K_common : Kno P w K mg base C "common" 2 1 m_common) : Kno P w K mg base C "all_things" 1 2 m_all_things := by
  refine kno_def ["frame", "count", "lots", "found", "lot", "thing"] ["frame"] 1 T.f_all_things sc_all_things (fun _ _ _ _ _ _ us hl => match us, hl with | [_], _ => rfl) rfl rfl fun f cdv A outer s H E hr => ?_
  · have nd : (["frame", "count", "lots", "found", "lot", "thing"] : List PySem.Str).Nodup := sc_all_things.nd
    have tk := takes_of (X := cxOf (L2.CX P w) P w K mg base ["frame", "count", "lots", "found", "lot", "thing"] "all_things" (defScope s_all_things) f cdv A outer s H E) rfl rfl rfl rfl
    have hp := passes_of (X := cxOf (L2.CX P w) P w K mg base ["frame", "count", "lots", "found", "lot", "thing"] "all_things" (defScope s_all_things) f cdv A outer s H E) rfl
    have hu := Room.hu hr
    have hu5 := Room.hu5 hr
    have hu8 := hu8_of hu
    exact (ass_cons (as_asg (ae_var 0) (ag_tup rfl (ags_cons (ag_name 1 nd) (ags_cons (ag_name 2 nd) ags_nil))))
    (ass_cons (as_set 3 nd (ae_dsp1 hw hu8 (ae_tupRng rfl rfl T.z_tuple rfl T.z_range (ae_var 1)) (ae_bl)))
    (ass_cons (as_for hp rfl (ai_seq (ae_var 2)) (agi_one (ag_name 4 nd))
    (ass_one (as_for hp rfl (ai_seq (ae_bty (ca_listD hw rfl) noxf_listD rfl T.z_list (by decide +kernel) (aa_cons (ae_var 3) aa_nil))) (agi_one (ag_name 5 nd))
    (ass_one (as_setKey hw hu8 (ae_bl) (ae_var 3) (ae_bty ca_tuple noxf_tuple rfl T.z_tuple (by decide +kernel) (aa_cons (ae_call K_common (hr.mono (by decide)) tk rfl (lenA_cons (lenA_cons lenA_nil)) (aa_cons (ae_bty ca_list noxf_list rfl T.z_list (by decide +kernel) (aa_cons (ae_var 5) aa_nil)) (aa_cons (ae_var 4) aa_nil))) aa_nil)))))))
    (ass_one (as_ret (ae_lc rfl nd (own := [("thing", 5)]) (ai_seq (ae_blt (ca_sortedD hw rfl hu) noxf_sortedD rfl T.z_sorted (by decide +kernel) (aa_cons (ae_var 3) aa_nil))) (blkOk_by (N := ["frame", "count", "lots", "found", "lot", "thing"]) (sc := defScope s_all_things) (by decide +kernel)) (fun _ _ _ _ _ => (agi_one (ag_name 5 nd))) (fun _ _ _ _ _ => ats_nil) (fun _ _ _ _ _ => (ae_bty ca_list noxf_list rfl T.z_list (by decide +kernel) (aa_cons (ae_var 5) aa_nil))) (giw_one gw_name)))))))
theorem k_things (T : Txt K mg C.exc) (K_all_things : Kno P w K mg base C "all_things" 1 2 m_all_things) (K_must_frame : Kno P w K mg base C "must_frame" 1 3 m_must_frame) : Kno P w K mg base C "things" 1 4 m_things := by
  refine kno_def ["frame"] ["frame"] 3 T.f_things sc_things (fun _ _ _ _ _ _ us hl => match us, hl with | [_], _ => rfl) rfl rfl fun f cdv A outer s H E hr => ?_
  · have nd : (["frame"] : List PySem.Str).Nodup := sc_things.nd
    have tk := takes_of (X := cxOf (L2.CX P w) P w K mg base ["frame"] "things" (defScope s_things) f cdv A outer s H E) rfl rfl rfl rfl
    have hp := passes_of (X := cxOf (L2.CX P w) P w K mg base ["frame"] "things" (defScope s_things) f cdv A outer s H E) rfl
    have hu := Room.hu hr
    have hu5 := Room.hu5 hr
    have hu8 := hu8_of hu
    exact (ass_cons (as_expr (ae_call K_must_frame (hr.mono (by decide)) tk rfl (lenA_cons lenA_nil) (aa_cons (ae_var 0) aa_nil)))
    (ass_one (as_ret (ae_call K_all_things (hr.mono (by decide)) tk rfl (lenA_cons lenA_nil) (aa_cons (ae_var 0) aa_nil)))))
theorem k__law_at (T : Txt K mg C.exc)  : Kno P w K mg base C "_law_at" 2 1 m__law_at := by
  refine kno_def ["_law_script", "_law_k"] ["_law_script", "_law_k"] 0 T.f__law_at sc__law_at (fun _ _ _ _ _ _ us hl => match us, hl with | [_, _], _ => rfl) rfl rfl fun f cdv A outer s H E hr => ?_
  · have nd : (["_law_script", "_law_k"] : List PySem.Str).Nodup := sc__law_at.nd
    have tk := takes_of (X := cxOf (L2.CX P w) P w K mg base ["_law_script", "_law_k"] "_law_at" (defScope s__law_at) f cdv A outer s H E) rfl rfl rfl rfl
    have hp := passes_of (X := cxOf (L2.CX P w) P w K mg base ["_law_script", "_law_k"] "_law_at" (defScope s__law_at) f cdv A outer s H E) rfl
    have hu := Room.hu hr
    have hu5 := Room.hu5 hr
    have hu8 := hu8_of hu
    exact (ass_cons (as_if (at_cmp oa_lt nox_lt (ae_var 1) (ae_blt ca_len noxf_len rfl T.z_len (by decide +kernel) (aa_cons (ae_var 0) aa_nil)))
    (ass_one (as_ret (ae_ixBy ia_ix nox_ix (ae_var 0) (ae_var 1))))
    ass_nil)
    (ass_one (as_ret (ae_int))))
theorem k__law_mixed (T : Txt K mg C.exc)  : Kno P w K mg base C "_law_mixed" 2 1 m__law_mixed := by
  refine kno_def ["_law_cell", "_law_k", "_law_number"] ["_law_cell", "_law_k"] 0 T.f__law_mixed sc__law_mixed (fun _ _ _ _ _ _ us hl => match us, hl with | [_, _], _ => rfl) rfl rfl fun f cdv A outer s H E hr => ?_
  · have nd : (["_law_cell", "_law_k", "_law_number"] : List PySem.Str).Nodup := sc__law_mixed.nd
    have tk := takes_of (X := cxOf (L2.CX P w) P w K mg base ["_law_cell", "_law_k", "_law_number"] "_law_mixed" (defScope s__law_mixed) f cdv A outer s H E) rfl rfl rfl rfl
    have hp := passes_of (X := cxOf (L2.CX P w) P w K mg base ["_law_cell", "_law_k", "_law_number"] "_law_mixed" (defScope s__law_mixed) f cdv A outer s H E) rfl
    have hu := Room.hu hr
    have hu5 := Room.hu5 hr
    have hu8 := hu8_of hu
    exact (ass_cons (as_set 2 nd (ae_op oa_mod nox_mod (ae_op oa_add nox_add (ae_op oa_add nox_add (ae_op oa_add nox_add (ae_op oa_mul nox_mul (ae_var 0) (ae_int)) (ae_op oa_mul nox_mul (ae_op oa_mul nox_mul (ae_int) (ae_var 1)) (ae_var 1))) (ae_var 1)) (ae_int)) (ae_int)))
    (ass_cons (as_set 2 nd (ae_op oa_mod nox_mod (ae_op oa_add nox_add (ae_op oa_mul nox_mul (ae_var 2) (ae_var 2)) (ae_int)) (ae_int)))
    (ass_one (as_ret (ae_op oa_mod nox_mod (ae_op oa_mul nox_mul (ae_var 2) (ae_int)) (ae_int))))))
theorem k__law_purse (T : Txt K mg C.exc) (K__law_at : Kno P w K mg base C "_law_at" 2 1 m__law_at) : Kno P w K mg base C "_law_purse" 2 2 m__law_purse := by
  refine kno_def ["_law_script", "_law_at_here", "_law_cell"] ["_law_script", "_law_at_here"] 1 T.f__law_purse sc__law_purse (fun _ _ _ _ _ _ us hl => match us, hl with | [_, _], _ => rfl) rfl rfl fun f cdv A outer s H E hr => ?_
  · have nd : (["_law_script", "_law_at_here", "_law_cell"] : List PySem.Str).Nodup := sc__law_purse.nd
    have tk := takes_of (X := cxOf (L2.CX P w) P w K mg base ["_law_script", "_law_at_here", "_law_cell"] "_law_purse" (defScope s__law_purse) f cdv A outer s H E) rfl rfl rfl rfl
    have hp := passes_of (X := cxOf (L2.CX P w) P w K mg base ["_law_script", "_law_at_here", "_law_cell"] "_law_purse" (defScope s__law_purse) f cdv A outer s H E) rfl
    have hu := Room.hu hr
    have hu5 := Room.hu5 hr
    have hu8 := hu8_of hu
    exact (ass_cons (as_set 2 nd (ae_call K__law_at (hr.mono (by decide)) tk rfl (lenA_cons (lenA_cons lenA_nil)) (aa_cons (ae_var 0) (aa_cons (ae_var 1) aa_nil))))
    (ass_one (as_ret (ae_lst (aa_cons (ae_blt (ca_max rfl) noxf_max rfl T.z_max (by decide +kernel) (aa_cons (ae_op oa_sub nox_sub (ae_var 2) (ae_op oa_pow nox_pow (ae_int) (ae_int))) (aa_cons (ae_int) aa_nil))) (aa_cons (ae_op oa_mod nox_mod (ae_var 2) (ae_int)) (aa_cons (ae_op oa_mul nox_mul (ae_int) (ae_var 1)) aa_nil)))))))
theorem k__law_draw (T : Txt K mg C.exc) (K__law_mixed : Kno P w K mg base C "_law_mixed" 2 1 m__law_mixed) : Kno P w K mg base C "_law_draw" 2 2 m__law_draw := by
  refine kno_def ["_law_purse_here", "_law_out_of", "_law_drawn", "_law_number", "_law_k"] ["_law_purse_here", "_law_out_of"] 1 T.f__law_draw sc__law_draw (fun _ _ _ _ _ _ us hl => match us, hl with | [_, _], _ => rfl) rfl rfl fun f cdv A outer s H E hr => ?_
  · have nd : (["_law_purse_here", "_law_out_of", "_law_drawn", "_law_number", "_law_k"] : List PySem.Str).Nodup := sc__law_draw.nd
    have tk := takes_of (X := cxOf (L2.CX P w) P w K mg base ["_law_purse_here", "_law_out_of", "_law_drawn", "_law_number", "_law_k"] "_law_draw" (defScope s__law_draw) f cdv A outer s H E) rfl rfl rfl rfl
    have hp := passes_of (X := cxOf (L2.CX P w) P w K mg base ["_law_purse_here", "_law_out_of", "_law_drawn", "_law_number", "_law_k"] "_law_draw" (defScope s__law_draw) f cdv A outer s H E) rfl
    have hu := Room.hu hr
    have hu5 := Room.hu5 hr
    have hu8 := hu8_of hu
    exact (ass_cons (as_if (at_cmp oa_gt nox_gt (ae_ixBy ia_ix nox_ix (ae_var 0) (ae_int)) (ae_int))
    (ass_cons (as_set 2 nd (ae_op oa_mod nox_mod (ae_ixBy ia_ix nox_ix (ae_var 0) (ae_int)) (ae_var 1)))
    (ass_cons (as_setIx (ae_op oa_div nox_div (ae_ixBy ia_ix nox_ix (ae_var 0) (ae_int)) (ae_var 1)) (ae_var 0) (ae_int))
    (ass_one (as_ret (ae_var 2)))))
    ass_nil)
    (ass_cons (as_set 3 nd (ae_int))
    (ass_cons (as_for hp rfl (ai_rng rfl T.z_range (ae_op oa_add nox_add (ae_int) (ae_op oa_div nox_div (ae_bits (ae_var 1)) (ae_int)))) (agi_one (ag_name 4 nd))
    (ass_cons (as_setIx (ae_op oa_add nox_add (ae_ixBy ia_ix nox_ix (ae_var 0) (ae_int)) (ae_int)) (ae_var 0) (ae_int))
    (ass_one (as_set 3 nd (ae_op oa_add nox_add (ae_op oa_mul nox_mul (ae_var 3) (ae_int)) (ae_call K__law_mixed (hr.mono (by decide)) tk rfl (lenA_cons (lenA_cons lenA_nil)) (aa_cons (ae_ixBy ia_ix nox_ix (ae_var 0) (ae_int)) (aa_cons (ae_ixBy ia_ix nox_ix (ae_var 0) (ae_int)) aa_nil))))))))
    (ass_one (as_ret (ae_op oa_mod nox_mod (ae_var 3) (ae_var 1)))))))
theorem k__law_closed (T : Txt K mg C.exc)  : Kno P w K mg base C "_law_closed" 2 1 m__law_closed := by
  refine kno_def ["_law_frame_here", "_law_lot_here", "_law_found", "_law_one", "_law_number"] ["_law_frame_here", "_law_lot_here"] 0 T.f__law_closed sc__law_closed (fun _ _ _ _ _ _ us hl => match us, hl with | [_, _], _ => rfl) rfl rfl fun f cdv A outer s H E hr => ?_
  · have nd : (["_law_frame_here", "_law_lot_here", "_law_found", "_law_one", "_law_number"] : List PySem.Str).Nodup := sc__law_closed.nd
    have tk := takes_of (X := cxOf (L2.CX P w) P w K mg base ["_law_frame_here", "_law_lot_here", "_law_found", "_law_one", "_law_number"] "_law_closed" (defScope s__law_closed) f cdv A outer s H E) rfl rfl rfl rfl
    have hp := passes_of (X := cxOf (L2.CX P w) P w K mg base ["_law_frame_here", "_law_lot_here", "_law_found", "_law_one", "_law_number"] "_law_closed" (defScope s__law_closed) f cdv A outer s H E) rfl
    have hu := Room.hu hr
    have hu5 := Room.hu5 hr
    have hu8 := hu8_of hu
    exact (ass_cons (as_set 2 nd (ae_listRng rfl rfl T.z_list rfl T.z_range (ae_ixBy ia_ix nox_ix (ae_var 0) (ae_int))))
    (ass_cons (as_for hp rfl (ai_seq (ae_ixBy ia_ix nox_ix (ae_var 0) (ae_int))) (agi_one (ag_name 3 nd))
    (ass_one (as_if (at_cmp (oa_eq hu) nox_eq (ae_lc rfl nd (own := [("_law_number", 4)]) (ai_seq (ae_var 1)) (blkOk_by (N := ["_law_frame_here", "_law_lot_here", "_law_found", "_law_one", "_law_number"]) (sc := defScope s__law_closed) (by decide +kernel)) (fun _ _ _ _ _ => (agi_one (ag_name 4 nd))) (fun _ _ _ _ _ => (ats_one (at_cmp (oa_notIn hu5) nox_notIn (ae_var 4) (ae_var 3)))) (fun _ _ _ _ _ => (ae_var 4)) (giw_one gw_name)) (ae_lst aa_nil))
    (ass_one (as_setLc 2 rfl nd (own := [("_law_number", 4)]) (ai_seq (ae_var 2)) (blkOk_by (N := ["_law_frame_here", "_law_lot_here", "_law_found", "_law_one", "_law_number"]) (sc := defScope s__law_closed) (by decide +kernel)) (fun _ _ _ _ _ => (agi_one (ag_name 4 nd))) (fun _ _ _ _ _ => (ats_one (at_cmp (oa_in hu5) nox_in (ae_var 4) (ae_var 3)))) (fun _ _ _ _ _ => (ae_var 4)) (giw_one gw_name)))
    ass_nil)))
    (ass_one (as_ret (ae_var 2)))))
theorem k__law_lot (T : Txt K mg C.exc) (K__law_draw : Kno P w K mg base C "_law_draw" 2 2 m__law_draw) : Kno P w K mg base C "_law_lot" 2 3 m__law_lot := by
  refine kno_def ["_law_purse_here", "_law_count", "_law_bits", "_law_number"] ["_law_purse_here", "_law_count"] 2 T.f__law_lot sc__law_lot (fun _ _ _ _ _ _ us hl => match us, hl with | [_, _], _ => rfl) rfl rfl fun f cdv A outer s H E hr => ?_
  · have nd : (["_law_purse_here", "_law_count", "_law_bits", "_law_number"] : List PySem.Str).Nodup := sc__law_lot.nd
    have tk := takes_of (X := cxOf (L2.CX P w) P w K mg base ["_law_purse_here", "_law_count", "_law_bits", "_law_number"] "_law_lot" (defScope s__law_lot) f cdv A outer s H E) rfl rfl rfl rfl
    have hp := passes_of (X := cxOf (L2.CX P w) P w K mg base ["_law_purse_here", "_law_count", "_law_bits", "_law_number"] "_law_lot" (defScope s__law_lot) f cdv A outer s H E) rfl
    have hu := Room.hu hr
    have hu5 := Room.hu5 hr
    have hu8 := hu8_of hu
    exact (ass_cons (as_set 2 nd (ae_call K__law_draw (hr.mono (by decide)) tk rfl (lenA_cons (lenA_cons lenA_nil)) (aa_cons (ae_var 0) (aa_cons (ae_op oa_shl nox_shl (ae_int) (ae_var 1)) aa_nil))))
    (ass_one (as_ret (ae_lc rfl nd (own := [("_law_number", 3)]) (ai_rng rfl T.z_range (ae_var 1)) (blkOk_by (N := ["_law_purse_here", "_law_count", "_law_bits", "_law_number"]) (sc := defScope s__law_lot) (by decide +kernel)) (fun _ _ _ _ _ => (agi_one (ag_name 3 nd))) (fun _ _ _ _ _ => (ats_one (at_cmp (oa_eq hu) nox_eq (ae_op oa_and nox_and (ae_op oa_shr nox_shr (ae_var 2) (ae_var 3)) (ae_int)) (ae_int)))) (fun _ _ _ _ _ => (ae_var 3)) (giw_one gw_name)))))
theorem k__law_frame (T : Txt K mg C.exc) (K__law_draw : Kno P w K mg base C "_law_draw" 2 2 m__law_draw) (K__law_lot : Kno P w K mg base C "_law_lot" 2 3 m__law_lot) : Kno P w K mg base C "_law_frame" 2 4 m__law_frame := by
  refine kno_def ["_law_purse_here", "_law_most", "_law_count", "_law_lots", "_law_k"] ["_law_purse_here", "_law_most"] 3 T.f__law_frame sc__law_frame (fun _ _ _ _ _ _ us hl => match us, hl with | [_, _], _ => rfl) rfl rfl fun f cdv A outer s H E hr => ?_
  · have nd : (["_law_purse_here", "_law_most", "_law_count", "_law_lots", "_law_k"] : List PySem.Str).Nodup := sc__law_frame.nd
    have tk := takes_of (X := cxOf (L2.CX P w) P w K mg base ["_law_purse_here", "_law_most", "_law_count", "_law_lots", "_law_k"] "_law_frame" (defScope s__law_frame) f cdv A outer s H E) rfl rfl rfl rfl
    have hp := passes_of (X := cxOf (L2.CX P w) P w K mg base ["_law_purse_here", "_law_most", "_law_count", "_law_lots", "_law_k"] "_law_frame" (defScope s__law_frame) f cdv A outer s H E) rfl
    have hu := Room.hu hr
    have hu5 := Room.hu5 hr
    have hu8 := hu8_of hu
    exact (ass_cons (as_set 2 nd (ae_call K__law_draw (hr.mono (by decide)) tk rfl (lenA_cons (lenA_cons lenA_nil)) (aa_cons (ae_var 0) (aa_cons (ae_op oa_add nox_add (ae_var 1) (ae_int)) aa_nil))))
    (ass_cons (as_set 3 nd (ae_lst aa_nil))
    (ass_cons (as_for hp rfl (ai_rng rfl T.z_range (ae_call K__law_draw (hr.mono (by decide)) tk rfl (lenA_cons (lenA_cons lenA_nil)) (aa_cons (ae_var 0) (aa_cons (ae_int) aa_nil)))) (agi_one (ag_name 4 nd))
    (ass_one (as_expr (ae_append (ae_var 3) (aa_cons (ae_call K__law_lot (hr.mono (by decide)) tk rfl (lenA_cons (lenA_cons lenA_nil)) (aa_cons (ae_var 0) (aa_cons (ae_var 2) aa_nil))) aa_nil)))))
    (ass_one (as_ret (ae_tup (aa_cons (ae_var 2) (aa_cons (ae_var 3) aa_nil))))))))
theorem k__law_due (T : Txt K mg C.exc)  : Kno P w K mg base C "_law_due" 1 1 m__law_due := by
  refine kno_def ["_law_frame_here", "_law_found", "_law_lot_here", "_law_thing", "_law_mutual", "_law_number"] ["_law_frame_here"] 0 T.f__law_due sc__law_due (fun _ _ _ _ _ _ us hl => match us, hl with | [_], _ => rfl) rfl rfl fun f cdv A outer s H E hr => ?_
  · have nd : (["_law_frame_here", "_law_found", "_law_lot_here", "_law_thing", "_law_mutual", "_law_number"] : List PySem.Str).Nodup := sc__law_due.nd
    have tk := takes_of (X := cxOf (L2.CX P w) P w K mg base ["_law_frame_here", "_law_found", "_law_lot_here", "_law_thing", "_law_mutual", "_law_number"] "_law_due" (defScope s__law_due) f cdv A outer s H E) rfl rfl rfl rfl
    have hp := passes_of (X := cxOf (L2.CX P w) P w K mg base ["_law_frame_here", "_law_found", "_law_lot_here", "_law_thing", "_law_mutual", "_law_number"] "_law_due" (defScope s__law_due) f cdv A outer s H E) rfl
    have hu := Room.hu hr
    have hu5 := Room.hu5 hr
    have hu8 := hu8_of hu
    exact (ass_cons (as_set 1 nd (ae_lst (aa_cons (ae_listRng rfl rfl T.z_list rfl T.z_range (ae_ixBy ia_ix nox_ix (ae_var 0) (ae_int))) aa_nil)))
    (ass_cons (as_for hp rfl (ai_seq (ae_ixBy ia_ix nox_ix (ae_var 0) (ae_int))) (agi_one (ag_name 2 nd))
    (ass_one (as_for hp rfl (ai_seq (ae_bty ca_list noxf_list rfl T.z_list (by decide +kernel) (aa_cons (ae_var 1) aa_nil))) (agi_one (ag_name 3 nd))
    (ass_cons (as_setLc 4 rfl nd (own := [("_law_number", 5)]) (ai_seq (ae_var 3)) (blkOk_by (N := ["_law_frame_here", "_law_found", "_law_lot_here", "_law_thing", "_law_mutual", "_law_number"]) (sc := defScope s__law_due) (by decide +kernel)) (fun _ _ _ _ _ => (agi_one (ag_name 5 nd))) (fun _ _ _ _ _ => (ats_one (at_cmp (oa_in hu5) nox_in (ae_var 5) (ae_var 2)))) (fun _ _ _ _ _ => (ae_var 5)) (giw_one gw_name))
    (ass_one (as_if (at_cmp (oa_notIn hu5) nox_notIn (ae_var 4) (ae_var 1))
    (ass_one (as_expr (ae_append (ae_var 1) (aa_cons (ae_var 4) aa_nil))))
    ass_nil))))))
    (ass_one (as_ret (ae_blt (ca_sorted hu) noxf_sorted rfl T.z_sorted (by decide +kernel) (aa_cons (ae_var 1) aa_nil))))))
theorem k__law_all_lots (T : Txt K mg C.exc) (K__law_closed : Kno P w K mg base C "_law_closed" 2 1 m__law_closed) : Kno P w K mg base C "_law_all_lots" 1 2 m__law_all_lots := by
  refine kno_def ["_law_frame_here", "_law_found", "_law_bits", "_law_lot_here", "_law_number"] ["_law_frame_here"] 1 T.f__law_all_lots sc__law_all_lots (fun _ _ _ _ _ _ us hl => match us, hl with | [_], _ => rfl) rfl rfl fun f cdv A outer s H E hr => ?_
  · have nd : (["_law_frame_here", "_law_found", "_law_bits", "_law_lot_here", "_law_number"] : List PySem.Str).Nodup := sc__law_all_lots.nd
    have tk := takes_of (X := cxOf (L2.CX P w) P w K mg base ["_law_frame_here", "_law_found", "_law_bits", "_law_lot_here", "_law_number"] "_law_all_lots" (defScope s__law_all_lots) f cdv A outer s H E) rfl rfl rfl rfl
    have hp := passes_of (X := cxOf (L2.CX P w) P w K mg base ["_law_frame_here", "_law_found", "_law_bits", "_law_lot_here", "_law_number"] "_law_all_lots" (defScope s__law_all_lots) f cdv A outer s H E) rfl
    have hu := Room.hu hr
    have hu5 := Room.hu5 hr
    have hu8 := hu8_of hu
    exact (ass_cons (as_set 1 nd (ae_lst aa_nil))
    (ass_cons (as_for hp rfl (ai_rng rfl T.z_range (ae_op oa_shl nox_shl (ae_int) (ae_ixBy ia_ix nox_ix (ae_var 0) (ae_int)))) (agi_one (ag_name 2 nd))
    (ass_cons (as_setLc 3 rfl nd (own := [("_law_number", 4)]) (ai_rng rfl T.z_range (ae_ixBy ia_ix nox_ix (ae_var 0) (ae_int))) (blkOk_by (N := ["_law_frame_here", "_law_found", "_law_bits", "_law_lot_here", "_law_number"]) (sc := defScope s__law_all_lots) (by decide +kernel)) (fun _ _ _ _ _ => (agi_one (ag_name 4 nd))) (fun _ _ _ _ _ => (ats_one (at_cmp (oa_eq hu) nox_eq (ae_op oa_and nox_and (ae_op oa_shr nox_shr (ae_var 2) (ae_var 4)) (ae_int)) (ae_int)))) (fun _ _ _ _ _ => (ae_var 4)) (giw_one gw_name))
    (ass_one (as_if (at_cmp (oa_eq hu) nox_eq (ae_call K__law_closed (hr.mono (by decide)) tk rfl (lenA_cons (lenA_cons lenA_nil)) (aa_cons (ae_var 0) (aa_cons (ae_var 3) aa_nil))) (ae_var 3))
    (ass_one (as_expr (ae_append (ae_var 1) (aa_cons (ae_var 3) aa_nil))))
    ass_nil))))
    (ass_one (as_ret (ae_blt (ca_sorted hu) noxf_sorted rfl T.z_sorted (by decide +kernel) (aa_cons (ae_var 1) aa_nil))))))
theorem k__law_right (T : Txt K mg C.exc) (K__law_all_lots : Kno P w K mg base C "_law_all_lots" 1 2 m__law_all_lots) (K__law_due : Kno P w K mg base C "_law_due" 1 1 m__law_due) (K_closing : Kno P w K mg base C "closing" 2 4 m_closing) (K_things : Kno P w K mg base C "things" 1 4 m_things) : Kno P w K mg base C "_law_right" 1 5 m__law_right := by
  refine kno_def ["_law_frame_here", "_law_due_here", "_law_stayed", "_law_turn", "_law_found", "_law_k", "_law_one", "_law_lot_here"] ["_law_frame_here"] 4 T.f__law_right sc__law_right (fun _ _ _ _ _ _ us hl => match us, hl with | [_], _ => rfl) rfl rfl fun f cdv A outer s H E hr => ?_
  · have nd : (["_law_frame_here", "_law_due_here", "_law_stayed", "_law_turn", "_law_found", "_law_k", "_law_one", "_law_lot_here"] : List PySem.Str).Nodup := sc__law_right.nd
    have tk := takes_of (X := cxOf (L2.CX P w) P w K mg base ["_law_frame_here", "_law_due_here", "_law_stayed", "_law_turn", "_law_found", "_law_k", "_law_one", "_law_lot_here"] "_law_right" (defScope s__law_right) f cdv A outer s H E) rfl rfl rfl rfl
    have hp := passes_of (X := cxOf (L2.CX P w) P w K mg base ["_law_frame_here", "_law_due_here", "_law_stayed", "_law_turn", "_law_found", "_law_k", "_law_one", "_law_lot_here"] "_law_right" (defScope s__law_right) f cdv A outer s H E) rfl
    have hu := Room.hu hr
    have hu5 := Room.hu5 hr
    have hu8 := hu8_of hu
    exact (ass_cons (as_set 1 nd (ae_call K__law_due (hr.mono (by decide)) tk rfl (lenA_cons lenA_nil) (aa_cons (ae_var 0) aa_nil)))
    (ass_cons (as_if (AW.at (aw_and (at_cmp oa_lt nox_lt (ae_ixBy ia_ix nox_ix (ae_var 0) (ae_int)) (ae_int)) (aw_and1 (at_cmp (oa_ne hu) nox_ne (ae_var 1) (ae_call K__law_all_lots (hr.mono (by decide)) tk rfl (lenA_cons lenA_nil) (aa_cons (ae_var 0) aa_nil))))))
    (ass_one (as_ret (ae_bl)))
    ass_nil)
    (ass_cons (as_setLc 2 rfl nd (own := [("_law_lot_here", 7)]) (ai_seq (ae_ixBy ia_ix nox_ix (ae_var 0) (ae_int))) (blkOk_by (N := ["_law_frame_here", "_law_due_here", "_law_stayed", "_law_turn", "_law_found", "_law_k", "_law_one", "_law_lot_here"]) (sc := defScope s__law_right) (by decide +kernel)) (fun _ _ _ _ _ => (agi_one (ag_name 7 nd))) (fun _ _ _ _ _ => ats_nil) (fun _ _ _ _ _ => (ae_bty ca_list noxf_list rfl T.z_list (by decide +kernel) (aa_cons (ae_var 7) aa_nil))) (giw_one gw_name))
    (ass_cons (as_for hp rfl (ai_rng rfl T.z_range (ae_int)) (agi_one (ag_name 3 nd))
    (ass_cons (as_set 4 nd (ae_call K_things (hr.mono (by decide)) tk rfl (lenA_cons lenA_nil) (aa_cons (ae_var 0) aa_nil)))
    (ass_cons (as_if (AW.at (aw_or (at_not (at_val (ae_isi hw .tlist rfl T.z_isinstance rfl T.z_list (by decide +kernel) (ae_var 4)))) (aw_or (at_cmp (oa_ne hu) nox_ne (ae_var 4) (ae_var 1)) (aw_or1 (at_cmp (oa_ne hu) nox_ne (ae_ixBy ia_ix nox_ix (ae_var 0) (ae_int)) (ae_var 2))))))
    (ass_one (as_ret (ae_bl)))
    ass_nil)
    (ass_cons (as_for hp rfl (ai_enum rfl T.z_enumerate (ae_var 4)) (agi_two rfl (ag_name 5 nd) (ag_name 6 nd))
    (ass_cons (as_if (AW.at (aw_or (at_not (at_val (ae_isi hw .tlist rfl T.z_isinstance rfl T.z_list (by decide +kernel) (ae_var 6)))) (aw_or (at_cmp (oa_ne hu) nox_ne (ae_var 6) (ae_ixBy ia_ix nox_ix (ae_var 1) (ae_var 5))) (aw_or1 (AW.at (aw_and (at_cmp (oa_eq hu) nox_eq (ae_var 3) (ae_int)) (aw_and1 (at_cmp (oa_ne hu) nox_ne (ae_call K_closing (hr.mono (by decide)) tk rfl (lenA_cons (lenA_cons lenA_nil)) (aa_cons (ae_var 0) (aa_cons (ae_var 6) aa_nil))) (ae_var 6)))))))))
    (ass_one (as_ret (ae_bl)))
    ass_nil)
    (ass_one (as_expr (ae_append (ae_var 6) (aa_cons (ae_op oa_add nox_add (ae_int) (ae_var 5)) aa_nil))))))
    (ass_cons (as_if (at_cmp (oa_ne hu) nox_ne (ae_lc rfl nd (own := [("_law_one", 6)]) (ai_seq (ae_var 4)) (blkOk_by (N := ["_law_frame_here", "_law_due_here", "_law_stayed", "_law_turn", "_law_found", "_law_k", "_law_one", "_law_lot_here"]) (sc := defScope s__law_right) (by decide +kernel)) (fun _ _ _ _ _ => (agi_one (ag_name 6 nd))) (fun _ _ _ _ _ => ats_nil) (fun _ _ _ _ _ => (ae_sliceBy sa_slice nox_slice (ae_var 6) ao_none (ao_some (ae_neg (ae_int))))) (giw_one gw_name)) (ae_var 1))
    (ass_one (as_ret (ae_bl)))
    ass_nil)
    (ass_one (as_expr (ae_clear0 (ae_var 4)))))))))
    (ass_one (as_ret (ae_bl)))))))
theorem fn_law (T : Txt K mg C.exc) (K__law_draw : Kno P w K mg base C "_law_draw" 2 2 m__law_draw) (K__law_frame : Kno P w K mg base C "_law_frame" 2 4 m__law_frame) (K__law_purse : Kno P w K mg base C "_law_purse" 2 2 m__law_purse) (K__law_right : Kno P w K mg base C "_law_right" 1 5 m__law_right) {f : Addr} {fd : FuncData} (F : FunD K "law" "law" (defArgs s_law) (defBody s_law) (defScope s_law) [] [] f fd) : FnOk P w K mg base (L2.CX P w) 6 f fd ["_law_script"] (spF C K 1 m_law) := by
  refine fn_def (N := ["_law_script", "_law_cell", "_law_purse_here", "_law_frame_here"]) (m := 5) (k := 4) F sc_law rfl rfl fun cdv A outer s H E hr => ?_
  · have nd : (["_law_script", "_law_cell", "_law_purse_here", "_law_frame_here"] : List PySem.Str).Nodup := sc_law.nd
    have tk := takes_of (X := cxOf (L2.CX P w) P w K mg base ["_law_script", "_law_cell", "_law_purse_here", "_law_frame_here"] "law" (defScope s_law) f cdv A outer s H E) rfl rfl rfl rfl
    have hp := passes_of (X := cxOf (L2.CX P w) P w K mg base ["_law_script", "_law_cell", "_law_purse_here", "_law_frame_here"] "law" (defScope s_law) f cdv A outer s H E) rfl
    have hu := Room.hu hr
    have hu5 := Room.hu5 hr
    have hu8 := hu8_of hu
    exact (ass_cons (as_for hp rfl (ai_rng rfl T.z_range (ae_int)) (agi_one (ag_name 1 nd))
    (ass_cons (as_set 2 nd (ae_call K__law_purse (hr.mono (by decide)) tk rfl (lenA_cons (lenA_cons lenA_nil)) (aa_cons (ae_var 0) (aa_cons (ae_var 1) aa_nil))))
    (ass_cons (as_set 3 nd (ae_call K__law_frame (hr.mono (by decide)) tk rfl (lenA_cons (lenA_cons lenA_nil)) (aa_cons (ae_var 2) (aa_cons (ae_ixBy ia_ix nox_ix (ae_lst (aa_cons (ae_int) (aa_cons (ae_int) aa_nil))) (ae_call K__law_draw (hr.mono (by decide)) tk rfl (lenA_cons (lenA_cons lenA_nil)) (aa_cons (ae_var 2) (aa_cons (ae_int) aa_nil)))) aa_nil))))
    (ass_one (as_if (AW.at (aw_or (at_not (at_val (ae_call K__law_right (hr.mono (by decide)) tk rfl (lenA_cons lenA_nil) (aa_cons (ae_var 3) aa_nil)))) (aw_or (at_not (at_val (ae_call K__law_right (hr.mono (by decide)) tk rfl (lenA_cons lenA_nil) (aa_cons (ae_tup (aa_cons (ae_ixBy ia_ix nox_ix (ae_var 3) (ae_int)) (aa_cons (ae_lst aa_nil) aa_nil))) aa_nil)))) (aw_or1 (at_not (at_val (ae_call K__law_right (hr.mono (by decide)) tk rfl (lenA_cons lenA_nil) (aa_cons (ae_tup (aa_cons (ae_int) (aa_cons (ae_op oa_mul nox_mul (ae_lst (aa_cons (ae_lst aa_nil) aa_nil)) (ae_op oa_mod nox_mod (ae_var 1) (ae_int))) aa_nil))) aa_nil))))))))
    (ass_one (as_ret (ae_bl)))
    ass_nil)))))
    (ass_one (as_ret (ae_bl))))
end
/-! ### the head -/
def d_is_lot : He.DefD := ⟨("is_lot", none), "is_lot", "is_lot", defArgs s_is_lot, defBody s_is_lot, defScope s_is_lot, [], []⟩
def d_is_frame : He.DefD := ⟨("is_frame", none), "is_frame", "is_frame", defArgs s_is_frame, defBody s_is_frame, defScope s_is_frame, [], []⟩
def d_must_frame : He.DefD := ⟨("must_frame", none), "must_frame", "must_frame", defArgs s_must_frame, defBody s_must_frame, defScope s_must_frame, [], []⟩
def d_holds_all : He.DefD := ⟨("holds_all", none), "holds_all", "holds_all", defArgs s_holds_all, defBody s_holds_all, defScope s_holds_all, [], []⟩
def d_closed : He.DefD := ⟨("closed", none), "closed", "closed", defArgs s_closed, defBody s_closed, defScope s_closed, [], []⟩
def d_must_lot : He.DefD := ⟨("must_lot", none), "must_lot", "must_lot", defArgs s_must_lot, defBody s_must_lot, defScope s_must_lot, [], []⟩
def d_closing : He.DefD := ⟨("closing", none), "closing", "closing", defArgs s_closing, defBody s_closing, defScope s_closing, [], []⟩
def d_common : He.DefD := ⟨("common", none), "common", "common", defArgs s_common, defBody s_common, defScope s_common, [], []⟩
def d_all_things : He.DefD := ⟨("all_things", none), "all_things", "all_things", defArgs s_all_things, defBody s_all_things, defScope s_all_things, [], []⟩
def d_things : He.DefD := ⟨("things", none), "things", "things", defArgs s_things, defBody s_things, defScope s_things, [], []⟩
def d__law_at : He.DefD := ⟨("_law_at", none), "_law_at", "_law_at", defArgs s__law_at, defBody s__law_at, defScope s__law_at, [], []⟩
def d__law_mixed : He.DefD := ⟨("_law_mixed", none), "_law_mixed", "_law_mixed", defArgs s__law_mixed, defBody s__law_mixed, defScope s__law_mixed, [], []⟩
def d__law_purse : He.DefD := ⟨("_law_purse", none), "_law_purse", "_law_purse", defArgs s__law_purse, defBody s__law_purse, defScope s__law_purse, [], []⟩
def d__law_draw : He.DefD := ⟨("_law_draw", none), "_law_draw", "_law_draw", defArgs s__law_draw, defBody s__law_draw, defScope s__law_draw, [], []⟩
def d__law_closed : He.DefD := ⟨("_law_closed", none), "_law_closed", "_law_closed", defArgs s__law_closed, defBody s__law_closed, defScope s__law_closed, [], []⟩
def d__law_lot : He.DefD := ⟨("_law_lot", none), "_law_lot", "_law_lot", defArgs s__law_lot, defBody s__law_lot, defScope s__law_lot, [], []⟩
def d__law_frame : He.DefD := ⟨("_law_frame", none), "_law_frame", "_law_frame", defArgs s__law_frame, defBody s__law_frame, defScope s__law_frame, [], []⟩
def d__law_due : He.DefD := ⟨("_law_due", none), "_law_due", "_law_due", defArgs s__law_due, defBody s__law_due, defScope s__law_due, [], []⟩
def d__law_all_lots : He.DefD := ⟨("_law_all_lots", none), "_law_all_lots", "_law_all_lots", defArgs s__law_all_lots, defBody s__law_all_lots, defScope s__law_all_lots, [], []⟩
def d__law_right : He.DefD := ⟨("_law_right", none), "_law_right", "_law_right", defArgs s__law_right, defBody s__law_right, defScope s__law_right, [], []⟩
def d_law : He.DefD := ⟨("law", none), "law", "law", defArgs s_law, defBody s_law, defScope s_law, [], []⟩
def fnL : List He.DefD := [d_is_lot, d_is_frame, d_must_frame, d_holds_all, d_closed, d_must_lot, d_closing, d_common, d_all_things, d_things, d__law_at, d__law_mixed, d__law_purse, d__law_draw, d__law_closed, d__law_lot, d__law_frame, d__law_due, d__law_all_lots, d__law_right, d_law]
def faL : List He.Fa := [.glo "is_lot", .glo "is_frame", .glo "must_frame", .glo "holds_all", .glo "closed", .glo "must_lot", .glo "closing", .glo "common", .glo "all_things", .glo "things", .glo "_law_at", .glo "_law_mixed", .glo "_law_purse", .glo "_law_draw", .glo "_law_closed", .glo "_law_lot", .glo "_law_frame", .glo "_law_due", .glo "_law_all_lots", .glo "_law_right", .glo "law", .free "all", .free "enumerate", .free "isinstance", .free "len", .free "list", .free "max", .free "range", .free "sorted", .free "tuple", .free "zip", .int "MOST_LOTS" 200, .int "MOST_NUMBERS" 40, .exc "NoFrame", .exc "NoLot", .glo "NoFrame", .glo "NoLot"]
def excA (K : PySem.W.Frag) : Nat → Addr
  | 0 => He.ga K "SayError"
  | 1 => He.ga K "NoFrame"
  | 2 => He.ga K "NoLot"
  | _ => 0
def clsA (_ : Nat) : Addr := 0
def fldA (_ : Nat) : PySem.Str := ""
theorem txt_of {K : PySem.W.Frag} {h : Heap} {mg : PySem.Str → Option Value} (X : K.In h) (G : h.Ns mainGlobals mg) (c : He.SaysD faL fnL K) : Txt K mg (excA K) where
  f_is_lot := let ⟨fd, F⟩ := c.def_ 0 (d := d_is_lot) rfl; ⟨_, fd, F, He.glo_ok X G (c.fact 0 (f := .glo "is_lot") rfl)⟩
  f_is_frame := let ⟨fd, F⟩ := c.def_ 1 (d := d_is_frame) rfl; ⟨_, fd, F, He.glo_ok X G (c.fact 1 (f := .glo "is_frame") rfl)⟩
  f_must_frame := let ⟨fd, F⟩ := c.def_ 2 (d := d_must_frame) rfl; ⟨_, fd, F, He.glo_ok X G (c.fact 2 (f := .glo "must_frame") rfl)⟩
  f_holds_all := let ⟨fd, F⟩ := c.def_ 3 (d := d_holds_all) rfl; ⟨_, fd, F, He.glo_ok X G (c.fact 3 (f := .glo "holds_all") rfl)⟩
  f_closed := let ⟨fd, F⟩ := c.def_ 4 (d := d_closed) rfl; ⟨_, fd, F, He.glo_ok X G (c.fact 4 (f := .glo "closed") rfl)⟩
  f_must_lot := let ⟨fd, F⟩ := c.def_ 5 (d := d_must_lot) rfl; ⟨_, fd, F, He.glo_ok X G (c.fact 5 (f := .glo "must_lot") rfl)⟩
  f_closing := let ⟨fd, F⟩ := c.def_ 6 (d := d_closing) rfl; ⟨_, fd, F, He.glo_ok X G (c.fact 6 (f := .glo "closing") rfl)⟩
  f_common := let ⟨fd, F⟩ := c.def_ 7 (d := d_common) rfl; ⟨_, fd, F, He.glo_ok X G (c.fact 7 (f := .glo "common") rfl)⟩
  f_all_things := let ⟨fd, F⟩ := c.def_ 8 (d := d_all_things) rfl; ⟨_, fd, F, He.glo_ok X G (c.fact 8 (f := .glo "all_things") rfl)⟩
  f_things := let ⟨fd, F⟩ := c.def_ 9 (d := d_things) rfl; ⟨_, fd, F, He.glo_ok X G (c.fact 9 (f := .glo "things") rfl)⟩
  f__law_at := let ⟨fd, F⟩ := c.def_ 10 (d := d__law_at) rfl; ⟨_, fd, F, He.glo_ok X G (c.fact 10 (f := .glo "_law_at") rfl)⟩
  f__law_mixed := let ⟨fd, F⟩ := c.def_ 11 (d := d__law_mixed) rfl; ⟨_, fd, F, He.glo_ok X G (c.fact 11 (f := .glo "_law_mixed") rfl)⟩
  f__law_purse := let ⟨fd, F⟩ := c.def_ 12 (d := d__law_purse) rfl; ⟨_, fd, F, He.glo_ok X G (c.fact 12 (f := .glo "_law_purse") rfl)⟩
  f__law_draw := let ⟨fd, F⟩ := c.def_ 13 (d := d__law_draw) rfl; ⟨_, fd, F, He.glo_ok X G (c.fact 13 (f := .glo "_law_draw") rfl)⟩
  f__law_closed := let ⟨fd, F⟩ := c.def_ 14 (d := d__law_closed) rfl; ⟨_, fd, F, He.glo_ok X G (c.fact 14 (f := .glo "_law_closed") rfl)⟩
  f__law_lot := let ⟨fd, F⟩ := c.def_ 15 (d := d__law_lot) rfl; ⟨_, fd, F, He.glo_ok X G (c.fact 15 (f := .glo "_law_lot") rfl)⟩
  f__law_frame := let ⟨fd, F⟩ := c.def_ 16 (d := d__law_frame) rfl; ⟨_, fd, F, He.glo_ok X G (c.fact 16 (f := .glo "_law_frame") rfl)⟩
  f__law_due := let ⟨fd, F⟩ := c.def_ 17 (d := d__law_due) rfl; ⟨_, fd, F, He.glo_ok X G (c.fact 17 (f := .glo "_law_due") rfl)⟩
  f__law_all_lots := let ⟨fd, F⟩ := c.def_ 18 (d := d__law_all_lots) rfl; ⟨_, fd, F, He.glo_ok X G (c.fact 18 (f := .glo "_law_all_lots") rfl)⟩
  f__law_right := let ⟨fd, F⟩ := c.def_ 19 (d := d__law_right) rfl; ⟨_, fd, F, He.glo_ok X G (c.fact 19 (f := .glo "_law_right") rfl)⟩
  f_law := let ⟨fd, F⟩ := c.def_ 20 (d := d_law) rfl; ⟨_, fd, F, He.glo_ok X G (c.fact 20 (f := .glo "law") rfl)⟩
  z_all := He.free_ok X G (c.fact 21 (f := .free "all") rfl)
  z_enumerate := He.free_ok X G (c.fact 22 (f := .free "enumerate") rfl)
  z_isinstance := He.free_ok X G (c.fact 23 (f := .free "isinstance") rfl)
  z_len := He.free_ok X G (c.fact 24 (f := .free "len") rfl)
  z_list := He.free_ok X G (c.fact 25 (f := .free "list") rfl)
  z_max := He.free_ok X G (c.fact 26 (f := .free "max") rfl)
  z_range := He.free_ok X G (c.fact 27 (f := .free "range") rfl)
  z_sorted := He.free_ok X G (c.fact 28 (f := .free "sorted") rfl)
  z_tuple := He.free_ok X G (c.fact 29 (f := .free "tuple") rfl)
  z_zip := He.free_ok X G (c.fact 30 (f := .free "zip") rfl)
  c_MOST_LOTS := He.int_ok X G (c.fact 31 (f := .int "MOST_LOTS" 200) rfl)
  c_MOST_NUMBERS := He.int_ok X G (c.fact 32 (f := .int "MOST_NUMBERS" 40) rfl)
  x_NoFrame := let z := He.exc_ok (c.fact 33 (f := .exc "NoFrame") rfl); ⟨z.1, He.glo_ok X G (c.fact 35 (f := .glo "NoFrame") rfl), z.2.1, z.2.2.1, z.2.2.2⟩
  x_NoLot := let z := He.exc_ok (c.fact 34 (f := .exc "NoLot") rfl); ⟨z.1, He.glo_ok X G (c.fact 36 (f := .glo "NoLot") rfl), z.2.1, z.2.2.1, z.2.2.2⟩
abbrev Rr : PySem.W.OpenRow := PySem.W.OpenLaw.row PySem.Challenge.rw_beneathsay_k12_things
abbrev hkL : PySem.W.Hook := He.hookD 4 faL fnL
def obL (s : PySem.W.SharedT) : He.AlD := He.obsDG 4 faL fnL (HandSHeadRun.getT s)
theorem obL_eq (s : PySem.W.SharedT) : obL s = hkL.obs s.abs := He.obsDG_eq (HandSHeadRun.getT_eq s)
def loose0 : List PySem.Str := ["SayError", "NoFrame", "NoLot", "is_lot", "is_frame", "must_frame", "holds_all", "closed", "must_lot", "closing", "common", "all_things", "things", "_law_at", "_law_mixed", "_law_purse", "_law_draw", "_law_closed", "_law_lot", "_law_frame", "_law_due", "_law_all_lots", "_law_right", "MOST_NUMBERS", "MOST_LOTS"]
def looseL : List PySem.Str := loose0
open PyProof.Rows in
theorem runL (w : World) : HandSHeadRun.RunEq Rr (PySem.W.view Rr.prog [28]) hkL obL 4000 looseL w := by
  intro os
  kernel_rfl
theorem factsL (ht : ∀ ns : List Int, ns.length ≤ 63 → ∃ h, m_law [.scr ns] [] = .ok (.bl true) h) {P : Program} {w : World} {K : PySem.W.Frag} {h : Heap} {mg : PySem.Str → Option Value} {f : Addr} (X : K.In h) (G : h.Ns mainGlobals mg) (hfa : mg ("law" : PySem.Str) = some (.ref f)) (c : He.SaysD faL fnL K) :
    ∃ fd : FuncData, (∀ (s : Shared) (v : Value), BindsTo s fd ⟨[v], []⟩ [("_law_script", v)]) ∧ ∀ base : Heap, K.In base → base.Ns mainGlobals mg → FnOk P w K mg base CX0 6 f fd ["_law_script"] (spLaw K w (excA K) clsA fldA) := by
  obtain ⟨fd, F⟩ := c.def_ 20 (d := d_law) rfl
  have e := hfa.symm.trans (He.glo_ok X G (c.fact 20 (f := .glo "law") rfl))
  cases e
  have b := FunD.bindsA (ps := ["_law_script"]) F fun _ _ _ _ _ _ us hl => match us, hl with | [_], _ => rfl
  refine ⟨fd, fun s v => b s [v] rfl, fun base hb hg => law_fn rfl (fun a ns => ?_) ht⟩
  · let C : Cc := ⟨a, ns, excA K, clsA, fldA, w⟩
    have hw : C.wd = w := rfl
    have T : Txt K mg C.exc := txt_of hb hg c
    have K_is_lot : Kno P w K mg base C "is_lot" 2 1 m_is_lot := k_is_lot hw T 
    have K_is_frame : Kno P w K mg base C "is_frame" 1 2 m_is_frame := k_is_frame hw T K_is_lot
    have K_must_frame : Kno P w K mg base C "must_frame" 1 3 m_must_frame := k_must_frame hw T K_is_frame
    have K_holds_all : Kno P w K mg base C "holds_all" 2 1 m_holds_all := k_holds_all hw T 
    have K_closed : Kno P w K mg base C "closed" 2 2 m_closed := k_closed hw T K_holds_all
    have K_must_lot : Kno P w K mg base C "must_lot" 2 2 m_must_lot := k_must_lot hw T K_is_lot
    have K_closing : Kno P w K mg base C "closing" 2 4 m_closing := k_closing hw T K_closed K_must_frame K_must_lot
    have K_common : Kno P w K mg base C "common" 2 1 m_common := k_common hw T 
    have K_all_things : Kno P w K mg base C "all_things" 1 2 m_all_things := k_all_things hw T K_common
    have K_things : Kno P w K mg base C "things" 1 4 m_things := k_things hw T K_all_things K_must_frame
    have K__law_at : Kno P w K mg base C "_law_at" 2 1 m__law_at := k__law_at hw T 
    have K__law_mixed : Kno P w K mg base C "_law_mixed" 2 1 m__law_mixed := k__law_mixed hw T 
    have K__law_purse : Kno P w K mg base C "_law_purse" 2 2 m__law_purse := k__law_purse hw T K__law_at
    have K__law_draw : Kno P w K mg base C "_law_draw" 2 2 m__law_draw := k__law_draw hw T K__law_mixed
    have K__law_closed : Kno P w K mg base C "_law_closed" 2 1 m__law_closed := k__law_closed hw T 
    have K__law_lot : Kno P w K mg base C "_law_lot" 2 3 m__law_lot := k__law_lot hw T K__law_draw
    have K__law_frame : Kno P w K mg base C "_law_frame" 2 4 m__law_frame := k__law_frame hw T K__law_draw K__law_lot
    have K__law_due : Kno P w K mg base C "_law_due" 1 1 m__law_due := k__law_due hw T 
    have K__law_all_lots : Kno P w K mg base C "_law_all_lots" 1 2 m__law_all_lots := k__law_all_lots hw T K__law_closed
    have K__law_right : Kno P w K mg base C "_law_right" 1 5 m__law_right := k__law_right hw T K__law_all_lots K__law_due K_closing K_things
    exact fn_law (C := C) hw T K__law_draw K__law_frame K__law_purse K__law_right F
end Mi
set_option linter.all false
/-! The tree mirror: values are trees; what may still be changed is owned by one place. -/
namespace Mi
/-- a tree of which the nodes above sh are owned -/
inductive OT where
  | sh (t : T) | lst (xs : List OT) | tup (xs : List OT) | dct (ks : List T) (xs : List OT)
  deriving Inhabited
mutual
def OT.tree : OT → T
  | .sh t => t
  | .lst xs => .lst (OT.trees xs)
  | .tup xs => .tup (OT.trees xs)
  | .dct ks xs => .dct ks (OT.trees xs)
def OT.trees : List OT → List T
  | [] => []
  | x :: xs => OT.tree x :: OT.trees xs
end
mutual
/-- no list within -/
def T.noL : T → Bool
  | .lst _ => false
  | .tup xs => T.noLs xs
  | .dct _ _ => false
  | _ => true
def T.noLs : List T → Bool
  | [] => true
  | x :: xs => T.noL x && T.noLs xs
end
mutual
/-- the shared parts have no lists -/
def OT.shNoL : OT → Bool
  | .sh t => t.noL
  | .lst xs => OT.shNoLs xs
  | .tup xs => OT.shNoLs xs
  | .dct _ xs => OT.shNoLs xs
def OT.shNoLs : List OT → Bool
  | [] => true
  | x :: xs => OT.shNoL x && OT.shNoLs xs
end
mutual
/-- depth at most n, texts as they should be -/
def T.fitN : Nat → T → Bool
  | _, .non => true
  | _, .bl _ => true
  | _, .int _ => true
  | _, .str _ => true
  | _, .scr _ => false
  | _, .dct _ _ => false
  | 0, .lst _ => false
  | 0, .tup _ => false
  | n + 1, .lst xs => T.fitNs n xs
  | n + 1, .tup xs => T.fitNs n xs
def T.fitNs : Nat → List T → Bool
  | _, [] => true
  | n, x :: xs => T.fitN n x && T.fitNs n xs
end
def T.fit (t : T) : Bool := T.fitN deep t
abbrev TEnv := List (Option OT)
/-- a value: a tree, or what stands in place i (owned there) -/
inductive TW where
  | ot (o : OT) | al (i : Nat)
inductive TR (α : Type) where
  | ok (a : α) (s : TEnv) | exc (c : Nat) (s : TEnv) | stuck
def TR.bind {α β : Type} (x : TR α) (f : α → TEnv → TR β) : TR β := match x with
  | .ok a s => f a s
  | .exc c s => .exc c s
  | .stuck => .stuck
@[simp] theorem TR.bind_ok {α β : Type} (a : α) (s : TEnv) (f : α → TEnv → TR β) : (TR.ok a s).bind f = f a s := rfl
@[simp] theorem TR.bind_exc {α β : Type} (c : Nat) (s : TEnv) (f : α → TEnv → TR β) : (TR.exc c s : TR α).bind f = .exc c s := rfl
@[simp] theorem TR.bind_stuck {α β : Type} (f : α → TEnv → TR β) : (TR.stuck : TR α).bind f = .stuck := rfl
abbrev TE := TEnv → TR TW
abbrev TA := TEnv → TR (List TW)
def tget (s : TEnv) (i : Nat) : Option OT := match s[i]? with
  | some (some o) => some o
  | _ => none
@[simp] theorem tget_cons_zero (o : Option OT) (s : TEnv) : tget (o :: s) 0 = o := by cases o <;> rfl
@[simp] theorem tget_cons_succ (o : Option OT) (s : TEnv) (i : Nat) : tget (o :: s) (i + 1) = tget s i := by simp [tget]
/-- its tree -/
def rd (s : TEnv) (w : TW) : Option T := match w with
  | .ot o => some o.tree
  | .al i => (tget s i).map OT.tree
@[simp] theorem rd_ot (s : TEnv) (o : OT) : rd s (.ot o) = some o.tree := rfl
@[simp] theorem rd_al (s : TEnv) (i : Nat) : rd s (.al i) = (tget s i).map OT.tree := rfl
/-- place i is owned no more -/
def fz (s : TEnv) (i : Nat) : TEnv := match tget s i with
  | some o => s.set i (some (.sh o.tree))
  | none => s
def OT.kids : OT → OT
  | .lst xs => .lst ((OT.trees xs).map .sh)
  | .tup xs => .tup ((OT.trees xs).map .sh)
  | .dct ks xs => .dct ks ((OT.trees xs).map .sh)
  | o => o
/-- what stands within place i is owned no more -/
def fzk (s : TEnv) (i : Nat) : TEnv := match tget s i with
  | some o => s.set i (some o.kids)
  | none => s
def fzW (s : TEnv) (w : TW) : TEnv := match w with
  | .ot _ => s
  | .al i => fz s i
def fzkW (s : TEnv) (w : TW) : TEnv := match w with
  | .ot _ => s
  | .al i => fzk s i
@[simp] theorem fzW_ot (s : TEnv) (o : OT) : fzW s (.ot o) = s := rfl
@[simp] theorem fzkW_ot (s : TEnv) (o : OT) : fzkW s (.ot o) = s := rfl
@[simp] theorem fzW_al (s : TEnv) (i : Nat) : fzW s (.al i) = fz s i := rfl
@[simp] theorem fzkW_al (s : TEnv) (i : Nat) : fzkW s (.al i) = fzk s i := rfl
/-- a value is put elsewhere: as it is, or, of a place, owned no more (m: taken out of its place) -/
def eat (m : Bool) (s : TEnv) (w : TW) : Option (OT × TEnv) := match w with
  | .ot o => some (o, s)
  | .al i => (tget s i).map fun o => if m then (o, s.set i none) else (.sh o.tree, s.set i (some (.sh o.tree)))
@[simp] theorem eat_ot (m : Bool) (s : TEnv) (o : OT) : eat m s (.ot o) = some (o, s) := rfl
@[simp] theorem eat_al (s : TEnv) (i : Nat) : eat false s (.al i) = (tget s i).map fun o => (.sh o.tree, s.set i (some (.sh o.tree))) := rfl
@[simp] theorem eat_mv (s : TEnv) (i : Nat) : eat true s (.al i) = (tget s i).map fun o => (o, s.set i none) := rfl
def eats (m : Bool) (s : TEnv) : List TW → Option (List OT × TEnv)
  | [] => some ([], s)
  | w :: ws => match eat m s w with
    | some (o, s1) => match eats m s1 ws with
      | some (os, s2) => some (o :: os, s2)
      | none => none
    | none => none
def OT.isSh : OT → Bool
  | .sh _ => true
  | _ => false
def mkTup (os : List OT) : OT := if os.all OT.isSh then .sh (.tup (OT.trees os)) else .tup os

/-- bounds that stay as they are while a program is run -/
def near (i : Int) : Bool := decide (i.natAbs < 2305843009213693952)
def powOkT (i j : Int) : Bool := decide (0 ≤ j) && decide (j.natAbs ≤ 1000000) && near i
/-! ### pure operators -/
abbrev Op2T := T → T → Option OT
abbrev Op1T := T → Option OT
abbrev bT (b : Bool) : OT := .sh (.bl b)
abbrev iT (i : Int) : OT := .sh (.int i)
def flat (ts : List T) : OT := .lst (ts.map .sh)
def gAdd : Op2T
  | .int i, .int j => some (iT (i + j))
  | .str x, .str y => if x.length + y.length ≤ lim then some (.sh (.str (x ++ y))) else none
  | .lst xs, .lst ys => if (xs ++ ys).length ≤ lim then some (flat (xs ++ ys)) else none
  | .tup xs, .tup ys => if (xs ++ ys).length ≤ lim then some (.sh (.tup (xs ++ ys))) else none
  | _, _ => none
def gAugAdd : Op2T
  | .int i, .int j => some (iT (i + j))
  | _, _ => none
def gSub : Op2T
  | .int i, .int j => some (iT (i - j))
  | _, _ => none
def gMul : Op2T
  | .int i, .int j => if near i || near j then some (iT (i * j)) else none
  | .lst xs, .int k => if near k = true ∧ (List.replicate k.toNat xs).flatten.length ≤ lim then some (flat (List.replicate k.toNat xs).flatten) else none
  | _, _ => none
def gDiv : Op2T
  | .int i, .int j => if 0 < j && lowBits j then some (iT (i / j)) else none
  | _, _ => none
def gMod : Op2T
  | .int i, .int j => if 0 < j then some (iT (i % j)) else none
  | _, _ => none
def gPow : Op2T
  | .int i, .int j => if powOkT i j then some (iT (i ^ j.toNat)) else none
  | _, _ => none
def gShl : Op2T
  | .int i, .int j => if powOkT i j then some (iT (i * 2 ^ j.toNat)) else none
  | _, _ => none
def gShr : Op2T
  | .int i, .int j => if 0 ≤ j then some (iT (i / 2 ^ j.toNat)) else none
  | _, _ => none
def gAnd : Op2T
  | .int i, .int j => if 0 ≤ i && 0 ≤ j then some (iT ((i.toNat &&& j.toNat : Nat) : Int)) else none
  | _, _ => none
def gOr : Op2T
  | .int i, .int j => if 0 ≤ i && 0 ≤ j then some (iT ((i.toNat ||| j.toNat : Nat) : Int)) else none
  | _, _ => none
def gLt : Op2T
  | .int i, .int j => some (bT (decide (i < j)))
  | _, _ => none
def gLe : Op2T
  | .int i, .int j => some (bT (decide (i ≤ j)))
  | _, _ => none
def gGt : Op2T
  | .int i, .int j => some (bT (decide (j < i)))
  | _, _ => none
def gGe : Op2T
  | .int i, .int j => some (bT (decide (j ≤ i)))
  | _, _ => none
def gEq : Op2T := fun x y => if x.fit && y.fit then some (bT (T.eqv x y)) else none
def gNe : Op2T := fun x y => if x.fit && y.fit then some (bT (!T.eqv x y)) else none
def inT (x y : T) : Option Bool := match y with
  | .str s => match x with
    | .str [c] => some (decide (c ∈ s))
    | _ => none
  | .lst ts => if x.fit && (T.lst ts).fit then some (ts.any fun z => T.eqv z x) else none
  | _ => none
def gIn : Op2T := fun x y => (inT x y).map bT
def gNotIn : Op2T := fun x y => (inT x y).map fun b => bT (!b)
def gIx : Op2T
  | .str s, .int i => match atI s i with
    | some c => some (.sh (.str [c]))
    | none => none
  | .lst xs, .int i => (atI xs i).map .sh
  | .tup xs, .int i => (atI xs i).map .sh
  | .scr xs, .int i => (atI xs i).map iT
  | _, _ => none
def gSlice (x : T) (lo hi : Option Int) : Option OT := match x with
  | .str s => some (.sh (.str (cut s lo hi)))
  | .lst xs => some (flat (cut xs lo hi))
  | .tup xs => some (.sh (.tup (cut xs lo hi)))
  | _ => none
def gLen : Op1T
  | .str s => some (iT s.length)
  | .lst xs => some (iT xs.length)
  | .tup xs => some (iT xs.length)
  | .scr xs => some (iT xs.length)
  | _ => none
def gList : Op1T
  | .lst xs => some (flat xs)
  | .tup xs => some (flat xs)
  | _ => none
def gTuple : Op1T
  | .lst xs => some (.sh (.tup xs))
  | .tup xs => some (.sh (.tup xs))
  | _ => none
def asBlsT : List T → Option (List Bool)
  | [] => some []
  | .bl i :: r => (asBlsT r).map (i :: ·)
  | _ :: _ => none
def asIntsT : List T → Option (List Int)
  | [] => some []
  | .int i :: r => (asIntsT r).map (i :: ·)
  | _ :: _ => none
def gAll : Op1T
  | .lst xs => (asBlsT xs).map fun bs => bT (bs.all id)
  | _ => none
def gSum : Op1T
  | .lst xs => (asIntsT xs).map fun bs => iT bs.sum
  | _ => none
def gMax : Op2T
  | .int i, .int j => some (iT (if j > i then j else i))
  | _, _ => none
def gMin : Op2T
  | .int i, .int j => some (iT (if j < i then j else i))
  | _, _ => none
def gInt : Op1T
  | .bl b => some (iT (if b then 1 else 0))
  | _ => none
def gNeg : Op1T
  | .int i => some (iT (-i))
  | _ => none
def gBits : Op1T
  | .int i => some (iT (bitLen i))
  | _ => none
def gIsN : Op1T
  | .non => some (bT true)
  | _ => some (bT false)
def gNotN : Op1T
  | .non => some (bT false)
  | _ => some (bT true)
def gIsB (b : Bool) : Op1T
  | .bl c => some (bT (decide (c = b)))
  | _ => none
def isTyT (t : Ty) : T → Bool
  | .non => false
  | .bl _ => t == .tbool || t == .tint
  | .int _ => t == .tint
  | .str _ => t == .tstr
  | .lst _ => t == .tlist
  | .tup _ => t == .ttuple
  | .scr _ => t == .tlist
  | .dct _ _ => t == .tdict
def gIsi (t : Ty) : Op1T := fun x => some (bT (isTyT t x))
def gRev : Op1T
  | .lst xs => some (flat xs.reverse)
  | _ => none
def rngT (a b : Int) : List T := (List.range (b - a).toNat).map fun (k : Nat) => .int (a + (k : Int))
def gRng : Op2T
  | .int i, .int j => if rngOk i && rngOk j then some (flat (rngT i j)) else none
  | _, _ => none

/-! ### expressions -/
def tVar (i : Nat) : TE := fun s => match tget s i with
  | some (.sh t) => .ok (.ot (.sh t)) s
  | some _ => .ok (.al i) s
  | none => .stuck
def tC (t : T) : TE := fun s => .ok (.ot (.sh t)) s
/-- an operator that hands on nothing of its operands but numbers, texts, truths -/
def t1 (g : Op1T) (a : TE) : TE := fun s => (a s).bind fun w s1 => match rd s1 w with
  | some x => match g x with
    | some o => .ok (.ot o) s1
    | none => .stuck
  | none => .stuck
/-- one that hands on parts -/
def t1k (g : Op1T) (a : TE) : TE := fun s => (a s).bind fun w s1 => match rd s1 w with
  | some x => match g x with
    | some o => .ok (.ot o) (fzkW s1 w)
    | none => .stuck
  | none => .stuck
def t2 (g : Op2T) (a b : TE) : TE := fun s => (a s).bind fun w s1 => (b s1).bind fun v s2 => match rd s2 w, rd s2 v with
  | some x, some y => match g x y with
    | some o => .ok (.ot o) s2
    | none => .stuck
  | _, _ => .stuck
def t2k (g : Op2T) (a b : TE) : TE := fun s => (a s).bind fun w s1 => (b s1).bind fun v s2 => match rd s2 w, rd s2 v with
  | some x, some y => match g x y with
    | some o => .ok (.ot o) (fzkW (fzkW s2 w) v)
    | none => .stuck
  | _, _ => .stuck
def tChain (f g : Op2T) (a b c : TE) : TE := fun s => (a s).bind fun w s1 => (b s1).bind fun v s2 => match rd s2 w, rd s2 v with
  | some x, some y => match f x y with
    | some (.sh (.bl true)) => (c s2).bind fun u s3 => match rd s3 v, rd s3 u with
      | some y', some z => match g y' z with
        | some o => .ok (.ot o) s3
        | none => .stuck
      | _, _ => .stuck
    | some (.sh (.bl false)) => .ok (.ot (bT false)) s2
    | _ => .stuck
  | _, _ => .stuck
def tAnd (a b : TE) : TE := fun s => (a s).bind fun w s1 => match w with
  | .ot (.sh (.bl true)) => b s1
  | .ot (.sh (.bl false)) => .ok (.ot (bT false)) s1
  | _ => .stuck
def tOr (a b : TE) : TE := fun s => (a s).bind fun w s1 => match w with
  | .ot (.sh (.bl true)) => .ok (.ot (bT true)) s1
  | .ot (.sh (.bl false)) => b s1
  | _ => .stuck
def tNot (a : TE) : TE := fun s => (a s).bind fun w s1 => match w with
  | .ot (.sh (.bl b)) => .ok (.ot (bT (!b))) s1
  | _ => .stuck
def taNil : TA := fun s => .ok [] s
def taCons (a : TE) (as : TA) : TA := fun s => (a s).bind fun w s1 => (as s1).bind fun ws s2 => .ok (w :: ws) s2
def tTup (m : Bool) (as : TA) : TE := fun s => (as s).bind fun ws s1 => match eats m s1 ws with
  | some (os, s2) => if os.length ≤ lim then .ok (.ot (mkTup os)) s2 else .stuck
  | none => .stuck
def tLst (m : Bool) (as : TA) : TE := fun s => (as s).bind fun ws s1 => match eats m s1 ws with
  | some (os, s2) => if os.length ≤ lim then .ok (.ot (.lst os)) s2 else .stuck
  | none => .stuck
abbrev TO := TEnv → TR (Option Int)
def toNone : TO := fun s => .ok none s
def toSome (a : TE) : TO := fun s => (a s).bind fun w s1 => match w with
  | .ot (.sh (.int i)) => .ok (some i) s1
  | _ => .stuck
def tSlice (a : TE) (lo hi : TO) : TE := fun s => (a s).bind fun w s1 => (lo s1).bind fun l s2 => (hi s2).bind fun u s3 => match rd s3 w with
  | some x => match gSlice x l u with
    | some o => .ok (.ot o) (fzkW s3 w)
    | none => .stuck
  | none => .stuck
/-! ### calls: of each parameter whether the callee changes it -/
inductive TFR where
  | ok (r : OT) (outs : List OT) | exc (c : Nat) (outs : List OT) | stuck
abbrev TFn := List OT → TFR
/-- what is handed in -/
def prep (s : TEnv) : List Bool → List TW → Option (List OT)
  | [], [] => some []
  | false :: ms, w :: ws => match rd s w, prep s ms ws with
    | some t, some os => some (.sh t :: os)
    | _, _ => none
  | true :: ms, .ot o :: ws => match prep s ms ws with
    | some os => some (o :: os)
    | none => none
  | true :: ms, .al i :: ws => match tget s i, prep s ms ws with
    | some o, some os => some (o :: os)
    | _, _ => none
  | _, _ => none
/-- the places that the callee changes -/
def ioAls : List Bool → List TW → List Nat
  | true :: ms, .al i :: ws => i :: ioAls ms ws
  | _ :: ms, _ :: ws => ioAls ms ws
  | _, _ => []
def rdAls : List Bool → List TW → List Nat
  | false :: ms, .al i :: ws => i :: rdAls ms ws
  | _ :: ms, _ :: ws => rdAls ms ws
  | _, _ => []
/-- what comes back is put there -/
def putBack (s : TEnv) : List Bool → List TW → List OT → Option TEnv
  | false :: ms, _ :: ws, outs => putBack s ms ws outs
  | true :: ms, .ot _ :: ws, _ :: outs => putBack s ms ws outs
  | true :: ms, .al i :: ws, o :: outs => putBack (s.set i (some o)) ms ws outs
  | [], [], [] => some s
  | _, _, _ => none
def apart (ms : List Bool) (ws : List TW) : Bool := decide ((ioAls ms ws).Nodup) && (ioAls ms ws).all fun i => !(rdAls ms ws).contains i
/-- may the places read be owned on -/
def freeT (r : OT) (outs : List OT) : Bool := r.shNoL && OT.shNoLs outs
def tCall (f : TFn) (ms : List Bool) (as : TA) : TE := fun s => (as s).bind fun ws s1 => if apart ms ws then match prep s1 ms ws with
  | some os => match f os with
    | .ok r outs => match putBack s1 ms ws outs with
      | some s2 => .ok (.ot r) (if freeT r outs then s2 else (rdAls ms ws).foldl fz s2)
      | none => .stuck
    | .exc c outs => match putBack s1 ms ws outs with
      | some s2 => .exc c (if OT.shNoLs outs then s2 else (rdAls ms ws).foldl fz s2)
      | none => .stuck
    | .stuck => .stuck
  | none => .stuck else .stuck
/-! ### methods of a place's list -/
/-- place i has an owned list -/
def isLst (s : TEnv) (i : Nat) : Bool := match tget s i with
  | some (.lst _) => true
  | _ => false
def tAppend (m : Bool) (i : Nat) (a : TE) : TE := fun s => if isLst s i then (a s).bind fun w s1 => match eat m s1 w with
  | some (o, s2) => match tget s2 i with
    | some (.lst xs) => if xs.length < lim then .ok (.ot (.sh .non)) (s2.set i (some (.lst (xs ++ [o])))) else .stuck
    | _ => .stuck
  | none => .stuck else .stuck
def tPop0 (i : Nat) : TE := fun s => match tget s i with
  | some (.lst xs) => match xs[xs.length - 1]? with
    | some o => .ok (.ot o) (s.set i (some (.lst xs.dropLast)))
    | none => .stuck
  | _ => .stuck
def tPop1 (i : Nat) (a : TE) : TE := fun s => if isLst s i then (a s).bind fun w s1 => match w with
  | .ot (.sh (.int k)) => match tget s1 i with
    | some (.lst xs) => if near k then match ixN xs.length k with
      | some j => match xs[j]? with
        | some o => .ok (.ot o) (s1.set i (some (.lst (xs.eraseIdx j))))
        | none => .stuck
      | none => .stuck else .stuck
    | _ => .stuck
  | _ => .stuck else .stuck
def tClear (i : Nat) : TE := fun s => match tget s i with
  | some (.lst _) => .ok (.ot (.sh .non)) (s.set i (some (.lst [])))
  | _ => .stuck

/-! ### statements -/
inductive TSR where
  | nx (s : TEnv) | rt (o : OT) (s : TEnv) | bk (s : TEnv) | ct (s : TEnv) | exc (c : Nat) (s : TEnv) | stuck
abbrev TS := TEnv → TSR
def TR.into {α : Type} (x : TR α) (f : α → TEnv → TSR) : TSR := match x with
  | .ok a s => f a s
  | .exc c s => .exc c s
  | .stuck => .stuck
@[simp] theorem TR.into_ok {α : Type} (a : α) (s : TEnv) (f : α → TEnv → TSR) : (TR.ok a s).into f = f a s := rfl
@[simp] theorem TR.into_exc {α : Type} (c : Nat) (s : TEnv) (f : α → TEnv → TSR) : (TR.exc c s : TR α).into f = .exc c s := rfl
@[simp] theorem TR.into_stuck {α : Type} (f : α → TEnv → TSR) : (TR.stuck : TR α).into f = .stuck := rfl
def TSR.then (x : TSR) (f : TS) : TSR := match x with
  | .nx s => f s
  | y => y
@[simp] theorem TSR.then_nx (s : TEnv) (f : TS) : (TSR.nx s).then f = f s := rfl
@[simp] theorem TSR.then_rt (o : OT) (s : TEnv) (f : TS) : (TSR.rt o s).then f = .rt o s := rfl
@[simp] theorem TSR.then_exc (c : Nat) (s : TEnv) (f : TS) : (TSR.exc c s).then f = .exc c s := rfl
@[simp] theorem TSR.then_bk (s : TEnv) (f : TS) : (TSR.bk s).then f = .bk s := rfl
@[simp] theorem TSR.then_ct (s : TEnv) (f : TS) : (TSR.ct s).then f = .ct s := rfl
def tsSkip : TS := fun s => .nx s
def tsSeq (a b : TS) : TS := fun s => (a s).then b
def tsExpr (a : TE) : TS := fun s => (a s).into fun _ s1 => .nx s1
/-- io: the parameters that are changed -/
def tsRet (io : List Nat) (a : TE) : TS := fun s => (a s).into fun w s1 => match w with
  | .ot o => .rt o s1
  | .al i => match tget s1 i with
    | some o => if io.contains i then .rt (.sh o.tree) (s1.set i (some (.sh o.tree))) else .rt o (s1.set i none)
    | none => .stuck
def tsRetN : TS := fun s => .rt (.sh .non) s
def tsIf (c : TE) (t u : TS) : TS := fun s => (c s).into fun w s1 => match w with
  | .ot (.sh (.bl true)) => t s1
  | .ot (.sh (.bl false)) => u s1
  | _ => .stuck
def tsRaise (c : Nat) : TS := fun s => .exc c s
abbrev TG := OT → TEnv → Option TEnv
abbrev TGs := List OT → TEnv → Option TEnv
def tgName (i : Nat) : TG := fun o s => some (s.set i (some o))
def tgNil : TGs := fun os s => match os with
  | [] => some s
  | _ => none
def tgCons (g : TG) (gs : TGs) : TGs := fun os s => match os with
  | [] => none
  | o :: r => match g o s with
    | some s1 => gs r s1
    | none => none
def OT.parts : OT → Option (List OT)
  | .sh (.lst ts) => some (ts.map .sh)
  | .sh (.tup ts) => some (ts.map .sh)
  | .lst os => some os
  | .tup os => some os
  | _ => none
def tgTup (n : Nat) (gs : TGs) : TG := fun o s => match o.parts with
  | some os => if os.length = n then gs os s else none
  | none => none
def tsAsg (m : Bool) (g : TG) (a : TE) : TS := fun s => (a s).into fun w s1 => match eat m s1 w with
  | some (o, s2) => match g o s2 with
    | some s3 => .nx s3
    | none => .stuck
  | none => .stuck
/-- place i [k] = a -/
def tsSetIx (m : Bool) (a : TE) (i : Nat) (k : TE) : TS := fun s => (a s).into fun w s1 => if isLst s1 i then (k s1).into fun v s2 => match v with
  | .ot (.sh (.int j)) => match eat m s2 w with
    | some (o, s3) => match tget s3 i with
      | some (.lst xs) => match ixN xs.length j with
        | some m => .nx (s3.set i (some (.lst (xs.set m o))))
        | none => .stuck
      | _ => .stuck
    | none => .stuck
  | _ => .stuck else .stuck

/-! ### loops -/
inductive TItm where
  | one (t : T) | two (t u : T)
abbrev TI := TEnv → TR (List TItm)
def seqT : T → Option (List T)
  | .lst ts => some ts
  | .tup ts => some ts
  | .str x => some (x.map fun c => .str [c])
  | _ => none
def tiSeq (a : TE) : TI := fun s => (a s).bind fun w s1 => match rd s1 w with
  | some t => match seqT t with
    | some ts => .ok (ts.map .one) (fzW s1 w)
    | none => .stuck
  | none => .stuck
def tiRng (a : TE) : TI := fun s => (a s).bind fun w s1 => match w with
  | .ot (.sh (.int j)) => if rngOk j then .ok ((rngT 0 j).map .one) s1 else .stuck
  | _ => .stuck
def tiRng2 (a b : TE) : TI := fun s => (a s).bind fun w s1 => (b s1).bind fun v s2 => match w, v with
  | .ot (.sh (.int i)), .ot (.sh (.int j)) => if rngOk i && rngOk j then .ok ((rngT i j).map .one) s2 else .stuck
  | _, _ => .stuck
def enumT (ts : List T) : List TItm := (List.range ts.length).zipWith (fun (i : Nat) x => .two (.int (i : Int)) x) ts
def tiEnum (a : TE) : TI := fun s => (a s).bind fun w s1 => match rd s1 w with
  | some (.lst ts) => .ok (enumT ts) (fzW s1 w)
  | _ => .stuck
def tiZip (a b : TE) : TI := fun s => (a s).bind fun w s1 => (b s1).bind fun v s2 => match rd s2 w, rd s2 v with
  | some (.lst xs), some (.lst ys) => .ok (xs.zipWith .two ys) (fzW (fzW s2 w) v)
  | _, _ => .stuck
abbrev TGI := TItm → TEnv → Option TEnv
def tgOne (g : TG) : TGI := fun m s => match m with
  | .one t => g (.sh t) s
  | .two _ _ => none
def tgTwo (g k : TG) : TGI := fun m s => match m with
  | .one t => tgTup 2 (tgCons g (tgCons k tgNil)) (.sh t) s
  | .two t u => tgCons g (tgCons k tgNil) [.sh t, .sh u] s
def tturn (f : TS) : TSR → TSR
  | .nx s => f s
  | .ct s => f s
  | .bk s => .nx s
  | y => y
@[simp] theorem tturn_nx (f : TS) (s : TEnv) : tturn f (.nx s) = f s := rfl
@[simp] theorem tturn_ct (f : TS) (s : TEnv) : tturn f (.ct s) = f s := rfl
@[simp] theorem tturn_bk (f : TS) (s : TEnv) : tturn f (.bk s) = .nx s := rfl
@[simp] theorem tturn_rt (f : TS) (o : OT) (s : TEnv) : tturn f (.rt o s) = .rt o s := rfl
@[simp] theorem tturn_exc (f : TS) (c : Nat) (s : TEnv) : tturn f (.exc c s) = .exc c s := rfl
def tloop (g : TGI) (b : TS) : List TItm → TS
  | [], s => .nx s
  | m :: r, s => match g m s with
    | some s1 => tturn (tloop g b r) (b s1)
    | none => .stuck
def tsFor (it : TI) (g : TGI) (b : TS) : TS := fun s => (it s).into fun ms s1 => tloop g b ms s1
def twloop (c : TE) (b : TS) : Nat → TS
  | 0, _ => .stuck
  | n + 1, s => (c s).into fun w s1 => match w with
    | .ot (.sh (.bl true)) => tturn (twloop c b n) (b s1)
    | .ot (.sh (.bl false)) => .nx s1
    | _ => .stuck
def tsWhile (c : TE) (b : TS) : TS := twloop c b fuel
def twipe (s : TEnv) : List Nat → TEnv
  | [] => s
  | v :: vs => (twipe s vs).set v none
def tlcGo (g : TGI) (c e : TE) (vs : List Nat) : List TItm → List OT → TEnv → TR (List OT)
  | [], acc, s => .ok acc (twipe s vs)
  | m :: r, acc, s => match g m (twipe s vs) with
    | some s1 => match c s1 with
      | .ok (.ot (.sh (.bl true))) s2 => match e s2 with
        | .ok w s3 => match eat true s3 w with
          | some (o, s4) => tlcGo g c e vs r (acc ++ [o]) s4
          | none => .stuck
        | _ => .stuck
      | .ok (.ot (.sh (.bl false))) s2 => tlcGo g c e vs r acc s2
      | _ => .stuck
    | none => .stuck
def tLc (it : TI) (g : TGI) (c e : TE) (vs : List Nat) : TE := fun s => (it s).bind fun ms s1 => (tlcGo g c e vs ms [] s1).bind fun os s2 => .ok (.ot (.lst os)) s2
def tT : TE := tC (.bl true)

/-! ### defs -/
def outsOf (s : TEnv) : List Nat → Option (List OT)
  | [] => some []
  | i :: r => match tget s i, outsOf s r with
    | some o, some os => some (o :: os)
    | _, _ => none
def tBody (n k : Nat) (io : List Nat) (b : TS) : TFn := fun os => if os.length = n then (match b (os.map some ++ List.replicate (k - n) none) with
  | .nx s => match outsOf s io with
    | some outs => .ok (.sh .non) outs
    | none => .stuck
  | .rt o s => match outsOf s io with
    | some outs => .ok o outs
    | none => .stuck
  | .exc c s => match outsOf s io with
    | some outs => .exc c outs
    | none => .stuck
  | _ => .stuck) else .stuck

/-! ### parts of a place's tree -/
def OT.at : OT → List Nat → Option OT
  | o, [] => some o
  | .lst xs, k :: r => match xs[k]? with
    | some x => x.at r
    | none => none
  | .tup xs, k :: r => match xs[k]? with
    | some x => x.at r
    | none => none
  | .sh _, _ :: _ => none
  | .dct _ _, _ :: _ => none
/-- the part at a path becomes n -/
def OT.upd (n : OT) : OT → List Nat → OT
  | _, [] => n
  | .lst xs, k :: r => match xs[k]? with
    | some x => .lst (xs.set k (OT.upd n x r))
    | none => .lst xs
  | .tup xs, k :: r => match xs[k]? with
    | some x => .tup (xs.set k (OT.upd n x r))
    | none => .tup xs
  | .sh t, _ :: _ => .sh t
  | .dct ks xs, _ :: _ => .dct ks xs
/-- an operator on a part of place i and a value: meanwhile place i is hidden -/
def tPk (g : Op2T) (i : Nat) (path : List Nat) (b : TE) : TE := fun s => match tget s i with
  | some o => match o.at path with
    | some x => (b (s.set i none)).bind fun v s1 => match rd s1 v with
      | some y => match g x.tree y with
        | some r => .ok (.ot r) (s1.set i (some o))
        | none => .stuck
      | none => .stuck
    | none => .stuck
  | none => .stuck
def tAppendP (m : Bool) (i : Nat) (path : List Nat) (a : TE) : TE := fun s => match tget s i with
  | some o => match o.at path with
    | some (.lst xs) => (a (s.set i none)).bind fun w s1 => match eat m s1 w with
      | some (v, s2) => if xs.length < lim then .ok (.ot (.sh .non)) (s2.set i (some (OT.upd (.lst (xs ++ [v])) o path))) else .stuck
      | none => .stuck
    | _ => .stuck
  | none => .stuck
def tClearP (i : Nat) (path : List Nat) : TE := fun s => match tget s i with
  | some o => match o.at path with
    | some (.lst _) => .ok (.ot (.sh .non)) (s.set i (some (OT.upd (.lst []) o path)))
    | _ => .stuck
  | none => .stuck
/-- a loop over the items of a part of place i, each lent to place x; pre: what is set ahead of a turn -/
def bloop (pre : Nat → TEnv → TEnv) (x : Nat) (b : TS) : Nat → List OT → List OT → TEnv → (List OT → TEnv → TSR) → TSR
  | _, [], acc, s, fin => fin acc s
  | n, c :: r, acc, s, fin => match b ((pre n s).set x (some c)) with
    | .nx s1 => match tget s1 x with
      | some c1 => bloop pre x b (n + 1) r (acc ++ [c1]) (s1.set x none) fin
      | none => .stuck
    | _ => .stuck
def tsForB (i : Nat) (path : List Nat) (x : Nat) (b : TS) : TS := fun s => match tget s i with
  | some o => match o.at path with
    | some (.lst xs) => bloop (fun _ s => s) x b 0 xs [] (s.set i none) fun ys s1 => .nx (s1.set i (some (OT.upd (.lst ys) o path)))
    | _ => .stuck
  | none => .stuck
def tsForE (i : Nat) (path : List Nat) (k x : Nat) (b : TS) : TS := fun s => match tget s i with
  | some o => match o.at path with
    | some (.lst xs) => bloop (fun n s => s.set k (some (iT n))) x b 0 xs [] (s.set i none) fun ys s1 => .nx (s1.set i (some (OT.upd (.lst ys) o path)))
    | _ => .stuck
  | none => .stuck
end Mi
namespace Mi
def asStrsT : List T → Option (List (List Nat))
  | [] => some []
  | .str i :: r => (asStrsT r).map (i :: ·)
  | _ :: _ => none
def gSorted : Op1T
  | .lst xs => if T.fitNs 59 xs && canSort xs then some (flat (xs.mergeSort T.le)) else none
  | _ => none
def gListB : Op1T
  | .str s => some (flat (s.map fun c => .str [c]))
  | .lst xs => some (flat xs)
  | .tup xs => some (flat xs)
  | _ => none
def gJoin : Op2T
  | .str a, .lst xs => match asStrsT xs with
    | some ys => if (ys.map List.length).sum + ys.length * a.length ≤ lim then some (.sh (.str (joinB a ys))) else none
    | none => none
  | _, _ => none
def gIndex : Op2T
  | .lst xs, x => if (T.lst xs).fit && x.fit then (xs.findIdx? fun z => T.eqv z x).map fun j => iT (j : Nat) else none
  | _, _ => none
def gSortSetB : Op1T
  | .lst xs => match asIntsT xs with
    | some ns => if ns.length ≤ 4000 ∧ (sdI ns).length < 64 then some (flat ((sdI ns).map .int)) else none
    | none => match asStrsT xs with
      | some ss => if ss.length ≤ 4000 then some (flat ((sdS ss).map .str)) else none
      | none => none
  | _ => none
end Mi
namespace Mi
/-- o.m(a): the receiver is of the type ty -/
def tMeth (ty : Ty) (g : Op2T) (a b : TE) : TE := fun s => (a s).bind fun w s1 => match rd s1 w with
  | some t => if isTyT ty t then (b s1).bind fun v s2 => match rd s2 w, rd s2 v with
      | some x, some y => match g x y with
        | some o => .ok (.ot o) s2
        | none => .stuck
      | _, _ => .stuck
    else .stuck
  | none => .stuck
end Mi
set_option linter.all false
/-! The tree mirror is sound: what it tells, the mirror tells. -/
namespace Mi
/-- an owned tree with its addresses -/
inductive OA where
  | sh (v : MV) (t : T) | lst (a : Nat) (xs : List OA) | tup (a : Nat) (xs : List OA) | dct (a : Nat) (ep : Nat) (ts : List T) (ks : List MV) (xs : List OA)
  deriving Inhabited
def OA.mv : OA → MV
  | .sh v _ => v
  | .lst a _ => .ref a
  | .tup a _ => .ref a
  | .dct a _ _ _ _ => .ref a
mutual
def OA.er : OA → OT
  | .sh _ t => .sh t
  | .lst _ xs => .lst (OA.ers xs)
  | .tup _ xs => .tup (OA.ers xs)
  | .dct _ _ ts _ xs => .dct ts (OA.ers xs)
def OA.ers : List OA → List OT
  | [] => []
  | x :: xs => OA.er x :: OA.ers xs
end
mutual
def OA.ad : OA → List Nat
  | .sh _ _ => []
  | .lst a xs => a :: OA.ads xs
  | .tup _ xs => OA.ads xs
  | .dct a _ _ _ xs => a :: OA.ads xs
def OA.ads : List OA → List Nat
  | [] => []
  | x :: xs => OA.ad x ++ OA.ads xs
end
theorem ers_map : ∀ xs : List OA, OA.ers xs = xs.map OA.er
  | [] => rfl
  | x :: xs => by rw [OA.ers, ers_map xs]; rfl
theorem trees_map : ∀ xs : List OT, OT.trees xs = xs.map OT.tree
  | [] => rfl
  | x :: xs => by rw [OT.trees, trees_map xs]; rfl
theorem ads_append : ∀ xs ys : List OA, OA.ads (xs ++ ys) = OA.ads xs ++ OA.ads ys
  | [], ys => rfl
  | x :: xs, ys => by simp [OA.ads, ads_append xs ys]
theorem mem_ads {a : Nat} : ∀ {xs : List OA}, a ∈ OA.ads xs ↔ ∃ x ∈ xs, a ∈ x.ad
  | [] => by simp [OA.ads]
  | x :: xs => by simp [OA.ads, mem_ads (xs := xs)]
mutual
def Rep (P : Nat → Prop) (h : MH) : T → MV → Prop
  | .non, v => v = .non
  | .bl b, v => v = .bl b
  | .int i, v => v = .int i
  | .str s, v => v = .str s
  | .scr xs, v => v = .scr xs
  | .lst ts, v => ∃ a vs, v = .ref a ∧ P a ∧ h[a]? = some (.lst vs) ∧ Reps P h ts vs
  | .tup ts, v => ∃ a vs, v = .ref a ∧ h[a]? = some (.tup vs) ∧ Reps P h ts vs
  | .dct ts xs, v => ∃ a ep ks vs, v = .ref a ∧ P a ∧ h[a]? = some (.dct ep ts ks vs) ∧ Reps (fun _ => False) h ts ks ∧ (∀ t ∈ ts, T.keyN 8 t = true) ∧ Reps P h xs vs
def Reps (P : Nat → Prop) (h : MH) : List T → List MV → Prop
  | [], vs => vs = []
  | t :: ts, vs => ∃ v r, vs = v :: r ∧ Rep P h t v ∧ Reps P h ts r
end
mutual
def Good (P : Nat → Prop) (h : MH) : OA → Prop
  | .sh v t => Rep P h t v
  | .lst a xs => h[a]? = some (.lst (xs.map OA.mv)) ∧ Goods P h xs
  | .tup a xs => h[a]? = some (.tup (xs.map OA.mv)) ∧ Goods P h xs
  | .dct a ep ts ks xs => h[a]? = some (.dct ep ts ks (xs.map OA.mv)) ∧ (Reps (fun _ => False) h ts ks ∧ ∀ t ∈ ts, T.keyN 8 t = true) ∧ Goods P h xs
def Goods (P : Nat → Prop) (h : MH) : List OA → Prop
  | [] => True
  | x :: xs => Good P h x ∧ Goods P h xs
end
theorem goods_iff {P : Nat → Prop} {h : MH} : ∀ {xs : List OA}, Goods P h xs ↔ ∀ x ∈ xs, Good P h x
  | [] => by simp [Goods]
  | x :: xs => by simp [Goods, goods_iff (xs := xs)]
theorem goods_append {P : Nat → Prop} {h : MH} {xs ys : List OA} : Goods P h (xs ++ ys) ↔ Goods P h xs ∧ Goods P h ys := by
  simp only [goods_iff, List.mem_append]
  exact ⟨fun q => ⟨fun x m => q x (.inl m), fun x m => q x (.inr m)⟩, fun q x m => m.elim (q.1 x) (q.2 x)⟩
/-- what keeps tuples, and the lists of P -/
structure Keep (P : Nat → Prop) (h : MH) (P' : Nat → Prop) (h' : MH) : Prop where
  lst : ∀ (a : Nat), P a → P' a ∧ h'[a]? = h[a]?
  tup : ∀ (a : Nat) (xs : List MV), h[a]? = some (.tup xs) → h'[a]? = some (.tup xs)
mutual
theorem Rep.keep {P P' : Nat → Prop} {h h' : MH} (K : Keep P h P' h') : ∀ (t : T) (v : MV), Rep P h t v → Rep P' h' t v
  | .non, v, q => by simpa [Rep] using q
  | .bl _, v, q => by simpa [Rep] using q
  | .int _, v, q => by simpa [Rep] using q
  | .str _, v, q => by simpa [Rep] using q
  | .scr _, v, q => by simpa [Rep] using q
  | .lst ts, v, q => by
    rw [Rep] at q ⊢
    obtain ⟨a, vs, e, p, g, r⟩ := q
    exact ⟨a, vs, e, (K.lst a p).1, (K.lst a p).2.trans g, Reps.keep K ts vs r⟩
  | .tup ts, v, q => by
    rw [Rep] at q ⊢
    obtain ⟨a, vs, e, g, r⟩ := q
    exact ⟨a, vs, e, K.tup a vs g, Reps.keep K ts vs r⟩
  | .dct ts xs, v, q => by
    rw [Rep] at q ⊢
    obtain ⟨a, ep, ks, vs, e, p, g, k1, k2, r⟩ := q
    exact ⟨a, ep, ks, vs, e, (K.lst a p).1, (K.lst a p).2.trans g, Reps.keep ⟨fun _ z => z.elim, K.tup⟩ ts ks k1, k2, Reps.keep K xs vs r⟩
theorem Reps.keep {P P' : Nat → Prop} {h h' : MH} (K : Keep P h P' h') : ∀ (ts : List T) (vs : List MV), Reps P h ts vs → Reps P' h' ts vs
  | [], vs, q => by simpa [Reps] using q
  | t :: ts, vs, q => by
    rw [Reps] at q ⊢
    obtain ⟨v, r, e, q1, q2⟩ := q
    exact ⟨v, r, e, Rep.keep K t v q1, Reps.keep K ts r q2⟩
end
mutual
theorem Good.keep {P P' : Nat → Prop} {h h' : MH} (K : Keep P h P' h') : ∀ (o : OA), (∀ a ∈ o.ad, h'[a]? = h[a]?) → Good P h o → Good P' h' o
  | .sh v t, _, q => by rw [Good] at q ⊢; exact Rep.keep K t v q
  | .lst a xs, d, q => by
    rw [Good] at q ⊢
    exact ⟨(d a (by simp [OA.ad])).trans q.1, Goods.keep K xs (fun b m => d b (by simp [OA.ad, m])) q.2⟩
  | .tup a xs, d, q => by
    rw [Good] at q ⊢
    exact ⟨K.tup _ _ q.1, Goods.keep K xs (fun b m => d b (by simp [OA.ad, m])) q.2⟩
  | .dct a ep ts ks xs, d, q => by
    rw [Good] at q ⊢
    exact ⟨(d a (by simp [OA.ad])).trans q.1, ⟨Reps.keep ⟨fun _ z => z.elim, K.tup⟩ ts ks q.2.1.1, q.2.1.2⟩, Goods.keep K xs (fun b m => d b (by simp [OA.ad, m])) q.2.2⟩
theorem Goods.keep {P P' : Nat → Prop} {h h' : MH} (K : Keep P h P' h') : ∀ (xs : List OA), (∀ a ∈ OA.ads xs, h'[a]? = h[a]?) → Goods P h xs → Goods P' h' xs
  | [], _, q => by simp [Goods]
  | x :: xs, d, q => by
    rw [Goods] at q ⊢
    exact ⟨Good.keep K x (fun a m => d a (by simp [OA.ads, m])) q.1, Goods.keep K xs (fun a m => d a (by simp [OA.ads, m])) q.2⟩
end
mutual
/-- frozen -/
theorem Good.rep {P Q : Nat → Prop} {h : MH} (pq : ∀ a, P a → Q a) : ∀ (o : OA), (∀ a ∈ o.ad, Q a) → Good P h o → Rep Q h o.er.tree o.mv
  | .sh v t, _, q => by rw [Good] at q; simpa [OA.er, OT.tree, OA.mv] using Rep.keep ⟨fun a p => ⟨pq a p, rfl⟩, fun a xs e => e⟩ t v q
  | .lst a xs, d, q => by
    rw [Good] at q
    simp only [OA.er, OT.tree, OA.mv, Rep]
    exact ⟨a, _, rfl, d a (by simp [OA.ad]), q.1, Goods.reps pq xs (fun b m => d b (by simp [OA.ad, m])) q.2⟩
  | .tup a xs, d, q => by
    rw [Good] at q
    simp only [OA.er, OT.tree, OA.mv, Rep]
    exact ⟨a, _, rfl, q.1, Goods.reps pq xs (fun b m => d b (by simp [OA.ad, m])) q.2⟩
  | .dct a ep ts ks xs, d, q => by
    rw [Good] at q
    simp only [OA.er, OT.tree, OA.mv, Rep]
    exact ⟨a, ep, ks, _, rfl, d a (by simp [OA.ad]), q.1, q.2.1.1, q.2.1.2, Goods.reps pq xs (fun b m => d b (by simp [OA.ad, m])) q.2.2⟩
theorem Goods.reps {P Q : Nat → Prop} {h : MH} (pq : ∀ a, P a → Q a) : ∀ (xs : List OA), (∀ a ∈ OA.ads xs, Q a) → Goods P h xs → Reps Q h (OT.trees (OA.ers xs)) (xs.map OA.mv)
  | [], _, q => by simp [OA.ers, OT.trees, Reps]
  | x :: xs, d, q => by
    rw [Goods] at q
    simp only [OA.ers, OT.trees, Reps, List.map_cons]
    exact ⟨_, _, rfl, Good.rep pq x (fun a m => d a (by simp [OA.ads, m])) q.1, Goods.reps pq xs (fun a m => d a (by simp [OA.ads, m])) q.2⟩
end
mutual
theorem Good.lt {P : Nat → Prop} {h : MH} : ∀ (o : OA), Good P h o → ∀ a ∈ o.ad, ∃ u, h[a]? = some u
  | .sh v t, _, a, m => by simp [OA.ad] at m
  | .lst b xs, q, a, m => by
    rw [Good] at q
    simp only [OA.ad, List.mem_cons] at m
    rcases m with rfl | m
    · exact ⟨_, q.1⟩
    · exact Goods.lt xs q.2 a m
  | .tup b xs, q, a, m => by
    rw [Good] at q
    simp only [OA.ad] at m
    exact Goods.lt xs q.2 a m
  | .dct b ep ts ks xs, q, a, m => by
    rw [Good] at q
    simp only [OA.ad, List.mem_cons] at m
    rcases m with rfl | m
    · exact ⟨_, q.1⟩
    · exact Goods.lt xs q.2.2 a m
theorem Goods.lt {P : Nat → Prop} {h : MH} : ∀ (xs : List OA), Goods P h xs → ∀ a ∈ OA.ads xs, ∃ u, h[a]? = some u
  | [], _, a, m => by simp [OA.ads] at m
  | x :: xs, q, a, m => by
    rw [Goods] at q
    simp only [OA.ads, List.mem_append] at m
    rcases m with m | m
    · exact Good.lt x q.1 a m
    · exact Goods.lt xs q.2 a m
end
theorem lt_of_get {h : MH} {a : Nat} {o : Obj} (e : h[a]? = some o) : a < h.length := (List.getElem?_eq_some_iff.mp e).1

/-! ### states -/
abbrev AEnv := Nat → Option OA
structure Cf where
  P : Nat → Prop
  A : AEnv
  h : MH
def Own (A : AEnv) (a : Nat) : Prop := ∃ i o, A i = some o ∧ a ∈ o.ad
structure Inv (C : Cf) (ρ : Env) (s : TEnv) : Prop where
  er : ∀ i, tget s i = (C.A i).map OA.er
  mv : ∀ i o, C.A i = some o → ρ[i]? = some (some o.mv)
  good : ∀ i o, C.A i = some o → Good C.P C.h o
  nd : ∀ i o, C.A i = some o → o.ad.Nodup
  dj : ∀ i j o o', C.A i = some o → C.A j = some o' → i ≠ j → ∀ a ∈ o.ad, a ∉ o'.ad
  fr : ∀ i o, C.A i = some o → ∀ a ∈ o.ad, ¬ C.P a
  le : ∀ a, C.P a → a < C.h.length
  len : ρ.length = s.length
structure Step (C C' : Cf) : Prop where
  len : C.h.length ≤ C'.h.length
  keep : ∀ a, a < C.h.length → ¬ Own C.A a → C'.h[a]? = C.h[a]?
  tup : ∀ (a : Nat) (xs : List MV), C.h[a]? = some (.tup xs) → C'.h[a]? = some (.tup xs)
  own : ∀ a, Own C'.A a → Own C.A a ∨ C.h.length ≤ a
  mono : ∀ a, C.P a → C'.P a
  lim : ∀ a, C'.P a → C.P a ∨ Own C.A a ∨ C.h.length ≤ a
  sep : ∀ a, C.P a → ¬ Own C.A a ∧ a < C.h.length
theorem Inv.sep {C : Cf} {ρ : Env} {s : TEnv} (I : Inv C ρ s) : ∀ a, C.P a → ¬ Own C.A a ∧ a < C.h.length :=
  fun a p => ⟨fun ⟨i, o, e, m⟩ => I.fr i o e a m p, I.le a p⟩
theorem Inv.lt {C : Cf} {ρ : Env} {s : TEnv} (I : Inv C ρ s) {a : Nat} (o : Own C.A a) : a < C.h.length := by
  obtain ⟨i, o, e, m⟩ := o
  obtain ⟨vs, q⟩ := (I.good i o e).lt o a m
  exact lt_of_get q
theorem Inv.refl {C : Cf} {ρ : Env} {s : TEnv} (I : Inv C ρ s) : Step C C :=
  ⟨Nat.le_refl _, fun _ _ _ => rfl, fun _ _ e => e, fun _ o => .inl o, fun _ p => p, fun _ p => .inl p, I.sep⟩
theorem Step.trans {C C' C'' : Cf} (S : Step C C') (S' : Step C' C'') : Step C C'' where
  len := Nat.le_trans S.len S'.len
  keep a l n := (S'.keep a (Nat.lt_of_lt_of_le l S.len) fun o => (S.own a o).elim n fun g => absurd l (by omega)).trans (S.keep a l n)
  tup a xs e := S'.tup a xs (S.tup a xs e)
  own a o := (S'.own a o).elim (S.own a) fun g => .inr (Nat.le_trans S.len g)
  mono a p := S'.mono a (S.mono a p)
  lim a p := by
    rcases S'.lim a p with p | o | g
    · exact S.lim a p
    · rcases S.own a o with o | g
      · exact .inr (.inl o)
      · exact .inr (.inr g)
    · exact .inr (.inr (Nat.le_trans S.len g))
  sep := S.sep
theorem Step.toKeep {C C' : Cf} (S : Step C C') : Keep C.P C.h C'.P C'.h := ⟨fun a p => ⟨S.mono a p, S.keep a (S.sep a p).2 (S.sep a p).1⟩, S.tup⟩
theorem Step.rep {C C' : Cf} (S : Step C C') {t : T} {v : MV} (r : Rep C.P C.h t v) : Rep C'.P C'.h t v := Rep.keep S.toKeep t v r
theorem Step.reps {C C' : Cf} (S : Step C C') {t : List T} {v : List MV} (r : Reps C.P C.h t v) : Reps C'.P C'.h t v := Reps.keep S.toKeep t v r

/-! ### values at hand -/
/-- addresses D at hand, since C0 -/
structure Free (C0 C : Cf) (D : List Nat) : Prop where
  nd : D.Nodup
  fr : ∀ a ∈ D, ¬ C.P a
  dj : ∀ a ∈ D, ¬ Own C.A a
  nw : ∀ a ∈ D, Own C0.A a ∨ C0.h.length ≤ a
  lt : ∀ a ∈ D, a < C.h.length
theorem Free.nil {C0 C : Cf} : Free C0 C [] := ⟨.nil, by simp, by simp, by simp, by simp⟩
theorem Free.step {C0 C C' : Cf} {D : List Nat} (F : Free C0 C D) (S : Step C C') : Free C0 C' D where
  nd := F.nd
  fr a m p := by
    rcases S.lim a p with p | o | g
    · exact F.fr a m p
    · exact F.dj a m o
    · exact absurd (F.lt a m) (by omega)
  dj a m o := by
    rcases S.own a o with o | g
    · exact F.dj a m o
    · exact absurd (F.lt a m) (by omega)
  nw := F.nw
  lt a m := Nat.lt_of_lt_of_le (F.lt a m) S.len
theorem Free.up {C0 C C' : Cf} {D : List Nat} (S : Step C0 C) (F : Free C C' D) : Free C0 C' D where
  nd := F.nd
  fr := F.fr
  dj := F.dj
  nw a m := (F.nw a m).elim (fun o => S.own a o) fun g => .inr (Nat.le_trans S.len g)
  lt := F.lt
theorem Free.append {C0 C C' : Cf} {D D' : List Nat} (F : Free C0 C D) (S0 : Step C0 C) (S : Step C C') (F' : Free C C' D') : Free C0 C' (D ++ D') where
  nd := List.nodup_append.mpr ⟨F.nd, F'.nd, fun a m b m' e => by
    subst e
    rcases F'.nw a m' with o | g
    · exact F.dj a m o
    · exact absurd (F.lt a m) (by omega)⟩
  fr a m := (List.mem_append.mp m).elim ((F.step S).fr a) (F'.fr a)
  dj a m := (List.mem_append.mp m).elim ((F.step S).dj a) (F'.dj a)
  nw a m := (List.mem_append.mp m).elim (F.nw a) ((F'.up S0).nw a)
  lt a m := (List.mem_append.mp m).elim ((F.step S).lt a) (F'.lt a)

/-! ### changes of a state -/
def put (A : AEnv) (i : Nat) (o : Option OA) : AEnv := fun j => if j = i then o else A j
@[simp] theorem put_self (A : AEnv) (i : Nat) (o : Option OA) : put A i o i = o := by simp [put]
theorem put_ne {A : AEnv} {i j : Nat} {o : Option OA} (n : j ≠ i) : put A i o j = A j := by simp [put, n]
theorem tget_lt {s : TEnv} {i : Nat} {o : OT} (e : tget s i = some o) : i < s.length := by
  unfold tget at e
  split at e
  · next q => exact (List.getElem?_eq_some_iff.mp q).1
  · cases e
theorem tget_set_self {s : TEnv} {i : Nat} {o : Option OT} (l : i < s.length) : tget (s.set i o) i = o := by
  unfold tget
  rw [List.getElem?_set_self l]
  cases o <;> rfl
theorem tget_set_ne {s : TEnv} {i j : Nat} {o : Option OT} (n : j ≠ i) : tget (s.set i o) j = tget s j := by
  unfold tget
  rw [List.getElem?_set_ne (fun e => n e.symm)]
/-- the content of place i is changed, the value stays the same; D: what is put in -/
theorem Inv.chg {C0 C : Cf} {ρ : Env} {s : TEnv} (I : Inv C ρ s) (S0 : Step C0 C) {i : Nat} {o o' : OA} {P' : Nat → Prop} {h' : MH} {D : List Nat} (F : Free C0 C D)
    (hi : C.A i = some o) (mono : ∀ a, C.P a → P' a) (hk : ∀ a, a < C.h.length → a ∉ o.ad → h'[a]? = C.h[a]?) (hl : C.h.length ≤ h'.length) (htup : ∀ (a : Nat) (xs : List MV), C.h[a]? = some (.tup xs) → h'[a]? = some (.tup xs))
    (g : Good P' h' o') (nd : o'.ad.Nodup) (sub : ∀ a ∈ o'.ad, a ∈ o.ad ∨ a ∈ D) (frs : ∀ a ∈ o'.ad, ¬ P' a) (lim : ∀ a, P' a → C.P a ∨ a ∈ o.ad) (hmv : o'.mv = o.mv) :
    Inv ⟨P', put C.A i (some o'), h'⟩ ρ (s.set i (some o'.er)) ∧ Step C0 ⟨P', put C.A i (some o'), h'⟩ := by
  have hlt : i < s.length := by
    have := I.er i
    rw [hi] at this
    exact tget_lt this
  have olt : ∀ a ∈ o.ad, a < C.h.length := fun a m => I.lt ⟨i, o, hi, m⟩
  have oP : ∀ a ∈ o.ad, ¬ C.P a := I.fr i o hi
  have keepP : ∀ a, C.P a → h'[a]? = C.h[a]? := fun a p => hk a (I.le a p) fun m => oP a m p
  have K : Keep C.P C.h P' h' := ⟨fun a p => ⟨mono a p, keepP a p⟩, htup⟩
  have oth : ∀ j x, j ≠ i → C.A j = some x → ∀ a ∈ x.ad, h'[a]? = C.h[a]? := fun j x n e a m => hk a (I.lt ⟨j, x, e, m⟩) fun m' => I.dj j i x o e hi n a m m'
  refine ⟨⟨?_, ?_, ?_, ?_, ?_, ?_, ?_, ?_⟩, ⟨?_, ?_, ?_, ?_, ?_, ?_, ?_⟩⟩
  · intro j
    by_cases e : j = i
    · subst e; rw [tget_set_self hlt]; simp
    · rw [tget_set_ne e, I.er j]; simp [put_ne e]
  · intro j x e
    by_cases n : j = i
    · subst n; simp at e; subst e; rw [hmv]; exact I.mv j o hi
    · simp [put_ne n] at e; exact I.mv j x e
  · intro j x e
    by_cases n : j = i
    · subst n; simp at e; subst e; exact g
    · simp [put_ne n] at e; exact Good.keep K x (oth j x n e) (I.good j x e)
  · intro j x e
    by_cases n : j = i
    · subst n; simp at e; subst e; exact nd
    · simp [put_ne n] at e; exact I.nd j x e
  · intro j k x y ex ey n a m m'
    by_cases nj : j = i
    · subst nj
      simp at ex; subst ex
      simp [put_ne (Ne.symm n)] at ey
      rcases sub a m with q | q
      · exact I.dj j k o y hi ey n a q m'
      · exact F.dj a q ⟨k, y, ey, m'⟩
    · simp [put_ne nj] at ex
      by_cases nk : k = i
      · subst nk
        simp at ey; subst ey
        rcases sub a m' with q | q
        · exact I.dj k j o x hi ex (Ne.symm n) a q m
        · exact F.dj a q ⟨j, x, ex, m⟩
      · simp [put_ne nk] at ey
        exact I.dj j k x y ex ey n a m m'
  · intro j x e a m p
    by_cases n : j = i
    · subst n; simp at e; subst e; exact frs a m p
    · simp [put_ne n] at e
      rcases lim a p with p | q
      · exact I.fr j x e a m p
      · exact I.dj j i x o e hi n a m q
  · intro a p
    rcases lim a p with p | q
    · exact Nat.lt_of_lt_of_le (I.le a p) hl
    · exact Nat.lt_of_lt_of_le (olt a q) hl
  · simpa using I.len
  · exact Nat.le_trans S0.len hl
  · intro a l n
    have n' : ¬ Own C.A a := fun q => (S0.own a q).elim n fun g => absurd l (by omega)
    have l' : a < C.h.length := Nat.lt_of_lt_of_le l S0.len
    exact (hk a l' fun m => n' ⟨i, o, hi, m⟩).trans (S0.keep a l n)
  · exact fun a xs e => htup a xs (S0.tup a xs e)
  · rintro a ⟨j, x, e, m⟩
    by_cases n : j = i
    · subst n
      simp at e; subst e
      rcases sub a m with q | q
      · exact S0.own a ⟨j, o, hi, q⟩
      · exact F.nw a q
    · simp [put_ne n] at e
      exact S0.own a ⟨j, x, e, m⟩
  · exact fun a p => mono a (S0.mono a p)
  · intro a p
    rcases lim a p with p | q
    · exact S0.lim a p
    · exact .inr (S0.own a ⟨i, o, hi, q⟩)
  · exact S0.sep
/-- a place is given another value -/
theorem Inv.setv {C0 C : Cf} {ρ : Env} {s : TEnv} (I : Inv C ρ s) (S0 : Step C0 C) {i : Nat} {o' : OA} (F : Free C0 C o'.ad) (g : Good C.P C.h o') (hlt : i < s.length) :
    Inv ⟨C.P, put C.A i (some o'), C.h⟩ (ρ.set i (some o'.mv)) (s.set i (some o'.er)) ∧ Step C0 ⟨C.P, put C.A i (some o'), C.h⟩ := by
  refine ⟨⟨?_, ?_, ?_, ?_, ?_, ?_, I.le, by simpa using I.len⟩, ⟨S0.len, S0.keep, S0.tup, ?_, S0.mono, S0.lim, S0.sep⟩⟩
  · intro j
    by_cases e : j = i
    · subst e; rw [tget_set_self hlt]; simp
    · rw [tget_set_ne e, I.er j]; simp [put_ne e]
  · intro j x e
    by_cases n : j = i
    · subst n; simp at e; subst e; rw [List.getElem?_set_self (by rw [I.len]; exact hlt)]
    · simp [put_ne n] at e; rw [List.getElem?_set_ne (Ne.symm n)]; exact I.mv j x e
  · intro j x e
    by_cases n : j = i
    · subst n; simp at e; subst e; exact g
    · simp [put_ne n] at e; exact I.good j x e
  · intro j x e
    by_cases n : j = i
    · subst n; simp at e; subst e; exact F.nd
    · simp [put_ne n] at e; exact I.nd j x e
  · intro j k x y ex ey n a m m'
    by_cases nj : j = i
    · subst nj
      simp at ex; subst ex
      simp [put_ne (Ne.symm n)] at ey
      exact F.dj a m ⟨k, y, ey, m'⟩
    · simp [put_ne nj] at ex
      by_cases nk : k = i
      · subst nk
        simp at ey; subst ey
        exact F.dj a m' ⟨j, x, ex, m⟩
      · simp [put_ne nk] at ey
        exact I.dj j k x y ex ey n a m m'
  · intro j x e a m p
    by_cases n : j = i
    · subst n; simp at e; subst e; exact F.fr a m p
    · simp [put_ne n] at e; exact I.fr j x e a m p
  · rintro a ⟨j, x, e, m⟩
    by_cases n : j = i
    · subst n; simp at e; subst e; exact F.nw a m
    · simp [put_ne n] at e; exact S0.own a ⟨j, x, e, m⟩
/-- a place is forgotten -/
theorem Inv.drop {C : Cf} {ρ : Env} {s : TEnv} (I : Inv C ρ s) (i : Nat) :
    Inv ⟨C.P, put C.A i none, C.h⟩ ρ (s.set i none) ∧ Step C ⟨C.P, put C.A i none, C.h⟩ := by
  have sb : ∀ j x, put C.A i none j = some x → C.A j = some x ∧ j ≠ i := by
    intro j x e
    by_cases n : j = i
    · subst n; simp at e
    · simp [put_ne n] at e; exact ⟨e, n⟩
  refine ⟨⟨?_, fun j x e => I.mv j x (sb j x e).1, fun j x e => I.good j x (sb j x e).1, fun j x e => I.nd j x (sb j x e).1, fun j k x y e e' => I.dj j k x y (sb j x e).1 (sb k y e').1, fun j x e => I.fr j x (sb j x e).1, I.le, by simpa using I.len⟩,
    ⟨Nat.le_refl _, fun _ _ _ => rfl, fun _ _ e => e, ?_, fun _ p => p, fun _ p => .inl p, I.sep⟩⟩
  · intro j
    by_cases e : j = i
    · subst e
      simp
      by_cases l : j < s.length
      · rw [tget_set_self l]
      · unfold tget; rw [List.getElem?_eq_none (by simpa using l)]
    · rw [tget_set_ne e, I.er j]; simp [put_ne e]
  · rintro a ⟨j, x, e, m⟩
    exact .inl ⟨j, x, (sb j x e).1, m⟩
theorem getElem?_snoc {h : MH} {o : Obj} {a : Nat} {x : Obj} (e : h[a]? = some x) : (h ++ [o])[a]? = some x := by
  rw [List.getElem?_append_left (lt_of_get e)]; exact e
/-- a new object -/
theorem Inv.alloc {C : Cf} {ρ : Env} {s : TEnv} (I : Inv C ρ s) (o : Obj) : Inv ⟨C.P, C.A, C.h ++ [o]⟩ ρ s ∧ Step C ⟨C.P, C.A, C.h ++ [o]⟩ := by
  have hk : ∀ a, a < C.h.length → (C.h ++ [o])[a]? = C.h[a]? := fun a l => List.getElem?_append_left l
  have K : Keep C.P C.h C.P (C.h ++ [o]) := ⟨fun a p => ⟨p, hk a (I.le a p)⟩, fun a xs e => getElem?_snoc e⟩
  refine ⟨⟨I.er, I.mv, fun j x e => Good.keep K x (fun a m => hk a (I.lt ⟨j, x, e, m⟩)) (I.good j x e), I.nd, I.dj, I.fr, fun a p => by have := I.le a p; simp; omega, I.len⟩,
    ⟨by simp, fun a l _ => hk a l, K.tup, fun _ o => .inl o, fun _ p => p, fun _ p => .inl p, I.sep⟩⟩
/-- what is at hand is frozen -/
theorem Inv.ice {C0 C : Cf} {ρ : Env} {s : TEnv} (I : Inv C ρ s) (S0 : Step C0 C) {D : List Nat} (F : Free C0 C D) :
    Inv ⟨fun a => C.P a ∨ a ∈ D, C.A, C.h⟩ ρ s ∧ Step C0 ⟨fun a => C.P a ∨ a ∈ D, C.A, C.h⟩ := by
  refine ⟨⟨I.er, I.mv, fun j x e => Good.keep ⟨fun a p => ⟨.inl p, rfl⟩, fun _ _ e => e⟩ x (fun _ _ => rfl) (I.good j x e), I.nd, I.dj, ?_, ?_, I.len⟩,
    ⟨S0.len, S0.keep, S0.tup, S0.own, fun a p => .inl (S0.mono a p), ?_, S0.sep⟩⟩
  · rintro j x e a m (p | q)
    · exact I.fr j x e a m p
    · exact F.dj a q ⟨j, x, e, m⟩
  · rintro a (p | q)
    · exact I.le a p
    · exact F.lt a q
  · rintro a (p | q)
    · exact S0.lim a p
    · exact .inr (F.nw a q)
/-- place i is frozen -/
theorem Inv.fz {C : Cf} {ρ : Env} {s : TEnv} (I : Inv C ρ s) {i : Nat} {o : OA} (hi : C.A i = some o) :
    let C' : Cf := ⟨fun a => C.P a ∨ a ∈ o.ad, put C.A i (some (.sh o.mv o.er.tree)), C.h⟩
    Inv C' ρ (s.set i (some (.sh o.er.tree))) ∧ Step C C' ∧ Rep C'.P C'.h o.er.tree o.mv := by
  have r : Rep (fun a => C.P a ∨ a ∈ o.ad) C.h o.er.tree o.mv := Good.rep (fun a p => .inl p) o (fun a m => .inr m) (I.good i o hi)
  have q := I.chg I.refl (D := []) (o' := .sh o.mv o.er.tree) (P' := fun a => C.P a ∨ a ∈ o.ad) (h' := C.h) Free.nil hi (fun a p => .inl p) (fun _ _ _ => rfl) (Nat.le_refl _) (fun _ _ e => e) (by rw [Good]; exact r) (by simp [OA.ad]) (by simp [OA.ad]) (by simp [OA.ad]) (fun a p => p) rfl
  exact ⟨q.1, q.2, r⟩

/-! ### judgements -/
def VD (ρ : Env) (C : Cf) (w : TW) (v : MV) (D : List Nat) : Prop := match w with
  | .al i => ρ[i]? = some (some v) ∧ D = []
  | .ot o => ∃ oa : OA, oa.er = o ∧ oa.mv = v ∧ Good C.P C.h oa ∧ oa.ad = D
def VW (ρ : Env) (C0 C : Cf) (w : TW) (v : MV) : Prop := ∃ D, VD ρ C w v D ∧ Free C0 C D
def VDs (ρ : Env) (C : Cf) : List TW → List MV → List Nat → Prop
  | [], vs, D => vs = [] ∧ D = []
  | w :: ws, vs, D => ∃ v r D1 D2, vs = v :: r ∧ D = D1 ++ D2 ∧ VD ρ C w v D1 ∧ VDs ρ C ws r D2
def VWs (ρ : Env) (C0 C : Cf) (ws : List TW) (vs : List MV) : Prop := ∃ D, VDs ρ C ws vs D ∧ Free C0 C D
def LR {α β : Type} (C0 : Cf) (ρ : Env) (Q : Cf → α → β → Prop) (x : TR α) (y : Res β) : Prop := match x with
  | .ok a s' => ∃ b C', y = .ok b C'.h ∧ Inv C' ρ s' ∧ Step C0 C' ∧ Q C' a b
  | .exc c s' => ∃ C', y = .exc c C'.h ∧ Inv C' ρ s' ∧ Step C0 C'
  | .stuck => True
theorem LR.bind {α β γ δ : Type} {C0 : Cf} {ρ : Env} {Q : Cf → α → β → Prop} {Q' : Cf → γ → δ → Prop} {x : TR α} {y : Res β} {f : α → TEnv → TR γ} {g : β → MH → Res δ}
    (H : LR C0 ρ Q x y) (K : ∀ a b s' C', Inv C' ρ s' → Step C0 C' → Q C' a b → LR C0 ρ Q' (f a s') (g b C'.h)) : LR C0 ρ Q' (x.bind f) (y.bind g) := by
  cases x with
  | ok a s' =>
    obtain ⟨b, C', e, I, S, q⟩ := H
    subst e
    exact K a b s' C' I S q
  | exc c s' =>
    obtain ⟨C', e, I, S⟩ := H
    subst e
    exact ⟨C', rfl, I, S⟩
  | stuck => exact True.intro
theorem LR.up {α β : Type} {C0 C : Cf} {ρ : Env} {Q Q' : Cf → α → β → Prop} {x : TR α} {y : Res β} (S : Step C0 C) (H : LR C ρ Q x y) (hq : ∀ C' a b, Step C C' → Q C' a b → Q' C' a b) : LR C0 ρ Q' x y := by
  cases x with
  | ok a s' =>
    obtain ⟨b, C', e, I, S', q⟩ := H
    exact ⟨b, C', e, I, S.trans S', hq C' a b S' q⟩
  | exc c s' =>
    obtain ⟨C', e, I, S'⟩ := H
    exact ⟨C', e, I, S.trans S'⟩
  | stuck => exact True.intro
theorem LR.ok {α β : Type} {C0 C : Cf} {ρ : Env} {s : TEnv} {Q : Cf → α → β → Prop} {a : α} {b : β} (I : Inv C ρ s) (S : Step C0 C) (q : Q C a b) : LR C0 ρ Q (.ok a s) (.ok b C.h) := ⟨b, C, rfl, I, S, q⟩
theorem LR.stuck {α β : Type} {C0 : Cf} {ρ : Env} {Q : Cf → α → β → Prop} {y : Res β} : LR C0 ρ Q (.stuck : TR α) y := True.intro
def LE (m : E) (t : TE) : Prop := ∀ C ρ s, Inv C ρ s → LR C ρ (VW ρ C) (t s) (m ρ C.h)
def LA (m : EA) (t : TA) : Prop := ∀ C ρ s, Inv C ρ s → LR C ρ (VWs ρ C) (t s) (m ρ C.h)
theorem VD.step {ρ : Env} {C0 C C' : Cf} {w : TW} {v : MV} {D : List Nat} (V : VD ρ C w v D) (F : Free C0 C D) (S : Step C C') : VD ρ C' w v D := by
  cases w with
  | al i => exact V
  | ot o =>
    obtain ⟨oa, e, m, g, d⟩ := V
    subst d
    exact ⟨oa, e, m, Good.keep S.toKeep oa (fun a q => S.keep a (F.lt a q) (F.dj a q)) g, rfl⟩
theorem Free.left {C0 C : Cf} {D E : List Nat} (F : Free C0 C (D ++ E)) : Free C0 C D :=
  ⟨(List.nodup_append.mp F.nd).1, fun a m => F.fr a (by simp [m]), fun a m => F.dj a (by simp [m]), fun a m => F.nw a (by simp [m]), fun a m => F.lt a (by simp [m])⟩
theorem Free.right {C0 C : Cf} {D E : List Nat} (F : Free C0 C (D ++ E)) : Free C0 C E :=
  ⟨(List.nodup_append.mp F.nd).2.1, fun a m => F.fr a (by simp [m]), fun a m => F.dj a (by simp [m]), fun a m => F.nw a (by simp [m]), fun a m => F.lt a (by simp [m])⟩
theorem VDs.step {ρ : Env} {C0 C C' : Cf} : ∀ {ws : List TW} {vs : List MV} {D : List Nat}, VDs ρ C ws vs D → Free C0 C D → Step C C' → VDs ρ C' ws vs D
  | [], vs, D, V, F, S => V
  | w :: ws, vs, D, V, F, S => by
    obtain ⟨v, r, D1, D2, e1, e2, V1, V2⟩ := V
    subst e2
    exact ⟨v, r, D1, D2, e1, rfl, V1.step F.left S, VDs.step V2 F.right S⟩
theorem VW.sh {ρ : Env} {C0 C : Cf} {t : T} {v : MV} (r : Rep C.P C.h t v) : VW ρ C0 C (.ot (.sh t)) v :=
  ⟨[], ⟨.sh v t, rfl, rfl, by rw [Good]; exact r, rfl⟩, .nil⟩
/-- two values, one behind the other -/
theorem LE.two {γ δ : Type} {a b : E} {ta tb : TE} (ha : LE a ta) (hb : LE b tb) {C : Cf} {ρ : Env} {s : TEnv} (I : Inv C ρ s) {Q : Cf → γ → δ → Prop}
    {f : TW → TW → TEnv → TR γ} {g : MV → MV → MH → Res δ}
    (K : ∀ w v s' x y C' D1 D2, Inv C' ρ s' → Step C C' → VD ρ C' w x D1 → VD ρ C' v y D2 → Free C C' (D1 ++ D2) → LR C ρ Q (f w v s') (g x y C'.h)) :
    LR C ρ Q ((ta s).bind fun w s1 => (tb s1).bind fun v s2 => f w v s2) ((a ρ C.h).bind fun x h1 => (b ρ h1).bind fun y h2 => g x y h2) := by
  refine (ha C ρ s I).bind ?_
  rintro w x s1 C1 I1 S1 ⟨D1, V1, F1⟩
  refine (LR.up S1 (hb C1 ρ s1 I1) (Q' := fun C' a b => Step C1 C' ∧ VW ρ C1 C' a b) fun C' a b S q => ⟨S, q⟩).bind ?_
  rintro v y s2 C2 I2 S2 ⟨S12, D2, V2, F2⟩
  exact K w v s2 x y C2 D1 D2 I2 S2 (V1.step F1 S12) V2 (F1.append S1 S12 F2)
/-- what is read -/
theorem rd_rep {ρ : Env} {C : Cf} {s : TEnv} (I : Inv C ρ s) {w : TW} {v : MV} {D : List Nat} {t : T} (V : VD ρ C w v D) (e : rd s w = some t) : Rep (fun _ => True) C.h t v := by
  cases w with
  | al i =>
    rw [rd_al, I.er i] at e
    cases q : C.A i with
    | none => rw [q] at e; cases e
    | some o =>
      rw [q] at e
      simp only [Option.map_some, Option.some.injEq] at e
      have m := I.mv i o q
      rw [V.1] at m
      simp only [Option.some.injEq] at m
      rw [← e, m]
      exact Good.rep (fun _ _ => True.intro) o (fun _ _ => True.intro) (I.good i o q)
  | ot o =>
    obtain ⟨oa, e1, m, g, d⟩ := V
    simp only [rd_ot, Option.some.injEq] at e
    rw [← e, ← e1, ← m]
    exact Good.rep (fun _ _ => True.intro) oa (fun _ _ => True.intro) g
def Leaf (t : T) (v : MV) : Prop := ∀ P h, Rep P h t v
theorem leaf_bl (b : Bool) : Leaf (.bl b) (.bl b) := fun _ _ => by simp [Rep]
theorem leaf_int (i : Int) : Leaf (.int i) (.int i) := fun _ _ => by simp [Rep]
theorem leaf_str (i : List Nat) : Leaf (.str i) (.str i) := fun _ _ => by simp [Rep]
theorem leaf_non : Leaf .non .non := fun _ _ => by simp [Rep]
/-- operators that tell a number, a text, a truth -/
def Lf1 (f : MV → MH → Res MV) (g : Op1T) : Prop := ∀ h t v o, Rep (fun _ => True) h t v → g t = some o → ∃ u r, o = .sh u ∧ Leaf u r ∧ f v h = .ok r h
def Lf2 (f : Op2) (g : Op2T) : Prop := ∀ h t u v w o, Rep (fun _ => True) h t v → Rep (fun _ => True) h u w → g t u = some o → ∃ x r, o = .sh x ∧ Leaf x r ∧ f v w h = .ok r h
theorem le_t1 {f : MV → MH → Res MV} {g : Op1T} {a : E} {ta : TE} (hf : Lf1 f g) (ha : LE a ta) : LE (e1 f a) (t1 g ta) := by
  intro C ρ s I
  refine (ha C ρ s I).bind ?_
  rintro w x s1 C1 I1 S1 ⟨D1, V1, F1⟩
  cases e : rd s1 w with
  | none => exact .stuck
  | some t =>
    dsimp only
    cases e2 : g t with
    | none => exact .stuck
    | some o =>
      obtain ⟨u, r, rfl, lf, er⟩ := hf _ _ _ _ (rd_rep I1 V1 e) e2
      rw [er]
      exact .ok I1 S1 (.sh (lf _ _))
theorem le_t2 {f : Op2} {g : Op2T} {a b : E} {ta tb : TE} (hf : Lf2 f g) (ha : LE a ta) (hb : LE b tb) : LE (e2 f a b) (t2 g ta tb) := by
  intro C ρ s I
  refine LE.two ha hb I ?_
  intro w v s' x y C' D1 D2 I' S' V1 V2 F
  cases e : rd s' w with
  | none => exact .stuck
  | some t =>
    cases e' : rd s' v with
    | none => exact .stuck
    | some u =>
      dsimp only
      cases e2 : g t u with
      | none => exact .stuck
      | some o =>
        obtain ⟨u, r, rfl, lf, er⟩ := hf _ _ _ _ _ _ (rd_rep I' V1 e) (rd_rep I' V2 e') e2
        rw [er]
        exact .ok I' S' (.sh (lf _ _))
theorem le_var (i : Nat) : LE (eVar i) (tVar i) := by
  intro C ρ s I
  unfold tVar eVar
  have q := I.er i
  cases e : C.A i with
  | none =>
    rw [e] at q
    rw [q]
    exact .stuck
  | some o =>
    rw [e] at q
    rw [q]
    have m := I.mv i o e
    rw [m]
    cases o with
    | sh v t => exact .ok I I.refl (.sh (by have g := I.good i _ e; rw [Good] at g; exact g))
    | lst a xs => exact .ok I I.refl ⟨[], ⟨m, rfl⟩, .nil⟩
    | tup a xs => exact .ok I I.refl ⟨[], ⟨m, rfl⟩, .nil⟩
    | dct a ep ts ks xs => exact .ok I I.refl ⟨[], ⟨m, rfl⟩, .nil⟩
theorem le_c {v : MV} {t : T} (l : Leaf t v) : LE (eC v) (tC t) := fun C ρ s I => .ok I I.refl (.sh (l _ _))

/-! ### operators -/
theorem lf2_int {f : Op2} {g : Op2T} (hg : ∀ t u o, g t u = some o → ∃ i j x r, t = .int i ∧ u = .int j ∧ o = .sh x ∧ Leaf x r ∧ ∀ h, f (.int i) (.int j) h = .ok r h) : Lf2 f g := by
  intro h t u v w o r1 r2 e
  obtain ⟨i, j, x, r, rfl, rfl, rfl, l, q⟩ := hg t u o e
  simp only [Rep] at r1 r2
  subst r1; subst r2
  exact ⟨x, r, rfl, l, q h⟩
theorem lf_augAdd : Lf2 augAdd gAugAdd := lf2_int fun t u o e => by
  cases t <;> cases u <;> simp [gAugAdd] at e
  exact ⟨_, _, _, _, rfl, rfl, e.symm, leaf_int _, fun h => rfl⟩
theorem lf_sub : Lf2 opSub gSub := lf2_int fun t u o e => by
  cases t <;> cases u <;> simp [gSub] at e
  exact ⟨_, _, _, _, rfl, rfl, e.symm, leaf_int _, fun h => rfl⟩
theorem lf_div : Lf2 opDiv gDiv := lf2_int fun t u o e => by
  cases t <;> cases u <;> simp [gDiv] at e
  exact ⟨_, _, _, _, rfl, rfl, e.2.symm, leaf_int _, fun h => by simp [opDiv, e.1.1, e.1.2]⟩
theorem lf_mod : Lf2 opMod gMod := lf2_int fun t u o e => by
  cases t <;> cases u <;> simp [gMod] at e
  exact ⟨_, _, _, _, rfl, rfl, e.2.symm, leaf_int _, fun h => by simp [opMod, e.1]⟩
theorem near_iff {i : Int} (h : near i = true) : i.natAbs < 2305843009213693952 := of_decide_eq_true h
theorem near_small {i : Int} (h : near i = true) : small i = true := by
  have := near_iff h
  unfold small
  simp only [Bool.and_eq_true, decide_eq_true_eq]
  omega
theorem near_pop {i : Int} (h : near i = true) : -(2 ^ 63) ≤ i ∧ i < 2 ^ 63 := by
  have := near_iff h
  omega
theorem powOk_of {i j : Int} (h : powOkT i j = true) : powOk i j = true := by
  unfold powOkT at h
  unfold powOk
  simp only [Bool.and_eq_true, decide_eq_true_eq] at h ⊢
  have := near_iff h.2
  omega
theorem lf_pow : Lf2 opPow gPow := lf2_int fun t u o e => by
  cases t <;> cases u <;> simp [gPow] at e
  exact ⟨_, _, _, _, rfl, rfl, e.2.symm, leaf_int _, fun h => by simp [opPow, powOk_of e.1]⟩
theorem lf_shl : Lf2 opShl gShl := lf2_int fun t u o e => by
  cases t <;> cases u <;> simp [gShl] at e
  exact ⟨_, _, _, _, rfl, rfl, e.2.symm, leaf_int _, fun h => by simp [opShl, powOk_of e.1]⟩
theorem lf_shr : Lf2 opShr gShr := lf2_int fun t u o e => by
  cases t <;> cases u <;> simp [gShr] at e
  exact ⟨_, _, _, _, rfl, rfl, e.2.symm, leaf_int _, fun h => by simp [opShr, e.1]⟩
theorem lf_and : Lf2 opAnd gAnd := lf2_int fun t u o e => by
  cases t <;> cases u <;> simp [gAnd] at e
  exact ⟨_, _, _, _, rfl, rfl, e.2.symm, leaf_int _, fun h => by simp [opAnd, e.1.1, e.1.2]⟩
theorem lf_or : Lf2 opOr gOr := lf2_int fun t u o e => by
  cases t <;> cases u <;> simp [gOr] at e
  exact ⟨_, _, _, _, rfl, rfl, e.2.symm, leaf_int _, fun h => by simp [opOr, e.1.1, e.1.2]⟩
theorem lf_lt : Lf2 opLt gLt := lf2_int fun t u o e => by
  cases t <;> cases u <;> simp [gLt] at e
  exact ⟨_, _, _, _, rfl, rfl, e.symm, leaf_bl _, fun h => rfl⟩
theorem lf_le : Lf2 opLe gLe := lf2_int fun t u o e => by
  cases t <;> cases u <;> simp [gLe] at e
  exact ⟨_, _, _, _, rfl, rfl, e.symm, leaf_bl _, fun h => rfl⟩
theorem lf_gt : Lf2 opGt gGt := lf2_int fun t u o e => by
  cases t <;> cases u <;> simp [gGt] at e
  exact ⟨_, _, _, _, rfl, rfl, e.symm, leaf_bl _, fun h => rfl⟩
theorem lf_ge : Lf2 opGe gGe := lf2_int fun t u o e => by
  cases t <;> cases u <;> simp [gGe] at e
  exact ⟨_, _, _, _, rfl, rfl, e.symm, leaf_bl _, fun h => rfl⟩
theorem lf_max : Lf2 (fun x y h => fMax [x, y] h) gMax := lf2_int fun t u o e => by
  cases t <;> cases u <;> simp [gMax] at e
  exact ⟨_, _, _, _, rfl, rfl, e.symm, leaf_int _, fun h => rfl⟩
theorem lf_min : Lf2 (fun x y h => fMin [x, y] h) gMin := lf2_int fun t u o e => by
  cases t <;> cases u <;> simp [gMin] at e
  exact ⟨_, _, _, _, rfl, rfl, e.symm, leaf_int _, fun h => rfl⟩
mutual
theorem toT_rep {P : Nat → Prop} {h : MH} : ∀ (n : Nat) (t : T) (v : MV), T.fitN n t = true → Rep P h t v → toT n h v = some t
  | n, .non, v, f, r => by simp only [Rep] at r; subst r; simp [toT]
  | n, .bl b, v, f, r => by simp only [Rep] at r; subst r; simp [toT]
  | n, .int i, v, f, r => by simp only [Rep] at r; subst r; simp [toT]
  | n, .str s, v, f, r => by
    simp only [Rep] at r; subst r
    cases n <;> simp [toT]
  | n, .scr xs, v, f, r => by cases n <;> simp [T.fitN] at f
  | 0, .lst ts, v, f, r => by simp [T.fitN] at f
  | n + 1, .lst ts, v, f, r => by
    rw [Rep] at r
    obtain ⟨a, vs, rfl, p, g, r⟩ := r
    rw [T.fitN] at f
    simp [toT, g, toTs_rep n ts vs f r]
  | 0, .tup ts, v, f, r => by simp [T.fitN] at f
  | n + 1, .tup ts, v, f, r => by
    rw [Rep] at r
    obtain ⟨a, vs, rfl, g, r⟩ := r
    rw [T.fitN] at f
    simp [toT, g, toTs_rep n ts vs f r]
theorem toTs_rep {P : Nat → Prop} {h : MH} : ∀ (n : Nat) (ts : List T) (vs : List MV), T.fitNs n ts = true → Reps P h ts vs → toTs n h vs = some ts
  | n, [], vs, f, r => by simp only [Reps] at r; subst r; simp [toTs]
  | n, t :: ts, vs, f, r => by
    rw [Reps] at r
    obtain ⟨v, r', rfl, q1, q2⟩ := r
    simp only [T.fitNs, Bool.and_eq_true] at f
    rw [toTs, toT_rep n t v f.1 q1, toTs_rep n ts r' f.2 q2]
end
theorem lf_eq : Lf2 opEq gEq := by
  intro h t u v w o r1 r2 e
  unfold gEq at e
  split at e
  · next c =>
    simp only [Bool.and_eq_true] at c
    simp only [Option.some.injEq] at e
    refine ⟨_, _, e.symm, leaf_bl _, ?_⟩
    unfold opEq eqT
    rw [toT_rep deep t v c.1 r1, toT_rep deep u w c.2 r2]
  · cases e
theorem lf_ne : Lf2 opNe gNe := by
  intro h t u v w o r1 r2 e
  unfold gNe at e
  split at e
  · next c =>
    simp only [Bool.and_eq_true] at c
    simp only [Option.some.injEq] at e
    refine ⟨_, _, e.symm, leaf_bl _, ?_⟩
    unfold opNe eqT
    rw [toT_rep deep t v c.1 r1, toT_rep deep u w c.2 r2]
  · cases e
theorem inQ_rep {P : Nat → Prop} {h : MH} {t u : T} {v w : MV} {b : Bool} (r1 : Rep P h t v) (r2 : Rep P h u w) (e : inT t u = some b) : inQ v w h = some b := by
  unfold inT at e
  split at e
  · next s =>
    simp only [Rep] at r2
    subst r2
    split at e
    · next c =>
      simp only [Rep] at r1
      subst r1
      simpa [inQ] using e
    · cases e
  · next ts =>
    split at e
    · next c =>
      simp only [Bool.and_eq_true] at c
      simp only [Option.some.injEq] at e
      have q2 := toT_rep deep _ w c.2 r2
      have q1 := toT_rep deep _ v c.1 r1
      rw [Rep] at r2
      obtain ⟨a, vs, rfl, _, g, _⟩ := r2
      unfold inQ
      simp only [q1, q2]
      rw [e]
    · cases e
  · cases e
theorem lf_in : Lf2 opIn gIn := by
  intro h t u v w o r1 r2 e
  unfold gIn at e
  cases q : inT t u with
  | none => rw [q] at e; cases e
  | some b =>
    rw [q] at e
    simp only [Option.map_some, Option.some.injEq] at e
    refine ⟨_, _, e.symm, leaf_bl _, ?_⟩
    unfold opIn
    rw [inQ_rep r1 r2 q]
theorem lf_nin : Lf2 opNotIn gNotIn := by
  intro h t u v w o r1 r2 e
  unfold gNotIn at e
  cases q : inT t u with
  | none => rw [q] at e; cases e
  | some b =>
    rw [q] at e
    simp only [Option.map_some, Option.some.injEq] at e
    refine ⟨_, _, e.symm, leaf_bl _, ?_⟩
    unfold opNotIn
    rw [inQ_rep r1 r2 q]
theorem reps_len {P : Nat → Prop} {h : MH} : ∀ {ts : List T} {vs : List MV}, Reps P h ts vs → vs.length = ts.length
  | [], vs, r => by simp only [Reps] at r; subst r; rfl
  | t :: ts, vs, r => by
    rw [Reps] at r
    obtain ⟨v, r', rfl, _, q⟩ := r
    simp [reps_len q]
theorem lf_len : Lf1 (fun v h => fLen [v] h) gLen := by
  intro h t v o r e
  cases t with
  | str s =>
    simp only [Rep] at r; subst r
    simp only [gLen] at e
    exact ⟨_, _, (Option.some.inj e).symm, leaf_int _, by simp [fLen]⟩
  | lst ts =>
    rw [Rep] at r
    obtain ⟨a, vs, rfl, _, g, r⟩ := r
    refine ⟨_, _, (Option.some.inj e).symm, leaf_int _, ?_⟩
    simp [fLen, items, g, reps_len r]
  | tup ts =>
    rw [Rep] at r
    obtain ⟨a, vs, rfl, g, r⟩ := r
    refine ⟨_, _, (Option.some.inj e).symm, leaf_int _, ?_⟩
    simp [fLen, items, g, reps_len r]
  | scr xs =>
    simp only [Rep] at r; subst r
    exact ⟨_, _, (Option.some.inj e).symm, leaf_int _, by simp [fLen, items]⟩
  | dct _ _ => cases e
  | non => cases e
  | bl _ => cases e
  | int _ => cases e
theorem asBls_rep {P : Nat → Prop} {h : MH} : ∀ {ts : List T} {vs : List MV} {bs : List Bool}, Reps P h ts vs → asBlsT ts = some bs → asBls vs = some bs
  | [], vs, bs, r, e => by simp only [Reps] at r; subst r; simpa [asBls, asBlsT] using e
  | t :: ts, vs, bs, r, e => by
    rw [Reps] at r
    obtain ⟨v, r', rfl, q1, q2⟩ := r
    cases t <;> simp only [asBlsT] at e <;> try (simp at e; done)
    simp only [Rep] at q1
    subst q1
    cases q : asBlsT ts with
    | none => rw [q] at e; cases e
    | some cs => rw [q] at e; simp only [asBls, asBls_rep q2 q]; exact e
theorem asInts_rep {P : Nat → Prop} {h : MH} : ∀ {ts : List T} {vs : List MV} {bs : List Int}, Reps P h ts vs → asIntsT ts = some bs → asInts vs = some bs
  | [], vs, bs, r, e => by simp only [Reps] at r; subst r; simpa [asInts, asIntsT] using e
  | t :: ts, vs, bs, r, e => by
    rw [Reps] at r
    obtain ⟨v, r', rfl, q1, q2⟩ := r
    cases t <;> simp only [asIntsT] at e <;> try (simp at e; done)
    simp only [Rep] at q1
    subst q1
    cases q : asIntsT ts with
    | none => rw [q] at e; cases e
    | some cs => rw [q] at e; simp only [asInts, asInts_rep q2 q]; exact e
theorem lf_all : Lf1 (fun v h => fAll [v] h) gAll := by
  intro h t v o r e
  cases t <;> simp only [gAll] at e <;> try (simp at e; done)
  next ts =>
    rw [Rep] at r
    obtain ⟨a, vs, rfl, _, g, r⟩ := r
    cases q : asBlsT ts with
    | none => rw [q] at e; cases e
    | some cs =>
      rw [q] at e
      exact ⟨_, _, (Option.some.inj e).symm, leaf_bl _, by simp [fAll, isL, g, asBls_rep r q]⟩
theorem lf_sum : Lf1 (fun v h => fSum [v] h) gSum := by
  intro h t v o r e
  cases t <;> simp only [gSum] at e <;> try (simp at e; done)
  next ts =>
    rw [Rep] at r
    obtain ⟨a, vs, rfl, _, g, r⟩ := r
    cases q : asIntsT ts with
    | none => rw [q] at e; cases e
    | some cs =>
      rw [q] at e
      exact ⟨_, _, (Option.some.inj e).symm, leaf_int _, by simp [fSum, isL, g, asInts_rep r q]⟩
theorem lf_int : Lf1 (fun v h => fInt [v] h) gInt := by
  intro h t v o r e
  cases t <;> simp only [gInt] at e <;> try (simp at e; done)
  simp only [Rep] at r; subst r
  exact ⟨_, _, (Option.some.inj e).symm, leaf_int _, rfl⟩
theorem lf_neg : Lf1 (fun v h => match v with | .int i => .ok (.int (-i)) h | _ => .stuck) gNeg := by
  intro h t v o r e
  cases t <;> simp only [gNeg] at e <;> try (simp at e; done)
  simp only [Rep] at r; subst r
  exact ⟨_, _, (Option.some.inj e).symm, leaf_int _, rfl⟩
theorem rep_isNon {P : Nat → Prop} {h : MH} {t : T} {v : MV} (r : Rep P h t v) : isNon v = (match t with | .non => true | _ => false) := by
  cases t <;> simp only [Rep] at r
  · subst r; rfl
  · subst r; rfl
  · subst r; rfl
  · subst r; rfl
  · obtain ⟨a, vs, rfl, _⟩ := r; rfl
  · obtain ⟨a, vs, rfl, _⟩ := r; rfl
  · obtain ⟨a, _, _, _, rfl, _⟩ := r; rfl
  · subst r; rfl
theorem lf_isN : Lf1 (fun v h => .ok (.bl (isNon v)) h) gIsN := by
  intro h t v o r e
  refine ⟨.bl (isNon v), _, ?_, leaf_bl _, rfl⟩
  rw [rep_isNon r]
  cases t <;> exact (Option.some.inj e).symm
theorem lf_notN : Lf1 (fun v h => .ok (.bl (!isNon v)) h) gNotN := by
  intro h t v o r e
  refine ⟨.bl (!isNon v), _, ?_, leaf_bl _, rfl⟩
  rw [rep_isNon r]
  cases t <;> exact (Option.some.inj e).symm
theorem lf_isB (b : Bool) : Lf1 (fun v h => match v with | .bl c => .ok (.bl (decide (c = b))) h | _ => .stuck) (gIsB b) := by
  intro h t v o r e
  cases t <;> simp only [gIsB] at e <;> try (simp at e; done)
  simp only [Rep] at r; subst r
  exact ⟨_, _, (Option.some.inj e).symm, leaf_bl _, rfl⟩
theorem rep_isTy {P : Nat → Prop} {h : MH} {t : T} {v : MV} (T : Ty) (r : Rep P h t v) : isTy T h v = some (isTyT T t) := by
  cases t <;> simp only [Rep] at r
  · subst r; rfl
  · subst r; rfl
  · subst r; rfl
  · subst r; rfl
  · obtain ⟨a, vs, rfl, _, g, _⟩ := r; simp [isTy, g, isTyT]
  · obtain ⟨a, vs, rfl, g, _⟩ := r; simp [isTy, g, isTyT]
  · obtain ⟨a, _, _, _, rfl, _, g, _⟩ := r; simp [isTy, g, isTyT]
  · subst r; rfl
theorem lf_isi (T : Ty) : Lf1 (fun v h => match isTy T h v with | some b => .ok (.bl b) h | none => .stuck) (gIsi T) := by
  intro h t v o r e
  refine ⟨_, _, (Option.some.inj e).symm, leaf_bl _, ?_⟩
  simp [rep_isTy T r]

/-! ### operators that hand on parts -/
def Kid (P : Nat → Prop) (h : MH) : T → MV → Prop
  | .lst ts, v => ∃ a vs, v = .ref a ∧ h[a]? = some (.lst vs) ∧ Reps P h ts vs
  | .dct ts xs, v => ∃ a ep ks vs, v = .ref a ∧ h[a]? = some (.dct ep ts ks vs) ∧ Reps (fun _ => False) h ts ks ∧ (∀ t ∈ ts, T.keyN 8 t = true) ∧ Reps P h xs vs
  | t, v => Rep P h t v
def OA.kidad : OA → List Nat
  | .sh _ _ => []
  | .lst _ xs => OA.ads xs
  | .tup _ xs => OA.ads xs
  | .dct _ _ _ _ xs => OA.ads xs
def OA.ice (x : OA) : OA := .sh x.mv x.er.tree
def OA.kidz : OA → OA
  | .sh v t => .sh v t
  | .lst a xs => .lst a (xs.map OA.ice)
  | .tup a xs => .tup a (xs.map OA.ice)
  | .dct a ep ts ks xs => .dct a ep ts ks (xs.map OA.ice)
theorem trees_sh : ∀ ts : List T, OT.trees (ts.map .sh) = ts
  | [] => rfl
  | t :: ts => by simp [OT.trees, OT.tree, trees_sh ts]
theorem tree_kids (o : OT) : o.kids.tree = o.tree := by
  cases o <;> simp [OT.kids, OT.tree, trees_sh]
theorem ers_ice : ∀ xs : List OA, OA.ers (xs.map OA.ice) = (OT.trees (OA.ers xs)).map .sh
  | [] => rfl
  | x :: xs => by simp [OA.ers, OT.trees, OA.ice, OA.er, ers_ice xs]
theorem ads_ice : ∀ xs : List OA, OA.ads (xs.map OA.ice) = []
  | [] => rfl
  | x :: xs => by simp [OA.ads, OA.ice, OA.ad, ads_ice xs]
theorem mv_ice (xs : List OA) : (xs.map OA.ice).map OA.mv = xs.map OA.mv := by simp [OA.ice, OA.mv, Function.comp_def]
theorem er_kidz (o : OA) : o.kidz.er = o.er.kids := by
  cases o <;> simp [OA.kidz, OA.er, OT.kids, ers_ice]
theorem mv_kidz (o : OA) : o.kidz.mv = o.mv := by cases o <;> rfl
theorem goods_ice {P Q : Nat → Prop} {h : MH} (pq : ∀ a, P a → Q a) {xs : List OA} (d : ∀ a ∈ OA.ads xs, Q a) (g : Goods P h xs) : Goods Q h (xs.map OA.ice) := by
  rw [goods_iff] at g ⊢
  intro y m
  obtain ⟨x, mx, rfl⟩ := List.mem_map.mp m
  rw [OA.ice, Good]
  exact Good.rep pq x (fun a ma => d a (mem_ads.mpr ⟨x, mx, ma⟩)) (g x mx)
theorem good_kidz {P Q : Nat → Prop} {h : MH} (pq : ∀ a, P a → Q a) {o : OA} (d : ∀ a ∈ o.kidad, Q a) (g : Good P h o) : Good Q h o.kidz := by
  cases o with
  | sh v t => rw [OA.kidz]; exact Good.keep ⟨fun a p => ⟨pq a p, rfl⟩, fun _ _ e => e⟩ _ (fun _ _ => rfl) g
  | lst a xs =>
    rw [Good] at g
    rw [OA.kidz, Good, mv_ice]
    exact ⟨g.1, goods_ice pq d g.2⟩
  | tup a xs =>
    rw [Good] at g
    rw [OA.kidz, Good, mv_ice]
    exact ⟨g.1, goods_ice pq d g.2⟩
  | dct a ep ts ks xs =>
    rw [Good] at g
    rw [OA.kidz, Good, mv_ice]
    exact ⟨g.1, g.2.1, goods_ice pq d g.2.2⟩
theorem good_kid {P Q : Nat → Prop} {h : MH} (pq : ∀ a, P a → Q a) {o : OA} (d : ∀ a ∈ o.kidad, Q a) (g : Good P h o) : Kid Q h o.er.tree o.mv := by
  cases o with
  | sh v t =>
    rw [Good] at g
    have g' := Rep.keep ⟨fun a p => ⟨pq a p, rfl⟩, fun _ _ e => e⟩ t v g
    cases t with
    | lst ts =>
      rw [Rep] at g'
      obtain ⟨a, vs, e, _, q⟩ := g'
      exact ⟨a, vs, e, q⟩
    | dct ts xs =>
      rw [Rep] at g'
      obtain ⟨a, ep, ks, vs, e, _, q⟩ := g'
      exact ⟨a, ep, ks, vs, e, q⟩
    | _ => exact g'
  | lst a xs =>
    rw [Good] at g
    exact ⟨a, _, rfl, g.1, Goods.reps pq xs d g.2⟩
  | tup a xs =>
    rw [Good] at g
    simp only [OA.er, OT.tree, Kid, Rep]
    exact ⟨a, _, rfl, g.1, Goods.reps pq xs d g.2⟩
  | dct a ep ts ks xs =>
    rw [Good] at g
    exact ⟨a, ep, ks, _, rfl, g.1, g.2.1.1, g.2.1.2, Goods.reps pq xs d g.2.2⟩
theorem kidad_sub {o : OA} {a : Nat} (m : a ∈ o.kidad) : a ∈ o.ad := by
  cases o with
  | sh v t => simp [OA.kidad] at m
  | lst b xs => simp only [OA.ad, List.mem_cons]; exact .inr m
  | tup b xs => exact m
  | dct b ep ts ks xs => simp only [OA.ad, List.mem_cons]; exact .inr m
theorem kidz_sub {o : OA} {a : Nat} (n : o.ad.Nodup) (m : a ∈ o.kidz.ad) : a ∈ o.ad ∧ a ∉ o.kidad := by
  cases o with
  | sh v t => simp [OA.kidz, OA.ad] at m
  | lst b xs =>
    simp only [OA.kidz, OA.ad, ads_ice, List.mem_singleton] at m
    subst m
    simp only [OA.ad, List.nodup_cons] at n
    exact ⟨by simp [OA.ad], n.1⟩
  | tup b xs => simp [OA.kidz, OA.ad, ads_ice] at m
  | dct b ep ts ks xs =>
    simp only [OA.kidz, OA.ad, ads_ice, List.mem_singleton] at m
    subst m
    simp only [OA.ad, List.nodup_cons] at n
    exact ⟨by simp [OA.ad], n.1⟩
theorem kidz_nd (o : OA) : o.kidz.ad.Nodup := by
  cases o <;> simp [OA.kidz, OA.ad, ads_ice]
/-- some at hand, or owned, is frozen -/
structure Ice (C C' : Cf) (D : List Nat) : Prop where
  h : C'.h = C.h
  mono : ∀ a, C.P a → C'.P a
  own : ∀ a, Own C'.A a → Own C.A a
  lim : ∀ a, C'.P a → C.P a ∨ a ∈ D ∨ Own C.A a
theorem Ice.toKeep {C C' : Cf} {D : List Nat} (J : Ice C C' D) : Keep C.P C.h C'.P C'.h := ⟨fun a p => ⟨J.mono a p, by rw [J.h]⟩, fun a xs e => by rw [J.h]; exact e⟩
theorem Ice.vd {ρ : Env} {C C' : Cf} {D E : List Nat} {w : TW} {v : MV} (J : Ice C C' D) (V : VD ρ C w v E) : VD ρ C' w v E := by
  cases w with
  | al i => exact V
  | ot o =>
    obtain ⟨oa, e, m, g, d⟩ := V
    exact ⟨oa, e, m, Good.keep J.toKeep oa (fun a _ => by rw [J.h]) g, d⟩
theorem Ice.free {C0 C C' : Cf} {D E : List Nat} (J : Ice C C' D) (F : Free C0 C (D ++ E)) : Free C0 C' E where
  nd := F.right.nd
  fr a m p := by
    rcases J.lim a p with p | q | o
    · exact F.right.fr a m p
    · exact (List.nodup_append.mp F.nd).2.2 a q a m rfl
    · exact F.right.dj a m o
  dj a m o := F.right.dj a m (J.own a o)
  nw := F.right.nw
  lt a m := by rw [J.h]; exact F.right.lt a m
theorem rd_fzkW {s : TEnv} {w v : TW} {u : T} (e : rd s v = some u) : rd (fzkW s w) v = some u := by
  cases v with
  | ot o => exact e
  | al j =>
    cases w with
    | ot o => exact e
    | al i =>
      rw [fzkW_al]
      unfold fzk
      cases q : tget s i with
      | none => exact e
      | some o =>
        simp only [rd_al] at e ⊢
        by_cases n : j = i
        · subst n
          rw [tget_set_self (tget_lt q)]
          rw [q] at e
          simpa [tree_kids] using e
        · rw [tget_set_ne n]; exact e
/-- the parts of a value are frozen -/
theorem kidW {C0 C : Cf} {ρ : Env} {s : TEnv} (I : Inv C ρ s) (S0 : Step C0 C) {w : TW} {v : MV} {D : List Nat} (V : VD ρ C w v D) (F : Free C0 C D) {t : T} (e : rd s w = some t) :
    ∃ C', Inv C' ρ (fzkW s w) ∧ Step C0 C' ∧ Ice C C' D ∧ Kid C'.P C'.h t v := by
  cases w with
  | al i =>
    rw [rd_al, I.er i] at e
    cases hi : C.A i with
    | none => rw [hi] at e; cases e
    | some o =>
      rw [hi] at e
      simp only [Option.map_some, Option.some.injEq] at e
      have m := I.mv i o hi
      rw [V.1] at m
      simp only [Option.some.injEq] at m
      have tg : tget s i = some o.er := by rw [I.er i, hi]; rfl
      have hz : fzkW s (.al i) = s.set i (some o.kidz.er) := by rw [fzkW_al, er_kidz]; unfold fzk; rw [tg]
      rw [hz]
      have q := I.chg S0 (D := []) (o' := o.kidz) (P' := fun a => C.P a ∨ a ∈ o.kidad) (h' := C.h) Free.nil hi (fun a p => .inl p) (fun _ _ _ => rfl) (Nat.le_refl _) (fun _ _ e => e)
        (good_kidz (fun a p => .inl p) (fun a m => .inr m) (I.good i o hi)) (kidz_nd o) (fun a m => .inl (kidz_sub (I.nd i o hi) m).1)
        (fun a m p => p.elim (I.fr i o hi a (kidz_sub (I.nd i o hi) m).1) (kidz_sub (I.nd i o hi) m).2) (fun a p => p.elim .inl fun m => .inr (kidad_sub m)) (mv_kidz o)
      refine ⟨_, q.1, q.2, ⟨rfl, fun a p => .inl p, ?_, ?_⟩, ?_⟩
      · rintro a ⟨j, x, ex, mx⟩
        by_cases n : j = i
        · subst n
          simp at ex; subst ex
          exact ⟨j, o, hi, (kidz_sub (I.nd j o hi) mx).1⟩
        · simp [put_ne n] at ex
          exact ⟨j, x, ex, mx⟩
      · rintro a (p | q)
        · exact .inl p
        · exact .inr (.inr ⟨i, o, hi, kidad_sub q⟩)
      · rw [← e, m]
        exact good_kid (fun a p => .inl p) (fun a m => .inr m) (I.good i o hi)
  | ot o =>
    obtain ⟨oa, e1, m, g, d⟩ := V
    simp only [rd_ot, Option.some.injEq] at e
    have q := I.ice S0 F
    refine ⟨_, q.1, q.2, ⟨rfl, fun a p => .inl p, fun a o => o, fun a p => p.elim .inl fun q => .inr (.inl q)⟩, ?_⟩
    rw [← e, ← e1, ← m]
    exact good_kid (fun a p => .inl p) (fun a m => .inr (d ▸ kidad_sub m)) g
def KR (P : Nat → Prop) (h : MH) (o : OT) (r : Res MV) : Prop :=
  ∃ oa h', r = .ok oa.mv h' ∧ oa.er = o ∧ ((h' = h ∧ oa.ad = [] ∧ Good P h oa) ∨ ∃ ob, h' = h ++ [ob] ∧ (oa.ad = [] ∨ oa.ad = [h.length]) ∧ Good P h' oa)
theorem LR.kr {C0 C : Cf} {ρ : Env} {s : TEnv} {o : OT} {r : Res MV} (I : Inv C ρ s) (S : Step C0 C) (q : KR C.P C.h o r) : LR C0 ρ (VW ρ C0) (.ok (.ot o) s) r := by
  obtain ⟨oa, h', e, er, q⟩ := q
  rw [e]
  rcases q with ⟨rfl, d, g⟩ | ⟨ob, rfl, d, g⟩
  · exact .ok I S ⟨[], ⟨oa, er, rfl, g, d⟩, .nil⟩
  · have q := I.alloc ob
    refine LR.ok (C := ⟨C.P, C.A, C.h ++ [ob]⟩) q.1 (S.trans q.2) ⟨oa.ad, ⟨oa, er, rfl, g, rfl⟩, ?_⟩
    rcases d with d | d <;> rw [d]
    · exact .nil
    · refine ⟨by simp, ?_, ?_, ?_, by simp⟩
      · intro a m p
        have := I.le a p
        simp at m; omega
      · intro a m o
        have := I.lt o
        simp at m; omega
      · intro a m
        have := S.len
        simp at m
        exact .inr (by omega)
def Kf1 (f : MV → MH → Res MV) (g : Op1T) : Prop := ∀ P h t v o, (∀ a, P a → a < h.length) → Kid P h t v → g t = some o → KR P h o (f v h)
def Kf2 (f : Op2) (g : Op2T) : Prop := ∀ P h t u v w o, (∀ a, P a → a < h.length) → Kid P h t v → Kid P h u w → g t u = some o → KR P h o (f v w h)
theorem le_t1k {f : MV → MH → Res MV} {g : Op1T} {a : E} {ta : TE} (hf : Kf1 f g) (ha : LE a ta) : LE (e1 f a) (t1k g ta) := by
  intro C ρ s I
  refine (ha C ρ s I).bind ?_
  rintro w x s1 C1 I1 S1 ⟨D1, V1, F1⟩
  cases e : rd s1 w with
  | none => exact .stuck
  | some t =>
    dsimp only
    cases e2 : g t with
    | none => exact .stuck
    | some o =>
      obtain ⟨C2, I2, S2, J, k⟩ := kidW I1 S1 V1 F1 e
      rw [← J.h]
      exact .kr I2 S2 (hf _ _ _ _ _ I2.le k e2)
theorem Kid.ice {C C' : Cf} {D : List Nat} (J : Ice C C' D) {t : T} {v : MV} (k : Kid C.P C.h t v) : Kid C'.P C'.h t v := by
  cases t with
  | lst ts =>
    obtain ⟨a, vs, e, g, r⟩ := k
    exact ⟨a, vs, e, by rw [J.h]; exact g, Reps.keep J.toKeep ts vs r⟩
  | dct ts xs =>
    obtain ⟨a, ep, ks, vs, e, g, k1, k2, r⟩ := k
    exact ⟨a, ep, ks, vs, e, by rw [J.h]; exact g, Reps.keep ⟨fun _ z => z.elim, J.toKeep.tup⟩ ts ks k1, k2, Reps.keep J.toKeep xs vs r⟩
  | _ => exact Rep.keep J.toKeep _ v k
theorem le_t2k {f : Op2} {g : Op2T} {a b : E} {ta tb : TE} (hf : Kf2 f g) (ha : LE a ta) (hb : LE b tb) : LE (e2 f a b) (t2k g ta tb) := by
  intro C ρ s I
  refine LE.two ha hb I ?_
  intro w v s' x y C' D1 D2 I' S' V1 V2 F
  cases e : rd s' w with
  | none => exact .stuck
  | some t =>
    cases e' : rd s' v with
    | none => exact .stuck
    | some u =>
      dsimp only
      cases e2 : g t u with
      | none => exact .stuck
      | some o =>
        obtain ⟨C2, I2, S2, J, k⟩ := kidW I' S' V1 F.left e
        obtain ⟨C3, I3, S3, J', k'⟩ := kidW I2 S2 (J.vd V2) (J.free F) (rd_fzkW e')
        rw [← J.h, ← J'.h]
        exact .kr I3 S3 (hf _ _ _ _ _ _ _ I3.le (k.ice J') k' e2)

def flatA (vs : List MV) (ts : List T) : List OA := List.zipWith OA.sh vs ts
theorem flatA_ers : ∀ {vs : List MV} {ts : List T}, vs.length = ts.length → OA.ers (flatA vs ts) = ts.map .sh
  | [], [], _ => rfl
  | v :: vs, t :: ts, e => by
    simp only [List.length_cons, Nat.add_right_cancel_iff] at e
    simp [flatA, OA.ers, OA.er]
    exact flatA_ers e
theorem flatA_mv : ∀ {vs : List MV} {ts : List T}, vs.length = ts.length → (flatA vs ts).map OA.mv = vs
  | [], [], _ => rfl
  | v :: vs, t :: ts, e => by
    simp only [List.length_cons, Nat.add_right_cancel_iff] at e
    simp only [flatA, List.zipWith_cons_cons, List.map_cons, OA.mv]
    rw [← flatA, flatA_mv e]
theorem flatA_ads : ∀ (vs : List MV) (ts : List T), OA.ads (flatA vs ts) = []
  | [], _ => by simp [flatA, OA.ads]
  | v :: vs, [] => by simp [flatA, OA.ads]
  | v :: vs, t :: ts => by
    simp only [flatA, List.zipWith_cons_cons, OA.ads, OA.ad, List.nil_append]
    exact flatA_ads vs ts
theorem flatA_goods {P : Nat → Prop} {h : MH} : ∀ {vs : List MV} {ts : List T}, Reps P h ts vs → Goods P h (flatA vs ts)
  | vs, [], r => by simp only [Reps] at r; subst r; simp [flatA, Goods]
  | vs, t :: ts, r => by
    rw [Reps] at r
    obtain ⟨v, r', rfl, q1, q2⟩ := r
    simp only [flatA, List.zipWith_cons_cons, Goods, Good]
    exact ⟨q1, flatA_goods q2⟩
theorem keep_snoc {P : Nat → Prop} {h : MH} (o : Obj) (le : ∀ a, P a → a < h.length) : Keep P h P (h ++ [o]) :=
  ⟨fun a p => ⟨p, List.getElem?_append_left (le a p)⟩, fun a xs e => getElem?_snoc e⟩
theorem kr_flat {P : Nat → Prop} {h : MH} {ts : List T} {vs : List MV} (le : ∀ a, P a → a < h.length) (r : Reps P h ts vs) : KR P h (flat ts) (alloc (.lst vs) h) := by
  have l := reps_len r
  refine ⟨.lst h.length (flatA vs ts), h ++ [.lst vs], rfl, ?_, .inr ⟨_, rfl, .inr ?_, ?_⟩⟩
  · simp [OA.er, flat, flatA_ers l]
  · simp [OA.ad, flatA_ads]
  · rw [Good, flatA_mv l]
    exact ⟨by simp, flatA_goods (Reps.keep (keep_snoc _ le) ts vs r)⟩
theorem kr_tupS {P : Nat → Prop} {h : MH} {ts : List T} {vs : List MV} (le : ∀ a, P a → a < h.length) (r : Reps P h ts vs) : KR P h (.sh (.tup ts)) (alloc (.tup vs) h) := by
  refine ⟨.sh (.ref h.length) (.tup ts), _, rfl, rfl, .inr ⟨_, rfl, .inl rfl, ?_⟩⟩
  rw [Good, Rep]
  exact ⟨_, _, rfl, by simp, Reps.keep (keep_snoc _ le) _ _ r⟩
theorem kr_leaf {P : Nat → Prop} {h : MH} {t : T} {v : MV} (l : Rep P h t v) : KR P h (.sh t) (.ok v h) :=
  ⟨.sh v t, h, rfl, rfl, .inl ⟨rfl, rfl, by rw [Good]; exact l⟩⟩
theorem Kid.rep {P : Nat → Prop} {h : MH} {t : T} {v : MV} (k : Kid P h t v) : Rep (fun a => P a ∨ v = .ref a) h t v := by
  cases t with
  | lst ts =>
    obtain ⟨a, vs, e, g, r⟩ := k
    rw [Rep]
    exact ⟨a, vs, e, .inr e, g, Reps.keep ⟨fun a p => ⟨.inl p, rfl⟩, fun _ _ e => e⟩ ts vs r⟩
  | dct ts xs =>
    obtain ⟨a, ep, ks, vs, e, g, k1, k2, r⟩ := k
    rw [Rep]
    exact ⟨a, ep, ks, vs, e, .inr e, g, k1, k2, Reps.keep ⟨fun a p => ⟨.inl p, rfl⟩, fun _ _ e => e⟩ xs vs r⟩
  | _ => exact Rep.keep ⟨fun a p => ⟨.inl p, rfl⟩, fun _ _ e => e⟩ _ v k
theorem reps_append {P : Nat → Prop} {h : MH} : ∀ {ts us : List T} {vs ws : List MV}, Reps P h ts vs → Reps P h us ws → Reps P h (ts ++ us) (vs ++ ws)
  | [], us, vs, ws, r, q => by simp only [Reps] at r; subst r; exact q
  | t :: ts, us, vs, ws, r, q => by
    rw [Reps] at r
    obtain ⟨v, r', rfl, q1, q2⟩ := r
    simp only [List.cons_append, Reps]
    exact ⟨v, _, rfl, q1, reps_append q2 q⟩
theorem reps_rep {P : Nat → Prop} {h : MH} {ts : List T} {vs : List MV} (r : Reps P h ts vs) : ∀ n : Nat, Reps P h (List.replicate n ts).flatten (List.replicate n vs).flatten
  | 0 => by simp [Reps]
  | n + 1 => by
    simp only [List.replicate_succ, List.flatten_cons]
    exact reps_append r (reps_rep r n)
theorem reps_iff {P : Nat → Prop} {h : MH} : ∀ {ts : List T} {vs : List MV}, Reps P h ts vs ↔ vs.length = ts.length ∧ ∀ (j : Nat) (t : T) (v : MV), ts[j]? = some t → vs[j]? = some v → Rep P h t v
  | [], vs => by
    simp only [Reps]
    constructor
    · rintro rfl; simp
    · rintro ⟨e, _⟩; simpa using e
  | t :: ts, vs => by
    simp only [Reps]
    constructor
    · rintro ⟨v, r, rfl, q1, q2⟩
      have q := reps_iff.mp q2
      refine ⟨by simp [q.1], ?_⟩
      intro j
      cases j with
      | zero => intro t' v' e e'; simp at e e'; subst e; subst e'; exact q1
      | succ j => intro t' v' e e'; simp at e e'; exact q.2 j t' v' e e'
    · rintro ⟨e, q⟩
      cases vs with
      | nil => simp at e
      | cons v r =>
        exact ⟨v, r, rfl, q 0 t v rfl rfl, reps_iff.mpr ⟨by simpa using e, fun j t' v' e e' => q (j + 1) t' v' (by simpa using e) (by simpa using e')⟩⟩
theorem reps_get {P : Nat → Prop} {h : MH} {ts : List T} {vs : List MV} (r : Reps P h ts vs) {j : Nat} {t : T} (e : ts[j]? = some t) : ∃ v, vs[j]? = some v ∧ Rep P h t v := by
  have q := reps_iff.mp r
  have l : j < vs.length := by rw [q.1]; exact (List.getElem?_eq_some_iff.mp e).1
  exact ⟨vs[j], List.getElem?_eq_getElem l, q.2 j t _ e (List.getElem?_eq_getElem l)⟩
theorem reps_atI {P : Nat → Prop} {h : MH} {ts : List T} {vs : List MV} (r : Reps P h ts vs) {i : Int} {t : T} (e : atI ts i = some t) : ∃ v, atI vs i = some v ∧ Rep P h t v := by
  unfold atI at e ⊢
  rw [reps_len r]
  cases q : ixN ts.length i with
  | none => rw [q] at e; cases e
  | some j => rw [q] at e; exact reps_get r e
theorem reps_drop {P : Nat → Prop} {h : MH} : ∀ {ts : List T} {vs : List MV} (n : Nat), Reps P h ts vs → Reps P h (ts.drop n) (vs.drop n)
  | ts, vs, 0, r => r
  | [], vs, n + 1, r => by simp only [Reps] at r; subst r; simp [Reps]
  | t :: ts, vs, n + 1, r => by
    rw [Reps] at r
    obtain ⟨v, r', rfl, q1, q2⟩ := r
    exact reps_drop n q2
theorem reps_take {P : Nat → Prop} {h : MH} : ∀ {ts : List T} {vs : List MV} (n : Nat), Reps P h ts vs → Reps P h (ts.take n) (vs.take n)
  | ts, vs, 0, r => by simp [Reps]
  | [], vs, n + 1, r => by simp only [Reps] at r; subst r; simp [Reps]
  | t :: ts, vs, n + 1, r => by
    rw [Reps] at r
    obtain ⟨v, r', rfl, q1, q2⟩ := r
    simp only [List.take_succ_cons, Reps]
    exact ⟨v, _, rfl, q1, reps_take n q2⟩
theorem reps_cut {P : Nat → Prop} {h : MH} {ts : List T} {vs : List MV} (r : Reps P h ts vs) (lo hi : Option Int) : Reps P h (cut ts lo hi) (cut vs lo hi) := by
  unfold cut
  rw [reps_len r]
  exact reps_take _ (reps_drop _ r)
theorem reps_snoc {P : Nat → Prop} {h : MH} {ts : List T} {vs : List MV} {t : T} {v : MV} (r : Reps P h ts vs) (q : Rep P h t v) : Reps P h (ts ++ [t]) (vs ++ [v]) :=
  reps_append r (by simp only [Reps]; exact ⟨v, [], rfl, q, rfl⟩)
theorem reps_rev {P : Nat → Prop} {h : MH} : ∀ {ts : List T} {vs : List MV}, Reps P h ts vs → Reps P h ts.reverse vs.reverse
  | [], vs, r => by simp only [Reps] at r; subst r; simp [Reps]
  | t :: ts, vs, r => by
    rw [Reps] at r
    obtain ⟨v, r', rfl, q1, q2⟩ := r
    simp only [List.reverse_cons]
    exact reps_snoc (reps_rev q2) q1
theorem reps_ints {P : Nat → Prop} {h : MH} : ∀ xs : List Int, Reps P h (xs.map T.int) (xs.map MV.int)
  | [] => by simp [Reps]
  | x :: xs => by simp only [List.map_cons, Reps]; exact ⟨_, _, rfl, by simp [Rep], reps_ints xs⟩
theorem reps_rng {P : Nat → Prop} {h : MH} (a b : Int) : Reps P h (rngT a b) (rng a b) := by
  have q := reps_ints (P := P) (h := h) ((List.range (b - a).toNat).map fun k : Nat => a + (k : Int))
  simpa [rngT, rng, Function.comp_def] using q
theorem kf_add : Kf2 opAdd gAdd := by
  intro P h t u v w o le k1 k2 e
  unfold gAdd at e
  split at e
  · simp only [Kid, Rep] at k1 k2; subst k1; subst k2
    rw [← Option.some.inj e]
    exact kr_leaf (by simp [Rep])
  · simp only [Kid, Rep] at k1 k2; subst k1; subst k2
    split at e
    · next c =>
      rw [← Option.some.inj e]
      simp only [opAdd, c, if_true]
      exact kr_leaf (by simp [Rep])
    · cases e
  · obtain ⟨a, vs, rfl, g1, r1⟩ := k1
    obtain ⟨b, ws, rfl, g2, r2⟩ := k2
    split at e
    · next c =>
      rw [← Option.some.inj e]
      have l : (vs ++ ws).length ≤ lim := by simpa [reps_len r1, reps_len r2] using c
      simp only [opAdd, g1, g2, allocL, l, if_true]
      exact kr_flat le (reps_append r1 r2)
    · cases e
  · have k1' := k1
    have k2' := k2
    simp only [Kid, Rep] at k1 k2
    obtain ⟨a, vs, rfl, g1, r1⟩ := k1
    obtain ⟨b, ws, rfl, g2, r2⟩ := k2
    split at e
    · next c =>
      rw [← Option.some.inj e]
      have l : (vs ++ ws).length ≤ lim := by simpa [reps_len r1, reps_len r2] using c
      have l1 := reps_len r1
      have l2 := reps_len r2
      simp only [opAdd, g1, g2]
      split
      · next hx =>
        rw [List.isEmpty_iff.mp hx, List.length_nil] at l1
        rw [List.length_eq_zero_iff.mp l1.symm, List.nil_append]
        exact kr_leaf k2'
      · split
        · next hy =>
          rw [List.isEmpty_iff.mp hy, List.length_nil] at l2
          rw [List.length_eq_zero_iff.mp l2.symm, List.append_nil]
          exact kr_leaf k1'
        · simp only [allocT, l, if_true]
          exact kr_tupS le (reps_append r1 r2)
    · cases e
  · cases e
theorem kf_mul : Kf2 opMul gMul := by
  intro P h t u v w o le k1 k2 e
  unfold gMul at e
  split at e
  · simp only [Kid, Rep] at k1 k2; subst k1; subst k2
    next ii jj =>
    split at e
    · next c =>
      rw [← Option.some.inj e]
      have c' : (small ii || small jj) = true := by
        rw [Bool.or_eq_true] at c ⊢
        exact c.imp near_small near_small
      simp only [opMul, c', if_true]
      exact kr_leaf (by simp [Rep])
    · cases e
  · obtain ⟨a, vs, rfl, g1, r1⟩ := k1
    simp only [Kid, Rep] at k2; subst k2
    split at e
    · next k c =>
      rw [← Option.some.inj e]
      have r := reps_rep r1 k.toNat
      have l : (List.replicate k.toNat vs).flatten.length ≤ lim := by rw [reps_len r]; exact c.2
      simp only [opMul, g1]
      rw [if_pos (near_pop c.1), allocL, if_pos l]
      exact kr_flat le r
    · cases e
  · cases e
theorem kf_ix : Kf2 opIx gIx := by
  intro P h t u v w o le k1 k2 e
  unfold gIx at e
  split at e
  · simp only [Kid, Rep] at k1 k2; subst k1; subst k2
    split at e
    · next c q =>
      rw [← Option.some.inj e]
      simp only [opIx, q]
      exact kr_leaf (by simp [Rep])
    · cases e
  · next ts i =>
    obtain ⟨a, vs, rfl, g1, r1⟩ := k1
    simp only [Kid, Rep] at k2; subst k2
    cases q : atI ts i with
    | none => rw [q] at e; cases e
    | some t =>
      rw [q] at e
      obtain ⟨v, ev, rv⟩ := reps_atI r1 q
      rw [← Option.some.inj e]
      simp only [opIx, items, g1, ev]
      exact kr_leaf rv
  · next ts i =>
    simp only [Kid, Rep] at k1
    obtain ⟨a, vs, rfl, g1, r1⟩ := k1
    simp only [Kid, Rep] at k2; subst k2
    cases q : atI ts i with
    | none => rw [q] at e; cases e
    | some t =>
      rw [q] at e
      obtain ⟨v, ev, rv⟩ := reps_atI r1 q
      rw [← Option.some.inj e]
      simp only [opIx, items, g1, ev]
      exact kr_leaf rv
  · next xs i =>
    simp only [Kid, Rep] at k1 k2; subst k1; subst k2
    cases q : atI xs i with
    | none => rw [q] at e; cases e
    | some x =>
      rw [q] at e
      rw [← Option.some.inj e]
      have q' : atI (xs.map MV.int) i = some (.int x) := by
        unfold atI at q ⊢
        rw [List.length_map]
        cases c : ixN xs.length i with
        | none => rw [c] at q; cases q
        | some j => rw [c] at q; simp only [Option.bind_some] at q ⊢; rw [List.getElem?_map, q]; rfl
      simp only [opIx, items, q']
      exact kr_leaf (by simp [Rep])
  · cases e
theorem kf_rng : Kf2 (fun x y h => match x, y with
  | .int i, .int j => if rngOk i && rngOk j then alloc (.lst (rng i j)) h else .stuck
  | _, _ => .stuck) gRng := by
  intro P h t u v w o le k1 k2 e
  cases t <;> cases u <;> simp only [gRng] at e <;> try (simp at e; done)
  simp only [Kid, Rep] at k1 k2; subst k1; subst k2
  split at e
  · next c =>
    rw [← Option.some.inj e]
    simp only []
    rw [if_pos c]
    exact kr_flat le (reps_rng _ _)
  · cases e
theorem kf_list : Kf1 (fun v h => fList [v] h) gList := by
  intro P h t v o le k e
  cases t <;> simp only [gList] at e <;> try (simp at e; done)
  · obtain ⟨a, vs, rfl, g, r⟩ := k
    rw [← Option.some.inj e]
    simp only [fList, items, g]
    exact kr_flat le r
  · simp only [Kid, Rep] at k
    obtain ⟨a, vs, rfl, g, r⟩ := k
    rw [← Option.some.inj e]
    simp only [fList, items, g]
    exact kr_flat le r
theorem kf_tuple : Kf1 (fun v h => fTuple [v] h) gTuple := by
  intro P h t v o le k e
  cases t <;> simp only [gTuple] at e <;> try (simp at e; done)
  · obtain ⟨a, vs, rfl, g, r⟩ := k
    rw [← Option.some.inj e]
    simp only [fTuple, g]
    exact kr_tupS le r
  · have k' := k
    simp only [Kid, Rep] at k
    obtain ⟨a, vs, rfl, g, r⟩ := k
    rw [← Option.some.inj e]
    simp only [fTuple, g]
    exact kr_leaf k'
theorem kf_rev : Kf1 sliceBack gRev := by
  intro P h t v o le k e
  cases t <;> simp only [gRev] at e <;> try (simp at e; done)
  obtain ⟨a, vs, rfl, g, r⟩ := k
  rw [← Option.some.inj e]
  simp only [sliceBack, g]
  exact kr_flat le (reps_rev r)
theorem kf_slice (lo hi : Option Int) : Kf1 (fun v h => slice v lo hi h) (fun t => gSlice t lo hi) := by
  intro P h t v o le k e
  cases t <;> simp only [gSlice] at e <;> try (simp at e; done)
  · simp only [Kid, Rep] at k; subst k
    rw [← Option.some.inj e]
    simp only [slice]
    exact kr_leaf (by simp [Rep])
  · obtain ⟨a, vs, rfl, g, r⟩ := k
    rw [← Option.some.inj e]
    simp only [slice, isL, g]
    exact kr_flat le (reps_cut r lo hi)
  · have k' := k
    simp only [Kid, Rep] at k
    obtain ⟨a, vs, rfl, g, r⟩ := k
    rw [← Option.some.inj e]
    simp only [slice, isL, g, sliceT]
    split
    · next c =>
      rw [reps_len r] at c
      rename_i xs
      have ec : cut xs lo hi = xs := by
        unfold cut
        rw [c.1, c.2]
        simp
      rw [ec]
      exact kr_leaf k'
    · exact kr_tupS le (reps_cut r lo hi)

/-! ### truths, chains, arguments -/
theorem vd_leaf {ρ : Env} {C : Cf} {t : T} {x : MV} {D : List Nat} (V : VD ρ C (.ot (.sh t)) x D) : Rep C.P C.h t x := by
  obtain ⟨oa, e, m, g, _⟩ := V
  cases oa with
  | sh v u =>
    simp only [OA.er, OT.sh.injEq] at e
    subst e
    rw [Good] at g
    rw [← m]; exact g
  | lst _ _ => simp [OA.er] at e
  | tup _ _ => simp [OA.er] at e
  | dct _ _ _ _ _ => simp [OA.er] at e
theorem vd_bl {ρ : Env} {C : Cf} {b : Bool} {x : MV} {D : List Nat} (V : VD ρ C (.ot (.sh (.bl b))) x D) : x = .bl b := by
  simpa [Rep] using vd_leaf V
theorem vd_int {ρ : Env} {C : Cf} {b : Int} {x : MV} {D : List Nat} (V : VD ρ C (.ot (.sh (.int b))) x D) : x = .int b := by
  simpa [Rep] using vd_leaf V
theorem le_and {a b : E} {ta tb : TE} (ha : LE a ta) (hb : LE b tb) : LE (eAnd a b) (tAnd ta tb) := by
  intro C ρ s I
  refine (ha C ρ s I).bind ?_
  rintro w x s1 C1 I1 S1 ⟨D1, V1, F1⟩
  split
  · have e := vd_bl V1; subst e
    exact LR.up S1 (hb C1 ρ s1 I1) fun C' a b S ⟨D, V, F⟩ => ⟨D, V, F.up S1⟩
  · have e := vd_bl V1; subst e
    exact .ok I1 S1 (.sh (by simp [Rep]))
  · exact .stuck
theorem le_or {a b : E} {ta tb : TE} (ha : LE a ta) (hb : LE b tb) : LE (eOr a b) (tOr ta tb) := by
  intro C ρ s I
  refine (ha C ρ s I).bind ?_
  rintro w x s1 C1 I1 S1 ⟨D1, V1, F1⟩
  split
  · have e := vd_bl V1; subst e
    exact .ok I1 S1 (.sh (by simp [Rep]))
  · have e := vd_bl V1; subst e
    exact LR.up S1 (hb C1 ρ s1 I1) fun C' a b S ⟨D, V, F⟩ => ⟨D, V, F.up S1⟩
  · exact .stuck
theorem le_not {a : E} {ta : TE} (ha : LE a ta) : LE (eNot a) (tNot ta) := by
  intro C ρ s I
  refine (ha C ρ s I).bind ?_
  rintro w x s1 C1 I1 S1 ⟨D1, V1, F1⟩
  split
  · have e := vd_bl V1; subst e
    exact .ok I1 S1 (.sh (by simp [Rep]))
  · exact .stuck
theorem le_chain {f g : Op2} {tf tg : Op2T} {a b c : E} {ta tb tc : TE} (hf : Lf2 f tf) (hg : Lf2 g tg) (ha : LE a ta) (hb : LE b tb) (hc : LE c tc) : LE (eChain f g a b c) (tChain tf tg ta tb tc) := by
  intro C ρ s I
  refine LE.two ha hb I ?_
  intro w v s' x y C' D1 D2 I' S' V1 V2 F
  cases e : rd s' w with
  | none => exact .stuck
  | some t =>
    cases e' : rd s' v with
    | none => exact .stuck
    | some u =>
      dsimp only
      cases e2 : tf t u with
      | none => exact .stuck
      | some o =>
        obtain ⟨p, r, rfl, lf, er⟩ := hf _ _ _ _ _ _ (rd_rep I' V1 e) (rd_rep I' V2 e') e2
        rw [er]
        split
        · next q =>
          cases q
          have l := lf (fun _ => True) []
          simp only [Rep] at l
          subst l
          refine (LR.up S' (hc C' ρ s' I') (Q' := fun C'' a b => Step C' C'' ∧ VW ρ C C'' a b) fun C'' a b S ⟨D, V, F⟩ => ⟨S, D, V, F.up S'⟩).bind ?_
          rintro z zz s3 C3 I3 S3 ⟨S13, D3, V3, F3⟩
          cases e3 : rd s3 v with
          | none => exact .stuck
          | some t3 =>
            cases e4 : rd s3 z with
            | none => exact .stuck
            | some t4 =>
              dsimp only
              cases e5 : tg t3 t4 with
              | none => exact .stuck
              | some o =>
                obtain ⟨p, r, rfl, lf, er⟩ := hg _ _ _ _ _ _ (rd_rep I3 (V2.step F.right S13) e3) (rd_rep I3 V3 e4) e5
                rw [er]
                exact .ok I3 S3 (.sh (lf _ _))
        · next q =>
          cases q
          have l := lf (fun _ => True) []
          simp only [Rep] at l
          subst l
          exact .ok I' S' (.sh (by simp [Rep]))
        · exact .stuck
theorem la_nil : LA aNil taNil := fun C ρ s I => .ok I I.refl ⟨[], ⟨rfl, rfl⟩, .nil⟩
theorem la_cons {a : E} {as : EA} {ta : TE} {tas : TA} (ha : LE a ta) (hs : LA as tas) : LA (aCons a as) (taCons ta tas) := by
  intro C ρ s I
  refine (ha C ρ s I).bind ?_
  rintro w x s1 C1 I1 S1 ⟨D1, V1, F1⟩
  refine (LR.up S1 (hs C1 ρ s1 I1) (Q' := fun C' a b => Step C1 C' ∧ VWs ρ C1 C' a b) fun C' a b S q => ⟨S, q⟩).bind ?_
  rintro ws vs s2 C2 I2 S2 ⟨S12, D2, V2, F2⟩
  exact .ok I2 S2 ⟨D1 ++ D2, ⟨x, vs, D1, D2, rfl, rfl, V1.step F1 S12, V2⟩, F1.append S1 S12 F2⟩
/-- a value is put elsewhere -/
theorem eat_ok {m : Bool} {C0 C : Cf} {ρ : Env} {s s' : TEnv} (I : Inv C ρ s) (S0 : Step C0 C) {w : TW} {v : MV} {D E : List Nat} (V : VD ρ C w v D) (F : Free C0 C (D ++ E)) {o : OT} (e : eat m s w = some (o, s')) :
    ∃ C' oa, C'.h = C.h ∧ Inv C' ρ s' ∧ Step C0 C' ∧ Step C C' ∧ oa.er = o ∧ oa.mv = v ∧ Good C'.P C'.h oa ∧ Free C0 C' (oa.ad ++ E) := by
  cases w with
  | ot o' =>
    obtain ⟨oa, e1, mv, g, d⟩ := V
    simp only [eat_ot, Option.some.injEq, Prod.mk.injEq] at e
    obtain ⟨rfl, rfl⟩ := e
    subst d
    exact ⟨C, oa, rfl, I, S0, I.refl, e1, mv, g, F⟩
  | al i =>
    have hd := V.2
    subst hd
    rw [List.nil_append] at F
    have er := I.er i
    cases hi : C.A i with
    | none =>
      rw [hi] at er
      cases m <;> simp [er] at e
    | some x =>
      rw [hi] at er
      have mvx := I.mv i x hi
      rw [V.1] at mvx
      simp only [Option.some.injEq] at mvx
      cases m with
      | false =>
        simp only [eat_al, er, Option.map_some, Option.some.injEq, Prod.mk.injEq] at e
        obtain ⟨rfl, rfl⟩ := e
        obtain ⟨I', S', r⟩ := I.fz hi
        refine ⟨_, .sh x.mv x.er.tree, ?_, I', S0.trans S', S', rfl, mvx.symm, ?_, ?_⟩
        · rfl
        · rw [Good]; exact r
        · simpa [OA.ad] using F.step S'
      | true =>
        simp only [eat_mv, er, Option.map_some, Option.some.injEq, Prod.mk.injEq] at e
        obtain ⟨rfl, rfl⟩ := e
        obtain ⟨I', S'⟩ := I.drop i
        refine ⟨_, x, ?_, I', S0.trans S', S', rfl, mvx.symm, I.good i x hi, ?_⟩
        · rfl
        have FE := F.step S'
        refine ⟨List.nodup_append.mpr ⟨I.nd i x hi, FE.nd, fun a ma b mb q => ?_⟩, ?_, ?_, ?_, ?_⟩
        · subst q; exact F.dj a mb ⟨i, x, hi, ma⟩
        · intro a ma p
          rcases List.mem_append.mp ma with ma | ma
          · exact I.fr i x hi a ma p
          · exact FE.fr a ma p
        · intro a ma o
          rcases List.mem_append.mp ma with ma | ma
          · obtain ⟨j, y, ey, my⟩ := o
            by_cases n : j = i
            · subst n; simp at ey
            · simp [put_ne n] at ey
              exact I.dj i j x y hi ey (Ne.symm n) a ma my
          · exact FE.dj a ma o
        · intro a ma
          rcases List.mem_append.mp ma with ma | ma
          · exact S0.own a ⟨i, x, hi, ma⟩
          · exact F.nw a ma
        · intro a ma
          rcases List.mem_append.mp ma with ma | ma
          · exact I.lt ⟨i, x, hi, ma⟩
          · exact F.lt a ma
theorem Free.perm {C0 C : Cf} {D E : List Nat} (F : Free C0 C D) (p : List.Perm D E) : Free C0 C E :=
  ⟨p.nodup_iff.mp F.nd, fun a m => F.fr a (p.mem_iff.mpr m), fun a m => F.dj a (p.mem_iff.mpr m), fun a m => F.nw a (p.mem_iff.mpr m), fun a m => F.lt a (p.mem_iff.mpr m)⟩
theorem eats_ok {m : Bool} {C0 : Cf} {ρ : Env} : ∀ {ws : List TW} {C : Cf} {s s' : TEnv} {vs : List MV} {D E : List Nat} {os : List OT}, Inv C ρ s → Step C0 C → VDs ρ C ws vs D → Free C0 C (D ++ E) → eats m s ws = some (os, s') →
    ∃ C' oas, C'.h = C.h ∧ Inv C' ρ s' ∧ Step C0 C' ∧ Step C C' ∧ OA.ers oas = os ∧ oas.map OA.mv = vs ∧ Goods C'.P C'.h oas ∧ Free C0 C' (OA.ads oas ++ E)
  | [], C, s, s', vs, D, E, os, I, S0, V, F, e => by
    obtain ⟨rfl, rfl⟩ := V
    simp only [eats, Option.some.injEq, Prod.mk.injEq] at e
    obtain ⟨rfl, rfl⟩ := e
    exact ⟨C, [], rfl, I, S0, I.refl, rfl, rfl, by simp [Goods], F⟩
  | w :: ws, C, s, s', vs, D, E, os, I, S0, V, F, e => by
    obtain ⟨v, r, D1, D2, rfl, rfl, V1, V2⟩ := V
    rw [eats] at e
    cases q : eat m s w with
    | none => rw [q] at e; cases e
    | some p =>
      obtain ⟨o, s1⟩ := p
      rw [q] at e
      dsimp only at e
      cases q2 : eats m s1 ws with
      | none => rw [q2] at e; cases e
      | some p2 =>
        obtain ⟨os2, s2⟩ := p2
        rw [q2] at e
        simp only [Option.some.injEq, Prod.mk.injEq] at e
        obtain ⟨rfl, rfl⟩ := e
        rw [List.append_assoc] at F
        obtain ⟨C1, oa, h1, I1, S1, S1', er1, mv1, g1, F1⟩ := eat_ok I S0 V1 F q
        have F1' : Free C0 C1 (D2 ++ (oa.ad ++ E)) := F1.perm (by
          rw [← List.append_assoc, ← List.append_assoc]
          exact (List.perm_append_comm).append_right E)
        obtain ⟨C2, oas, h2, I2, S2, S2', er2, mv2, g2, F2⟩ := eats_ok I1 S1 (V2.step (F.right.left) S1') F1' q2
        refine ⟨C2, oa :: oas, h2.trans h1, I2, S2, S1'.trans S2', by simp [OA.ers, er1, er2], by simp [mv1, mv2], ?_, ?_⟩
        · rw [Goods]
          refine ⟨Good.keep S2'.toKeep oa (fun a ma => by rw [h2]) g1, g2⟩
        · refine F2.perm ?_
          rw [OA.ads, ← List.append_assoc]
          exact (List.perm_append_comm).append_right E
theorem ers_len : ∀ xs : List OA, (OA.ers xs).length = xs.length
  | [] => rfl
  | x :: xs => by simp [OA.ers, ers_len xs]
theorem allSh_ads : ∀ {xs : List OA}, (OA.ers xs).all OT.isSh = true → OA.ads xs = []
  | [], _ => rfl
  | x :: xs, e => by
    simp only [OA.ers, List.all_cons, Bool.and_eq_true] at e
    cases x with
    | sh v t => simp [OA.ads, OA.ad, allSh_ads e.2]
    | lst _ _ => simp [OA.er, OT.isSh] at e
    | tup _ _ => simp [OA.er, OT.isSh] at e
    | dct _ _ _ _ _ => simp [OA.er, OT.isSh] at e
/-- a new tuple, a new list -/
theorem LR.newL {C0 C : Cf} {ρ : Env} {s : TEnv} {oas : List OA} (I : Inv C ρ s) (S : Step C0 C) (g : Goods C.P C.h oas) (F : Free C0 C (OA.ads oas)) :
    LR C0 ρ (VW ρ C0) (.ok (.ot (.lst (OA.ers oas))) s) (alloc (.lst (oas.map OA.mv)) C.h) := by
  have q := I.alloc (.lst (oas.map OA.mv))
  refine LR.ok (Q := VW ρ C0) (a := .ot (.lst (OA.ers oas))) (b := .ref C.h.length) (C := ⟨C.P, C.A, C.h ++ [.lst (oas.map OA.mv)]⟩) q.1 (S.trans q.2) ⟨C.h.length :: OA.ads oas, ⟨.lst C.h.length oas, rfl, rfl, ?_, rfl⟩, ?_⟩
  · rw [Good]
    exact ⟨by simp, Goods.keep (keep_snoc _ I.le) oas (fun a m => List.getElem?_append_left (F.lt a m)) g⟩
  · have F' := F.step q.2
    refine ⟨List.nodup_cons.mpr ⟨fun m => absurd (F.lt _ m) (by omega), F.nd⟩, ?_, ?_, ?_, ?_⟩
    · intro a m p
      rcases List.mem_cons.mp m with rfl | m
      · exact absurd (I.le _ p) (by omega)
      · exact F'.fr a m p
    · intro a m o
      rcases List.mem_cons.mp m with rfl | m
      · exact absurd (I.lt o) (by omega)
      · exact F'.dj a m o
    · intro a m
      rcases List.mem_cons.mp m with rfl | m
      · exact .inr S.len
      · exact F.nw a m
    · intro a m
      rcases List.mem_cons.mp m with rfl | m
      · simp
      · exact F'.lt a m
theorem LR.newT {C0 C : Cf} {ρ : Env} {s : TEnv} {oas : List OA} (I : Inv C ρ s) (S : Step C0 C) (g : Goods C.P C.h oas) (F : Free C0 C (OA.ads oas)) :
    LR C0 ρ (VW ρ C0) (.ok (.ot (mkTup (OA.ers oas))) s) (alloc (.tup (oas.map OA.mv)) C.h) := by
  have q := I.alloc (.tup (oas.map OA.mv))
  have g' : Goods C.P (C.h ++ [.tup (oas.map OA.mv)]) oas := Goods.keep (keep_snoc _ I.le) oas (fun a m => List.getElem?_append_left (F.lt a m)) g
  unfold mkTup
  split
  · next c =>
    refine LR.ok (Q := VW ρ C0) (a := .ot (.sh (.tup (OT.trees (OA.ers oas))))) (b := .ref C.h.length) (C := ⟨C.P, C.A, C.h ++ [.tup (oas.map OA.mv)]⟩) q.1 (S.trans q.2) (.sh ?_)
    rw [Rep]
    exact ⟨_, _, rfl, by simp, Goods.reps (fun a p => p) oas (by rw [allSh_ads c]; simp) g'⟩
  · refine LR.ok (Q := VW ρ C0) (a := .ot (.tup (OA.ers oas))) (b := .ref C.h.length) (C := ⟨C.P, C.A, C.h ++ [.tup (oas.map OA.mv)]⟩) q.1 (S.trans q.2) ⟨OA.ads oas, ⟨.tup C.h.length oas, rfl, rfl, ?_, rfl⟩, F.step q.2⟩
    rw [Good]
    exact ⟨by simp, g'⟩
theorem le_lst {m : Bool} {as : EA} {tas : TA} (ha : LA as tas) : LE (eLst as) (tLst m tas) := by
  intro C ρ s I
  refine (ha C ρ s I).bind ?_
  rintro ws vs s1 C1 I1 S1 ⟨D1, V1, F1⟩
  cases e : eats m s1 ws with
  | none => exact .stuck
  | some p =>
    obtain ⟨os, s2⟩ := p
    dsimp only
    obtain ⟨C2, oas, h2, I2, S2, S2', er, mv, g, F⟩ := eats_ok (E := []) I1 S1 V1 (by simpa using F1) e
    split
    · next c =>
      subst er; subst mv
      rw [allocL, if_pos (by simpa [ers_len] using c), ← h2]
      exact .newL I2 S2 g (by simpa using F)
    · exact .stuck
theorem le_tup {m : Bool} {as : EA} {tas : TA} (ha : LA as tas) : LE (eTup as) (tTup m tas) := by
  intro C ρ s I
  refine (ha C ρ s I).bind ?_
  rintro ws vs s1 C1 I1 S1 ⟨D1, V1, F1⟩
  cases e : eats m s1 ws with
  | none => exact .stuck
  | some p =>
    obtain ⟨os, s2⟩ := p
    dsimp only
    obtain ⟨C2, oas, h2, I2, S2, S2', er, mv, g, F⟩ := eats_ok (E := []) I1 S1 V1 (by simpa using F1) e
    split
    · next c =>
      subst er; subst mv
      rw [allocT, if_pos (by simpa [ers_len] using c), ← h2]
      exact .newT I2 S2 g (by simpa using F)
    · exact .stuck
def LO (m : EO) (t : TO) : Prop := ∀ C ρ s, Inv C ρ s → LR C ρ (fun _ a b => a = b) (t s) (m ρ C.h)
theorem lo_none : LO oNone toNone := fun C ρ s I => .ok I I.refl rfl
theorem lo_some {a : E} {ta : TE} (ha : LE a ta) : LO (oSome a) (toSome ta) := by
  intro C ρ s I
  refine (ha C ρ s I).bind ?_
  rintro w x s1 C1 I1 S1 ⟨D1, V1, F1⟩
  split
  · have e := vd_int V1; subst e
    exact .ok I1 S1 rfl
  · exact .stuck
theorem le_slice {a : E} {lo hi : EO} {ta : TE} {tlo thi : TO} (ha : LE a ta) (hl : LO lo tlo) (hh : LO hi thi) : LE (eSlice a lo hi) (tSlice ta tlo thi) := by
  intro C ρ s I
  refine (ha C ρ s I).bind ?_
  rintro w x s1 C1 I1 S1 ⟨D1, V1, F1⟩
  refine (LR.up S1 (hl C1 ρ s1 I1) (Q' := fun C' a b => Step C1 C' ∧ a = b) fun C' a b S q => ⟨S, q⟩).bind ?_
  rintro l _ s2 C2 I2 S2 ⟨S12, rfl⟩
  refine (LR.up S2 (hh C2 ρ s2 I2) (Q' := fun C' a b => Step C2 C' ∧ a = b) fun C' a b S q => ⟨S, q⟩).bind ?_
  rintro u _ s3 C3 I3 S3 ⟨S23, rfl⟩
  have F3 := (F1.step S12).step S23
  have V3 := (V1.step F1 S12).step (F1.step S12) S23
  cases e : rd s3 w with
  | none => exact .stuck
  | some t =>
    dsimp only
    cases e2 : gSlice t l u with
    | none => exact .stuck
    | some o =>
      obtain ⟨C4, I4, S4, J, k⟩ := kidW I3 S3 V3 F3 e
      rw [← J.h]
      exact .kr I4 S4 (kf_slice l u _ _ _ _ _ I4.le k e2)

/-! ### methods of an owned list -/
theorem keep_set {P : Nat → Prop} {h : MH} {p : Nat} {vs ys : List MV} (n : ¬ P p) (g : h[p]? = some (.lst vs)) : Keep P h P (h.set p (.lst ys)) := by
  refine ⟨fun a q => ⟨q, ?_⟩, fun a xs e => ?_⟩
  · rw [List.getElem?_set_ne]
    rintro rfl; exact n q
  · rw [List.getElem?_set_ne, e]
    rintro rfl; rw [g] at e; cases e
/-- the list in place i becomes ys -/
theorem Inv.mutL {C0 C : Cf} {ρ : Env} {s : TEnv} (I : Inv C ρ s) (S0 : Step C0 C) {i p : Nat} {xs ys : List OA} {D : List Nat} (F : Free C0 C D)
    (hi : C.A i = some (.lst p xs)) (g : Goods C.P C.h ys) (nd : (OA.ads ys).Nodup) (sub : ∀ a ∈ OA.ads ys, a ∈ OA.ads xs ∨ a ∈ D) :
    let C' : Cf := ⟨C.P, put C.A i (some (.lst p ys)), C.h.set p (.lst (ys.map OA.mv))⟩
    Inv C' ρ (s.set i (some (.lst (OA.ers ys)))) ∧ Step C0 C' := by
  have ndx := I.nd i _ hi
  simp only [OA.ad, List.nodup_cons] at ndx
  have gx := I.good i _ hi
  rw [Good] at gx
  have fp : ¬ C.P p := I.fr i _ hi p (by simp [OA.ad])
  have K := keep_set (ys := ys.map OA.mv) fp gx.1
  have np : p ∉ OA.ads ys := fun m => (sub p m).elim ndx.1 fun m => F.dj p m ⟨i, _, hi, by simp [OA.ad]⟩
  refine I.chg S0 F hi (o' := .lst p ys) (fun a p => p) (fun a l n => ?_) (by simp) K.tup ?_ ?_ ?_ ?_ (fun a p => .inl p) rfl
  · rw [List.getElem?_set_ne]
    rintro rfl; exact n (by simp [OA.ad])
  · rw [Good]
    refine ⟨by rw [List.getElem?_set_self (lt_of_get gx.1)], Goods.keep K ys (fun a m => ?_) g⟩
    rw [List.getElem?_set_ne]
    rintro rfl; exact np m
  · simp only [OA.ad, List.nodup_cons]; exact ⟨np, nd⟩
  · intro a m
    simp only [OA.ad, List.mem_cons] at m ⊢
    rcases m with rfl | m
    · exact .inl (.inl rfl)
    · exact (sub a m).elim (fun m => .inl (.inr m)) .inr
  · intro a m q
    simp only [OA.ad, List.mem_cons] at m
    rcases m with rfl | m
    · exact fp q
    · rcases sub a m with m | m
      · exact I.fr i _ hi a (by simp [OA.ad, m]) q
      · exact F.fr a m q
theorem ads_flat : ∀ xs : List OA, OA.ads xs = (xs.map OA.ad).flatten
  | [] => rfl
  | x :: xs => by rw [OA.ads, ads_flat xs]; rfl
theorem ads_perm {xs ys : List OA} (p : List.Perm xs ys) : List.Perm (OA.ads xs) (OA.ads ys) := by
  rw [ads_flat, ads_flat]
  exact (p.map OA.ad).flatten
/-- one is taken out of the list in place i -/
theorem Inv.outL {C0 C : Cf} {ρ : Env} {s : TEnv} (I : Inv C ρ s) (S0 : Step C0 C) {i p : Nat} {x : OA} {xs ys : List OA}
    (hi : C.A i = some (.lst p xs)) (pm : List.Perm xs (x :: ys)) :
    let C' : Cf := ⟨C.P, put C.A i (some (.lst p ys)), C.h.set p (.lst (ys.map OA.mv))⟩
    Inv C' ρ (s.set i (some (.lst (OA.ers ys)))) ∧ Step C0 C' ∧ Good C'.P C'.h x ∧ Free C0 C' x.ad := by
  have ndx := I.nd i _ hi
  simp only [OA.ad, List.nodup_cons] at ndx
  have gx := I.good i _ hi
  rw [Good, goods_iff] at gx
  have pa := ads_perm pm
  rw [OA.ads] at pa
  have nd2 := pa.nodup_iff.mp ndx.2
  have nd3 := List.nodup_append.mp nd2
  have mem : ∀ a, a ∈ x.ad ++ OA.ads ys → a ∈ OA.ads xs := fun a m => pa.mem_iff.mpr m
  have fp : ¬ C.P p := I.fr i _ hi p (by simp [OA.ad])
  have q := I.mutL S0 (D := []) Free.nil hi (ys := ys) (goods_iff.mpr fun y m => gx.2 y (pm.mem_iff.mpr (by simp [m]))) nd3.2.1 (fun a m => .inl (mem a (by simp [m])))
  refine ⟨q.1, q.2, ?_, ?_⟩
  · refine Good.keep (keep_set fp gx.1) x (fun a m => ?_) (gx.2 x (pm.mem_iff.mpr (by simp)))
    rw [List.getElem?_set_ne]
    rintro rfl
    exact ndx.1 (mem p (by simp [m]))
  · refine ⟨nd3.1, fun a m => I.fr i _ hi a (by simp [OA.ad, mem a (by simp [m])]), ?_, fun a m => S0.own a ⟨i, _, hi, by simp [OA.ad, mem a (by simp [m])]⟩, fun a m => ?_⟩
    · rintro a m ⟨j, y, ey, my⟩
      by_cases n : j = i
      · subst n
        simp at ey; subst ey
        simp only [OA.ad, List.mem_cons] at my
        rcases my with rfl | my
        · exact ndx.1 (mem a (by simp [m]))
        · exact nd3.2.2 a m a my rfl
      · simp [put_ne n] at ey
        exact I.dj j i y _ ey hi n a my (by simp [OA.ad, mem a (by simp [m])])
    · have := I.lt (a := a) ⟨i, _, hi, by simp [OA.ad, mem a (by simp [m])]⟩
      simpa using this
theorem own_lst {C : Cf} {ρ : Env} {s : TEnv} (I : Inv C ρ s) {i : Nat} {os : List OT} (e : tget s i = some (.lst os)) :
    ∃ p xs, C.A i = some (.lst p xs) ∧ OA.ers xs = os ∧ ρ[i]? = some (some (.ref p)) ∧ C.h[p]? = some (.lst (xs.map OA.mv)) := by
  rw [I.er i] at e
  cases hi : C.A i with
  | none => rw [hi] at e; cases e
  | some o =>
    rw [hi] at e
    simp only [Option.map_some, Option.some.injEq] at e
    cases o with
    | sh v t => simp [OA.er] at e
    | tup a xs => simp [OA.er] at e
    | dct a ep ts ks xs => simp [OA.er] at e
    | lst p xs =>
      simp only [OA.er, OT.lst.injEq] at e
      have g := I.good i _ hi
      rw [Good] at g
      exact ⟨p, xs, rfl, e, I.mv i _ hi, g.1⟩
theorem isLst_iff {s : TEnv} {i : Nat} (e : isLst s i = true) : ∃ os, tget s i = some (.lst os) := by
  unfold isLst at e
  split at e
  · next os q => exact ⟨os, q⟩
  · cases e
theorem ers_append : ∀ xs ys : List OA, OA.ers (xs ++ ys) = OA.ers xs ++ OA.ers ys
  | [], ys => rfl
  | x :: xs, ys => by simp [OA.ers, ers_append xs ys]
theorem meth_start {C : Cf} {ρ : Env} {s : TEnv} (I : Inv C ρ s) {i : Nat} (e : isLst s i = true) {f : Fn} {as : EA} :
    ∃ p, ρ[i]? = some (some (.ref p)) ∧ eMeth .tlist f (eVar i) as ρ C.h = (as ρ C.h).bind fun xs h2 => f (.ref p :: xs) h2 := by
  obtain ⟨os, q⟩ := isLst_iff e
  obtain ⟨p, xs, hi, er, m, g⟩ := own_lst I q
  refine ⟨p, m, ?_⟩
  unfold eMeth eVar
  rw [m]
  simp [isTy, g]
theorem le_append {m : Bool} {i : Nat} {a : E} {ta : TE} (ha : LE a ta) : LE (eMeth .tlist mAppend (eVar i) (aCons a aNil)) (tAppend m i ta) := by
  intro C ρ s I
  unfold tAppend
  split
  case isFalse => exact .stuck
  case isTrue c =>
    obtain ⟨p, mp, em⟩ := meth_start I c (f := mAppend) (as := aCons a aNil)
    rw [em]
    have e2 : ((aCons a aNil) ρ C.h).bind (fun xs h2 => mAppend (.ref p :: xs) h2) = (a ρ C.h).bind fun x h2 => mAppend [.ref p, x] h2 := by
      unfold aCons aNil
      cases a ρ C.h <;> rfl
    rw [e2]
    refine (ha C ρ s I).bind ?_
    rintro w x s1 C1 I1 S1 ⟨D1, V1, F1⟩
    cases e : eat m s1 w with
    | none => exact .stuck
    | some q =>
      obtain ⟨o, s2⟩ := q
      obtain ⟨C2, oa, h2, I2, S2, S2', er, mv, g, F⟩ := eat_ok (E := []) I1 S1 V1 (by simpa using F1) e
      rw [List.append_nil] at F
      dsimp only
      cases q : tget s2 i with
      | none => exact .stuck
      | some oo =>
        cases oo with
        | sh _ => exact .stuck
        | tup _ => exact .stuck
        | dct _ _ => exact .stuck
        | lst os =>
          obtain ⟨p', xs, hi, ex, m', gp⟩ := own_lst I2 q
          have : p' = p := by rw [mp] at m'; simpa using m'.symm
          subst this
          dsimp only
          split
          · next c =>
            have l : (xs.map OA.mv).length < lim := by rw [List.length_map, ← ers_len, ex]; exact c
            have gx := I2.good i _ hi
            rw [Good] at gx
            have ndx := I2.nd i _ hi
            simp only [OA.ad, List.nodup_cons] at ndx
            have z := I2.mutL S2 F hi (ys := xs ++ [oa]) (goods_append.mpr ⟨gx.2, by simp [Goods, g]⟩)
              (by
                rw [ads_append]
                simp only [OA.ads, List.append_nil]
                refine List.nodup_append.mpr ⟨ndx.2, F.nd, fun a ma b mb ee => ?_⟩
                subst ee
                exact F.dj a mb ⟨i, _, hi, by simp [OA.ad, ma]⟩)
              (fun a ma => by
                rw [ads_append] at ma
                simpa [OA.ads] using ma)
            rw [← h2]
            have em2 : mAppend [.ref p', x] C2.h = .ok .non (C2.h.set p' (.lst ((xs ++ [oa]).map OA.mv))) := by
              simp [mAppend, gp, l, mv]
              simpa using l
            rw [em2]
            have eo : OA.ers (xs ++ [oa]) = os ++ [o] := by rw [ers_append, ex]; simp [OA.ers, er]
            rw [eo] at z
            exact LR.ok (Q := VW ρ C) (a := .ot (.sh .non)) (b := .non) z.1 z.2 (.sh (by simp [Rep]))
          · exact .stuck
theorem meth0 {f : Fn} {i p : Nat} {ρ : Env} {h : MH} {vs : List MV} (m : ρ[i]? = some (some (.ref p))) (g : h[p]? = some (.lst vs)) : eMeth .tlist f (eVar i) aNil ρ h = f [.ref p] h := by
  unfold eMeth eVar aNil
  rw [m]
  simp [isTy, g]
theorem ers_getElem? {j : Nat} : ∀ {xs : List OA}, (OA.ers xs)[j]? = xs[j]?.map OA.er := by
  intro xs; rw [ers_map, List.getElem?_map]
theorem erase_perm {α : Type} : ∀ {xs : List α} {j : Nat} {x : α}, xs[j]? = some x → List.Perm xs (x :: xs.eraseIdx j)
  | [], j, x, e => by simp at e
  | y :: ys, 0, x, e => by simp at e; subst e; exact .refl _
  | y :: ys, j + 1, x, e => by
    simp only [List.getElem?_cons_succ] at e
    simp only [List.eraseIdx_cons_succ]
    exact ((erase_perm e).cons y).trans (.swap _ _ _)
theorem erase_map {α β : Type} (f : α → β) : ∀ (xs : List α) (j : Nat), (xs.eraseIdx j).map f = (xs.map f).eraseIdx j
  | [], j => by simp
  | y :: ys, 0 => by simp
  | y :: ys, j + 1 => by simp [erase_map f ys j]
theorem le_pop0 {i : Nat} : LE (eMeth .tlist mPop (eVar i) aNil) (tPop0 i) := by
  intro C ρ s I
  unfold tPop0
  cases q : tget s i with
  | none => exact .stuck
  | some oo =>
    cases oo with
    | sh _ => exact .stuck
    | tup _ => exact .stuck
    | dct _ _ => exact .stuck
    | lst os =>
      obtain ⟨p, xs, hi, ex, m, gp⟩ := own_lst I q
      subst ex
      dsimp only
      rw [meth0 m gp, ers_getElem?, ers_len]
      cases e : xs[xs.length - 1]? with
      | none => exact .stuck
      | some x =>
        have pm : List.Perm xs (x :: xs.dropLast) := by
          have hne : xs ≠ [] := by rintro rfl; simp at e
          have hx : xs = xs.dropLast ++ [x] := by
            have h1 := List.dropLast_concat_getLast hne
            rw [List.getLast_eq_getElem] at h1
            have h2 := (List.getElem?_eq_some_iff.mp e).2
            rw [h2] at h1
            exact h1.symm
          have h3 : List.Perm (xs.dropLast ++ [x]) ([x] ++ xs.dropLast) := List.perm_append_comm
          rw [← hx] at h3
          exact h3
        obtain ⟨I', S', g', F'⟩ := I.outL I.refl hi pm
        have e1 : mPop [.ref p] C.h = .ok x.mv (C.h.set p (.lst (xs.dropLast.map OA.mv))) := by
          simp [mPop, gp, e, List.map_dropLast]
        rw [e1]
        have eo : OA.ers xs.dropLast = (OA.ers xs).dropLast := by rw [ers_map, ers_map, List.map_dropLast]
        rw [eo] at I'
        exact LR.ok (b := x.mv) I' S' ⟨x.ad, ⟨x, rfl, rfl, g', rfl⟩, F'⟩
theorem le_clear {i : Nat} : LE (eMeth .tlist mClear (eVar i) aNil) (tClear i) := by
  intro C ρ s I
  unfold tClear
  cases q : tget s i with
  | none => exact .stuck
  | some oo =>
    cases oo with
    | sh _ => exact .stuck
    | tup _ => exact .stuck
    | dct _ _ => exact .stuck
    | lst os =>
      obtain ⟨p, xs, hi, ex, m, gp⟩ := own_lst I q
      dsimp only
      rw [meth0 m gp]
      have z := I.mutL I.refl (D := []) .nil hi (ys := []) (by simp [Goods]) (by simp [OA.ads]) (by simp [OA.ads])
      have e1 : mClear [.ref p] C.h = .ok .non (C.h.set p (.lst ([].map OA.mv))) := by simp [mClear, gp]
      rw [e1]
      exact LR.ok (Q := VW ρ C) (a := .ot (.sh .non)) (b := .non) z.1 z.2 (.sh (by simp [Rep]))
theorem le_pop1 {i : Nat} {a : E} {ta : TE} (ha : LE a ta) : LE (eMeth .tlist mPop (eVar i) (aCons a aNil)) (tPop1 i ta) := by
  intro C ρ s I
  unfold tPop1
  split
  case isFalse => exact .stuck
  case isTrue c =>
    obtain ⟨p, mp, em⟩ := meth_start I c (f := mPop) (as := aCons a aNil)
    rw [em]
    have e2 : ((aCons a aNil) ρ C.h).bind (fun xs h2 => mPop (.ref p :: xs) h2) = (a ρ C.h).bind fun x h2 => mPop [.ref p, x] h2 := by
      unfold aCons aNil
      cases a ρ C.h <;> rfl
    rw [e2]
    refine (ha C ρ s I).bind ?_
    rintro w x s1 C1 I1 S1 ⟨D1, V1, F1⟩
    split
    · next k =>
      have ee := vd_int V1; subst ee
      cases q : tget s1 i with
      | none => exact .stuck
      | some oo =>
        cases oo with
        | sh _ => exact .stuck
        | tup _ => exact .stuck
        | dct _ _ => exact .stuck
        | lst os =>
          obtain ⟨p', xs, hi, ex, m', gp⟩ := own_lst I1 q
          have : p' = p := by rw [mp] at m'; simpa using m'.symm
          subst this
          subst ex
          dsimp only
          split
          · next c2 =>
            rw [ers_len]
            cases e3 : ixN xs.length k with
            | none => exact .stuck
            | some j =>
              dsimp only
              rw [ers_getElem?]
              cases e : xs[j]? with
              | none => exact .stuck
              | some x =>
                have lj := (List.getElem?_eq_some_iff.mp e).1
                have pm : List.Perm xs (x :: xs.eraseIdx j) := erase_perm e
                obtain ⟨I', S', g', F'⟩ := I1.outL S1 hi pm
                have e1 : mPop [.ref p', .int k] C1.h = .ok x.mv (C1.h.set p' (.lst ((xs.eraseIdx j).map OA.mv))) := by
                  simp only [mPop, gp]
                  rw [if_pos (near_pop c2), List.length_map, e3]
                  simp [e, erase_map]
                rw [e1]
                have eo : OA.ers (xs.eraseIdx j) = (OA.ers xs).eraseIdx j := by rw [ers_map, ers_map, erase_map]
                rw [eo] at I'
                exact LR.ok (b := x.mv) I' S' ⟨x.ad, ⟨x, rfl, rfl, g', rfl⟩, F'⟩
          · exact .stuck
    · exact .stuck

/-! ### statements -/
def Same (W : List Nat) (ρ ρ' : Env) : Prop := ρ'.length = ρ.length ∧ ∀ i, i ∉ W → ρ'[i]? = ρ[i]?
theorem Same.refl {W : List Nat} {ρ : Env} : Same W ρ ρ := ⟨rfl, fun _ _ => rfl⟩
theorem Same.trans {W : List Nat} {ρ ρ' ρ'' : Env} (a : Same W ρ ρ') (b : Same W ρ' ρ'') : Same W ρ ρ'' := ⟨b.1.trans a.1, fun i n => (b.2 i n).trans (a.2 i n)⟩
def SRL (C0 : Cf) (W : List Nat) (ρ : Env) (x : TSR) (y : SR) : Prop := match x with
  | .nx s' => ∃ ρ' C', y = .nx ρ' C'.h ∧ Inv C' ρ' s' ∧ Step C0 C' ∧ Same W ρ ρ'
  | .bk s' => ∃ ρ' C', y = .bk ρ' C'.h ∧ Inv C' ρ' s' ∧ Step C0 C' ∧ Same W ρ ρ'
  | .ct s' => ∃ ρ' C', y = .ct ρ' C'.h ∧ Inv C' ρ' s' ∧ Step C0 C' ∧ Same W ρ ρ'
  | .rt o s' => ∃ v ρ' C', y = .rt v C'.h ∧ Inv C' ρ' s' ∧ Step C0 C' ∧ Same W ρ ρ' ∧ VW ρ' C0 C' (.ot o) v
  | .exc c s' => ∃ ρ' C', y = .exc c ρ' C'.h ∧ Inv C' ρ' s' ∧ Step C0 C' ∧ Same W ρ ρ'
  | .stuck => True
theorem SRL.up {C0 C : Cf} {W : List Nat} {ρ ρ1 : Env} {x : TSR} {y : SR} (S : Step C0 C) (m : Same W ρ ρ1) (H : SRL C W ρ1 x y) : SRL C0 W ρ x y := by
  cases x with
  | nx s' => obtain ⟨ρ', C', e, I, S', m'⟩ := H; exact ⟨ρ', C', e, I, S.trans S', m.trans m'⟩
  | bk s' => obtain ⟨ρ', C', e, I, S', m'⟩ := H; exact ⟨ρ', C', e, I, S.trans S', m.trans m'⟩
  | ct s' => obtain ⟨ρ', C', e, I, S', m'⟩ := H; exact ⟨ρ', C', e, I, S.trans S', m.trans m'⟩
  | exc c s' => obtain ⟨ρ', C', e, I, S', m'⟩ := H; exact ⟨ρ', C', e, I, S.trans S', m.trans m'⟩
  | rt o s' => obtain ⟨v, ρ', C', e, I, S', m', D, V, F⟩ := H; exact ⟨v, ρ', C', e, I, S.trans S', m.trans m', D, V, F.up S⟩
  | stuck => exact True.intro
def LS (W : List Nat) (m : S) (t : TS) : Prop := ∀ C ρ s, Inv C ρ s → SRL C W ρ (t s) (m ρ C.h)
theorem LR.into {α β : Type} {C0 : Cf} {ρ : Env} {W : List Nat} {Q : Cf → α → β → Prop} {x : TR α} {y : Res β} {f : α → TEnv → TSR} {g : β → MH → SR}
    (H : LR C0 ρ Q x y) (K : ∀ a b s' C', Inv C' ρ s' → Step C0 C' → Q C' a b → SRL C0 W ρ (f a s') (g b C'.h)) : SRL C0 W ρ (x.into f) (y.into ρ g) := by
  cases x with
  | ok a s' =>
    obtain ⟨b, C', e, I, S, q⟩ := H
    subst e
    exact K a b s' C' I S q
  | exc c s' =>
    obtain ⟨C', e, I, S⟩ := H
    subst e
    exact ⟨ρ, C', rfl, I, S, .refl⟩
  | stuck => exact True.intro
theorem ls_skip {W : List Nat} : LS W sSkip tsSkip := fun C ρ s I => ⟨ρ, C, rfl, I, I.refl, .refl⟩
theorem ls_seq {W : List Nat} {a b : S} {ta tb : TS} (ha : LS W a ta) (hb : LS W b tb) : LS W (sSeq a b) (tsSeq ta tb) := by
  intro C ρ s I
  have H := ha C ρ s I
  unfold sSeq tsSeq
  cases e : ta s with
  | nx s' =>
    rw [e] at H
    obtain ⟨ρ', C', e', I', S', m'⟩ := H
    rw [e']
    exact SRL.up S' m' (hb C' ρ' s' I')
  | bk s' => rw [e] at H; obtain ⟨ρ', C', e', I', S', m'⟩ := H; rw [e']; exact ⟨ρ', C', rfl, I', S', m'⟩
  | ct s' => rw [e] at H; obtain ⟨ρ', C', e', I', S', m'⟩ := H; rw [e']; exact ⟨ρ', C', rfl, I', S', m'⟩
  | exc c s' => rw [e] at H; obtain ⟨ρ', C', e', I', S', m'⟩ := H; rw [e']; exact ⟨ρ', C', rfl, I', S', m'⟩
  | rt o s' => rw [e] at H; obtain ⟨v, ρ', C', e', I', S', m'⟩ := H; rw [e']; exact ⟨v, ρ', C', rfl, I', S', m'⟩
  | stuck => exact True.intro
theorem ls_expr {W : List Nat} {a : E} {ta : TE} (ha : LE a ta) : LS W (sExpr a) (tsExpr ta) := by
  intro C ρ s I
  refine (ha C ρ s I).into ?_
  rintro w x s1 C1 I1 S1 _
  exact ⟨ρ, C1, rfl, I1, S1, .refl⟩
theorem ls_ret {W : List Nat} {io : List Nat} {a : E} {ta : TE} (ha : LE a ta) : LS W (sRet a) (tsRet io ta) := by
  intro C ρ s I
  refine (ha C ρ s I).into ?_
  rintro w x s1 C1 I1 S1 ⟨D, V, F⟩
  cases w with
  | ot o => exact ⟨x, ρ, C1, rfl, I1, S1, .refl, D, V, F⟩
  | al i =>
    dsimp only
    cases q : tget s1 i with
    | none => exact True.intro
    | some o =>
      dsimp only
      split
      · have e : eat false s1 (.al i) = some (.sh o.tree, s1.set i (some (.sh o.tree))) := by simp [q]
        obtain ⟨C2, oa, h2, I2, S2, S2', er, mv, g, F2⟩ := eat_ok (E := []) I1 S1 V (by simpa using F) e
        refine ⟨x, ρ, C2, ?_, I2, S2, .refl, oa.ad, ⟨oa, er, mv, g, rfl⟩, by simpa using F2⟩
        rw [h2]
      · have e : eat true s1 (.al i) = some (o, s1.set i none) := by simp [q]
        obtain ⟨C2, oa, h2, I2, S2, S2', er, mv, g, F2⟩ := eat_ok (E := []) I1 S1 V (by simpa using F) e
        refine ⟨x, ρ, C2, ?_, I2, S2, .refl, oa.ad, ⟨oa, er, mv, g, rfl⟩, by simpa using F2⟩
        rw [h2]
theorem ls_retN {W : List Nat} : LS W sRetN tsRetN := fun C ρ s I => ⟨.non, ρ, C, rfl, I, I.refl, .refl, .sh (by simp [Rep])⟩
theorem ls_if {W : List Nat} {c : E} {tc : TE} {a b : S} {ta tb : TS} (hc : LE c tc) (ha : LS W a ta) (hb : LS W b tb) : LS W (sIf c a b) (tsIf tc ta tb) := by
  intro C ρ s I
  refine (hc C ρ s I).into ?_
  rintro w x s1 C1 I1 S1 ⟨D, V, F⟩
  split
  · have e := vd_bl V; subst e
    exact SRL.up S1 .refl (ha C1 ρ s1 I1)
  · have e := vd_bl V; subst e
    exact SRL.up S1 .refl (hb C1 ρ s1 I1)
  · exact True.intro
theorem ls_raise {W : List Nat} (c : Nat) : LS W (sRaise c) (tsRaise c) := fun C ρ s I => ⟨ρ, C, rfl, I, I.refl, .refl⟩

/-! ### targets -/
def LG (W : List Nat) (g : G) (tg : TG) : Prop := ∀ C0 C ρ s (oa : OA) s' E, Inv C ρ s → Step C0 C → Good C.P C.h oa → Free C0 C (oa.ad ++ E) → tg oa.er s = some s' →
  ∃ ρ' A', g oa.mv ρ C.h = some ρ' ∧ Inv ⟨C.P, A', C.h⟩ ρ' s' ∧ Step C0 ⟨C.P, A', C.h⟩ ∧ Same W ρ ρ' ∧ Free C0 ⟨C.P, A', C.h⟩ E
def LGs (W : List Nat) (g : Gs) (tg : TGs) : Prop := ∀ C0 C ρ s (xs : List OA) s' E, Inv C ρ s → Step C0 C → Goods C.P C.h xs → Free C0 C (OA.ads xs ++ E) → tg (OA.ers xs) s = some s' →
  ∃ ρ' A', g (xs.map OA.mv) ρ C.h = some ρ' ∧ Inv ⟨C.P, A', C.h⟩ ρ' s' ∧ Step C0 ⟨C.P, A', C.h⟩ ∧ Same W ρ ρ' ∧ Free C0 ⟨C.P, A', C.h⟩ E
theorem lg_name {W : List Nat} {i : Nat} (m : i ∈ W) : LG W (gName i) (tgName i) := by
  intro C0 C ρ s oa s' E I S g F e
  simp only [tgName, Option.some.injEq] at e
  subst e
  have sm : Same W ρ (ρ.set i (some oa.mv)) := by
    refine ⟨by simp, ?_⟩
    intro j n
    rw [List.getElem?_set_ne]
    rintro rfl; exact n m
  by_cases l : i < s.length
  · have q := I.setv S F.left g l
    refine ⟨_, _, rfl, q.1, q.2, sm, ⟨F.right.nd, F.right.fr, ?_, F.right.nw, F.right.lt⟩⟩
    rintro a ma ⟨j, x, ex, mx⟩
    by_cases n : j = i
    · subst n
      simp at ex; subst ex
      exact (List.nodup_append.mp F.nd).2.2 a mx a ma rfl
    · simp [put_ne n] at ex
      exact F.right.dj a ma ⟨j, x, ex, mx⟩
  · have l' : ¬ i < ρ.length := by rw [I.len]; exact l
    refine ⟨_, C.A, rfl, ?_, S, sm, F.right⟩
    rw [List.set_eq_of_length_le (by omega), List.set_eq_of_length_le (by omega)]
    exact I
theorem lgs_nil {W : List Nat} : LGs W gNil tgNil := by
  intro C0 C ρ s xs s' E I S g F e
  cases xs with
  | nil =>
    simp only [OA.ers, tgNil, Option.some.injEq] at e
    subst e
    exact ⟨ρ, C.A, rfl, I, S, .refl, F.right⟩
  | cons x xs => simp [OA.ers, tgNil] at e
theorem lgs_cons {W : List Nat} {g : G} {tg : TG} {gs : Gs} {tgs : TGs} (h1 : LG W g tg) (h2 : LGs W gs tgs) : LGs W (gCons g gs) (tgCons tg tgs) := by
  intro C0 C ρ s xs s' E I S g F e
  cases xs with
  | nil => simp [OA.ers, tgCons] at e
  | cons x xs =>
    simp only [OA.ers, tgCons] at e
    rw [Goods] at g
    rw [OA.ads, List.append_assoc] at F
    cases q : tg x.er s with
    | none => rw [q] at e; cases e
    | some s1 =>
      rw [q] at e
      obtain ⟨ρ1, A1, e1, I1, S1, m1, F1⟩ := h1 C0 C ρ s x s1 _ I S g.1 F q
      obtain ⟨ρ2, A2, e2, I2, S2, m2, F2⟩ := h2 C0 _ ρ1 s1 xs s' E I1 S1 g.2 F1 e
      refine ⟨ρ2, A2, ?_, I2, S2, m1.trans m2, F2⟩
      simp only [List.map_cons, gCons, e1]
      exact e2
theorem Free.sub {C0 C : Cf} {D D' : List Nat} (F : Free C0 C D) (s : List.Sublist D' D) : Free C0 C D' :=
  ⟨F.nd.sublist s, fun a m => F.fr a (s.subset m), fun a m => F.dj a (s.subset m), fun a m => F.nw a (s.subset m), fun a m => F.lt a (s.subset m)⟩
theorem parts_ok {P : Nat → Prop} {h : MH} {oa : OA} {os : List OT} (g : Good P h oa) (e : oa.er.parts = some os) :
    ∃ xs, OA.ers xs = os ∧ items h oa.mv = some (xs.map OA.mv) ∧ Goods P h xs ∧ List.Sublist (OA.ads xs) oa.ad := by
  cases oa with
  | sh v t =>
    rw [Good] at g
    cases t <;> simp only [OA.er, OT.parts, Option.some.injEq] at e <;> try (simp at e; done)
    · rw [Rep] at g
      obtain ⟨a, vs, rfl, _, g, r⟩ := g
      refine ⟨flatA vs _, ?_, ?_, flatA_goods r, ?_⟩
      · rw [flatA_ers (reps_len r)]; exact e
      · simp [OA.mv, items, g, flatA_mv (reps_len r)]
      · rw [flatA_ads]; exact List.nil_sublist _
    · rw [Rep] at g
      obtain ⟨a, vs, rfl, g, r⟩ := g
      refine ⟨flatA vs _, ?_, ?_, flatA_goods r, ?_⟩
      · rw [flatA_ers (reps_len r)]; exact e
      · simp [OA.mv, items, g, flatA_mv (reps_len r)]
      · rw [flatA_ads]; exact List.nil_sublist _
  | lst a xs =>
    rw [Good] at g
    simp only [OA.er, OT.parts, Option.some.injEq] at e
    exact ⟨xs, e, by simp [OA.mv, items, g.1], g.2, by simp [OA.ad]⟩
  | tup a xs =>
    rw [Good] at g
    simp only [OA.er, OT.parts, Option.some.injEq] at e
    exact ⟨xs, e, by simp [OA.mv, items, g.1], g.2, by simp [OA.ad]⟩
  | dct a ep ts ks xs => simp [OA.er, OT.parts] at e
theorem lg_tup {W : List Nat} {n : Nat} {gs : Gs} {tgs : TGs} (h : LGs W gs tgs) : LG W (gTup n gs) (tgTup n tgs) := by
  intro C0 C ρ s oa s' E I S g F e
  unfold tgTup at e
  cases q : oa.er.parts with
  | none => rw [q] at e; cases e
  | some os =>
    rw [q] at e
    dsimp only at e
    split at e
    · next l =>
      obtain ⟨xs, ex, it, gx, sb⟩ := parts_ok g q
      subst ex
      obtain ⟨ρ1, A1, e1, r⟩ := h C0 C ρ s xs s' E I S gx (F.sub (sb.append (List.Sublist.refl E))) e
      refine ⟨ρ1, A1, ?_, r⟩
      unfold gTup
      rw [it]
      dsimp only
      rw [if_pos (by rw [List.length_map, ← ers_len]; exact l)]
      exact e1
    · cases e
theorem ls_asg {W : List Nat} {m : Bool} {g : G} {tg : TG} {a : E} {ta : TE} (hg : LG W g tg) (ha : LE a ta) : LS W (sAsg g a) (tsAsg m tg ta) := by
  intro C ρ s I
  refine (ha C ρ s I).into ?_
  rintro w x s1 C1 I1 S1 ⟨D, V, F⟩
  cases e : eat m s1 w with
  | none => exact True.intro
  | some p =>
    obtain ⟨o, s2⟩ := p
    dsimp only
    obtain ⟨C2, oa, h2, I2, S2, S2', er, mv, gg, F2⟩ := eat_ok (E := []) I1 S1 V (by simpa using F) e
    subst er; subst mv
    cases q : tg oa.er s2 with
    | none => exact True.intro
    | some s3 =>
      obtain ⟨ρ', A', e', I', S', m', _⟩ := hg C C2 ρ s2 oa s3 [] I2 S2 gg F2 q
      rw [← h2, e']
      exact ⟨ρ', ⟨C2.P, A', C2.h⟩, rfl, I', S', m'⟩
theorem set_mem {α : Type} {xs : List α} {j : Nat} {o x : α} (m : x ∈ xs.set j o) : x ∈ xs ∨ x = o := by
  rcases List.mem_or_eq_of_mem_set m with h | h
  · exact .inl h
  · exact .inr h
theorem ads_set : ∀ {xs : List OA} {j : Nat} {o : OA}, (OA.ads xs).Nodup → o.ad.Nodup → (∀ a ∈ o.ad, a ∉ OA.ads xs) → (OA.ads (xs.set j o)).Nodup
  | [], j, o, n, n', d => by simp [OA.ads]
  | x :: xs, 0, o, n, n', d => by
    simp only [List.set_cons_zero, OA.ads] at n ⊢
    have q := List.nodup_append.mp n
    refine List.nodup_append.mpr ⟨n', q.2.1, fun a m b m' e => ?_⟩
    subst e
    exact d a m (by simp [OA.ads, m'])
  | x :: xs, j + 1, o, n, n', d => by
    simp only [List.set_cons_succ, OA.ads] at n ⊢
    have q := List.nodup_append.mp n
    refine List.nodup_append.mpr ⟨q.1, ads_set q.2.1 n' (fun a m m' => d a m (by simp [OA.ads, m'])), fun a m b m' e => ?_⟩
    subst e
    obtain ⟨y, my, ay⟩ := mem_ads.mp m'
    rcases set_mem my with my | rfl
    · exact q.2.2 a m a (mem_ads.mpr ⟨y, my, ay⟩) rfl
    · exact d a ay (by simp [OA.ads, m])

theorem ers_set : ∀ (xs : List OA) (j : Nat) (o : OA), OA.ers (xs.set j o) = (OA.ers xs).set j o.er := by
  intro xs j o; rw [ers_map, ers_map, List.map_set]
theorem ls_setIx {W : List Nat} {m : Bool} {a k : E} {ta tk : TE} {i : Nat} (ha : LE a ta) (hk : LE k tk) : LS W (sSetIx a (eVar i) k) (tsSetIx m ta i tk) := by
  intro C ρ s I
  refine (ha C ρ s I).into ?_
  rintro w x s1 C1 I1 S1 ⟨D1, V1, F1⟩
  split
  case isFalse => exact True.intro
  case isTrue c =>
    obtain ⟨os, q0⟩ := isLst_iff c
    obtain ⟨p, xs0, hi0, er0, m0, g0⟩ := own_lst I1 q0
    have e0 : eVar i ρ C1.h = .ok (.ref p) C1.h := by unfold eVar; rw [m0]
    rw [e0, Res.into_ok]
    refine (LR.up S1 (hk C1 ρ s1 I1) (Q' := fun C' a b => Step C1 C' ∧ VW ρ C1 C' a b) fun C' a b S q => ⟨S, q⟩).into ?_
    rintro v y s2 C2 I2 S2 ⟨S12, D2, V2, F2⟩
    split
    · next j =>
      have ey := vd_int V2; subst ey
      cases e : eat m s2 w with
      | none => exact True.intro
      | some z =>
        obtain ⟨o, s3⟩ := z
        obtain ⟨C3, oa, h3, I3, S3, S3', er, mv, gg, F3⟩ := eat_ok (E := []) I2 S2 (V1.step F1 S12) (by simpa using F1.step S12) e
        subst er; subst mv
        rw [List.append_nil] at F3
        dsimp only
        cases q : tget s3 i with
        | none => exact True.intro
        | some oo =>
          cases oo with
          | sh _ => exact True.intro
          | tup _ => exact True.intro
          | dct _ _ => exact True.intro
          | lst os =>
            obtain ⟨p', xs, hi, ex, m', gp⟩ := own_lst I3 q
            have : p' = p := by rw [m0] at m'; simpa using m'.symm
            subst this
            subst ex
            dsimp only
            rw [ers_len]
            cases e4 : ixN xs.length j with
            | none => exact True.intro
            | some n =>
              have gx := I3.good i _ hi
              rw [Good] at gx
              have ndx := I3.nd i _ hi
              simp only [OA.ad, List.nodup_cons] at ndx
              have z := I3.mutL S3 F3 hi (ys := xs.set n oa)
                (goods_iff.mpr fun y my => (set_mem my).elim (fun my => goods_iff.mp gx.2 y my) fun e => e ▸ gg)
                (ads_set ndx.2 F3.nd fun a ma ma' => F3.dj a ma ⟨i, _, hi, by simp [OA.ad, ma']⟩)
                (fun a ma => by
                  obtain ⟨y, my, ay⟩ := mem_ads.mp ma
                  rcases set_mem my with my | rfl
                  · exact .inl (mem_ads.mpr ⟨y, my, ay⟩)
                  · exact .inr ay)
              rw [ers_set] at z
              have e5 : setIx (.ref p') (.int j) oa.mv C2.h = some (C3.h.set p' (.lst ((xs.set n oa).map OA.mv))) := by
                rw [← h3]
                simp [setIx, gp, e4, List.map_set]
              rw [e5]
              exact ⟨ρ, _, rfl, z.1, z.2, .refl⟩
    · exact True.intro

/-! ### loops -/
def TItmR (C : Cf) : Itm → TItm → Prop
  | .one v, .one t => Rep C.P C.h t v
  | .two v w, .two t u => Rep C.P C.h t v ∧ Rep C.P C.h u w
  | _, _ => False
def ItmsR (C : Cf) : List Itm → List TItm → Prop
  | [], ts => ts = []
  | m :: ms, ts => ∃ t r, ts = t :: r ∧ TItmR C m t ∧ ItmsR C ms r
theorem TItmR.step {C C' : Cf} (S : Step C C') {m : Itm} {t : TItm} (r : TItmR C m t) : TItmR C' m t := by
  cases m <;> cases t <;> simp only [TItmR] at r ⊢
  · exact S.rep r
  · exact ⟨S.rep r.1, S.rep r.2⟩
theorem ItmsR.step {C C' : Cf} (S : Step C C') : ∀ {ms : List Itm} {ts : List TItm}, ItmsR C ms ts → ItmsR C' ms ts
  | [], ts, r => r
  | m :: ms, ts, r => by
    obtain ⟨t, r', rfl, q1, q2⟩ := r
    exact ⟨t, r', rfl, q1.step S, ItmsR.step S q2⟩
def LGI (W : List Nat) (g : GI) (tg : TGI) : Prop := ∀ C0 C ρ s m tm s', Inv C ρ s → Step C0 C → TItmR C m tm → tg tm s = some s' →
  ∃ ρ' A', g m ρ C.h = some ρ' ∧ Inv ⟨C.P, A', C.h⟩ ρ' s' ∧ Step C0 ⟨C.P, A', C.h⟩ ∧ Same W ρ ρ'
theorem lgi_one {W : List Nat} {g : G} {tg : TG} (h : LG W g tg) : LGI W (gOne g) (tgOne tg) := by
  intro C0 C ρ s m tm s' I S r e
  cases m <;> cases tm <;> simp only [TItmR] at r <;> simp only [tgOne] at e
  · next v t =>
    obtain ⟨ρ', A', e', I', S', m', _⟩ := h C0 C ρ s (.sh v t) s' [] I S (by rw [Good]; exact r) .nil e
    exact ⟨ρ', A', e', I', S', m'⟩
  · cases e
theorem lgi_two {W : List Nat} {g k : G} {tg tk : TG} (h : LG W g tg) (h' : LG W k tk) : LGI W (gTwo g k) (tgTwo tg tk) := by
  intro C0 C ρ s m tm s' I S r e
  cases m <;> cases tm <;> simp only [TItmR] at r <;> simp only [tgTwo] at e
  · next v t =>
    obtain ⟨ρ', A', e', I', S', m', _⟩ := lg_tup (n := 2) (lgs_cons h (lgs_cons h' lgs_nil)) C0 C ρ s (.sh v t) s' [] I S (by rw [Good]; exact r) .nil e
    exact ⟨ρ', A', e', I', S', m'⟩
  · next v w t u =>
    obtain ⟨ρ', A', e', I', S', m', _⟩ := lgs_cons h (lgs_cons h' lgs_nil) C0 C ρ s [.sh v t, .sh w u] s' [] I S (by simp only [Goods, Good]; exact ⟨r.1, r.2, True.intro⟩) .nil e
    exact ⟨ρ', A', e', I', S', m'⟩
theorem loop_ok {W : List Nat} {g : GI} {tg : TGI} {b : S} {tb : TS} {ok : MH → Bool} (hg : LGI W g tg) (hb : LS W b tb) :
    ∀ (ms : List Itm) (tms : List TItm) (C : Cf) (ρ : Env) (s : TEnv), Inv C ρ s → (∀ C', Step C C' → ok C'.h = true) → ItmsR C ms tms → SRL C W ρ (tloop tg tb tms s) (loop ok g b ms ρ C.h)
  | [], tms, C, ρ, s, I, k, r => by
    simp only [ItmsR] at r
    subst r
    simp only [tloop, loop, k C I.refl, if_true]
    exact ⟨ρ, C, rfl, I, I.refl, .refl⟩
  | m :: ms, tms, C, ρ, s, I, k, r => by
    obtain ⟨t, r', rfl, q1, q2⟩ := r
    simp only [tloop, loop, k C I.refl, if_true]
    cases e : tg t s with
    | none => exact True.intro
    | some s1 =>
      obtain ⟨ρ1, A1, e1, I1, S1, m1⟩ := hg C C ρ s m t s1 I I.refl q1 e
      rw [e1]
      have H := hb _ ρ1 s1 I1
      dsimp only
      dsimp only at H
      cases e2 : tb s1 with
      | nx s2 =>
        rw [e2] at H
        obtain ⟨ρ2, C2, e3, I2, S2, m2⟩ := H
        rw [e3]
        have S12 := S1.trans S2
        exact SRL.up S12 (m1.trans m2) (loop_ok hg hb ms r' C2 ρ2 s2 I2 (fun C' S => k C' (S12.trans S)) (q2.step S12))
      | ct s2 =>
        rw [e2] at H
        obtain ⟨ρ2, C2, e3, I2, S2, m2⟩ := H
        rw [e3]
        have S12 := S1.trans S2
        exact SRL.up S12 (m1.trans m2) (loop_ok hg hb ms r' C2 ρ2 s2 I2 (fun C' S => k C' (S12.trans S)) (q2.step S12))
      | bk s2 =>
        rw [e2] at H
        obtain ⟨ρ2, C2, e3, I2, S2, m2⟩ := H
        rw [e3]
        exact ⟨ρ2, C2, rfl, I2, S1.trans S2, m1.trans m2⟩
      | rt o s2 =>
        rw [e2] at H
        obtain ⟨v, ρ2, C2, e3, I2, S2, m2, D, V, F⟩ := H
        rw [e3]
        exact ⟨v, ρ2, C2, rfl, I2, S1.trans S2, m1.trans m2, D, V, F.up S1⟩
      | exc c s2 =>
        rw [e2] at H
        obtain ⟨ρ2, C2, e3, I2, S2, m2⟩ := H
        rw [e3]
        exact ⟨ρ2, C2, rfl, I2, S1.trans S2, m1.trans m2⟩
      | stuck => exact True.intro
def LI (m : EI) (t : TI) : Prop := ∀ C ρ s, Inv C ρ s → LR C ρ (fun C' tms J => (∀ C'', Step C' C'' → J.good C''.h = true) ∧ ItmsR C' J.itms tms) (t s) (m ρ C.h)
theorem ls_for {W : List Nat} {it : EI} {tit : TI} {g : GI} {tg : TGI} {b : S} {tb : TS} (hi : LI it tit) (hg : LGI W g tg) (hb : LS W b tb) : LS W (sFor it g b) (tsFor tit tg tb) := by
  intro C ρ s I
  refine (hi C ρ s I).into ?_
  rintro tms J s1 C1 I1 S1 ⟨k, r⟩
  exact SRL.up S1 .refl (loop_ok hg hb J.itms tms C1 ρ s1 I1 k r)
theorem wloop_ok {W : List Nat} {c : E} {tc : TE} {b : S} {tb : TS} (hc : LE c tc) (hb : LS W b tb) : ∀ n : Nat, LS W (wloop c b n) (twloop tc tb n)
  | 0 => fun C ρ s I => True.intro
  | n + 1 => by
    intro C ρ s I
    refine (hc C ρ s I).into ?_
    rintro w x s1 C1 I1 S1 ⟨D, V, F⟩
    split
    · have e := vd_bl V; subst e
      have H := hb C1 ρ s1 I1
      dsimp only
      cases e2 : tb s1 with
      | nx s2 =>
        rw [e2] at H
        obtain ⟨ρ2, C2, e3, I2, S2, m2⟩ := H
        rw [e3]
        exact SRL.up (S1.trans S2) m2 (wloop_ok hc hb n C2 ρ2 s2 I2)
      | ct s2 =>
        rw [e2] at H
        obtain ⟨ρ2, C2, e3, I2, S2, m2⟩ := H
        rw [e3]
        exact SRL.up (S1.trans S2) m2 (wloop_ok hc hb n C2 ρ2 s2 I2)
      | bk s2 =>
        rw [e2] at H
        obtain ⟨ρ2, C2, e3, I2, S2, m2⟩ := H
        rw [e3]
        exact ⟨ρ2, C2, rfl, I2, S1.trans S2, m2⟩
      | rt o s2 =>
        rw [e2] at H
        obtain ⟨v, ρ2, C2, e3, I2, S2, m2, D, V, F⟩ := H
        rw [e3]
        exact ⟨v, ρ2, C2, rfl, I2, S1.trans S2, m2, D, V, F.up S1⟩
      | exc c s2 =>
        rw [e2] at H
        obtain ⟨ρ2, C2, e3, I2, S2, m2⟩ := H
        rw [e3]
        exact ⟨ρ2, C2, rfl, I2, S1.trans S2, m2⟩
      | stuck => exact True.intro
    · have e := vd_bl V; subst e
      exact ⟨ρ, C1, rfl, I1, S1, .refl⟩
    · exact True.intro
theorem ls_while {W : List Nat} {c : E} {tc : TE} {b : S} {tb : TS} (hc : LE c tc) (hb : LS W b tb) : LS W (sWhile c b) (tsWhile tc tb) := wloop_ok hc hb fuel
/-- a value walked is frozen -/
theorem fzW_ok {C0 C : Cf} {ρ : Env} {s : TEnv} (I : Inv C ρ s) (S0 : Step C0 C) {w : TW} {v : MV} {D : List Nat} (V : VD ρ C w v D) (F : Free C0 C D) {t : T} (e : rd s w = some t) :
    ∃ C', Inv C' ρ (fzW s w) ∧ Step C0 C' ∧ Ice C C' D ∧ Rep C'.P C'.h t v := by
  cases w with
  | al i =>
    rw [rd_al, I.er i] at e
    cases hi : C.A i with
    | none => rw [hi] at e; cases e
    | some o =>
      rw [hi] at e
      simp only [Option.map_some, Option.some.injEq] at e
      have m := I.mv i o hi
      rw [V.1] at m
      simp only [Option.some.injEq] at m
      have tg : tget s i = some o.er := by rw [I.er i, hi]; rfl
      have hz : fzW s (.al i) = s.set i (some (.sh o.er.tree)) := by rw [fzW_al]; unfold fz; rw [tg]
      rw [hz]
      obtain ⟨I', S', r⟩ := I.fz hi
      refine ⟨_, I', S0.trans S', ⟨rfl, fun a p => .inl p, ?_, ?_⟩, ?_⟩
      · rintro a ⟨j, x, ex, mx⟩
        by_cases n : j = i
        · subst n
          simp at ex; subst ex
          simp [OA.ad] at mx
        · simp [put_ne n] at ex
          exact ⟨j, x, ex, mx⟩
      · rintro a (p | q)
        · exact .inl p
        · exact .inr (.inr ⟨i, o, hi, q⟩)
      · rw [← e, m]
        exact r
  | ot o =>
    obtain ⟨oa, e1, m, g, d⟩ := V
    simp only [rd_ot, Option.some.injEq] at e
    have q := I.ice S0 F
    refine ⟨_, q.1, q.2, ⟨rfl, fun a p => .inl p, fun a o => o, fun a p => p.elim .inl fun q => .inr (.inl q)⟩, ?_⟩
    rw [← e, ← e1, ← m]
    exact Good.rep (fun a p => .inl p) oa (fun a m => .inr (d ▸ m)) g
theorem rd_fzW {s : TEnv} {w v : TW} {u : T} (e : rd s v = some u) : rd (fzW s w) v = some u := by
  cases v with
  | ot o => exact e
  | al j =>
    cases w with
    | ot o => exact e
    | al i =>
      rw [fzW_al]
      unfold fz
      cases q : tget s i with
      | none => exact e
      | some o =>
        simp only [rd_al] at e ⊢
        by_cases n : j = i
        · subst n
          rw [tget_set_self (tget_lt q)]
          rw [q] at e
          simpa [OT.tree] using e
        · rw [tget_set_ne n]; exact e
theorem itmsR_one {C : Cf} : ∀ {ts : List T} {vs : List MV}, Reps C.P C.h ts vs → ItmsR C (vs.map .one) (ts.map .one)
  | [], vs, r => by simp only [Reps] at r; subst r; rfl
  | t :: ts, vs, r => by
    rw [Reps] at r
    obtain ⟨v, r', rfl, q1, q2⟩ := r
    exact ⟨_, _, rfl, q1, itmsR_one q2⟩
theorem li_seq {a : E} {ta : TE} (ha : LE a ta) : LI (iSeq a) (tiSeq ta) := by
  intro C ρ s I
  refine (ha C ρ s I).bind ?_
  rintro w x s1 C1 I1 S1 ⟨D, V, F⟩
  cases e : rd s1 w with
  | none => exact .stuck
  | some t =>
    dsimp only
    cases e2 : seqT t with
    | none => exact .stuck
    | some ts =>
      obtain ⟨C2, I2, S2, J, r⟩ := fzW_ok I1 S1 V F e
      cases t <;> simp only [seqT, Option.some.injEq] at e2 <;> try (simp at e2; done)
      · next q =>
        simp only [Rep] at r
        subst r
        rw [← J.h]
        refine LR.ok I2 S2 ⟨fun _ _ => rfl, ?_⟩
        subst e2
        simp only [It.itms]
        refine itmsR_one ?_
        clear V e
        induction q with
        | nil => simp [Reps]
        | cons c cs ih => simp only [List.map_cons, Reps]; exact ⟨_, _, rfl, by simp [Rep], ih⟩
      · subst e2
        rw [Rep] at r
        obtain ⟨p, vs, rfl, pp, g, r⟩ := r
        dsimp only
        rw [← J.h, g]
        refine LR.ok I2 S2 ⟨fun C' S => ?_, itmsR_one r⟩
        have := (S.toKeep.lst p pp).2
        simp [It.good, sameL, this, g]
      · subst e2
        rw [Rep] at r
        obtain ⟨p, vs, rfl, g, r⟩ := r
        dsimp only
        rw [← J.h, g]
        refine LR.ok I2 S2 ⟨fun C' S => ?_, itmsR_one r⟩
        have := S.tup p _ g
        simp [It.good, sameT, this]
theorem li_rng {a : E} {ta : TE} (ha : LE a ta) : LI (iRng a) (tiRng ta) := by
  intro C ρ s I
  refine (ha C ρ s I).bind ?_
  rintro w x s1 C1 I1 S1 ⟨D, V, F⟩
  split
  · have e := vd_int V; subst e
    dsimp only
    split
    · next c =>
      exact LR.ok I1 S1 ⟨fun _ _ => rfl, itmsR_one (reps_rng _ _)⟩
    · exact .stuck
  · exact .stuck
theorem li_rng2 {a b : E} {ta tb : TE} (ha : LE a ta) (hb : LE b tb) : LI (iRng2 a b) (tiRng2 ta tb) := by
  intro C ρ s I
  refine LE.two ha hb I ?_
  intro w v s' x y C' D1 D2 I' S' V1 V2 F
  split
  · have e := vd_int V1; subst e
    have e := vd_int V2; subst e
    dsimp only
    split
    · next c =>
      exact LR.ok I' S' ⟨fun _ _ => rfl, itmsR_one (reps_rng _ _)⟩
    · exact .stuck
  · exact .stuck
theorem enum_ok {C : Cf} : ∀ {ts : List T} {vs : List MV} (n : Nat), Reps C.P C.h ts vs →
    ItmsR C ((List.range' n vs.length).zipWith (fun (i : Nat) x => Itm.two (.int (i : Int)) x) vs) ((List.range' n ts.length).zipWith (fun (i : Nat) x => TItm.two (.int (i : Int)) x) ts)
  | [], vs, n, r => by simp only [Reps] at r; subst r; rfl
  | t :: ts, vs, n, r => by
    rw [Reps] at r
    obtain ⟨v, r', rfl, q1, q2⟩ := r
    simp only [List.length_cons, List.range'_succ, List.zipWith_cons_cons]
    exact ⟨_, _, rfl, ⟨by simp [Rep], q1⟩, enum_ok (n + 1) q2⟩
theorem li_enum {a : E} {ta : TE} (ha : LE a ta) : LI (iEnum a) (tiEnum ta) := by
  intro C ρ s I
  refine (ha C ρ s I).bind ?_
  rintro w x s1 C1 I1 S1 ⟨D, V, F⟩
  split
  · next ts e =>
    obtain ⟨C2, I2, S2, J, r⟩ := fzW_ok I1 S1 V F e
    rw [Rep] at r
    obtain ⟨p, vs, rfl, pp, g, r⟩ := r
    dsimp only
    rw [← J.h, g]
    refine LR.ok I2 S2 ⟨fun C' S => ?_, ?_⟩
    · have := (S.toKeep.lst p pp).2
      simp [It.good, sameL, this, g]
    · simp only [It.itms, enumT, List.range_eq_range']
      exact enum_ok 0 r
  · exact .stuck
theorem zip_ok {C : Cf} : ∀ {ts us : List T} {vs ws : List MV}, Reps C.P C.h ts vs → Reps C.P C.h us ws → ItmsR C (vs.zipWith .two ws) (ts.zipWith .two us)
  | [], us, vs, ws, r, q => by simp only [Reps] at r; subst r; simp [ItmsR]
  | t :: ts, [], vs, ws, r, q => by simp only [Reps] at q; subst q; simp [ItmsR]
  | t :: ts, u :: us, vs, ws, r, q => by
    rw [Reps] at r q
    obtain ⟨v, r', rfl, q1, q2⟩ := r
    obtain ⟨w, r'', rfl, q3, q4⟩ := q
    exact ⟨_, _, rfl, ⟨q1, q3⟩, zip_ok q2 q4⟩
theorem li_zip {a b : E} {ta tb : TE} (ha : LE a ta) (hb : LE b tb) : LI (iZip a b) (tiZip ta tb) := by
  intro C ρ s I
  refine LE.two ha hb I ?_
  intro w v s' x y C' D1 D2 I' S' V1 V2 F
  split
  · next ts us e1 e2 =>
    obtain ⟨C2, I2, S2, J, r⟩ := fzW_ok I' S' V1 F.left e1
    obtain ⟨C3, I3, S3, J', r'⟩ := fzW_ok I2 S2 (J.vd V2) (J.free F) (rd_fzW e2)
    have r := Rep.keep J'.toKeep _ _ r
    rw [Rep] at r r'
    obtain ⟨p, vs, rfl, pp, g, r⟩ := r
    obtain ⟨q, ws, rfl, pq, g', r'⟩ := r'
    dsimp only
    rw [← J.h, ← J'.h, g, g']
    refine LR.ok I3 S3 ⟨fun C' S => ?_, zip_ok r r'⟩
    have h1 := (S.toKeep.lst p pp).2
    have h2 := (S.toKeep.lst q pq).2
    simp [It.good, sameL, h1, h2, g, g']
  · exact .stuck

/-! ### comprehensions -/
theorem wipe_len (ρ : Env) : ∀ vs : List Nat, (wipe ρ vs).length = ρ.length
  | [] => rfl
  | v :: vs => by simp [wipe, wipe_len ρ vs]
theorem wipe_ne {ρ : Env} {i : Nat} : ∀ {vs : List Nat}, i ∉ vs → (wipe ρ vs)[i]? = ρ[i]?
  | [], _ => rfl
  | v :: vs, n => by
    simp only [List.mem_cons, not_or] at n
    rw [wipe, List.getElem?_set_ne (Ne.symm n.1)]
    exact wipe_ne n.2
theorem twipe_len (s : TEnv) : ∀ vs : List Nat, (twipe s vs).length = s.length
  | [] => rfl
  | v :: vs => by simp [twipe, twipe_len s vs]
theorem tget_twipe {s : TEnv} {i : Nat} : ∀ {vs : List Nat}, tget (twipe s vs) i = if i ∈ vs then none else tget s i
  | [] => by simp [twipe]
  | v :: vs => by
    rw [twipe]
    by_cases e : i = v
    · subst e
      by_cases l : i < (twipe s vs).length
      · rw [tget_set_self l]; simp
      · unfold tget; rw [List.getElem?_eq_none (by simpa using l)]; simp
    · rw [tget_set_ne e, tget_twipe (vs := vs)]
      simp [e]
def wipA (A : AEnv) (vs : List Nat) : AEnv := fun i => if i ∈ vs then none else A i
theorem wipA_some {A : AEnv} {vs : List Nat} {i : Nat} {o : OA} (e : wipA A vs i = some o) : i ∉ vs ∧ A i = some o := by
  unfold wipA at e
  split at e
  · cases e
  · next n => exact ⟨n, e⟩
theorem Inv.twipe {C : Cf} {ρ1 ρw : Env} {s : TEnv} {vs : List Nat} (I : Inv C ρ1 s) (hs : ∀ i, i ∉ vs → ρw[i]? = ρ1[i]?) (hl : ρw.length = ρ1.length) :
    Inv ⟨C.P, wipA C.A vs, C.h⟩ ρw (Mi.twipe s vs) ∧ Step C ⟨C.P, wipA C.A vs, C.h⟩ := by
  refine ⟨⟨?_, ?_, fun i o e => I.good i o (wipA_some e).2, fun i o e => I.nd i o (wipA_some e).2, fun i j o o' e e' => I.dj i j o o' (wipA_some e).2 (wipA_some e').2, fun i o e => I.fr i o (wipA_some e).2, I.le, ?_⟩,
    ⟨Nat.le_refl _, fun _ _ _ => rfl, fun _ _ e => e, ?_, fun _ p => p, fun _ p => .inl p, I.sep⟩⟩
  · intro i
    rw [tget_twipe, I.er i]
    simp only [wipA]
    split <;> rfl
  · intro i o e
    rw [hs i (wipA_some e).1]
    exact I.mv i o (wipA_some e).2
  · rw [twipe_len, hl]; exact I.len
  · rintro a ⟨i, o, e, m⟩
    exact .inl ⟨i, o, (wipA_some e).2, m⟩
theorem Inv.env {C : Cf} {ρ ρ' : Env} {s : TEnv} (I : Inv C ρ s) (h : ∀ i o, C.A i = some o → ρ'[i]? = ρ[i]?) (l : ρ'.length = ρ.length) : Inv C ρ' s :=
  ⟨I.er, fun i o e => (h i o e).trans (I.mv i o e), I.good, I.nd, I.dj, I.fr, I.le, l.trans I.len⟩
theorem lc_ok {g : GI} {tg : TGI} {c e : E} {tc te : TE} {vs : List Nat} {ok : MH → Bool} {ρw : Env} (hg : LGI vs g tg) (hc : LE c tc) (he : LE e te) (C0 : Cf) :
    ∀ (ms : List Itm) (tms : List TItm) (C : Cf) (ρ1 : Env) (s : TEnv) (acc : List OA), Inv C ρ1 s → Same vs ρw ρ1 → Step C0 C → (∀ C', Step C C' → ok C'.h = true) → ItmsR C ms tms → Goods C.P C.h acc → Free C0 C (OA.ads acc) →
      match tlcGo tg tc te vs tms (OA.ers acc) s with
      | .ok os s' => ∃ oas C', lcGo ok g c e ρw ms (acc.map OA.mv) C.h = .ok (oas.map OA.mv) C'.h ∧ OA.ers oas = os ∧ Inv C' ρw s' ∧ (∀ i ∈ vs, C'.A i = none) ∧ Step C0 C' ∧ Goods C'.P C'.h oas ∧ Free C0 C' (OA.ads oas)
      | .exc _ _ => False
      | .stuck => True
  | [], tms, C, ρ1, s, acc, I, sm, S0, k, r, g0, F => by
    simp only [ItmsR] at r
    subst r
    simp only [tlcGo, lcGo, k C I.refl, if_true]
    have q := I.twipe (fun i n => (sm.2 i n).symm) sm.1.symm
    exact ⟨acc, ⟨C.P, wipA C.A vs, C.h⟩, rfl, rfl, q.1, fun i m => by simp [wipA, m], S0.trans q.2, g0, F.step q.2⟩
  | m :: ms, tms, C, ρ1, s, acc, I, sm, S0, k, r, g0, F => by
    obtain ⟨t, r', rfl, q1, q2⟩ := r
    simp only [tlcGo, lcGo, k C I.refl, if_true]
    have q := I.twipe (fun i n => (sm.2 i n).symm) sm.1.symm
    cases e1 : tg t (twipe s vs) with
    | none => exact True.intro
    | some s1 =>
      obtain ⟨ρ2, A1, e2, I1, S1, m1⟩ := hg _ _ ρw (twipe s vs) m t s1 q.1 q.1.refl (TItmR.step q.2 q1) e1
      have e2' : g m ρw C.h = some ρ2 := e2
      rw [e2']
      dsimp only
      have SC1 := q.2.trans S1
      have H := hc _ ρ2 s1 I1
      dsimp only at H
      cases e3 : tc s1 with
      | stuck => exact True.intro
      | exc _ _ => exact True.intro
      | ok w s2 =>
        rw [e3] at H
        obtain ⟨b, C2, e4, I2, S2, D, V, F2⟩ := H
        rw [e4]
        have SC2 := SC1.trans S2
        have tr : w = .ot (.sh (.bl true)) ∨ w = .ot (.sh (.bl false)) ∨ (w ≠ .ot (.sh (.bl true)) ∧ w ≠ .ot (.sh (.bl false))) := by
          rcases Classical.em (w = .ot (.sh (.bl true))) with h | h
          · exact .inl h
          · rcases Classical.em (w = .ot (.sh (.bl false))) with h' | h'
            · exact .inr (.inl h')
            · exact .inr (.inr ⟨h, h'⟩)
        rcases tr with rfl | rfl | ⟨n1, n2⟩
        · dsimp only
          have eb := vd_bl V; subst eb
          simp only [Res.calm_ok, Res.bind_ok]
          have H := he C2 ρ2 s2 I2
          cases e5 : te s2 with
          | stuck => exact True.intro
          | exc _ _ => exact True.intro
          | ok w3 s3 =>
            rw [e5] at H
            obtain ⟨v, C3, e6, I3, S3, D3, V3, F3⟩ := H
            rw [e6]
            simp only [Res.calm_ok, Res.bind_ok]
            cases e7 : eat true s3 w3 with
            | none => exact True.intro
            | some z =>
              obtain ⟨o, s4⟩ := z
              dsimp only
              have SC3 := SC2.trans S3
              have FF := (F.step SC2).append (S0.trans SC2) S3 F3
              obtain ⟨C4, oa, h4, I4, S4, S4', er, mv, gg, F4⟩ := eat_ok I3 (S0.trans SC3) V3 (FF.perm List.perm_append_comm) e7
              have SC4 := SC3.trans S4'
              · have R := lc_ok hg hc he C0 ms r' C4 ρ2 s4 (acc ++ [oa]) I4 m1 S4 (fun C' S => k C' (SC4.trans S)) (ItmsR.step SC4 q2)
                  (goods_append.mpr ⟨Goods.keep SC4.toKeep acc (fun a ma => SC4.keep a (F.lt a ma) (F.dj a ma)) g0, by simp [Goods, gg]⟩)
                  (by rw [ads_append]; simpa [OA.ads] using F4.perm List.perm_append_comm)
                have x1 : OA.ers (acc ++ [oa]) = OA.ers acc ++ [o] := by rw [ers_append]; simp [OA.ers, er]
                have x2 : (acc ++ [oa]).map OA.mv = acc.map OA.mv ++ [v] := by simp [mv]
                rw [x1, x2, h4] at R
                exact R
        · dsimp only
          have eb := vd_bl V; subst eb
          simp only [Res.calm_ok, Res.bind_ok]
          exact lc_ok hg hc he C0 ms r' C2 ρ2 s2 acc I2 m1 (S0.trans SC2) (fun C' S => k C' (SC2.trans S)) (ItmsR.step SC2 q2) (Goods.keep SC2.toKeep acc (fun a ma => SC2.keep a (F.lt a ma) (F.dj a ma)) g0) (F.step SC2)
        · cases w with
          | al i => exact True.intro
          | ot o => cases o with
            | lst _ => exact True.intro
            | tup _ => exact True.intro
            | dct _ _ => exact True.intro
            | sh t => cases t with
              | bl b => cases b with
                | true => exact absurd rfl n1
                | false => exact absurd rfl n2
              | _ => exact True.intro
theorem le_lc {it : EI} {tit : TI} {g : GI} {tg : TGI} {c e : E} {tc te : TE} {vs : List Nat} (hi : LI it tit) (hg : LGI vs g tg) (hc : LE c tc) (he : LE e te) : LE (eLc it g c e vs) (tLc tit tg tc te vs) := by
  intro C ρ s I
  refine (hi C ρ s I).bind ?_
  rintro tms J s1 C1 I1 S1 ⟨k, r⟩
  have q := I1.twipe (ρw := wipe ρ vs) (vs := vs) (fun i n => wipe_ne n) (wipe_len ρ vs)
  have R := lc_ok (ok := J.good) (ρw := wipe ρ vs) hg hc he C J.itms tms C1 ρ s1 [] I1 ⟨(wipe_len ρ vs).symm, fun i n => (wipe_ne n).symm⟩ S1 k r (by simp [Goods]) .nil
  simp only [OA.ers, List.map_nil] at R
  cases e1 : tlcGo tg tc te vs tms [] s1 with
  | stuck => exact .stuck
  | exc _ _ => rw [e1] at R; exact R.elim
  | ok os s' =>
    rw [e1] at R
    obtain ⟨oas, C', e2, er, I', no, S', gg, F⟩ := R
    rw [e2]
    subst er
    have I'' : Inv C' ρ s' := I'.env (fun i o e => by
      have n : i ∉ vs := fun m => by rw [no i m] at e; cases e
      exact (wipe_ne n).symm) (wipe_len ρ vs).symm
    exact .newL I'' S' gg F

/-! ### defs -/
structure FS (P : Nat → Prop) (h : MH) (D : List Nat) (P' : Nat → Prop) (h' : MH) (xs : List OA) : Prop where
  good : Goods P' h' xs
  nd : (OA.ads xs).Nodup
  fr : ∀ a ∈ OA.ads xs, ¬ P' a
  len : h.length ≤ h'.length
  keep : ∀ a, a < h.length → a ∉ D → h'[a]? = h[a]?
  tup : ∀ (a : Nat) (xs : List MV), h[a]? = some (.tup xs) → h'[a]? = some (.tup xs)
  own : ∀ a ∈ OA.ads xs, a ∈ D ∨ h.length ≤ a
  mono : ∀ a, P a → P' a
  lim : ∀ a, P' a → P a ∨ a ∈ D ∨ h.length ≤ a
  le : ∀ a, P' a → a < h'.length
def selIO {α : Type} : List Bool → List α → List α
  | true :: ms, o :: os => o :: selIO ms os
  | false :: ms, _ :: os => selIO ms os
  | _, _ => []
def LF (f : Fn) (ms : List Bool) (tf : TFn) : Prop := ∀ (P : Nat → Prop) (h : MH) (oas : List OA), (∀ a, P a → a < h.length) → Goods P h oas → (OA.ads oas).Nodup → (∀ a ∈ OA.ads oas, ¬ P a) → oas.length = ms.length →
  match tf (OA.ers oas) with
  | .ok r outs => ∃ oar oao P' h', f (oas.map OA.mv) h = .ok oar.mv h' ∧ oar.er = r ∧ OA.ers oao = outs ∧ oao.map OA.mv = (selIO ms oas).map OA.mv ∧ FS P h (OA.ads oas) P' h' (oar :: oao)
  | .exc c outs => ∃ oao P' h', f (oas.map OA.mv) h = .exc c h' ∧ OA.ers oao = outs ∧ oao.map OA.mv = (selIO ms oas).map OA.mv ∧ FS P h (OA.ads oas) P' h' oao
  | .stuck => True
def ioOf : Nat → List Bool → List Nat
  | _, [] => []
  | n, true :: ms => n :: ioOf (n + 1) ms
  | n, false :: ms => ioOf (n + 1) ms
theorem sel_ix {α : Type} : ∀ (ms : List Bool) (pre os : List α), os.length = ms.length → (selIO ms os).map some = (ioOf pre.length ms).map fun i => (pre ++ os)[i]?
  | [], pre, [], _ => rfl
  | m :: ms, pre, o :: os, e => by
    simp only [List.length_cons, Nat.add_right_cancel_iff] at e
    have q := sel_ix ms (pre ++ [o]) os e
    simp only [List.length_append, List.length_cons, List.length_nil, List.append_assoc, List.singleton_append] at q
    cases m <;> simp only [selIO, ioOf, List.map_cons]
    · exact q
    · rw [← Nat.zero_add 1] at *
      simp only [Nat.zero_add] at *
      rw [q]
      simp
theorem outs_ok {C : Cf} {ρ : Env} {s : TEnv} (I : Inv C ρ s) : ∀ {io : List Nat} {outs : List OT}, outsOf s io = some outs → ∃ oao, OA.ers oao = outs ∧ oao.map some = io.map C.A
  | [], outs, e => by
    simp only [outsOf, Option.some.injEq] at e
    exact ⟨[], e, rfl⟩
  | i :: io, outs, e => by
    rw [outsOf, I.er i] at e
    cases q : C.A i with
    | none => rw [q] at e; cases e
    | some o =>
      rw [q] at e
      cases q2 : outsOf s io with
      | none => rw [q2] at e; cases e
      | some os =>
        rw [q2] at e
        simp only [Option.map_some, Option.some.injEq] at e
        obtain ⟨oao, e1, e2⟩ := outs_ok I q2
        exact ⟨o :: oao, by rw [OA.ers, e1]; exact e, by simp [q, e2]⟩
theorem outs_mem {A : AEnv} {io : List Nat} {oao : List OA} (e : oao.map some = io.map A) {o : OA} (m : o ∈ oao) : ∃ i ∈ io, A i = some o := by
  have : some o ∈ io.map A := by rw [← e]; exact List.mem_map.mpr ⟨o, m, rfl⟩
  obtain ⟨i, mi, ei⟩ := List.mem_map.mp this
  exact ⟨i, mi, ei⟩
theorem outs_nd {C : Cf} {ρ : Env} {s : TEnv} (I : Inv C ρ s) : ∀ {io : List Nat} {oao : List OA}, io.Nodup → oao.map some = io.map C.A → (OA.ads oao).Nodup
  | [], oao, n, e => by
    simp at e; subst e; simp [OA.ads]
  | i :: io, oao, n, e => by
    cases oao with
    | nil => simp at e
    | cons o oao =>
      simp only [List.map_cons, List.cons.injEq] at e
      rw [List.nodup_cons] at n
      rw [OA.ads]
      refine List.nodup_append.mpr ⟨I.nd i o e.1.symm, outs_nd I n.2 e.2, fun a m b m' q => ?_⟩
      subst q
      obtain ⟨x, mx, ax⟩ := mem_ads.mp m'
      obtain ⟨j, mj, ej⟩ := outs_mem e.2 mx
      refine I.dj i j o x e.1.symm ej ?_ a m ax
      rintro rfl
      exact n.1 mj
theorem args_dj : ∀ {xs : List OA} {i j : Nat} {o o' : OA}, (OA.ads xs).Nodup → xs[i]? = some o → xs[j]? = some o' → i ≠ j → ∀ a ∈ o.ad, a ∉ o'.ad
  | [], i, j, o, o', n, e, e', ne, a, m, m' => by simp at e
  | x :: xs, i, j, o, o', n, e, e', ne, a, m, m' => by
    rw [OA.ads] at n
    have q := List.nodup_append.mp n
    cases i with
    | zero =>
      cases j with
      | zero => exact ne rfl
      | succ j =>
        simp at e e'
        subst e
        exact q.2.2 a m a (mem_ads.mpr ⟨o', List.mem_of_getElem? e', m'⟩) rfl
    | succ i =>
      cases j with
      | zero =>
        simp at e e'
        subst e'
        exact q.2.2 a m' a (mem_ads.mpr ⟨o, List.mem_of_getElem? e, m⟩) rfl
      | succ j =>
        simp at e e'
        exact args_dj q.2.1 e e' (fun h => ne (by rw [h])) a m m'
theorem mem_nd {o : OA} : ∀ {xs : List OA}, (OA.ads xs).Nodup → o ∈ xs → o.ad.Nodup
  | [], _, m => by simp at m
  | x :: xs, n, m => by
    rw [OA.ads] at n
    have q := List.nodup_append.mp n
    rcases List.mem_cons.mp m with rfl | m
    · exact q.1
    · exact mem_nd q.2.1 m
theorem args_nd {xs : List OA} {i : Nat} {o : OA} (n : (OA.ads xs).Nodup) (e : xs[i]? = some o) : o.ad.Nodup := mem_nd n (List.mem_of_getElem? e)
theorem tget_ini {os : List OT} {k : Nat} (i : Nat) : tget (os.map some ++ List.replicate k none) i = os[i]? := by
  unfold tget
  by_cases l : i < os.length
  · rw [List.getElem?_append_left (by simpa using l)]
    simp [List.getElem?_eq_getElem l]
  · rw [List.getElem?_append_right (by simpa using l), List.getElem?_eq_none (by omega : os.length ≤ i)]
    rw [List.getElem?_replicate]
    split
    · next q => split at q <;> simp at q
    · rfl
theorem ini_ok {P : Nat → Prop} {h : MH} {oas : List OA} (le : ∀ a, P a → a < h.length) (g : Goods P h oas) (nd : (OA.ads oas).Nodup) (fr : ∀ a ∈ OA.ads oas, ¬ P a) (k : Nat) :
    Inv ⟨P, fun i => oas[i]?, h⟩ ((oas.map OA.mv).map some ++ List.replicate k none) ((OA.ers oas).map some ++ List.replicate k none) := by
  refine ⟨fun i => ?_, fun i o e => ?_, fun i o e => goods_iff.mp g o (List.mem_of_getElem? e), fun i o e => args_nd nd e, fun i j o o' e e' n => args_dj nd e e' n, fun i o e a m => fr a (mem_ads.mpr ⟨o, List.mem_of_getElem? e, m⟩), le, by simp [ers_len]⟩
  · rw [tget_ini, ers_getElem?]
  · have l : i < oas.length := (List.getElem?_eq_some_iff.mp e).1
    rw [List.getElem?_append_left (by simpa using l), List.getElem?_map, List.getElem?_map]
    rw [show oas[i]? = some o from e]
    rfl
theorem own_ini {oas : List OA} {a : Nat} : Own (fun i => oas[i]?) a ↔ a ∈ OA.ads oas := by
  constructor
  · rintro ⟨i, o, e, m⟩
    exact mem_ads.mpr ⟨o, List.mem_of_getElem? e, m⟩
  · intro m
    obtain ⟨o, mo, ao⟩ := mem_ads.mp m
    obtain ⟨i, e⟩ := List.getElem?_of_mem mo
    exact ⟨i, o, e, ao⟩
/-- the end of a def -/
theorem fs_end {P : Nat → Prop} {h : MH} {oas ex : List OA} {ms : List Bool} {io W : List Nat} {ρ ρ' : Env} {s' : TEnv} {C : Cf} {outs : List OT}
    (hio : ioOf 0 ms = io) (nio : io.Nodup) (hW : ∀ i ∈ io, i ∉ W) (hl : oas.length = ms.length)
    (I0 : ∀ (i : Nat) (o : OA), oas[i]? = some o → ρ[i]? = some (some o.mv)) (I : Inv C ρ' s') (S : Step ⟨P, fun i => oas[i]?, h⟩ C) (sm : Same W ρ ρ')
    (g : Goods C.P C.h ex) (F : Free ⟨P, fun i => oas[i]?, h⟩ C (OA.ads ex)) (eo : outsOf s' io = some outs) :
    ∃ oao, OA.ers oao = outs ∧ oao.map OA.mv = (selIO ms oas).map OA.mv ∧ FS P h (OA.ads oas) C.P C.h (ex ++ oao) := by
  obtain ⟨oao, e1, e2⟩ := outs_ok I eo
  have own : ∀ a, a ∈ OA.ads oao → Own C.A a := by
    intro a m
    obtain ⟨o, mo, ao⟩ := mem_ads.mp m
    obtain ⟨i, _, ei⟩ := outs_mem e2 mo
    exact ⟨i, o, ei, ao⟩
  refine ⟨oao, e1, ?_, ?_⟩
  · have q := sel_ix ms ([] : List OA) oas hl
    simp only [List.length_nil, List.nil_append, hio] at q
    have inj : ∀ xs ys : List MV, xs.map (fun v => some (some v)) = ys.map (fun v => some (some v)) → xs = ys := by
      intro xs ys e
      exact (List.map_inj_right (f := fun v : MV => some (some v)) (fun a b e => by simpa using e)).mp e
    refine inj _ _ ?_
    have h1 : (oao.map OA.mv).map (fun v => some (some v)) = io.map fun i => ρ'[i]? := by
      have : ∀ (io : List Nat) (oao : List OA), oao.map some = io.map C.A → (oao.map OA.mv).map (fun v => some (some v)) = io.map fun i => ρ'[i]? := by
        intro io
        induction io with
        | nil => intro oao e; simp at e; subst e; rfl
        | cons i io ih =>
          intro oao e
          cases oao with
          | nil => simp at e
          | cons o oao =>
            simp only [List.map_cons, List.cons.injEq] at e
            simp only [List.map_cons, ih oao e.2, I.mv i o e.1.symm]
      exact this io oao e2
    have h2 : ((selIO ms oas).map OA.mv).map (fun v => some (some v)) = io.map fun i => ρ[i]? := by
      have : ∀ (io : List Nat) (xs : List OA), xs.map some = io.map (fun i => oas[i]?) → (xs.map OA.mv).map (fun v => some (some v)) = io.map fun i => ρ[i]? := by
        intro io
        induction io with
        | nil => intro oao e; simp at e; subst e; rfl
        | cons i io ih =>
          intro oao e
          cases oao with
          | nil => simp at e
          | cons o oao =>
            simp only [List.map_cons, List.cons.injEq] at e
            simp only [List.map_cons, ih oao e.2, I0 i o e.1.symm]
      exact this io _ q
    rw [h1, h2]
    exact List.map_congr_left fun i m => sm.2 i (hW i m)
  · have nd := outs_nd I nio e2
    refine ⟨goods_append.mpr ⟨g, goods_iff.mpr fun o m => ?_⟩, ?_, ?_, S.len, fun a l n => S.keep a l fun o => n (own_ini.mp o), S.tup, ?_, S.mono, fun a p => (S.lim a p).elim .inl fun q => .inr (q.elim (fun o => .inl (own_ini.mp o)) .inr), I.le⟩
    · obtain ⟨i, _, ei⟩ := outs_mem e2 m
      exact I.good i o ei
    · rw [ads_append]
      refine List.nodup_append.mpr ⟨F.nd, nd, fun a m b m' e => ?_⟩
      subst e
      exact F.dj a m (own a m')
    · intro a m
      rw [ads_append] at m
      rcases List.mem_append.mp m with m | m
      · exact F.fr a m
      · intro p
        exact (I.sep a p).1 (own a m)
    · intro a m
      rw [ads_append] at m
      rcases List.mem_append.mp m with m | m
      · exact (F.nw a m).elim (fun o => .inl (own_ini.mp o)) .inr
      · exact (S.own a (own a m)).elim (fun o => .inl (own_ini.mp o)) .inr
theorem lf_body {n k : Nat} {ms : List Bool} {io W : List Nat} {b : S} {tb : TS} (hn : ms.length = n) (hio : ioOf 0 ms = io) (nio : io.Nodup) (hW : ∀ i ∈ io, i ∉ W) (hb : LS W b tb) : LF (fBody n k b) ms (tBody n k io tb) := by
  intro P h oas le g nd fr hl
  have ln : oas.length = n := hl.trans hn
  have I := ini_ok le g nd fr (k - n)
  have I0 : ∀ (i : Nat) (o : OA), oas[i]? = some o → ((oas.map OA.mv).map some ++ List.replicate (k - n) none)[i]? = some (some o.mv) := I.mv
  have H := hb _ _ _ I
  unfold tBody fBody
  rw [if_pos (by rw [ers_len]; exact ln), if_pos (by rw [List.length_map]; exact ln)]
  cases e : tb ((OA.ers oas).map some ++ List.replicate (k - n) none) with
  | nx s' =>
    rw [e] at H
    obtain ⟨ρ', C', e', I', S', m'⟩ := H
    have e'' : b ((oas.map OA.mv).map some ++ List.replicate (k - n) none) h = .nx ρ' C'.h := e'
    rw [e'']
    dsimp only
    cases eo : outsOf s' io with
    | none => exact True.intro
    | some outs =>
      obtain ⟨oao, x1, x2, x3⟩ := fs_end (ex := [.sh .non .non]) hio nio hW hl I0 I' S' m' (by simp [Goods, Good, Rep]) (by simpa [OA.ads, OA.ad] using Free.nil) eo
      exact ⟨.sh .non .non, oao, C'.P, C'.h, rfl, rfl, x1, x2, x3⟩
  | rt o s' =>
    rw [e] at H
    obtain ⟨v, ρ', C', e', I', S', m', D, V, F⟩ := H
    have e'' : b ((oas.map OA.mv).map some ++ List.replicate (k - n) none) h = .rt v C'.h := e'
    rw [e'']
    dsimp only
    cases eo : outsOf s' io with
    | none => exact True.intro
    | some outs =>
      obtain ⟨oa, y1, y2, y3, y4⟩ := V
      obtain ⟨oao, x1, x2, x3⟩ := fs_end (ex := [oa]) hio nio hW hl I0 I' S' m' (by simp [Goods, y3]) (by simpa [OA.ads, y4] using F) eo
      exact ⟨oa, oao, C'.P, C'.h, by rw [y2], y1, x1, x2, x3⟩
  | exc c s' =>
    rw [e] at H
    obtain ⟨ρ', C', e', I', S', m'⟩ := H
    have e'' : b ((oas.map OA.mv).map some ++ List.replicate (k - n) none) h = .exc c ρ' C'.h := e'
    rw [e'']
    dsimp only
    cases eo : outsOf s' io with
    | none => exact True.intro
    | some outs =>
      obtain ⟨oao, x1, x2, x3⟩ := fs_end (ex := []) hio nio hW hl I0 I' S' m' (by simp [Goods]) (by simpa [OA.ads] using Free.nil) eo
      exact ⟨oao, C'.P, C'.h, rfl, x1, x2, x3⟩
  | bk _ => exact True.intro
  | ct _ => exact True.intro
  | stuck => exact True.intro

/-! ### calls -/
def slotAd (A : AEnv) (i : Nat) : List Nat := match A i with
  | some o => o.ad
  | none => []
theorem slotAd_own {A : AEnv} {i a : Nat} (m : a ∈ slotAd A i) : Own A a := by
  unfold slotAd at m
  split at m
  · next o e => exact ⟨i, o, e, m⟩
  · simp at m
theorem slotAd_eq {A : AEnv} {i : Nat} {o : OA} (e : A i = some o) : slotAd A i = o.ad := by simp [slotAd, e]
theorem mem_slots {A : AEnv} {l : List Nat} {a : Nat} (m : a ∈ l.flatMap (slotAd A)) : ∃ i ∈ l, ∃ o, A i = some o ∧ a ∈ o.ad := by
  obtain ⟨i, mi, ma⟩ := List.mem_flatMap.mp m
  unfold slotAd at ma
  split at ma
  · next o e => exact ⟨i, mi, o, e, ma⟩
  · simp at ma
theorem slots_nd {C : Cf} {ρ : Env} {s : TEnv} (I : Inv C ρ s) : ∀ {l : List Nat}, l.Nodup → (l.flatMap (slotAd C.A)).Nodup
  | [], _ => by simp
  | i :: l, n => by
    rw [List.nodup_cons] at n
    rw [List.flatMap_cons]
    refine List.nodup_append.mpr ⟨?_, slots_nd I n.2, fun a m b m' q => ?_⟩
    · unfold slotAd
      split
      · next o e => exact I.nd i o e
      · simp
    · subst q
      obtain ⟨j, mj, o', ej, aj⟩ := mem_slots m'
      unfold slotAd at m
      split at m
      · next o e =>
        refine I.dj i j o o' e ej ?_ a m aj
        rintro rfl; exact n.1 mj
      · simp at m
theorem prep_ok {C : Cf} {ρ : Env} {s : TEnv} (I : Inv C ρ s) : ∀ {ms : List Bool} {ws : List TW} {vs : List MV} {D : List Nat} {os : List OT}, VDs ρ C ws vs D → prep s ms ws = some os →
    ∃ (oas : List OA) (Df Dt : List Nat), OA.ers oas = os ∧ oas.map OA.mv = vs ∧ oas.length = ms.length ∧ List.Perm D (Df ++ Dt) ∧ List.Perm (OA.ads oas) (Dt ++ (ioAls ms ws).flatMap (slotAd C.A)) ∧
      ∀ Q : Nat → Prop, (∀ a, C.P a → Q a) → (∀ a ∈ Df, Q a) → (∀ a ∈ (rdAls ms ws).flatMap (slotAd C.A), Q a) → Goods Q C.h oas
  | [], [], vs, D, os, V, e => by
    obtain ⟨rfl, rfl⟩ := V
    simp only [prep, Option.some.injEq] at e
    exact ⟨[], [], [], e, rfl, rfl, .refl _, by simp [OA.ads, ioAls], fun Q _ _ _ => by simp [Goods]⟩
  | [], w :: ws, vs, D, os, V, e => by simp [prep] at e
  | m :: ms, [], vs, D, os, V, e => by cases m <;> simp [prep] at e
  | false :: ms, w :: ws, vs, D, os, V, e => by
    obtain ⟨v, r, D1, D2, rfl, rfl, V1, V2⟩ := V
    rw [prep] at e
    cases q : rd s w with
    | none => rw [q] at e; cases e
    | some t =>
      cases q2 : prep s ms ws with
      | none => rw [q, q2] at e; cases e
      | some os2 =>
        rw [q, q2] at e
        simp only [Option.some.injEq] at e
        obtain ⟨oas, Df, Dt, e1, e2, e3, p1, p2, gg⟩ := prep_ok I V2 q2
        cases w with
        | al i =>
          have d1 := V1.2
          subst d1
          refine ⟨.sh v t :: oas, Df, Dt, by rw [OA.ers, e1]; exact e, by simp [OA.mv, e2], by simp [e3], by simpa using p1, by simpa [OA.ads, OA.ad, ioAls] using p2, fun Q h1 h2 h3 => ?_⟩
          rw [rdAls, List.flatMap_cons] at h3
          rw [Goods]
          refine ⟨?_, gg Q h1 h2 fun a m => h3 a (by simp [m])⟩
          rw [rd_al, I.er i] at q
          cases hi : C.A i with
          | none => rw [hi] at q; cases q
          | some o =>
            rw [hi] at q
            simp only [Option.map_some, Option.some.injEq] at q
            have m := I.mv i o hi
            rw [V1.1] at m
            simp only [Option.some.injEq] at m
            rw [Good, ← q, m]
            exact Good.rep h1 o (fun a ma => h3 a (by simp [slotAd_eq hi, ma])) (I.good i o hi)
        | ot o =>
          obtain ⟨oa, x1, x2, x3, x4⟩ := V1
          simp only [rd_ot, Option.some.injEq] at q
          subst x4
          refine ⟨.sh v t :: oas, oa.ad ++ Df, Dt, by rw [OA.ers, e1]; exact e, by simp [OA.mv, e2], by simp [e3], by rw [List.append_assoc]; exact p1.append_left _, by simpa [OA.ads, OA.ad, ioAls] using p2, fun Q h1 h2 h3 => ?_⟩
          rw [rdAls] at h3
          rw [Goods]
          · refine ⟨?_, gg Q h1 (fun a m => h2 a (by simp [m])) h3⟩
            rw [Good, ← q, ← x1, ← x2]
            exact Good.rep h1 oa (fun a ma => h2 a (by simp [ma])) x3
          · simp
  | true :: ms, .ot o :: ws, vs, D, os, V, e => by
      obtain ⟨v, r, D1, D2, rfl, rfl, V1, V2⟩ := V
      rw [prep] at e
      cases q2 : prep s ms ws with
      | none => rw [q2] at e; cases e
      | some os2 =>
        rw [q2] at e
        simp only [Option.some.injEq] at e
        obtain ⟨oas, Df, Dt, e1, e2, e3, p1, p2, gg⟩ := prep_ok I V2 q2
        obtain ⟨oa, x1, x2, x3, x4⟩ := V1
        subst x4
        refine ⟨oa :: oas, Df, oa.ad ++ Dt, by rw [OA.ers, e1, x1]; exact e, by simp [x2, e2], by simp [e3], ?_, ?_, fun Q h1 h2 h3 => ?_⟩
        · refine (p1.append_left _).trans ?_
          rw [← List.append_assoc, ← List.append_assoc]
          exact List.perm_append_comm.append_right _
        · rw [OA.ads, ioAls, List.append_assoc]
          · exact p2.append_left _
          · simp
        · rw [rdAls] at h3
          rw [Goods]
          · exact ⟨Good.keep ⟨fun a p => ⟨h1 a p, rfl⟩, fun _ _ e => e⟩ oa (fun _ _ => rfl) x3, gg Q h1 h2 h3⟩
          · simp
  | true :: ms, .al i :: ws, vs, D, os, V, e => by
      obtain ⟨v, r, D1, D2, rfl, rfl, V1, V2⟩ := V
      rw [prep] at e
      have er := I.er i
      cases hi : C.A i with
      | none =>
        rw [hi] at er
        rw [er] at e
        cases e
      | some o =>
        rw [hi] at er
        rw [er] at e
        cases q2 : prep s ms ws with
        | none => rw [q2] at e; cases e
        | some os2 =>
          rw [q2] at e
          simp only [Option.map_some, Option.some.injEq] at e
          have m := I.mv i o hi
          rw [V1.1] at m
          simp only [Option.some.injEq] at m
          have d1 := V1.2
          subst d1
          obtain ⟨oas, Df, Dt, e1, e2, e3, p1, p2, gg⟩ := prep_ok I V2 q2
          refine ⟨o :: oas, Df, Dt, by rw [OA.ers, e1]; exact e, by simp [m, e2], by simp [e3], by simpa using p1, ?_, fun Q h1 h2 h3 => ?_⟩
          · rw [OA.ads, ioAls, List.flatMap_cons, slotAd_eq hi]
            refine (p2.append_left _).trans ?_
            rw [← List.append_assoc, ← List.append_assoc]
            exact List.perm_append_comm.append_right _
          · rw [rdAls] at h3
            rw [Goods]
            · exact ⟨Good.keep ⟨fun a p => ⟨h1 a p, rfl⟩, fun _ _ e => e⟩ o (fun _ _ => rfl) (I.good i o hi), gg Q h1 h2 h3⟩
            · simp
def look (L : List (Nat × OA)) (j : Nat) : Option OA := match L with
  | [] => none
  | p :: r => if p.1 = j then some p.2 else look r j
theorem look_mem {j : Nat} {o : OA} : ∀ {L : List (Nat × OA)}, look L j = some o → (j, o) ∈ L
  | [], e => by simp [look] at e
  | p :: r, e => by
    rw [look] at e
    split at e
    · next c => simp only [Option.some.injEq] at e; subst c; subst e; simp
    · simp [look_mem e]
theorem look_none {j : Nat} : ∀ {L : List (Nat × OA)}, look L j = none → j ∉ L.map Prod.fst
  | [], e => by simp
  | p :: r, e => by
    rw [look] at e
    split at e
    · cases e
    · next c => simp only [List.map_cons, List.mem_cons, not_or]; exact ⟨fun h => c h.symm, look_none e⟩
theorem look_not {j : Nat} : ∀ {L : List (Nat × OA)}, j ∉ L.map Prod.fst → look L j = none
  | [], _ => rfl
  | p :: r, n => by
    simp only [List.map_cons, List.mem_cons, not_or] at n
    rw [look, if_neg (fun h => n.1 h.symm)]
    exact look_not n.2
theorem look_dj : ∀ {L : List (Nat × OA)} {i j : Nat} {o o' : OA}, (OA.ads (L.map Prod.snd)).Nodup → look L i = some o → look L j = some o' → i ≠ j → ∀ a ∈ o.ad, a ∉ o'.ad
  | [], i, j, o, o', n, e, _, _ => by simp [look] at e
  | p :: r, i, j, o, o', n, e, e', ne => by
    intro a m m'
    rw [List.map_cons, OA.ads] at n
    have q := List.nodup_append.mp n
    rw [look] at e e'
    split at e
    · next c =>
      simp only [Option.some.injEq] at e
      subst c; subst e
      rw [if_neg ne] at e'
      exact q.2.2 a m a (mem_ads.mpr ⟨o', List.mem_map.mpr ⟨_, look_mem e', rfl⟩, m'⟩) rfl
    · split at e'
      · next c =>
        simp only [Option.some.injEq] at e'
        subst c; subst e'
        exact q.2.2 a m' a (mem_ads.mpr ⟨o, List.mem_map.mpr ⟨_, look_mem e, rfl⟩, m⟩) rfl
      · exact look_dj q.2.1 e e' ne a m m'
theorem putBack_ok {C : Cf} {ρ : Env} : ∀ {ms : List Bool} {ws : List TW} {vs : List MV} {D : List Nat} {oas oao : List OA} {s s2 : TEnv}, VDs ρ C ws vs D → oas.map OA.mv = vs → oao.map OA.mv = (selIO ms oas).map OA.mv →
    putBack s ms ws (OA.ers oao) = some s2 → (∀ i ∈ ioAls ms ws, i < s.length) → (ioAls ms ws).Nodup →
    ∃ L : List (Nat × OA), L.map Prod.fst = ioAls ms ws ∧ (∀ p ∈ L, ρ[p.1]? = some (some p.2.mv)) ∧ List.Sublist (L.map Prod.snd) oao ∧
      (∀ j, tget s2 j = match look L j with | some o => some o.er | none => tget s j) ∧ s2.length = s.length
  | [], [], vs, D, oas, oao, s, s2, V, e1, e2, e, l, n => by
    cases oao with
    | nil =>
      simp only [OA.ers, putBack, Option.some.injEq] at e
      subst e
      exact ⟨[], rfl, by simp, by simp, fun j => rfl, rfl⟩
    | cons o oao => simp [OA.ers, putBack] at e
  | [], w :: ws, vs, D, oas, oao, s, s2, V, e1, e2, e, l, n => by cases oao <;> simp [OA.ers, putBack] at e
  | true :: ms, [], vs, D, oas, oao, s, s2, V, e1, e2, e, l, n => by cases oao <;> simp [OA.ers, putBack] at e
  | false :: ms, [], vs, D, oas, oao, s, s2, V, e1, e2, e, l, n => by cases oao <;> simp [OA.ers, putBack] at e
  | false :: ms, w :: ws, vs, D, oas, oao, s, s2, V, e1, e2, e, l, n => by
    obtain ⟨v, r, D1, D2, rfl, rfl, V1, V2⟩ := V
    cases oas with
    | nil => simp at e1
    | cons x xs =>
      simp only [List.map_cons, List.cons.injEq] at e1
      simp only [selIO] at e2
      rw [putBack] at e
      have hs : ioAls (false :: ms) (w :: ws) = ioAls ms ws := by simp [ioAls]
      rw [hs] at l n ⊢
      exact putBack_ok V2 e1.2 e2 e l n
  | true :: ms, w :: ws, vs, D, oas, oao, s, s2, V, e1, e2, e, l, n => by
    obtain ⟨v, r, D1, D2, rfl, rfl, V1, V2⟩ := V
    cases oas with
    | nil => simp at e1
    | cons x xs =>
      simp only [List.map_cons, List.cons.injEq] at e1
      simp only [selIO, List.map_cons] at e2
      cases oao with
      | nil => simp at e2
      | cons o oao =>
        simp only [List.map_cons, List.cons.injEq] at e2
        cases w with
        | ot o' =>
          simp only [OA.ers, putBack] at e
          have hs : ioAls (true :: ms) (TW.ot o' :: ws) = ioAls ms ws := by simp [ioAls]
          rw [hs] at l n ⊢
          obtain ⟨L, h1, h2, h3, h4, h5⟩ := putBack_ok V2 e1.2 e2.2 e l n
          exact ⟨L, h1, h2, h3.cons _, h4, h5⟩
        | al i =>
          simp only [OA.ers, putBack] at e
          rw [ioAls] at l n ⊢
          rw [List.nodup_cons] at n
          have li : i < s.length := l i (by simp)
          obtain ⟨L, h1, h2, h3, h4, h5⟩ := putBack_ok V2 e1.2 e2.2 e (fun j m => by simpa using l j (by simp [m])) n.2
          refine ⟨(i, o) :: L, by simp [h1], ?_, h3.cons_cons _, fun j => ?_, by simpa using h5⟩
          · intro p m
            rcases List.mem_cons.mp m with rfl | m
            · rw [V1.1, e2.1, e1.1]
            · exact h2 p m
          · rw [h4 j, look]
            by_cases c : i = j
            · subst c
              rw [look_not (by rw [h1]; exact n.1), if_pos rfl]
              simp [tget_set_self li]
            · rw [if_neg c, tget_set_ne (fun h => c h.symm)]
theorem tget_fz (s : TEnv) (i j : Nat) : tget (fz s i) j = if j = i then (tget s i).map fun o => .sh o.tree else tget s j := by
  unfold fz
  cases q : tget s i with
  | none =>
    dsimp only
    split
    · next c => subst c; rw [q]; rfl
    · rfl
  | some o =>
    dsimp only
    split
    · next c => subst c; rw [tget_set_self (tget_lt q)]; rfl
    · next c => rw [tget_set_ne c]
theorem fz_len (s : TEnv) (i : Nat) : (fz s i).length = s.length := by
  unfold fz
  split <;> simp
theorem fzs_len : ∀ (l : List Nat) (s : TEnv), (l.foldl fz s).length = s.length
  | [], s => rfl
  | i :: l, s => by rw [List.foldl_cons, fzs_len l, fz_len]
theorem tget_fzs : ∀ (l : List Nat) (s : TEnv) (j : Nat), tget (l.foldl fz s) j = if j ∈ l then (tget s j).map fun o => .sh o.tree else tget s j
  | [], s, j => by simp
  | i :: l, s, j => by
    rw [List.foldl_cons, tget_fzs l, tget_fz]
    by_cases c : j = i
    · subst c
      simp only [if_true, List.mem_cons, true_or]
      split
      · cases tget s j <;> simp [OT.tree]
      · rfl
    · simp [c]
mutual
theorem T.noL_rep {P Q : Nat → Prop} {h : MH} : ∀ (t : T) (v : MV), t.noL = true → Rep P h t v → Rep Q h t v
  | .non, v, _, r => by simpa [Rep] using r
  | .bl _, v, _, r => by simpa [Rep] using r
  | .int _, v, _, r => by simpa [Rep] using r
  | .str _, v, _, r => by simpa [Rep] using r
  | .scr _, v, _, r => by simpa [Rep] using r
  | .lst ts, v, n, r => by simp [T.noL] at n
  | .tup ts, v, n, r => by
    rw [T.noL] at n
    rw [Rep] at r ⊢
    obtain ⟨a, vs, e, g, r⟩ := r
    exact ⟨a, vs, e, g, T.noLs_reps ts vs n r⟩
theorem T.noLs_reps {P Q : Nat → Prop} {h : MH} : ∀ (ts : List T) (vs : List MV), T.noLs ts = true → Reps P h ts vs → Reps Q h ts vs
  | [], vs, _, r => by simpa [Reps] using r
  | t :: ts, vs, n, r => by
    rw [T.noLs, Bool.and_eq_true] at n
    rw [Reps] at r ⊢
    obtain ⟨v, r', e, q1, q2⟩ := r
    exact ⟨v, r', e, T.noL_rep t v n.1 q1, T.noLs_reps ts r' n.2 q2⟩
end
mutual
theorem good_noL {P Q : Nat → Prop} {h : MH} : ∀ (o : OA), o.er.shNoL = true → Good P h o → Good Q h o
  | .sh v t, n, g => by
    rw [Good] at g ⊢
    exact T.noL_rep t v (by simpa [OA.er, OT.shNoL] using n) g
  | .lst a xs, n, g => by
    rw [Good] at g ⊢
    exact ⟨g.1, goods_noL xs (by simpa [OA.er, OT.shNoL] using n) g.2⟩
  | .tup a xs, n, g => by
    rw [Good] at g ⊢
    exact ⟨g.1, goods_noL xs (by simpa [OA.er, OT.shNoL] using n) g.2⟩
  | .dct a ep ts ks xs, n, g => by
    rw [Good] at g ⊢
    exact ⟨g.1, g.2.1, goods_noL xs (by simpa [OA.er, OT.shNoL] using n) g.2.2⟩
theorem goods_noL {P Q : Nat → Prop} {h : MH} : ∀ (xs : List OA), OT.shNoLs (OA.ers xs) = true → Goods P h xs → Goods Q h xs
  | [], _, g => by simp [Goods]
  | x :: xs, n, g => by
    rw [OA.ers, OT.shNoLs, Bool.and_eq_true] at n
    rw [Goods] at g ⊢
    exact ⟨good_noL x n.1 g.1, goods_noL xs n.2 g.2⟩
end
theorem ads_sub {xs ys : List OA} (s : List.Sublist xs ys) : List.Sublist (OA.ads xs) (OA.ads ys) := by
  induction s with
  | slnil => exact List.Sublist.refl _
  | cons y s ih => rw [OA.ads]; exact ih.trans (List.sublist_append_right _ _)
  | cons_cons y s ih => rw [OA.ads, OA.ads]; exact (List.Sublist.refl _).append ih
def rdz (b : Bool) (o : OA) : OA := if b then o else o.ice
/-- back from a call -/
theorem back_ok {C0 C : Cf} {ρ : Env} {s s2 : TEnv} (I : Inv C ρ s) (S0 : Step C0 C) {ms : List Bool} {ws : List TW} {D Df Dt : List Nat} {oas ex oao : List OA} {P' : Nat → Prop} {h' : MH} {L : List (Nat × OA)}
    (F : Free C0 C D) (pD : List.Perm D (Df ++ Dt)) (pX : List.Perm (OA.ads oas) (Dt ++ (ioAls ms ws).flatMap (slotAd C.A))) (ap : apart ms ws = true)
    (fs : FS (fun a => C.P a ∨ a ∈ Df ∨ a ∈ (rdAls ms ws).flatMap (slotAd C.A)) C.h (OA.ads oas) P' h' (ex ++ oao))
    (h1 : L.map Prod.fst = ioAls ms ws) (h2 : ∀ p ∈ L, ρ[p.1]? = some (some p.2.mv)) (h3 : List.Sublist (L.map Prod.snd) oao)
    (h4 : ∀ j, tget s2 j = match look L j with | some o => some o.er | none => tget s j) (h5 : s2.length = s.length)
    (b : Bool) (hb : b = true → OT.shNoLs (OA.ers ex) = true ∧ OT.shNoLs (OA.ers oao) = true) :
    ∃ C3 : Cf, C3.h = h' ∧ Inv C3 ρ (if b then s2 else (rdAls ms ws).foldl fz s2) ∧ Step C0 C3 ∧ Goods C3.P C3.h ex ∧ Free C0 C3 (OA.ads ex) := by
  simp only [apart, Bool.and_eq_true, decide_eq_true_eq, List.all_eq_true, Bool.not_eq_true', List.contains_eq_mem, decide_eq_false_iff_not] at ap
  obtain ⟨nio, apr⟩ := ap
  let Rd := (rdAls ms ws).flatMap (slotAd C.A)
  let A3 : AEnv := fun j => match look L j with
    | some o => some o
    | none => if j ∈ rdAls ms ws then (C.A j).map (rdz b) else C.A j
  let P3 : Nat → Prop := fun a => P' a ∧ (b = true → a ∉ Rd)
  have FD := F.perm pD
  have nexo := fs.nd
  rw [ads_append] at nexo
  have nexo := List.nodup_append.mp nexo
  have gexo := goods_append.mp fs.good
  -- where addresses of old places lie
  have rdOwn : ∀ a ∈ Rd, Own C.A a := fun a m => by
    obtain ⟨i, _, o, e, ao⟩ := mem_slots m
    exact ⟨i, o, e, ao⟩
  have xCase : ∀ a ∈ OA.ads oas, a ∈ Dt ∨ ∃ i ∈ ioAls ms ws, ∃ o, C.A i = some o ∧ a ∈ o.ad := fun a m => by
    rcases List.mem_append.mp (pX.mem_iff.mp m) with m | m
    · exact .inl m
    · exact .inr (mem_slots m)
  have xNot : ∀ j o a, C.A j = some o → j ∉ ioAls ms ws → a ∈ o.ad → a ∉ OA.ads oas := by
    intro j o a e n m m'
    rcases xCase a m' with q | ⟨i, mi, o', e', m''⟩
    · exact FD.dj a (by simp [q]) ⟨j, o, e, m⟩
    · refine I.dj j i o o' e e' ?_ a m m''
      rintro rfl; exact n mi
  have xQ : ∀ a ∈ OA.ads oas, ¬ C.P a := by
    intro a m p
    rcases xCase a m with q | ⟨i, mi, o', e', m''⟩
    · exact FD.fr a (by simp [q]) p
    · exact I.fr i o' e' a m'' p
  have xLt : ∀ a ∈ OA.ads oas, a < C.h.length := by
    intro a m
    rcases xCase a m with q | ⟨i, mi, o', e', m''⟩
    · exact FD.lt a (by simp [q])
    · exact I.lt ⟨i, o', e', m''⟩
  have xNw : ∀ a ∈ OA.ads oas, Own C0.A a ∨ C0.h.length ≤ a := by
    intro a m
    rcases xCase a m with q | ⟨i, mi, o', e', m''⟩
    · exact FD.nw a (by simp [q])
    · exact S0.own a ⟨i, o', e', m''⟩
  have K : Keep C.P C.h P3 h' := ⟨fun a p => ⟨⟨fs.mono a (.inl p), fun _ m => (I.sep a p).1 (rdOwn a m)⟩, fs.keep a (I.le a p) fun m => xQ a m p⟩, fs.tup⟩
  have lookS : ∀ {j : Nat} {o : OA}, look L j = some o → j ∈ ioAls ms ws ∧ o ∈ oao := fun e => by
    have m := look_mem e
    exact ⟨h1 ▸ List.mem_map.mpr ⟨_, m, rfl⟩, h3.subset (List.mem_map.mpr ⟨_, m, rfl⟩)⟩
  have lookN : ∀ {j : Nat}, look L j = none → j ∉ ioAls ms ws := fun e => h1 ▸ look_none e
  have ndL : (OA.ads (L.map Prod.snd)).Nodup := by
    exact nexo.2.1.sublist (ads_sub h3)
  have up : ∀ o ∈ oao, Good P3 h' o := by
    intro o m
    have g := goods_iff.mp gexo.2 o m
    cases hbb : b with
    | false => exact Good.keep ⟨fun a p => ⟨⟨p, fun e => by simp [hbb] at e⟩, rfl⟩, fun _ _ e => e⟩ o (fun _ _ => rfl) g
    | true => exact goods_iff.mp (goods_noL oao (hb hbb).2 gexo.2) o m
  have upx : Goods P3 h' ex := by
    cases hbb : b with
    | false => exact Goods.keep ⟨fun a p => ⟨⟨p, fun e => by simp [hbb] at e⟩, rfl⟩, fun _ _ e => e⟩ ex (fun _ _ => rfl) gexo.1
    | true => exact goods_noL ex (hb hbb).1 gexo.1
  -- what a place holds now
  have cs : ∀ j x, A3 j = some x → (look L j = some x) ∨ (look L j = none ∧ j ∈ rdAls ms ws ∧ ∃ o, C.A j = some o ∧ x = rdz b o) ∨ (look L j = none ∧ j ∉ rdAls ms ws ∧ C.A j = some x) := by
    intro j x e
    simp only [A3] at e
    split at e
    · next o q => exact .inl (by rw [q]; exact e)
    · next q =>
      split at e
      · next m =>
        cases hc : C.A j with
        | none => rw [hc] at e; cases e
        | some o =>
          rw [hc] at e
          simp only [Option.map_some, Option.some.injEq] at e
          exact .inr (.inl ⟨q, m, o, rfl, e.symm⟩)
      · next m => exact .inr (.inr ⟨q, m, e⟩)
  have adz : ∀ o a, a ∈ (rdz b o).ad → b = true ∧ a ∈ o.ad := by
    intro o a m
    unfold rdz at m
    split at m
    · next c => exact ⟨c, m⟩
    · simp [OA.ice, OA.ad] at m
  have old : ∀ j x a, A3 j = some x → a ∈ x.ad → look L j = some x ∨ (look L j = none ∧ ∃ o, C.A j = some o ∧ a ∈ o.ad) := by
    intro j x a e m
    rcases cs j x e with q | ⟨q, _, o, eo, rfl⟩ | ⟨q, _, eo⟩
    · exact .inl q
    · exact .inr ⟨q, o, eo, (adz o a m).2⟩
    · exact .inr ⟨q, x, eo, m⟩
  have own3 : ∀ a, Own A3 a → (∃ o ∈ oao, a ∈ o.ad) ∨ ∃ j o, j ∉ ioAls ms ws ∧ C.A j = some o ∧ a ∈ o.ad := by
    rintro a ⟨j, x, e, m⟩
    rcases old j x a e m with q | ⟨q, o, eo, mo⟩
    · exact .inl ⟨x, (lookS q).2, m⟩
    · exact .inr ⟨j, o, lookN q, eo, mo⟩
  have kp : ∀ a, a < C.h.length → a ∉ OA.ads oas → h'[a]? = C.h[a]? := fs.keep
  refine ⟨⟨P3, A3, h'⟩, rfl, ⟨?_, ?_, ?_, ?_, ?_, ?_, fun a p => fs.le a p.1, ?_⟩, ⟨Nat.le_trans S0.len fs.len, ?_, fun a xs e => fs.tup a xs (S0.tup a xs e), ?_, ?_, ?_, S0.sep⟩, upx, ?_⟩
  · intro j
    have tj : tget (if b then s2 else (rdAls ms ws).foldl fz s2) j = if b = false ∧ j ∈ rdAls ms ws then (tget s2 j).map (fun o => .sh o.tree) else tget s2 j := by
      cases hbb : b with
      | true => simp
      | false => simp [tget_fzs]
    rw [tj, h4 j]
    simp only [A3]
    cases q : look L j with
    | some o =>
      dsimp only
      rw [if_neg]
      · rfl
      · rintro ⟨_, m⟩
        exact apr j (lookS q).1 m
    | none =>
      dsimp only
      rw [I.er j]
      by_cases m : j ∈ rdAls ms ws
      · rw [if_pos m]
        cases hbb : b with
        | true => cases C.A j <;> simp [rdz]
        | false =>
          simp only [m, and_self, if_true]
          cases C.A j <;> simp [rdz, OA.ice, OA.er]
      · rw [if_neg m, if_neg (fun h => m h.2)]
  · intro j x e
    rcases cs j x e with q | ⟨q, _, o, eo, rfl⟩ | ⟨q, _, eo⟩
    · exact h2 (j, x) (look_mem q)
    · have : (rdz b o).mv = o.mv := by unfold rdz; split <;> rfl
      rw [this]; exact I.mv j o eo
    · exact I.mv j x eo
  · intro j x e
    rcases cs j x e with q | ⟨q, mr, o, eo, rfl⟩ | ⟨q, _, eo⟩
    · exact up x (lookS q).2
    · have kk : ∀ a ∈ o.ad, h'[a]? = C.h[a]? := fun a m => kp a (I.lt ⟨j, o, eo, m⟩) (xNot j o a eo (lookN q) m)
      unfold rdz
      split
      · exact Good.keep K o kk (I.good j o eo)
      · next hbf =>
        rw [OA.ice, Good]
        have r : Rep (fun a => C.P a ∨ a ∈ o.ad) C.h o.er.tree o.mv := Good.rep (fun a p => .inl p) o (fun a m => .inr m) (I.good j o eo)
        refine Rep.keep ⟨fun a p => ?_, fs.tup⟩ _ _ r
        rcases p with p | m
        · exact K.lst a p
        · refine ⟨⟨fs.mono a (.inr (.inr (List.mem_flatMap.mpr ⟨j, mr, by rw [slotAd_eq eo]; exact m⟩))), fun e => absurd e hbf⟩, kk a m⟩
    · exact Good.keep K x (fun a m => kp a (I.lt ⟨j, x, eo, m⟩) (xNot j x a eo (lookN q) m)) (I.good j x eo)
  · intro j x e
    rcases cs j x e with q | ⟨q, _, o, eo, rfl⟩ | ⟨q, _, eo⟩
    · exact mem_nd nexo.2.1 (lookS q).2
    · unfold rdz
      split
      · exact I.nd j o eo
      · simp [OA.ice, OA.ad]
    · exact I.nd j x eo
  · intro i j x y ex' ey n a m m'
    rcases old i x a ex' m with q | ⟨q, o, eo, mo⟩
    · rcases old j y a ey m' with q' | ⟨q', o', eo', mo'⟩
      · exact look_dj ndL q q' n a m m'
      · have mx : a ∈ OA.ads (ex ++ oao) := by rw [ads_append]; exact List.mem_append.mpr (.inr (mem_ads.mpr ⟨x, (lookS q).2, m⟩))
        rcases fs.own a mx with z | z
        · exact xNot j o' a eo' (lookN q') mo' z
        · exact absurd (I.lt ⟨j, o', eo', mo'⟩) (by omega)
    · rcases old j y a ey m' with q' | ⟨q', o', eo', mo'⟩
      · have mx : a ∈ OA.ads (ex ++ oao) := by rw [ads_append]; exact List.mem_append.mpr (.inr (mem_ads.mpr ⟨y, (lookS q').2, m'⟩))
        rcases fs.own a mx with z | z
        · exact xNot i o a eo (lookN q) mo z
        · exact absurd (I.lt ⟨i, o, eo, mo⟩) (by omega)
      · exact I.dj i j o o' eo eo' n a mo mo'
  · intro j x e a m p
    rcases cs j x e with q | ⟨q, mr, o, eo, rfl⟩ | ⟨q, nr, eo⟩
    · exact fs.fr a (by rw [ads_append]; exact List.mem_append.mpr (.inr (mem_ads.mpr ⟨x, (lookS q).2, m⟩))) p.1
    · have z := adz o a m
      exact p.2 z.1 (List.mem_flatMap.mpr ⟨j, mr, by rw [slotAd_eq eo]; exact z.2⟩)
    · rcases fs.lim a p.1 with z | z | z
      · rcases z with z | z | z
        · exact I.fr j x eo a m z
        · exact FD.dj a (by simp [z]) ⟨j, x, eo, m⟩
        · obtain ⟨k, mk, o', eo', ao'⟩ := mem_slots z
          refine I.dj j k x o' eo eo' ?_ a m ao'
          rintro rfl; exact nr mk
      · exact xNot j x a eo (lookN q) m z
      · exact absurd (I.lt ⟨j, x, eo, m⟩) (by omega)
  · have : (if b then s2 else (rdAls ms ws).foldl fz s2).length = s2.length := by
      split
      · rfl
      · exact fzs_len _ _
    rw [this, h5]; exact I.len
  · intro a l n
    have n' : a ∉ OA.ads oas := fun m => (xNw a m).elim n fun g => absurd l (by omega)
    exact (kp a (Nat.lt_of_lt_of_le l S0.len) n').trans (S0.keep a l n)
  · intro a o
    rcases own3 a o with ⟨x, mx, ax⟩ | ⟨j, o', _, eo, ao⟩
    · have mm : a ∈ OA.ads (ex ++ oao) := by rw [ads_append]; exact List.mem_append.mpr (.inr (mem_ads.mpr ⟨x, mx, ax⟩))
      rcases fs.own a mm with z | z
      · exact xNw a z
      · exact .inr (Nat.le_trans S0.len z)
    · exact S0.own a ⟨j, o', eo, ao⟩
  · exact fun a p => (K.lst a (S0.mono a p)).1
  · intro a p
    rcases fs.lim a p.1 with z | z | z
    · rcases z with z | z | z
      · exact S0.lim a z
      · exact .inr (FD.nw a (by simp [z]))
      · exact .inr (S0.own a (rdOwn a z))
    · exact .inr (xNw a z)
    · exact .inr (.inr (Nat.le_trans S0.len z))
  · refine ⟨nexo.1, fun a m p => fs.fr a (by rw [ads_append]; exact List.mem_append.mpr (.inl m)) p.1, ?_, ?_, ?_⟩
    · intro a m o
      rcases own3 a o with ⟨x, mx, ax⟩ | ⟨j, o', nj, eo, ao⟩
      · exact nexo.2.2 a m a (mem_ads.mpr ⟨x, mx, ax⟩) rfl
      · rcases fs.own a (by rw [ads_append]; exact List.mem_append.mpr (.inl m)) with z | z
        · exact xNot j o' a eo nj ao z
        · exact absurd (I.lt ⟨j, o', eo, ao⟩) (by omega)
    · intro a m
      rcases fs.own a (by rw [ads_append]; exact List.mem_append.mpr (.inl m)) with z | z
      · exact xNw a z
      · exact .inr (Nat.le_trans S0.len z)
    · intro a m
      obtain ⟨vs, q⟩ := Goods.lt ex gexo.1 a m
      exact lt_of_get q
theorem le_call {f : Fn} {ms : List Bool} {tf : TFn} {as : EA} {tas : TA} (hf : LF f ms tf) (ha : LA as tas) : LE (eCall f as) (tCall tf ms tas) := by
  intro C ρ s I
  refine (ha C ρ s I).bind ?_
  rintro ws vs s1 C1 I1 S1 ⟨D, V, F⟩
  split
  case isFalse => exact .stuck
  case isTrue ap =>
    cases e : prep s1 ms ws with
    | none => exact .stuck
    | some os =>
      dsimp only
      obtain ⟨oas, Df, Dt, e1, e2, e3, pD, pX, gg⟩ := prep_ok I1 V e
      subst e1
      have FD := F.perm pD
      have nDD := List.nodup_append.mp FD.nd
      have ap' := ap
      simp only [apart, Bool.and_eq_true, decide_eq_true_eq, List.all_eq_true, Bool.not_eq_true', List.contains_eq_mem, decide_eq_false_iff_not] at ap'
      have X := hf (fun a => C1.P a ∨ a ∈ Df ∨ a ∈ (rdAls ms ws).flatMap (slotAd C1.A)) C1.h oas
        (by
          rintro a (p | p | p)
          · exact I1.le a p
          · exact FD.lt a (by simp [p])
          · obtain ⟨i, _, o, eo, ao⟩ := mem_slots p
            exact I1.lt ⟨i, o, eo, ao⟩)
        (gg _ (fun a p => .inl p) (fun a p => .inr (.inl p)) (fun a p => .inr (.inr p)))
        (pX.nodup_iff.mpr (List.nodup_append.mpr ⟨nDD.2.1, slots_nd I1 ap'.1, fun a m b m' q => by
          subst q
          obtain ⟨i, _, o, eo, ao⟩ := mem_slots m'
          exact FD.dj a (by simp [m]) ⟨i, o, eo, ao⟩⟩))
        (by
          intro a m
          rcases List.mem_append.mp (pX.mem_iff.mp m) with m | m
          · rintro (p | p | p)
            · exact FD.fr a (by simp [m]) p
            · exact nDD.2.2 a p a m rfl
            · obtain ⟨i, _, o, eo, ao⟩ := mem_slots p
              exact FD.dj a (by simp [m]) ⟨i, o, eo, ao⟩
          · obtain ⟨i, mi, o, eo, ao⟩ := mem_slots m
            rintro (p | p | p)
            · exact I1.fr i o eo a ao p
            · exact FD.dj a (by simp [p]) ⟨i, o, eo, ao⟩
            · obtain ⟨j, mj, o', eo', ao'⟩ := mem_slots p
              refine I1.dj i j o o' eo eo' ?_ a ao ao'
              rintro rfl
              exact ap'.2 i mi mj)
        e3
      have hlt : ∀ i ∈ ioAls ms ws, i < s1.length := by
        have : ∀ (ms : List Bool) (ws : List TW) (os : List OT), prep s1 ms ws = some os → ∀ i ∈ ioAls ms ws, i < s1.length := by
          intro ms
          induction ms with
          | nil => intro ws os e i m; cases ws <;> simp [ioAls] at m
          | cons b ms ih =>
            intro ws os e i m
            cases ws with
            | nil => cases b <;> simp [ioAls] at m
            | cons w ws =>
              cases b with
              | false =>
                rw [prep] at e
                have hs : ioAls (false :: ms) (w :: ws) = ioAls ms ws := by simp [ioAls]
                rw [hs] at m
                cases q : prep s1 ms ws with
                | none => rw [q] at e; cases h : rd s1 w <;> rw [h] at e <;> cases e
                | some os2 => exact ih ws os2 q i m
              | true =>
                cases w with
                | ot o =>
                  rw [prep] at e
                  have hs : ioAls (true :: ms) (TW.ot o :: ws) = ioAls ms ws := by simp [ioAls]
                  rw [hs] at m
                  cases q : prep s1 ms ws with
                  | none => rw [q] at e; cases e
                  | some os2 => exact ih ws os2 q i m
                | al k =>
                  rw [prep] at e
                  cases h : tget s1 k with
                  | none => rw [h] at e; cases e
                  | some o =>
                    cases q : prep s1 ms ws with
                    | none => rw [h, q] at e; cases e
                    | some os2 =>
                      rw [ioAls] at m
                      rcases List.mem_cons.mp m with rfl | m
                      · exact tget_lt h
                      · exact ih ws os2 q i m
        exact this ms ws _ e
      cases et : tf (OA.ers oas) with
      | stuck => exact .stuck
      | ok r outs =>
        rw [et] at X
        obtain ⟨oar, oao, P', h', x1, x2, x3, x4, fs⟩ := X
        rw [← e2, x1]
        dsimp only
        subst x3
        cases ep : putBack s1 ms ws (OA.ers oao) with
        | none => exact .stuck
        | some s2 =>
          obtain ⟨L, h1, h2, h3, h4, h5⟩ := putBack_ok V e2 x4 ep hlt ap'.1
          obtain ⟨C3, q1, q2, q3, q4, q5⟩ := back_ok (ex := [oar]) I1 S1 F pD pX ap fs h1 h2 h3 h4 h5 (freeT r (OA.ers oao)) (fun hb => by
            simp only [freeT, Bool.and_eq_true] at hb
            refine ⟨?_, hb.2⟩
            simp [OA.ers, OT.shNoLs, x2, hb.1])
          subst q1
          refine LR.ok (Q := VW ρ C) (b := oar.mv) q2 q3 ⟨oar.ad, ⟨oar, x2, rfl, ?_, rfl⟩, by simpa [OA.ads] using q5⟩
          rw [Goods] at q4
          exact q4.1
      | exc c outs =>
        rw [et] at X
        obtain ⟨oao, P', h', x1, x3, x4, fs⟩ := X
        rw [← e2, x1]
        dsimp only
        subst x3
        cases ep : putBack s1 ms ws (OA.ers oao) with
        | none => exact .stuck
        | some s2 =>
          obtain ⟨L, h1, h2, h3, h4, h5⟩ := putBack_ok V e2 x4 ep hlt ap'.1
          obtain ⟨C3, q1, q2, q3, q4, q5⟩ := back_ok (ex := []) I1 S1 F pD pX ap fs h1 h2 h3 h4 h5 (OT.shNoLs (OA.ers oao)) (fun hb => ⟨rfl, hb⟩)
          subst q1
          exact ⟨C3, rfl, q2, q3⟩

/-! ### as the programs print them -/
theorem eCall1 {f : Fn} {a : E} : eCall f (aCons a aNil) = e1 (fun v h => f [v] h) a := by
  funext s h
  unfold eCall aCons aNil e1
  cases a s h <;> rfl
theorem eCall2 {f : Fn} {a b : E} : eCall f (aCons a (aCons b aNil)) = e2 (fun v w h => f [v, w] h) a b := by
  funext s h
  unfold eCall aCons aNil e2
  cases a s h with
  | ok v h1 =>
    simp only [Res.bind_ok]
    cases b s h1 <;> rfl
  | exc _ _ => rfl
  | stuck => rfl
theorem le_len {a : E} {ta : TE} (ha : LE a ta) : LE (eCall fLen (aCons a aNil)) (t1 gLen ta) := eCall1 ▸ le_t1 lf_len ha
theorem le_list {a : E} {ta : TE} (ha : LE a ta) : LE (eCall fList (aCons a aNil)) (t1k gList ta) := eCall1 ▸ le_t1k kf_list ha
theorem le_tuple {a : E} {ta : TE} (ha : LE a ta) : LE (eCall fTuple (aCons a aNil)) (t1k gTuple ta) := eCall1 ▸ le_t1k kf_tuple ha
theorem le_all {a : E} {ta : TE} (ha : LE a ta) : LE (eCall fAll (aCons a aNil)) (t1 gAll ta) := eCall1 ▸ le_t1 lf_all ha
theorem le_sum {a : E} {ta : TE} (ha : LE a ta) : LE (eCall fSum (aCons a aNil)) (t1 gSum ta) := eCall1 ▸ le_t1 lf_sum ha
theorem le_int {a : E} {ta : TE} (ha : LE a ta) : LE (eCall fInt (aCons a aNil)) (t1 gInt ta) := eCall1 ▸ le_t1 lf_int ha
theorem le_max {a b : E} {ta tb : TE} (ha : LE a ta) (hb : LE b tb) : LE (eCall fMax (aCons a (aCons b aNil))) (t2 gMax ta tb) := eCall2 ▸ le_t2 lf_max ha hb
theorem le_min {a b : E} {ta tb : TE} (ha : LE a ta) (hb : LE b tb) : LE (eCall fMin (aCons a (aCons b aNil))) (t2 gMin ta tb) := eCall2 ▸ le_t2 lf_min ha hb
theorem le_neg {a : E} {ta : TE} (ha : LE a ta) : LE (eNeg a) (t1 gNeg ta) := le_t1 lf_neg ha
theorem le_isN {a : E} {ta : TE} (ha : LE a ta) : LE (eIsN a) (t1 gIsN ta) := le_t1 lf_isN ha
theorem le_notN {a : E} {ta : TE} (ha : LE a ta) : LE (eNotN a) (t1 gNotN ta) := le_t1 lf_notN ha
theorem le_isB {b : Bool} {a : E} {ta : TE} (ha : LE a ta) : LE (eIsB b a) (t1 (gIsB b) ta) := le_t1 (lf_isB b) ha
theorem le_isi {T : Ty} {a : E} {ta : TE} (ha : LE a ta) : LE (eIsi T a) (t1 (gIsi T) ta) := le_t1 (lf_isi T) ha
theorem le_rng {a b : E} {ta tb : TE} (ha : LE a ta) (hb : LE b tb) : LE (eListRng a b) (t2k gRng ta tb) := le_t2k kf_rng ha hb
theorem lf_bits : Lf1 (fun v h => mBitLen [v] h) gBits := by
  intro h t v o r e
  cases t <;> simp only [gBits] at e <;> try (simp at e; done)
  simp only [Rep] at r; subst r
  exact ⟨_, _, (Option.some.inj e).symm, leaf_int _, rfl⟩
theorem le_bits {a : E} {ta : TE} (ha : LE a ta) : LE (e1 (fun v h => mBitLen [v] h) a) (t1 gBits ta) := le_t1 lf_bits ha
theorem le_T : LE eT tT := le_c (leaf_bl _)
/-- a law -/
theorem law_of {m : Fn} {t : TFn} (hl : LF m [false] t) {ns : List Int} (e : t [.sh (.scr ns)] = .ok (.sh (.bl true)) []) : ∃ h, m [.scr ns] [] = .ok (.bl true) h := by
  have X := hl (fun _ => False) [] [.sh (.scr ns) (.scr ns)] (by simp) (by simp [Goods, Good, Rep]) (by simp [OA.ads, OA.ad]) (by simp) rfl
  have e' : t (OA.ers [.sh (.scr ns) (.scr ns)]) = .ok (.sh (.bl true)) [] := e
  rw [e'] at X
  obtain ⟨oar, oao, P', h', x1, x2, x3, x4, fs⟩ := X
  refine ⟨h', ?_⟩
  have g := fs.good
  rw [Goods] at g
  cases oar with
  | sh v u =>
    simp only [OA.er, OT.sh.injEq] at x2
    subst x2
    have g1 := g.1
    simp only [Good, Rep] at g1
    subst g1
    exact x1
  | lst _ _ => simp [OA.er] at x2
  | tup _ _ => simp [OA.er] at x2
  | dct _ _ _ _ _ => simp [OA.er] at x2

/-! ### parts of a place's tree -/
def OA.at : OA → List Nat → Option OA
  | o, [] => some o
  | .lst _ xs, k :: r => match xs[k]? with
    | some x => x.at r
    | none => none
  | .tup _ xs, k :: r => match xs[k]? with
    | some x => x.at r
    | none => none
  | .sh _ _, _ :: _ => none
  | .dct _ _ _ _ _, _ :: _ => none
def OA.upd (n : OA) : OA → List Nat → OA
  | _, [] => n
  | .lst a xs, k :: r => match xs[k]? with
    | some x => .lst a (xs.set k (OA.upd n x r))
    | none => .lst a xs
  | .tup a xs, k :: r => match xs[k]? with
    | some x => .tup a (xs.set k (OA.upd n x r))
    | none => .tup a xs
  | .sh v t, _ :: _ => .sh v t
  | .dct a ep ts ks xs, _ :: _ => .dct a ep ts ks xs
theorem at_er : ∀ (path : List Nat) (o : OA) (t : OT), o.er.at path = some t → ∃ x, o.at path = some x ∧ x.er = t
  | [], o, t, e => by
    have : o.er.at [] = some o.er := by cases h : o.er <;> rfl
    rw [this] at e
    refine ⟨o, ?_, Option.some.inj e⟩
    cases o <;> rfl
  | k :: r, .sh v u, t, e => by simp [OA.er, OT.at] at e
  | k :: r, .dct _ _ _ _ _, t, e => by simp [OA.er, OT.at] at e
  | k :: r, .lst a xs, t, e => by
    simp only [OA.er, OT.at, ers_getElem?] at e
    cases q : xs[k]? with
    | none => rw [q] at e; simp at e
    | some z =>
      rw [q] at e
      simp only [Option.map_some] at e
      obtain ⟨x, h1, h2⟩ := at_er r z t e
      exact ⟨x, by simp only [OA.at, q, h1], h2⟩
  | k :: r, .tup a xs, t, e => by
    simp only [OA.er, OT.at, ers_getElem?] at e
    cases q : xs[k]? with
    | none => rw [q] at e; simp at e
    | some z =>
      rw [q] at e
      simp only [Option.map_some] at e
      obtain ⟨x, h1, h2⟩ := at_er r z t e
      exact ⟨x, by simp only [OA.at, q, h1], h2⟩
theorem set_erase {α : Type} : ∀ (xs : List α) (k : Nat) (y : α), (xs.set k y).eraseIdx k = xs.eraseIdx k
  | [], k, y => by simp
  | x :: xs, 0, y => by simp
  | x :: xs, k + 1, y => by simp [set_erase xs k y]
theorem set_map_same {xs : List OA} {k : Nat} {z y : OA} (q : xs[k]? = some z) (e : y.mv = z.mv) : (xs.set k y).map OA.mv = xs.map OA.mv := by
  rw [List.map_set]
  have l := (List.getElem?_eq_some_iff.mp q).1
  have : (xs.map OA.mv)[k]? = some y.mv := by rw [List.getElem?_map, q, e]; rfl
  obtain ⟨l', e'⟩ := List.getElem?_eq_some_iff.mp this
  rw [← e']
  exact List.set_getElem_self l'
structure Split (o : OA) (path : List Nat) (x : OA) (cx : List Nat) : Prop where
  pm : List.Perm o.ad (cx ++ x.ad)
  gd : ∀ P h, Good P h o → Good P h x
  pm' : ∀ y : OA, List.Perm (OA.upd y o path).ad (cx ++ y.ad)
  mv : ∀ y : OA, y.mv = x.mv → (OA.upd y o path).mv = o.mv
  er : ∀ y : OA, (OA.upd y o path).er = OT.upd y.er o.er path
  gd' : ∀ (y : OA) (P P' : Nat → Prop) (h h' : MH), y.mv = x.mv → Good P h o → Keep P h P' h' → (∀ a ∈ cx, h'[a]? = h[a]?) → Good P' h' y → Good P' h' (OA.upd y o path)
theorem at_split : ∀ (path : List Nat) (o x : OA), o.at path = some x → ∃ cx, Split o path x cx
  | [], o, x, e => by
    have : o.at [] = some o := by cases o <;> rfl
    rw [this] at e
    cases e
    have u : ∀ y : OA, OA.upd y o [] = y := fun y => by cases o <;> rfl
    refine ⟨[], ⟨.refl _, fun _ _ g => g, fun y => by rw [u]; exact .refl _, fun y e => by rw [u]; exact e, fun y => ?_, fun y P P' h h' _ _ _ _ g => by rw [u]; exact g⟩⟩
    rw [u]
    cases o <;> rfl
  | k :: r, .sh v u, x, e => by simp [OA.at] at e
  | k :: r, .dct _ _ _ _ _, x, e => by simp [OA.at] at e
  | k :: r, .lst a xs, x, e => by
    simp only [OA.at] at e
    cases q : xs[k]? with
    | none => rw [q] at e; cases e
    | some z =>
      rw [q] at e
      obtain ⟨cz, S⟩ := at_split r z x e
      have lk := (List.getElem?_eq_some_iff.mp q).1
      have up : ∀ y : OA, OA.upd y (.lst a xs) (k :: r) = .lst a (xs.set k (OA.upd y z r)) := fun y => by simp only [OA.upd, q]
      have p1 : ∀ w : OA, List.Perm (OA.ads (xs.set k w)) (OA.ads (xs.eraseIdx k) ++ w.ad) := fun w => by
        have h := ads_perm (erase_perm (xs := xs.set k w) (j := k) (x := w) (by simp [lk]))
        rw [set_erase, OA.ads] at h
        exact h.trans List.perm_append_comm
      have p0 : List.Perm (OA.ads xs) (OA.ads (xs.eraseIdx k) ++ z.ad) := by
        have h := ads_perm (erase_perm q)
        rw [OA.ads] at h
        exact h.trans List.perm_append_comm
      refine ⟨a :: (OA.ads (xs.eraseIdx k) ++ cz), ⟨?_, ?_, ?_, ?_, ?_, ?_⟩⟩
      · rw [OA.ad, List.cons_append, List.append_assoc]
        exact (p0.trans (S.pm.append_left _)).cons a
      · intro P h g
        rw [Good, goods_iff] at g
        exact S.gd P h (g.2 z (List.mem_of_getElem? q))
      · intro y
        rw [up, OA.ad, List.cons_append, List.append_assoc]
        exact ((p1 _).trans ((S.pm' y).append_left _)).cons a
      · intro y _; rw [up]; rfl
      · intro y
        rw [up]
        simp only [OA.er, OT.upd, ers_getElem?, q, Option.map_some, ers_set, S.er y]
      · intro y P P' h h' ey g K kc gy
        rw [up]
        rw [Good] at g ⊢
        rw [set_map_same q (S.mv y ey)]
        refine ⟨(kc a (by simp)).trans g.1, goods_iff.mpr fun w mw => ?_⟩
        have hx := goods_iff.mp g.2
        obtain ⟨j, ej⟩ := List.getElem?_of_mem mw
        by_cases n : j = k
        · subst n
          rw [List.getElem?_set_self lk] at ej
          cases ej
          exact S.gd' y P P' h h' ey (hx z (List.mem_of_getElem? q)) K (fun b mb => kc b (by simp [mb])) gy
        · rw [List.getElem?_set_ne (Ne.symm n)] at ej
          refine Good.keep K w (fun b mb => kc b ?_) (hx w (List.mem_of_getElem? ej))
          have : w ∈ xs.eraseIdx k := by
            rw [List.mem_eraseIdx_iff_getElem?]
            exact ⟨j, n, ej⟩
          simp [mem_ads.mpr ⟨w, this, mb⟩]
  | k :: r, .tup a xs, x, e => by
    simp only [OA.at] at e
    cases q : xs[k]? with
    | none => rw [q] at e; cases e
    | some z =>
      rw [q] at e
      obtain ⟨cz, S⟩ := at_split r z x e
      have lk := (List.getElem?_eq_some_iff.mp q).1
      have up : ∀ y : OA, OA.upd y (.tup a xs) (k :: r) = .tup a (xs.set k (OA.upd y z r)) := fun y => by simp only [OA.upd, q]
      have p1 : ∀ w : OA, List.Perm (OA.ads (xs.set k w)) (OA.ads (xs.eraseIdx k) ++ w.ad) := fun w => by
        have h := ads_perm (erase_perm (xs := xs.set k w) (j := k) (x := w) (by simp [lk]))
        rw [set_erase, OA.ads] at h
        exact h.trans List.perm_append_comm
      have p0 : List.Perm (OA.ads xs) (OA.ads (xs.eraseIdx k) ++ z.ad) := by
        have h := ads_perm (erase_perm q)
        rw [OA.ads] at h
        exact h.trans List.perm_append_comm
      refine ⟨OA.ads (xs.eraseIdx k) ++ cz, ⟨?_, ?_, ?_, ?_, ?_, ?_⟩⟩
      · rw [OA.ad, List.append_assoc]
        exact p0.trans (S.pm.append_left _)
      · intro P h g
        rw [Good, goods_iff] at g
        exact S.gd P h (g.2 z (List.mem_of_getElem? q))
      · intro y
        rw [up, OA.ad, List.append_assoc]
        exact (p1 _).trans ((S.pm' y).append_left _)
      · intro y _; rw [up]; rfl
      · intro y
        rw [up]
        simp only [OA.er, OT.upd, ers_getElem?, q, Option.map_some, ers_set, S.er y]
      · intro y P P' h h' ey g K kc gy
        rw [up]
        rw [Good] at g ⊢
        rw [set_map_same q (S.mv y ey)]
        refine ⟨K.tup _ _ g.1, goods_iff.mpr fun w mw => ?_⟩
        have hx := goods_iff.mp g.2
        obtain ⟨j, ej⟩ := List.getElem?_of_mem mw
        by_cases n : j = k
        · subst n
          rw [List.getElem?_set_self lk] at ej
          cases ej
          exact S.gd' y P P' h h' ey (hx z (List.mem_of_getElem? q)) K (fun b mb => kc b (by simp [mb])) gy
        · rw [List.getElem?_set_ne (Ne.symm n)] at ej
          refine Good.keep K w (fun b mb => kc b ?_) (hx w (List.mem_of_getElem? ej))
          have : w ∈ xs.eraseIdx k := by
            rw [List.mem_eraseIdx_iff_getElem?]
            exact ⟨j, n, ej⟩
          simp [mem_ads.mpr ⟨w, this, mb⟩]
/-- the expression of a part -/
def PE (i : Nat) (path : List Nat) (X : E) : Prop := ∀ (ρ : Env) (h : MH) (P : Nat → Prop) (oa xa : OA), ρ[i]? = some (some oa.mv) → Good P h oa → oa.at path = some xa → X ρ h = .ok xa.mv h
theorem pe_var (i : Nat) : PE i [] (eVar i) := by
  intro ρ h P oa xa m g e
  have : oa.at [] = some oa := by cases oa <;> rfl
  rw [this] at e
  cases e
  unfold eVar
  rw [m]
theorem at_snoc : ∀ (path : List Nat) (k : Nat) (o x : OA), o.at (path ++ [k]) = some x → ∃ y, o.at path = some y ∧ y.at [k] = some x
  | [], k, o, x, e => ⟨o, by cases o <;> rfl, e⟩
  | j :: r, k, .sh _ _, x, e => by simp [OA.at] at e
  | j :: r, k, .dct _ _ _ _ _, x, e => by simp [OA.at] at e
  | j :: r, k, .lst a xs, x, e => by
    simp only [List.cons_append, OA.at] at e ⊢
    cases q : xs[j]? with
    | none => rw [q] at e; cases e
    | some z => rw [q] at e; exact at_snoc r k z x e
  | j :: r, k, .tup a xs, x, e => by
    simp only [List.cons_append, OA.at] at e ⊢
    cases q : xs[j]? with
    | none => rw [q] at e; cases e
    | some z => rw [q] at e; exact at_snoc r k z x e
theorem pe_ix {i : Nat} {p q : List Nat} {X : E} (k : Nat) (hX : PE i p X) (hq : q = p ++ [k] := by rfl) : PE i q (e2 opIx X (eC (.int (k : Int)))) := by
  subst hq
  intro ρ h P oa xa m g e
  obtain ⟨y, e1, e2'⟩ := at_snoc p k oa xa e
  obtain ⟨cx, S⟩ := at_split p oa y e1
  have gy := S.gd P h g
  have hx := hX ρ h P oa y m g e1
  unfold e2
  rw [hx]
  simp only [Res.bind_ok, eC]
  have ix : ∀ xs : List OA, xs[k]? = some xa → atI (xs.map OA.mv) (k : Int) = some xa.mv := by
    intro xs q
    unfold atI ixN
    have l := (List.getElem?_eq_some_iff.mp q).1
    rw [List.length_map, if_pos (by omega), if_pos (by omega)]
    simp [q]
  have at1 : ∀ z : OA, z.at [] = some z := fun z => by cases z <;> rfl
  cases y with
  | sh v t => simp [OA.at] at e2'
  | dct _ _ _ _ _ => simp [OA.at] at e2'
  | lst a xs =>
    rw [Good] at gy
    simp only [OA.at] at e2'
    cases q : xs[k]? with
    | none => rw [q] at e2'; cases e2'
    | some z =>
      rw [q] at e2'
      dsimp only at e2'
      cases e2'
      simp only [OA.mv, opIx, items, gy.1, ix xs q]
  | tup a xs =>
    rw [Good] at gy
    simp only [OA.at] at e2'
    cases q : xs[k]? with
    | none => rw [q] at e2'; cases e2'
    | some z =>
      rw [q] at e2'
      dsimp only at e2'
      cases e2'
      simp only [OA.mv, opIx, items, gy.1, ix xs q]
theorem set_same {ρ : Env} {i : Nat} {v : Option MV} (h : ρ[i]? = some v) : ρ.set i v = ρ := by
  obtain ⟨l, e⟩ := List.getElem?_eq_some_iff.mp h
  rw [← e]
  exact List.set_getElem_self l
/-- place i is hidden -/
theorem Inv.hide {C : Cf} {ρ : Env} {s : TEnv} (I : Inv C ρ s) {i : Nat} {t : OT} (e : tget s i = some t) :
    ∃ C' oa, C'.h = C.h ∧ Inv C' ρ (s.set i none) ∧ Step C C' ∧ oa.er = t ∧ ρ[i]? = some (some oa.mv) ∧ Good C'.P C'.h oa ∧ Free C C' oa.ad := by
  have er := I.er i
  cases hi : C.A i with
  | none => rw [hi] at er; rw [er] at e; cases e
  | some o =>
    have m := I.mv i o hi
    obtain ⟨C', oa, h1, I', S, S', h2, h3, h4, h5⟩ := eat_ok (m := true) (E := []) I I.refl (w := .al i) (v := o.mv) (D := []) ⟨m, rfl⟩ .nil (show eat true s (.al i) = some (t, s.set i none) by simp [e])
    exact ⟨C', oa, h1, I', S', h2, by rw [h3]; exact m, h4, by simpa using h5⟩
/-- and seen again -/
theorem Inv.show {C C2 : Cf} {ρ : Env} {s : TEnv} (I : Inv C2 ρ s) (S : Step C C2) {i : Nat} {o : OA} (m : ρ[i]? = some (some o.mv)) (g : Good C2.P C2.h o) (F : Free C C2 o.ad) :
    Inv ⟨C2.P, put C2.A i (some o), C2.h⟩ ρ (s.set i (some o.er)) ∧ Step C ⟨C2.P, put C2.A i (some o), C2.h⟩ := by
  have l : i < s.length := by rw [← I.len]; exact (List.getElem?_eq_some_iff.mp m).1
  have q := I.setv S F g l
  rw [set_same m] at q
  exact q
theorem le_pk {f : Op2} {g : Op2T} {i : Nat} {path : List Nat} {X b : E} {tb : TE} (hf : Lf2 f g) (hX : PE i path X) (hb : LE b tb) : LE (e2 f X b) (tPk g i path tb) := by
  intro C ρ s I
  unfold tPk
  cases e : tget s i with
  | none => exact .stuck
  | some t =>
    dsimp only
    obtain ⟨C1, oa, hh, I1, S1, er, m, gd, F⟩ := I.hide e
    subst er
    cases ea : oa.er.at path with
    | none => exact .stuck
    | some x =>
      obtain ⟨xa, e1, ex⟩ := at_er path oa x ea
      subst ex
      obtain ⟨cx, Sp⟩ := at_split path oa xa e1
      dsimp only
      unfold e2
      rw [hX ρ C.h C1.P oa xa m (hh ▸ gd) e1, Res.bind_ok, ← hh]
      refine (LR.up S1 (hb C1 ρ _ I1) (Q' := fun C' a b => Step C1 C' ∧ VW ρ C1 C' a b) fun C' a b S q => ⟨S, q⟩).bind ?_
      rintro v y s2 C2 I2 S2 ⟨S12, D2, V2, F2⟩
      cases e2 : rd s2 v with
      | none => exact .stuck
      | some u =>
        dsimp only
        cases e3 : g xa.er.tree u with
        | none => exact .stuck
        | some r =>
          dsimp only
          have F3 := F.step S12
          have gd2 : Good C2.P C2.h oa := Good.keep S12.toKeep oa (fun a ma => S12.keep a (F.lt a ma) (F.dj a ma)) gd
          have rx : Rep (fun _ => True) C2.h xa.er.tree xa.mv := Good.rep (fun _ _ => True.intro) xa (fun _ _ => True.intro) (Sp.gd _ _ gd2)
          obtain ⟨p, rr, rfl, lf, err⟩ := hf _ _ _ _ _ _ rx (rd_rep I2 V2 e2) e3
          rw [err]
          have z := I2.show (S1.trans S12) m gd2 F3
          exact LR.ok (C := ⟨C2.P, put C2.A i (some oa), C2.h⟩) (Q := VW ρ C) (a := .ot (.sh p)) (b := rr) z.1 z.2 (.sh (lf _ _))

/-- the list at a hidden address is changed -/
theorem Inv.poke {C0 C : Cf} {ρ : Env} {s : TEnv} (I : Inv C ρ s) (S0 : Step C0 C) {p : Nat} {vs ys : List MV} (g : C.h[p]? = some (.lst vs)) (np : ¬ C.P p) (no : ¬ Own C.A p) (nw : Own C0.A p ∨ C0.h.length ≤ p) :
    Inv ⟨C.P, C.A, C.h.set p (.lst ys)⟩ ρ s ∧ Step C0 ⟨C.P, C.A, C.h.set p (.lst ys)⟩ := by
  have K := keep_set (ys := ys) np g
  refine ⟨⟨I.er, I.mv, fun j x e => Good.keep K x (fun a m => ?_) (I.good j x e), I.nd, I.dj, I.fr, fun a q => by simpa using I.le a q, I.len⟩,
    ⟨by simpa using S0.len, fun a l n => ?_, fun a xs e => K.tup a xs (S0.tup a xs e), S0.own, S0.mono, S0.lim, S0.sep⟩⟩
  · rw [List.getElem?_set_ne]
    rintro rfl; exact no ⟨j, x, e, m⟩
  · have : p ≠ a := by
      rintro rfl
      exact nw.elim n fun z => absurd l (by omega)
    show (C.h.set p (.lst ys))[a]? = _
    rw [List.getElem?_set_ne this]
    exact S0.keep a l n
theorem le_appendP {m : Bool} {i : Nat} {path : List Nat} {X a : E} {ta : TE} (hX : PE i path X) (ha : LE a ta) : LE (eMeth .tlist mAppend X (aCons a aNil)) (tAppendP m i path ta) := by
  intro C ρ s I
  unfold tAppendP
  cases e : tget s i with
  | none => exact .stuck
  | some t =>
    dsimp only
    obtain ⟨C1, oa, hh, I1, S1, er, mm, gd, F⟩ := I.hide e
    subst er
    cases ea : oa.er.at path with
    | none => exact .stuck
    | some x =>
      obtain ⟨xa, e1, ex⟩ := at_er path oa x ea
      obtain ⟨cx, Sp⟩ := at_split path oa xa e1
      cases xa with
      | sh v u => simp only [OA.er] at ex; subst ex; exact .stuck
      | tup b xs => simp only [OA.er] at ex; subst ex; exact .stuck
      | dct b ep ts ks xs => simp only [OA.er] at ex; subst ex; exact .stuck
      | lst p xs =>
        simp only [OA.er] at ex
        subst ex
        have gx := Sp.gd _ _ gd
        rw [Good] at gx
        have hx := hX ρ C.h C1.P oa _ mm (hh ▸ gd) e1
        have em : eMeth .tlist mAppend X (aCons a aNil) ρ C.h = (a ρ C1.h).bind fun x h2 => mAppend [.ref p, x] h2 := by
          unfold eMeth
          rw [hx]
          have t1 : isTy .tlist C.h (OA.mv (.lst p xs)) = some true := by
            simp only [OA.mv, isTy]
            rw [← hh, gx.1]
            rfl
          rw [Res.bind_ok, if_pos t1, hh]
          unfold aCons aNil
          cases a ρ C.h <;> rfl
        rw [em]
        dsimp only
        refine (LR.up S1 (ha C1 ρ _ I1) (Q' := fun C' a b => Step C1 C' ∧ VW ρ C1 C' a b) fun C' a b S q => ⟨S, q⟩).bind ?_
        rintro w y s2 C2 I2 S2 ⟨S12, D2, V2, F2⟩
        cases e3 : eat m s2 w with
        | none => exact .stuck
        | some z =>
          obtain ⟨v, s3⟩ := z
          dsimp only
          have FF : Free C C2 (oa.ad ++ D2) := F.append S1 S12 F2
          obtain ⟨C3, wa, h3, I3, S3, S23, ew, mw, gw, F3⟩ := eat_ok I2 (S1.trans S12) V2 (FF.perm List.perm_append_comm) e3
          have S13 := S12.trans S23
          have gd3 : Good C3.P C3.h oa := Good.keep S13.toKeep oa (fun b mb => S13.keep b (F.lt b mb) (F.dj b mb)) gd
          have gx3 := Sp.gd _ _ gd3
          rw [Good] at gx3
          split
          · next c =>
            have Fo := F3.right
            have pin : p ∈ oa.ad := Sp.pm.mem_iff.mpr (by simp [OA.ad])
            have ndo := Sp.pm.nodup_iff.mp Fo.nd
            have ndo2 := List.nodup_append.mp ndo
            have ndx := ndo2.2.1
            rw [OA.ad, List.nodup_cons] at ndx
            have pcx : p ∉ cx := fun q => ndo2.2.2 p q p (by simp [OA.ad]) rfl
            have pwa : p ∉ wa.ad := fun q => (List.nodup_append.mp F3.nd).2.2 p q p pin rfl
            have l : (xs.map OA.mv).length < lim := by rw [List.length_map, ← ers_len]; exact c
            have z := I3.poke S3 (ys := xs.map OA.mv ++ [y]) gx3.1 (Fo.fr p pin) (Fo.dj p pin) (Fo.nw p pin)
            have K := keep_set (ys := xs.map OA.mv ++ [y]) (Fo.fr p pin) gx3.1
            have ne : ∀ b, b ≠ p → (C3.h.set p (.lst (xs.map OA.mv ++ [y])))[b]? = C3.h[b]? := fun b q => List.getElem?_set_ne (Ne.symm q)
            have gy : Good C3.P (C3.h.set p (.lst (xs.map OA.mv ++ [y]))) (.lst p (xs ++ [wa])) := by
              rw [Good]
              refine ⟨by rw [List.getElem?_set_self (lt_of_get gx3.1)]; simp [mw], goods_append.mpr ⟨?_, ?_⟩⟩
              · exact Goods.keep K xs (fun b mb => ne b (by rintro rfl; exact ndx.1 mb)) gx3.2
              · simp only [Goods, and_true]
                exact Good.keep K wa (fun b mb => ne b (by rintro rfl; exact pwa mb)) gw
            have gu := Sp.gd' (.lst p (xs ++ [wa])) _ _ _ _ rfl gd3 K (fun b mb => ne b (by rintro rfl; exact pcx mb)) gy
            have Fu : Free C ⟨C3.P, C3.A, C3.h.set p (.lst (xs.map OA.mv ++ [y]))⟩ (OA.upd (.lst p (xs ++ [wa])) oa path).ad := by
              have F4 : Free C ⟨C3.P, C3.A, C3.h.set p (.lst (xs.map OA.mv ++ [y]))⟩ (wa.ad ++ oa.ad) := ⟨F3.nd, F3.fr, F3.dj, F3.nw, fun b mb => by simpa using F3.lt b mb⟩
              refine F4.perm ?_
              refine (List.perm_append_comm.trans ?_).trans (Sp.pm' _).symm
              rw [OA.ad, ads_append]
              simp only [OA.ads, List.append_nil]
              refine (Sp.pm.append_right wa.ad).trans ?_
              rw [OA.ad, List.append_assoc, List.cons_append]
            have mu : (OA.upd (.lst p (xs ++ [wa])) oa path).mv = oa.mv := Sp.mv _ rfl
            have r := z.1.show z.2 (o := OA.upd (.lst p (xs ++ [wa])) oa path) (by rw [mu]; exact mm) gu Fu
            have em2 : mAppend [.ref p, y] C2.h = .ok .non (C3.h.set p (.lst (xs.map OA.mv ++ [y]))) := by
              rw [← h3]
              simp only [mAppend, gx3.1]
              rw [if_pos l]
            rw [em2]
            have eu : (OA.upd (.lst p (xs ++ [wa])) oa path).er = OT.upd (.lst (OA.ers xs ++ [v])) oa.er path := by
              rw [Sp.er, OA.er, ers_append]
              simp only [OA.ers, ew]
            rw [eu] at r
            exact LR.ok (Q := VW ρ C) (a := .ot (.sh .non)) (b := .non) r.1 r.2 (.sh (by simp [Rep]))
          · exact .stuck
end Mi
set_option linter.all false
namespace Mi
/-! ### what is dead is forgotten -/
def tsKl (vs : List Nat) (b : TS) : TS := fun s => match b s with
  | .nx s1 => .nx (twipe s1 vs)
  | .ct s1 => .ct (twipe s1 vs)
  | y => y
theorem ls_kl {W vs : List Nat} {b : S} {tb : TS} (hb : LS W b tb) : LS W b (tsKl vs tb) := by
  intro C ρ s I
  have H := hb C ρ s I
  unfold tsKl
  cases e : tb s with
  | nx s1 =>
    rw [e] at H
    obtain ⟨ρ1, C1, e1, I1, S1, m1⟩ := H
    have q := I1.twipe (ρw := ρ1) (vs := vs) (fun _ _ => rfl) rfl
    exact ⟨ρ1, ⟨C1.P, wipA C1.A vs, C1.h⟩, by rw [e1], q.1, S1.trans q.2, m1⟩
  | ct s1 =>
    rw [e] at H
    obtain ⟨ρ1, C1, e1, I1, S1, m1⟩ := H
    have q := I1.twipe (ρw := ρ1) (vs := vs) (fun _ _ => rfl) rfl
    exact ⟨ρ1, ⟨C1.P, wipA C1.A vs, C1.h⟩, by rw [e1], q.1, S1.trans q.2, m1⟩
  | rt o s1 => rw [e] at H; exact H
  | bk s1 => rw [e] at H; exact H
  | exc c s1 => rw [e] at H; exact H
  | stuck => exact True.intro
/-! ### a loop over what stands in a place, each item lent -/
def bpre (kk : Option Nat) (n : Nat) (s : TEnv) : TEnv := match kk with
  | none => s
  | some k => s.set k (some (iT n))
def bitm (kk : Option Nat) (n : Nat) (v : MV) : Itm := match kk with
  | none => .one v
  | some _ => .two (.int (n : Int)) v
def bgi (kk : Option Nat) (x : Nat) : GI := match kk with
  | none => gOne (gName x)
  | some k => gTwo (gName k) (gName x)
def bitms (kk : Option Nat) : Nat → List MV → List Itm
  | _, [] => []
  | n, v :: r => bitm kk n v :: bitms kk (n + 1) r
theorem Keep.trans {P P1 P2 : Nat → Prop} {h h1 h2 : MH} (a : Keep P h P1 h1) (b : Keep P1 h1 P2 h2) : Keep P h P2 h2 :=
  ⟨fun x p => ⟨(b.lst x (a.lst x p).1).1, (b.lst x (a.lst x p).1).2.trans (a.lst x p).2⟩, fun x xs e => b.tup x xs (a.tup x xs e)⟩
theorem bloop_ok {W Wb : List Nat} {kk : Option Nat} {x i p : Nat} {b : S} {tb : TS} {ok : MH → Bool} {oa : OA} {path : List Nat} {cx : List Nat} {xs0 : List OA} {mvs : List MV}
    (hb : LS Wb b tb) (hW : ∀ j ∈ Wb, j ∈ W) (hx : x ∈ W) (hk : ∀ k, kk = some k → k ∈ W ∧ k ≠ i ∧ k ≠ x) (nx : x ∉ Wb) (ni : i ∉ Wb) (xi : x ≠ i)
    (Sp : Split oa path (.lst p xs0) cx) (hok : ∀ h : MH, h[p]? = some (.lst mvs) → ok h = true) (C0 Cst : Cf) (gst : Good Cst.P Cst.h oa) :
    ∀ (rem acc : List OA) (n : Nat) (C : Cf) (ρ : Env) (s : TEnv), Inv C ρ s → Step C0 C → Keep Cst.P Cst.h C.P C.h → (∀ a ∈ cx, C.h[a]? = Cst.h[a]?) → ρ[i]? = some (some oa.mv) → Goods C.P C.h acc → Goods C.P C.h rem → (acc ++ rem).map OA.mv = mvs →
      Free C0 C (cx ++ p :: (OA.ads acc ++ OA.ads rem)) → C.h[p]? = some (.lst mvs) →
      SRL C0 W ρ (bloop (bpre kk) x tb n (OA.ers rem) (OA.ers acc) s fun ys s1 => .nx (s1.set i (some (OT.upd (.lst ys) oa.er path)))) (loop ok (bgi kk x) b (bitms kk n (rem.map OA.mv)) ρ C.h) := by
  intro rem
  induction rem with
  | nil =>
    intro acc n C ρ s I S0 K kc hi ga gr em F hp
    simp only [OA.ers, bloop, List.map_nil, bitms, loop, hok _ hp, if_true]
    rw [List.append_nil] at em
    have g : Good C.P C.h (OA.upd (.lst p acc) oa path) := Sp.gd' (.lst p acc) _ _ _ _ rfl gst K kc (by rw [Good]; exact ⟨by rw [em]; exact hp, ga⟩)
    have r := I.show S0 (i := i) (o := OA.upd (.lst p acc) oa path) (by rw [Sp.mv (.lst p acc) rfl]; exact hi) g (by
      refine F.perm ?_
      refine List.Perm.trans ?_ (Sp.pm' _).symm
      simp [OA.ads, OA.ad])
    rw [Sp.er (.lst p acc)] at r
    exact ⟨ρ, ⟨C.P, put C.A i (some (OA.upd (.lst p acc) oa path)), C.h⟩, rfl, r.1, r.2, .refl⟩
  | cons c rem ih =>
    intro acc n C ρ s I S0 K kc hi ga gr em F hp
    simp only [OA.ers, bloop, List.map_cons, bitms, loop, hok _ hp, if_true]
    rw [Goods] at gr
    rw [OA.ads] at F
    have FE : Free C0 C (c.ad ++ (cx ++ p :: (OA.ads acc ++ OA.ads rem))) := F.perm (by
      refine List.Perm.trans ?_ List.perm_append_comm
      rw [List.append_assoc]
      refine List.Perm.append_left cx ?_
      rw [List.cons_append]
      refine List.Perm.cons p ?_
      rw [List.append_assoc]
      refine List.Perm.append_left _ ?_
      exact List.perm_append_comm)
    have st : ∃ ρ1 A1, bgi kk x (bitm kk n c.mv) ρ C.h = some ρ1 ∧ Inv ⟨C.P, A1, C.h⟩ ρ1 ((bpre kk n s).set x (some c.er)) ∧ Step C0 ⟨C.P, A1, C.h⟩ ∧ Same W ρ ρ1 ∧ Free C0 ⟨C.P, A1, C.h⟩ (cx ++ p :: (OA.ads acc ++ OA.ads rem)) ∧ ρ1[i]? = some (some oa.mv) ∧ (∀ v, ρ1[x]? = some (some v) → v = c.mv) := by
      have xv : ∀ (ρ' : Env) v, (ρ'.set x (some c.mv))[x]? = some (some v) → v = c.mv := fun ρ' v e => by
        by_cases l : x < ρ'.length
        · rw [List.getElem?_set_self l] at e
          exact (Option.some.inj (Option.some.inj e)).symm
        · rw [List.set_eq_of_length_le (by omega), List.getElem?_eq_none (by omega)] at e
          cases e
      cases kk with
      | none =>
        obtain ⟨ρ1, A1, e, I1, S1, m1, F1⟩ := lg_name hx C0 C ρ s c _ _ I S0 gr.1 FE rfl
        cases e
        exact ⟨_, A1, rfl, I1, S1, m1, F1, by rw [List.getElem?_set_ne xi]; exact hi, xv ρ⟩
      | some k =>
        obtain ⟨hk1, hk2, hk3⟩ := hk k rfl
        obtain ⟨ρ1, A1, e, I1, S1, m1, F1⟩ := lg_name hk1 C0 C ρ s (.sh (.int (n : Int)) (.int (n : Int))) _ (c.ad ++ (cx ++ p :: (OA.ads acc ++ OA.ads rem))) I S0 (by simp [Good, Rep]) (by simpa [OA.ad] using FE) rfl
        cases e
        obtain ⟨ρ2, A2, e2, I2, S2, m2, F2⟩ := lg_name hx C0 ⟨C.P, A1, C.h⟩ _ _ c _ _ I1 S1 gr.1 F1 rfl
        cases e2
        exact ⟨_, A2, rfl, I2, S2, m1.trans m2, F2, by rw [List.getElem?_set_ne xi, List.getElem?_set_ne hk2]; exact hi, xv _⟩
    obtain ⟨ρ1, A1, e1, I1, S1, m1, F1, hi1, hx1⟩ := st
    rw [e1]
    dsimp only
    have H := hb _ ρ1 _ I1
    dsimp only at H
    cases e2 : tb ((bpre kk n s).set x (some c.er)) with
    | nx s2 =>
      rw [e2] at H
      obtain ⟨ρ2, C2, e3, I2, S2, m2⟩ := H
      rw [e3]
      dsimp only
      cases e4 : tget s2 x with
      | none => exact True.intro
      | some c1 =>
        dsimp only
        obtain ⟨C3, oc, h3, I3, S3, er3, mv3, g3, F3⟩ := I2.hide e4
        have mvc : oc.mv = c.mv := by
          refine hx1 _ ?_
          rw [← m2.2 x nx]; exact mv3
        have S13 := S2.trans S3
        have FF := F1.append S1 S13 (F3.up S2)
        have keepc : ∀ a ∈ cx ++ p :: (OA.ads acc ++ OA.ads rem), C3.h[a]? = C.h[a]? := fun a m => S13.keep a (F1.lt a m) (F1.dj a m)
        have K3 : Keep C.P C.h C3.P C3.h := S13.toKeep
        have R := ih (acc ++ [oc]) (n + 1) C3 ρ2 (s2.set x none) I3 (S1.trans S13) (K.trans K3) (fun a m => (keepc a (by simp [m])).trans (kc a m)) (by rw [m2.2 i ni]; exact hi1)
          (goods_append.mpr ⟨Goods.keep K3 acc (fun a m => keepc a (by simp [m])) ga, by simp [Goods, g3]⟩)
          (Goods.keep K3 rem (fun a m => keepc a (by simp [m])) gr.2)
          (by rw [← em]; simp [mvc])
          (FF.perm (by
            rw [ads_append]
            simp only [OA.ads, List.append_nil]
            rw [List.append_assoc]
            refine List.Perm.append_left cx ?_
            rw [List.cons_append]
            refine List.Perm.cons p ?_
            rw [List.append_assoc, List.append_assoc]
            exact List.Perm.append_left _ List.perm_append_comm))
          (by rw [keepc p (by simp)]; exact hp)
        rw [ers_append] at R
        simp only [OA.ers, er3] at R
        refine SRL.up (C := C0) (ρ1 := ρ2) ⟨Nat.le_refl _, fun _ _ _ => rfl, fun _ _ e => e, fun _ o => .inl o, fun _ q => q, fun _ q => .inl q, S0.sep⟩ (m1.trans ⟨m2.1, fun j nj => m2.2 j fun q => nj (hW j q)⟩) ?_
        simp only [turn]
        rw [← h3]
        exact R
    | ct s2 => exact True.intro
    | rt o s2 => exact True.intro
    | bk s2 => exact True.intro
    | exc c s2 => exact True.intro
    | stuck => exact True.intro
theorem bitms_one : ∀ (n : Nat) (vs : List MV), bitms none n vs = vs.map .one
  | _, [] => rfl
  | n, v :: vs => by rw [bitms, bitms_one (n + 1) vs]; rfl
theorem bitms_two (k : Nat) : ∀ (n : Nat) (vs : List MV), bitms (some k) n vs = (List.range' n vs.length).zipWith (fun (i : Nat) x => Itm.two (.int (i : Int)) x) vs
  | _, [] => rfl
  | n, v :: vs => by
    rw [bitms, bitms_two k (n + 1) vs]
    simp [List.range'_succ, bitm]
theorem bfor_ok {W Wb : List Nat} {kk : Option Nat} {x i : Nat} {b : S} {tb : TS} {path : List Nat} {X : E} (hX : PE i path X) (hb : LS Wb b tb) (hW : ∀ j ∈ Wb, j ∈ W) (hx : x ∈ W) (hk : ∀ k, kk = some k → k ∈ W ∧ k ≠ i ∧ k ≠ x) (nx : x ∉ Wb) (ni : i ∉ Wb) (xi : x ≠ i)
    {C : Cf} {ρ : Env} {s : TEnv} (I : Inv C ρ s) {t : OT} (e : tget s i = some t) {xs : List OT} (ea : t.at path = some (.lst xs)) :
    ∃ p vs, X ρ C.h = .ok (.ref p) C.h ∧ C.h[p]? = some (.lst vs) ∧ ∀ ok : MH → Bool, (∀ h : MH, h[p]? = some (.lst vs) → ok h = true) →
      SRL C W ρ (bloop (bpre kk) x tb 0 xs [] (s.set i none) fun ys s1 => .nx (s1.set i (some (OT.upd (.lst ys) t path)))) (loop ok (bgi kk x) b (bitms kk 0 vs) ρ C.h) := by
  obtain ⟨C1, oa, hh, I1, S1, er, mm, gd, F⟩ := I.hide e
  subst er
  obtain ⟨xa, e1, ex⟩ := at_er path oa _ ea
  obtain ⟨cx, Sp⟩ := at_split path oa xa e1
  cases xa with
  | sh v u => simp [OA.er] at ex
  | tup b xs => simp [OA.er] at ex
  | dct b ep ts ks xs => simp [OA.er] at ex
  | lst p ys =>
    simp only [OA.er, OT.lst.injEq] at ex
    subst ex
    have gx := Sp.gd _ _ gd
    rw [Good] at gx
    have hx' := hX ρ C.h C1.P oa _ mm (hh ▸ gd) e1
    refine ⟨p, ys.map OA.mv, hx', hh ▸ gx.1, fun ok hok => ?_⟩
    have R := bloop_ok (W := W) hb hW hx hk nx ni xi Sp hok C C1 gd ys [] 0 C1 ρ (s.set i none) I1 S1 ⟨fun a q => ⟨q, rfl⟩, fun _ _ q => q⟩ (fun _ _ => rfl) mm (by simp [Goods]) gx.2 (by simp) (F.perm (by
      simpa [OA.ads, OA.ad] using Sp.pm)) gx.1
    rw [hh] at R
    exact R
theorem ls_forB {W Wb : List Nat} {x i : Nat} {b : S} {tb : TS} {path : List Nat} {X : E} (hX : PE i path X) (hb : LS Wb b tb) (hW : ∀ j ∈ Wb, j ∈ W) (hx : x ∈ W) (nx : x ∉ Wb) (ni : i ∉ Wb) (xi : x ≠ i) :
    LS W (sFor (iSeq X) (gOne (gName x)) b) (tsForB i path x tb) := by
  intro C ρ s I
  unfold tsForB
  cases e : tget s i with
  | none => exact True.intro
  | some t =>
    dsimp only
    cases ea : t.at path with
    | none => exact True.intro
    | some o =>
      cases o with
      | sh _ => exact True.intro
      | tup _ => exact True.intro
      | dct _ _ => exact True.intro
      | lst xs =>
        dsimp only
        obtain ⟨p, vs, ex, ep, R⟩ := bfor_ok (W := W) (kk := none) hX hb hW hx (fun k h => nomatch h) nx ni xi I e ea
        have R' := R (It.lst p vs).good (fun h q => by simp [It.good, sameL, q])
        unfold sFor iSeq
        rw [ex]
        simp only [Res.bind_ok, ep, Res.into_ok]
        rw [bitms_one] at R'
        exact R'
theorem ls_forE {W Wb : List Nat} {k x i : Nat} {b : S} {tb : TS} {path : List Nat} {X : E} (hX : PE i path X) (hb : LS Wb b tb) (hW : ∀ j ∈ Wb, j ∈ W) (hx : x ∈ W) (hk : k ∈ W ∧ k ≠ i ∧ k ≠ x) (nx : x ∉ Wb) (ni : i ∉ Wb) (xi : x ≠ i) :
    LS W (sFor (iEnum X) (gTwo (gName k) (gName x)) b) (tsForE i path k x tb) := by
  intro C ρ s I
  unfold tsForE
  cases e : tget s i with
  | none => exact True.intro
  | some t =>
    dsimp only
    cases ea : t.at path with
    | none => exact True.intro
    | some o =>
      cases o with
      | sh _ => exact True.intro
      | tup _ => exact True.intro
      | dct _ _ => exact True.intro
      | lst xs =>
        dsimp only
        obtain ⟨p, vs, ex, ep, R⟩ := bfor_ok (W := W) (kk := some k) hX hb hW hx (fun k' h => by cases h; exact hk) nx ni xi I e ea
        have R' := R (It.enum p vs).good (fun h q => by simp [It.good, sameL, q])
        unfold sFor iEnum
        rw [ex]
        simp only [Res.bind_ok, ep, Res.into_ok]
        rw [bitms_two, ← List.range_eq_range'] at R'
        exact R'
/-! ### sorted(set(xs)) -/
def gSortSet : Op1T
  | .lst xs => match asIntsT xs with
    | some ns => if ns.length ≤ 4000 ∧ (sdI ns).length < 64 then some (flat ((sdI ns).map .int)) else none
    | none => none
  | _ => none
theorem kf_sortSet : Kf1 sortSet gSortSet := by
  intro P h t v o le k e
  cases t <;> simp only [gSortSet] at e <;> try (simp at e; done)
  next ts =>
    obtain ⟨a, vs, rfl, g, r⟩ := k
    split at e
    · next ns en =>
      split at e
      · next c =>
        rw [← Option.some.inj e]
        simp only [sortSet, isL, g, asInts_rep r en]
        rw [if_pos c]
        exact kr_flat le (reps_ints _)
      · cases e
    · cases e
theorem le_sortSet {a : E} {ta : TE} (ha : LE a ta) : LE (eSortSet a) (t1k gSortSet ta) := le_t1k kf_sortSet ha
/-! ### a reader of a part of a place -/
def tPk1 (g : Op1T) (i : Nat) (path : List Nat) : TE := fun s => match tget s i with
  | some o => match o.at path with
    | some x => match g x.tree with
      | some r => .ok (.ot r) s
      | none => .stuck
    | none => .stuck
  | none => .stuck
theorem le_pk1 {f : MV → MH → Res MV} {g : Op1T} {i : Nat} {path : List Nat} {X : E} (hf : Lf1 f g) (hX : PE i path X) : LE (e1 f X) (tPk1 g i path) := by
  intro C ρ s I
  unfold tPk1
  have er := I.er i
  cases hi : C.A i with
  | none => rw [hi] at er; rw [er]; exact .stuck
  | some oa =>
    rw [hi] at er
    rw [er]
    dsimp only [Option.map_some]
    cases ea : oa.er.at path with
    | none => exact .stuck
    | some x =>
      obtain ⟨xa, e1, ex⟩ := at_er path oa x ea
      subst ex
      obtain ⟨cx, Sp⟩ := at_split path oa xa e1
      dsimp only
      cases e3 : g xa.er.tree with
      | none => exact .stuck
      | some r =>
        have gd := I.good i oa hi
        have rx : Rep (fun _ => True) C.h xa.er.tree xa.mv := Good.rep (fun _ _ => True.intro) xa (fun _ _ => True.intro) (Sp.gd _ _ gd)
        obtain ⟨p, rr, rfl, lf, err⟩ := hf _ _ _ _ rx e3
        unfold Mi.e1
        rw [hX ρ C.h C.P oa xa (I.mv i oa hi) gd e1, Res.bind_ok, err]
        exact LR.ok (C := C) (Q := VW ρ C) (a := .ot (.sh p)) (b := rr) I I.refl (.sh (lf _ _))
theorem le_pkLen {i : Nat} {path : List Nat} {X : E} (hX : PE i path X) : LE (eCall fLen (aCons X aNil)) (tPk1 gLen i path) := eCall1 ▸ le_pk1 lf_len hX
theorem le_pkIsi {t : Ty} {i : Nat} {path : List Nat} {X : E} (hX : PE i path X) : LE (eIsi t X) (tPk1 (gIsi t) i path) := le_pk1 (lf_isi t) hX
theorem lf_stuck {ms : List Bool} : LF (fun _ _ => .stuck) ms (fun _ => .stuck) := fun P h oas le g nd fr hl => True.intro
end Mi
set_option linter.all false
namespace Mi
theorem le_meth {ty : Ty} {f : Fn} {g : Op2T} {a b : E} {ta tb : TE} (hf : Lf2 (fun x y h => f [x, y] h) g) (ha : LE a ta) (hb : LE b tb) : LE (eMeth ty f a (aCons b aNil)) (tMeth ty g ta tb) := by
  intro C ρ s I
  unfold eMeth tMeth
  refine (ha C ρ s I).bind ?_
  rintro w x s1 C1 I1 S1 ⟨D1, V1, F1⟩
  cases e0 : rd s1 w with
  | none => exact .stuck
  | some t0 =>
    dsimp only
    split
    case isFalse => exact .stuck
    case isTrue c =>
    rw [if_pos ((rep_isTy ty (rd_rep I1 V1 e0)).trans (by rw [c]))]
    have eb : ((aCons b aNil ρ C1.h).bind fun xs h2 => f (x :: xs) h2) = (b ρ C1.h).bind fun y h2 => f [x, y] h2 := by
      unfold aCons aNil
      cases b ρ C1.h <;> simp
    rw [eb]
    refine (LR.up S1 (hb C1 ρ s1 I1) (Q' := fun C' a b => Step C1 C' ∧ VW ρ C1 C' a b) fun C' a b S q => ⟨S, q⟩).bind ?_
    rintro v y s2 C2 I2 S2 ⟨S12, D2, V2, F2⟩
    have V1' := V1.step F1 S12
    cases e : rd s2 w with
    | none => exact .stuck
    | some t =>
      cases e' : rd s2 v with
      | none => exact .stuck
      | some u =>
        dsimp only
        cases e2 : g t u with
        | none => exact .stuck
        | some o =>
          obtain ⟨u, r, rfl, lf, er⟩ := hf _ _ _ _ _ _ (rd_rep I2 V1' e) (rd_rep I2 V2 e') e2
          dsimp only at er ⊢
          rw [er]
          exact .ok I2 S2 (.sh (lf _ _))
theorem asStrs_rep {P : Nat → Prop} {h : MH} : ∀ {ts : List T} {vs : List MV} {bs : List (List Nat)}, Reps P h ts vs → asStrsT ts = some bs → asStrs vs = some bs
  | [], vs, bs, r, e => by simp only [Reps] at r; subst r; simpa [asStrs, asStrsT] using e
  | t :: ts, vs, bs, r, e => by
    rw [Reps] at r
    obtain ⟨v, r', rfl, q1, q2⟩ := r
    cases t <;> simp only [asStrsT] at e <;> try (simp at e; done)
    simp only [Rep] at q1
    subst q1
    cases q : asStrsT ts with
    | none => rw [q] at e; cases e
    | some cs => rw [q] at e; simp only [asStrs, asStrs_rep q2 q]; exact e
theorem asInts_none {P : Nat → Prop} {h : MH} : ∀ {ts : List T} {vs : List MV}, Reps P h ts vs → asIntsT ts = none → asInts vs = none
  | [], vs, r, e => by simp [asIntsT] at e
  | t :: ts, vs, r, e => by
    rw [Reps] at r
    obtain ⟨v, r', rfl, q1, q2⟩ := r
    cases t with
    | int i =>
      simp only [Rep] at q1
      subst q1
      simp only [asIntsT, Option.map_eq_none_iff] at e
      simp only [asInts, asInts_none q2 e]
      rfl
    | lst _ => obtain ⟨a, _, rfl, _⟩ := q1; rfl
    | tup _ => obtain ⟨a, _, rfl, _⟩ := q1; rfl
    | dct _ _ => obtain ⟨a, _, _, _, rfl, _⟩ := q1; rfl
    | _ => simp only [Rep] at q1; subst q1; rfl
theorem reps_strs {P : Nat → Prop} {h : MH} : ∀ xs : List (List Nat), Reps P h (xs.map T.str) (xs.map MV.str)
  | [] => by simp [Reps]
  | x :: xs => by simp only [List.map_cons, Reps]; exact ⟨_, _, rfl, by simp [Rep], reps_strs xs⟩
theorem kf_listB : Kf1 (fun v h => fListB [v] h) gListB := by
  intro P h t v o le k e
  cases t <;> simp only [gListB] at e <;> try (simp at e; done)
  · simp only [Kid, Rep] at k
    subst k
    rw [← Option.some.inj e]
    simp only [fListB]
    have q := reps_strs (P := P) (h := h) (‹List Nat›.map fun c => [c])
    simp only [List.map_map] at q
    exact kr_flat le q
  · obtain ⟨a, vs, rfl, g, r⟩ := k
    rw [← Option.some.inj e]
    simp only [fListB, fList, items, g]
    exact kr_flat le r
  · simp only [Kid, Rep] at k
    obtain ⟨a, vs, rfl, g, r⟩ := k
    rw [← Option.some.inj e]
    simp only [fListB, fList, items, g]
    exact kr_flat le r
theorem le_listB {a : E} {ta : TE} (ha : LE a ta) : LE (eCall fListB (aCons a aNil)) (t1k gListB ta) := eCall1 ▸ le_t1k kf_listB ha
theorem kf_sortSetB : Kf1 sortSetB gSortSetB := by
  intro P h t v o le k e
  cases t <;> simp only [gSortSetB] at e <;> try (simp at e; done)
  next ts =>
    obtain ⟨a, vs, rfl, g, r⟩ := k
    split at e
    · next ns en =>
      split at e
      · next c =>
        rw [← Option.some.inj e]
        simp only [sortSetB, isL, g, asInts_rep r en]
        rw [if_pos c]
        exact kr_flat le (reps_ints _)
      · cases e
    · next en =>
      split at e
      · next ss es =>
        split at e
        · next c =>
          rw [← Option.some.inj e]
          simp only [sortSetB, isL, g, asInts_none r en, asStrs_rep r es]
          rw [if_pos c]
          exact kr_flat le (reps_strs _)
        · cases e
      · cases e
theorem le_sortSetB {a : E} {ta : TE} (ha : LE a ta) : LE (eSortSetB a) (t1k gSortSetB ta) := le_t1k kf_sortSetB ha
theorem lf_join : Lf2 (fun x y h => mJoin [x, y] h) gJoin := by
  intro h t u v w o r1 r2 e
  unfold gJoin at e
  split at e
  · simp only [Rep] at r1; subst r1
    rw [Rep] at r2
    obtain ⟨a, vs, rfl, _, g, r⟩ := r2
    split at e
    · next ys ey =>
      split at e
      · next c =>
        refine ⟨_, _, (Option.some.inj e).symm, fun _ _ => by rw [Rep], ?_⟩
        simp only [mJoin, isL, g, asStrs_rep r ey]
        rw [if_pos c]
      · cases e
    · cases e
  · cases e
theorem lf_index : Lf2 (fun x y h => mIndex [x, y] h) gIndex := by
  intro h t u v w o r1 r2 e
  unfold gIndex at e
  split at e
  · rename_i xs
    split at e
    · next c =>
      simp only [Bool.and_eq_true] at c
      cases q : xs.findIdx? fun z => T.eqv z u with
      | none => rw [q] at e; cases e
      | some j =>
        rw [q] at e
        refine ⟨_, _, (Option.some.inj e).symm, leaf_int _, ?_⟩
        have e1 := toT_rep deep _ _ c.1 r1
        have e2 := toT_rep deep _ _ c.2 r2
        have r1' := r1
        rw [Rep] at r1'
        obtain ⟨a, vs, rfl, _, g, r⟩ := r1'
        simp only [mIndex, e1, e2, q]
    · cases e
  · cases e
/-! ### sorted -/
theorem reps_zip {P : Nat → Prop} {h : MH} : ∀ {ts : List T} {vs : List MV}, Reps P h ts vs → ∀ p ∈ vs.zip ts, Rep P h p.2 p.1
  | [], vs, r, p, m => by simp at m
  | t :: ts, vs, r, p, m => by
    rw [Reps] at r
    obtain ⟨v, r', rfl, q1, q2⟩ := r
    rcases List.mem_cons.mp (by simpa using m) with e | m
    · rw [e]; exact q1
    · exact reps_zip q2 p m
theorem reps_of {P : Nat → Prop} {h : MH} : ∀ l : List (MV × T), (∀ p ∈ l, Rep P h p.2 p.1) → Reps P h (l.map Prod.snd) (l.map Prod.fst)
  | [], _ => by simp [Reps]
  | p :: l, m => by
    simp only [List.map_cons, Reps]
    exact ⟨_, _, rfl, m p (by simp), reps_of l fun q hq => m q (by simp [hq])⟩
theorem kf_sorted : Kf1 (fun v h => fSorted [v] h) gSorted := by
  intro P h t v o le k e
  cases t <;> simp only [gSorted] at e <;> try (simp at e; done)
  next ts =>
    obtain ⟨a, vs, rfl, g, r⟩ := k
    split at e
    · next c =>
      simp only [Bool.and_eq_true] at c
      rw [← Option.some.inj e]
      simp only [fSorted, isL, g, toTs_rep 59 _ _ c.1 r]
      rw [if_pos c.2]
      have l := reps_len r
      have e2 : ts.mergeSort T.le = ((vs.zip ts).mergeSort fun p q => T.le p.2 q.2).map Prod.snd := by
        rw [List.map_mergeSort (s := T.le) (fun _ _ _ _ => rfl), List.map_snd_zip (by omega)]
      rw [e2]
      exact kr_flat le (reps_of _ fun p m => reps_zip r p ((List.mergeSort_perm _ _).mem_iff.mp m))
    · cases e
theorem le_sorted {a : E} {ta : TE} (ha : LE a ta) : LE (eCall fSorted (aCons a aNil)) (t1k gSorted ta) := eCall1 ▸ le_t1k kf_sorted ha
end Mi
set_option linter.all false
/-! Dicts as trees. -/
namespace Mi
def gIxB : Op2T := fun x k => match x with
  | .dct ts xs => if k.keyN 8 then (kGet ts xs k).map .sh else none
  | x => gIx x k
def gInD : Op2T := fun x d => match d with
  | .dct ts _ => if x.keyN 8 then some (bT (kHas ts x)) else none
  | _ => none
def gNotInD : Op2T := fun x d => match d with
  | .dct ts _ => if x.keyN 8 then some (bT (!kHas ts x)) else none
  | _ => none
/-- d.get(k, x): what is told has no lists -/
def gGetD (d k x : T) : Option OT := match d with
  | .dct ts xs => if k.keyN 8 && ((kGet ts xs k).getD x).noL then some (.sh ((kGet ts xs k).getD x)) else none
  | _ => none
def gLenB : Op1T := fun x => match x with
  | .dct _ xs => some (iT xs.length)
  | x => gLen x
def gListD : Op1T := fun x => match x with
  | .dct ts _ => some (flat ts)
  | x => gList x
def gSortedD : Op1T := fun x => match x with
  | .dct ts _ => if canSortX ts then some (flat (ts.mergeSort T.le)) else none
  | x => gSorted x
mutual
theorem keyN_fit : ∀ (n m : Nat) (t : T), t.keyN n = true → n ≤ m → T.fitN m t = true
  | n, m, .non, _, _ => by cases m <;> rfl
  | n, m, .int _, _, _ => by cases m <;> rfl
  | n, m, .str _, _, _ => by cases m <;> rfl
  | 0, m, .tup xs, h, _ => by simp [T.keyN] at h
  | n + 1, 0, .tup xs, h, l => by omega
  | n + 1, m + 1, .tup xs, h, l => by
    simp only [T.keyN] at h
    rw [T.fitN]
    exact keyNs_fit n m xs h (by omega)
  | n, m, .bl _, h, _ => by cases n <;> simp [T.keyN] at h
  | n, m, .lst _, h, _ => by cases n <;> simp [T.keyN] at h
  | n, m, .dct _ _, h, _ => by cases n <;> simp [T.keyN] at h
  | n, m, .scr _, h, _ => by cases n <;> simp [T.keyN] at h
theorem keyNs_fit : ∀ (n m : Nat) (ts : List T), T.keyNs n ts = true → n ≤ m → T.fitNs m ts = true
  | n, m, [], _, _ => by cases m <;> simp [T.fitNs]
  | n, m, t :: ts, h, l => by
    simp only [T.keyNs, Bool.and_eq_true] at h
    simp only [T.fitNs, keyN_fit n m t h.1 l, keyNs_fit n m ts h.2 l, Bool.and_self]
end
mutual
/-- a key leans on no list -/
theorem keyN_rep {P Q : Nat → Prop} {h : MH} : ∀ (n : Nat) (t : T) (v : MV), t.keyN n = true → Rep P h t v → Rep Q h t v
  | n, .non, v, _, r => by simpa [Rep] using r
  | n, .int _, v, _, r => by simpa [Rep] using r
  | n, .str _, v, _, r => by simpa [Rep] using r
  | 0, .tup xs, v, k, r => by simp [T.keyN] at k
  | n + 1, .tup xs, v, k, r => by
    simp only [T.keyN] at k
    rw [Rep] at r ⊢
    obtain ⟨a, vs, e, g, r⟩ := r
    exact ⟨a, vs, e, g, keyNs_rep n xs vs k r⟩
  | n, .bl _, _, h, _ => by cases n <;> simp [T.keyN] at h
  | n, .lst _, _, h, _ => by cases n <;> simp [T.keyN] at h
  | n, .dct _ _, _, h, _ => by cases n <;> simp [T.keyN] at h
  | n, .scr _, _, h, _ => by cases n <;> simp [T.keyN] at h
theorem keyNs_rep {P Q : Nat → Prop} {h : MH} : ∀ (n : Nat) (ts : List T) (vs : List MV), T.keyNs n ts = true → Reps P h ts vs → Reps Q h ts vs
  | n, [], vs, _, r => by simpa [Reps] using r
  | n, t :: ts, vs, k, r => by
    simp only [T.keyNs, Bool.and_eq_true] at k
    rw [Reps] at r ⊢
    obtain ⟨v, r', e, q1, q2⟩ := r
    exact ⟨v, r', e, keyN_rep n t v k.1 q1, keyNs_rep n ts r' k.2 q2⟩
end
theorem kT_rep {P : Nat → Prop} {h : MH} {t : T} {v : MV} (k : t.keyN 8 = true) (r : Rep P h t v) : kT h v = some t := by
  unfold kT
  rw [toT_rep deep t v (keyN_fit 8 deep t k (by decide)) r]
  simp [k]
theorem kSame_rep {P : Nat → Prop} {h : MH} : ∀ {ts : List T} {ks : List MV}, Reps P h ts ks → (∀ t ∈ ts, T.keyN 8 t = true) → kSame h ts ks = true
  | [], ks, r, _ => by simp only [Reps] at r; subst r; rfl
  | t :: ts, ks, r, k => by
    rw [Reps] at r
    obtain ⟨v, r', rfl, q1, q2⟩ := r
    simp only [kSame, kT_rep (k t (by simp)) q1, kSame_rep q2 fun u m => k u (by simp [m]), decide_true, Bool.and_self]
theorem kid_rep {P : Nat → Prop} {h : MH} {t : T} {v : MV} (k : Kid P h t v) : Rep (fun a => P a ∨ v = .ref a) h t v := k.rep
theorem kGet_rep {P : Nat → Prop} {h : MH} {z : T} : ∀ {ks ts : List T} {vs : List MV}, Reps P h ts vs → (kGet ks ts z = none ∧ kGet ks vs z = none) ∨ ∃ t v, kGet ks ts z = some t ∧ kGet ks vs z = some v ∧ Rep P h t v
  | [], ts, vs, r => by simp [kGet]
  | k :: ks, [], vs, r => by simp only [Reps] at r; subst r; simp [kGet]
  | k :: ks, u :: ts, vs, r => by
    rw [Reps] at r
    obtain ⟨v, r', rfl, q1, q2⟩ := r
    rw [kGet, kGet]
    split
    · exact .inr ⟨u, v, rfl, rfl, q1⟩
    · exact kGet_rep q2
theorem kf_ixB : Kf2 opIxB gIxB := by
  intro P h t u v w o le k1 k2 e
  unfold gIxB at e
  split at e
  · rename_i ts xs
    obtain ⟨a, ep, ks, vs, rfl, g1, r0, r1, r2⟩ := k1
    split at e
    · rename_i kn
      rcases kGet_rep (ks := ts) (z := u) r2 with ⟨q, _⟩ | ⟨t', x, q1, q2, q3⟩
      · rw [q] at e; cases e
      · rw [q1] at e
        rw [← Option.some.inj e]
        simp only [opIxB, g1, kT_rep kn (kid_rep k2), kSame_rep r0 r1, q2, if_true]
        exact kr_leaf q3
    · cases e
  · rename_i nd
    have q := kf_ix P h t u v w o le k1 k2 e
    have : opIxB v w h = opIx v w h := by
      unfold opIxB
      split
      · rename_i a
        split
        · rename_i ep ts ks xs en
          exfalso
          cases t with
          | dct ts xs => exact nd ts xs rfl
          | lst ts => obtain ⟨b, vs, e1, g, _⟩ := k1; cases e1; rw [g] at en; cases en
          | tup ts => simp only [Kid, Rep] at k1; obtain ⟨b, vs, e1, g, _⟩ := k1; cases e1; rw [g] at en; cases en
          | _ => simp only [Kid, Rep] at k1; cases k1
        · rfl
      · rfl
    rw [this]; exact q
theorem inD_rep {h : MH} {t : T} {ts xs : List T} {v w : MV} (r1 : Rep (fun _ => True) h t v) (r2 : Rep (fun _ => True) h (.dct ts xs) w) (k : t.keyN 8 = true) : inD v w h = some (kHas ts t) := by
  rw [Rep] at r2
  obtain ⟨a, ep, ks, vs, rfl, _, g, q1, q2, _⟩ := r2
  simp only [inD, g, kT_rep k r1, kSame_rep q1 q2, if_true]
theorem lf_inD : Lf2 opInD gInD := by
  intro h t u v w o r1 r2 e
  unfold gInD at e
  split at e
  · split at e
    · rename_i k
      exact ⟨_, _, (Option.some.inj e).symm, leaf_bl _, by simp only [opInD, inD_rep r1 r2 k]⟩
    · cases e
  · cases e
theorem lf_notInD : Lf2 opNotInD gNotInD := by
  intro h t u v w o r1 r2 e
  unfold gNotInD at e
  split at e
  · split at e
    · rename_i k
      exact ⟨_, _, (Option.some.inj e).symm, leaf_bl _, by simp only [opNotInD, inD_rep r1 r2 k]⟩
    · cases e
  · cases e
theorem rep_noD {P : Nat → Prop} {h : MH} {t : T} {v : MV} {p ep : Nat} {ts : List T} {ks xs : List MV} (nd : ∀ ts xs, t ≠ .dct ts xs) (k : Kid P h t v) (e : v = .ref p) : h[p]? ≠ some (.dct ep ts ks xs) := by
  intro en
  subst e
  cases t with
  | dct ts xs => exact nd ts xs rfl
  | lst ts => obtain ⟨b, vs, e1, g, _⟩ := k; cases e1; rw [g] at en; cases en
  | tup ts => simp only [Kid, Rep] at k; obtain ⟨b, vs, e1, g, _⟩ := k; cases e1; rw [g] at en; cases en
  | _ => simp only [Kid, Rep] at k; cases k
theorem rep_kid {P : Nat → Prop} {h : MH} {t : T} {v : MV} (r : Rep P h t v) : Kid P h t v := by
  cases t with
  | lst ts => rw [Rep] at r; obtain ⟨a, vs, e, _, q⟩ := r; exact ⟨a, vs, e, q⟩
  | dct ts xs => rw [Rep] at r; obtain ⟨a, ep, ks, vs, e, _, q⟩ := r; exact ⟨a, ep, ks, vs, e, q⟩
  | _ => exact r
theorem lenB_eq {h : MH} {v : MV} (n : ∀ p ep ts ks xs, v = .ref p → h[p]? ≠ some (.dct ep ts ks xs)) : fLenB [v] h = fLen [v] h := by
  cases v with
  | ref p =>
    simp only [fLenB]
    split
    · rename_i en; exact (n p _ _ _ _ rfl en).elim
    · rfl
  | _ => rfl
theorem listD_eq {h : MH} {v : MV} (n : ∀ p ep ts ks xs, v = .ref p → h[p]? ≠ some (.dct ep ts ks xs)) : fListD [v] h = fList [v] h := by
  cases v with
  | ref p =>
    simp only [fListD]
    split
    · rename_i en; exact (n p _ _ _ _ rfl en).elim
    · rfl
  | _ => rfl
theorem sortedD_eq {h : MH} {v : MV} (n : ∀ p ep ts ks xs, v = .ref p → h[p]? ≠ some (.dct ep ts ks xs)) : fSortedD [v] h = fSorted [v] h := by
  cases v with
  | ref p =>
    simp only [fSortedD]
    split
    · rename_i en; exact (n p _ _ _ _ rfl en).elim
    · rfl
  | _ => rfl
theorem lf_lenB : Lf1 (fun v h => fLenB [v] h) gLenB := by
  intro h t v o r e
  unfold gLenB at e
  split at e
  · rw [Rep] at r
    obtain ⟨a, ep, ks, vs, rfl, _, g, q1, q2, q3⟩ := r
    exact ⟨_, _, (Option.some.inj e).symm, leaf_int _, by simp only [fLenB, g, reps_len q3]⟩
  · rename_i nd
    obtain ⟨u, w, e1, l, e2⟩ := lf_len h t v o r e
    exact ⟨u, w, e1, l, (lenB_eq fun p _ _ _ _ e => rep_noD (fun ts xs z => nd ts xs z) (rep_kid r) e).trans e2⟩
theorem le_lenB {a : E} {ta : TE} (ha : LE a ta) : LE (eCall fLenB (aCons a aNil)) (t1 gLenB ta) := eCall1 ▸ le_t1 lf_lenB ha
theorem kf_listD : Kf1 (fun v h => fListD [v] h) gListD := by
  intro P h t v o le k e
  unfold gListD at e
  split at e
  · obtain ⟨a, ep, ks, vs, rfl, g, q1, q2, _⟩ := k
    rw [← Option.some.inj e]
    simp only [fListD, g]
    exact kr_flat le (Reps.keep ⟨fun _ z => z.elim, fun _ _ e => e⟩ _ _ q1)
  · rename_i nd
    have q := kf_list P h t v o le k e
    have z := listD_eq (h := h) (v := v) fun p _ _ _ _ e => rep_noD (fun ts xs z => nd ts xs z) k e
    dsimp only at q ⊢
    rw [z]; exact q
theorem le_listD {a : E} {ta : TE} (ha : LE a ta) : LE (eCall fListD (aCons a aNil)) (t1k gListD ta) := eCall1 ▸ le_t1k kf_listD ha
theorem kf_sortedD : Kf1 (fun v h => fSortedD [v] h) gSortedD := by
  intro P h t v o le k e
  unfold gSortedD at e
  split at e
  · split at e
    · rename_i c
      obtain ⟨a, ep, ks, vs, rfl, g, q1, q2, _⟩ := k
      rw [← Option.some.inj e]
      simp only [fSortedD, g, kSame_rep q1 q2, c, and_self, if_true]
      have r : Reps P h _ ks := Reps.keep ⟨fun _ z => z.elim, fun _ _ e => e⟩ _ _ q1
      have l := reps_len r
      have e2 : ∀ ts : List T, ks.length = ts.length → ts.mergeSort T.le = ((ks.zip ts).mergeSort fun p q => T.le p.2 q.2).map Prod.snd := fun ts l => by
        rw [List.map_mergeSort (s := T.le) (fun _ _ _ _ => rfl), List.map_snd_zip (by omega)]
      rw [e2 _ l]
      exact kr_flat le (reps_of _ fun p m => reps_zip r p ((List.mergeSort_perm _ _).mem_iff.mp m))
    · cases e
  · rename_i nd
    have q := kf_sorted P h t v o le k e
    have z := sortedD_eq (h := h) (v := v) fun p _ _ _ _ e => rep_noD (fun ts xs z => nd ts xs z) k e
    dsimp only at q ⊢
    rw [z]; exact q
theorem le_sortedD {a : E} {ta : TE} (ha : LE a ta) : LE (eCall fSortedD (aCons a aNil)) (t1k gSortedD ta) := eCall1 ▸ le_t1k kf_sortedD ha
/-- d.get(k, x) -/
def tGetD (a b c : TE) : TE := fun s => (a s).bind fun w s1 => match rd s1 w with
  | some t0 => if isTyT .tdict t0 then (b s1).bind fun v s2 => (c s2).bind fun u s3 => match rd s3 w, rd s3 v, rd s3 u with
      | some x, some y, some z => match gGetD x y z with
        | some o => .ok (.ot o) s3
        | none => .stuck
      | _, _, _ => .stuck
    else .stuck
  | none => .stuck
theorem getD_rep {h : MH} {d k x : T} {vd vk vx : MV} {o : OT} (r1 : Rep (fun _ => True) h d vd) (r2 : Rep (fun _ => True) h k vk) (r3 : Rep (fun _ => True) h x vx) (e : gGetD d k x = some o) : ∃ t r, o = .sh t ∧ (∀ P, Rep P h t r) ∧ mGetD [vd, vk, vx] h = .ok r h := by
  unfold gGetD at e
  split at e
  · split at e
    · rename_i ts xs c
      simp only [Bool.and_eq_true] at c
      rw [Rep] at r1
      obtain ⟨a, ep, ks, vs, rfl, _, g, q1, q2, q3⟩ := r1
      have em : ∀ r, (kGet ts vs k).getD vx = r → mGetD [.ref a, vk, vx] h = .ok r h := fun r er => by
        simp only [mGetD, g, kT_rep c.1 r2, kSame_rep q1 q2, if_true, er]
      rcases kGet_rep (z := k) q3 with ⟨h1, h2⟩ | ⟨t', y, h1, h2, h3⟩
      · rw [h1] at c e
        exact ⟨_, vx, (Option.some.inj e).symm, fun P => T.noL_rep _ _ c.2 r3, em _ (by rw [h2]; rfl)⟩
      · rw [h1] at c e
        exact ⟨_, y, (Option.some.inj e).symm, fun P => T.noL_rep _ _ c.2 h3, em _ (by rw [h2]; rfl)⟩
    · cases e
  · cases e
theorem le_getD {a b c : E} {ta tb tc : TE} (ha : LE a ta) (hb : LE b tb) (hc : LE c tc) : LE (eMeth .tdict mGetD a (aCons b (aCons c aNil))) (tGetD ta tb tc) := by
  intro C ρ s I
  unfold eMeth tGetD
  refine (ha C ρ s I).bind ?_
  rintro w x s1 C1 I1 S1 ⟨D1, V1, F1⟩
  cases e0 : rd s1 w with
  | none => exact .stuck
  | some t0 =>
    dsimp only
    split
    case isFalse => exact .stuck
    case isTrue cc =>
    rw [if_pos ((rep_isTy .tdict (rd_rep I1 V1 e0)).trans (by rw [cc]))]
    have eb : ((aCons b (aCons c aNil) ρ C1.h).bind fun xs h2 => mGetD (x :: xs) h2) = (b ρ C1.h).bind fun y h2 => (c ρ h2).bind fun z h3 => mGetD [x, y, z] h3 := by
      unfold aCons aNil
      cases b ρ C1.h with
      | ok y h2 => simp only [Res.bind_ok]; cases c ρ h2 <;> simp
      | exc _ _ => simp
      | stuck => simp
    rw [eb]
    refine (LR.up S1 (hb C1 ρ s1 I1) (Q' := fun C' a b => Step C1 C' ∧ VW ρ C1 C' a b) fun C' a b S q => ⟨S, q⟩).bind ?_
    rintro v y s2 C2 I2 S2 ⟨S12, D2, V2, F2⟩
    refine (LR.up S2 (hc C2 ρ s2 I2) (Q' := fun C' a b => Step C2 C' ∧ VW ρ C2 C' a b) fun C' a b S q => ⟨S, q⟩).bind ?_
    rintro u z s3 C3 I3 S3 ⟨S23, D3, V3, F3⟩
    have V1' := (V1.step F1 S12).step (F1.step S12) S23
    have V2' := V2.step F2 S23
    cases e : rd s3 w with
    | none => exact .stuck
    | some t =>
      cases e' : rd s3 v with
      | none => exact .stuck
      | some t' =>
        cases e'' : rd s3 u with
        | none => exact .stuck
        | some t'' =>
          dsimp only
          cases e2 : gGetD t t' t'' with
          | none => exact .stuck
          | some o =>
            obtain ⟨tt, r, rfl, lf, er⟩ := getD_rep (rd_rep I3 V1' e) (rd_rep I3 V2' e') (rd_rep I3 V3 e'') e2
            dsimp only
            rw [er]
            exact .ok I3 S3 (.sh (lf _))
/-- for k in d -/
def tiDct (a : TE) : TI := fun s => (a s).bind fun w s1 => match rd s1 w with
  | some (.dct ts _) => .ok (ts.map .one) (fzW s1 w)
  | _ => .stuck
theorem li_dct {a : E} {ta : TE} (ha : LE a ta) : LI (iDct a) (tiDct ta) := by
  intro C ρ s I
  refine (ha C ρ s I).bind ?_
  rintro w x s1 C1 I1 S1 ⟨D, V, F⟩
  cases e : rd s1 w with
  | none => exact .stuck
  | some t =>
    cases t with
    | dct ts xs =>
      obtain ⟨C2, I2, S2, J, r⟩ := fzW_ok I1 S1 V F e
      rw [Rep] at r
      obtain ⟨p, ep, ks, vs, rfl, pp, g, q1, q2, q3⟩ := r
      dsimp only
      rw [← J.h, g]
      refine LR.ok I2 S2 ⟨fun C' S => ?_, itmsR_one (Reps.keep ⟨fun _ z => z.elim, fun _ _ e => e⟩ _ _ q1)⟩
      have := (S.toKeep.lst p pp).2
      simp [It.good, sameD, this, g]
    | _ => exact .stuck
/-- {} -/
def tDct : TE := fun s => .ok (.ot (.dct [] [])) s
theorem keep_setD {P : Nat → Prop} {h : MH} {p : Nat} {ep : Nat} {ts : List T} {ks vs : List MV} {o : Obj} (fp : ¬ P p) (g : h[p]? = some (.dct ep ts ks vs)) : Keep P h P (h.set p o) :=
  ⟨fun a q => ⟨q, by rw [List.getElem?_set_ne]; rintro rfl; exact fp q⟩, fun a xs e => by
    rw [List.getElem?_set_ne]
    · exact e
    · rintro rfl; rw [g] at e; cases e⟩
theorem own_dct {C : Cf} {ρ : Env} {s : TEnv} (I : Inv C ρ s) {i : Nat} {ts : List T} {os : List OT} (e : tget s i = some (.dct ts os)) :
    ∃ p ep ks xs, C.A i = some (.dct p ep ts ks xs) ∧ OA.ers xs = os ∧ ρ[i]? = some (some (.ref p)) ∧ C.h[p]? = some (.dct ep ts ks (xs.map OA.mv)) := by
  rw [I.er i] at e
  cases hi : C.A i with
  | none => rw [hi] at e; cases e
  | some o =>
    rw [hi] at e
    simp only [Option.map_some, Option.some.injEq] at e
    cases o with
    | sh v t => simp [OA.er] at e
    | tup a xs => simp [OA.er] at e
    | lst a xs => simp [OA.er] at e
    | dct p ep ts' ks xs =>
      simp only [OA.er, OT.dct.injEq] at e
      obtain ⟨rfl, e⟩ := e
      have g := I.good i _ hi
      rw [Good] at g
      exact ⟨p, ep, ks, xs, rfl, e, I.mv i _ hi, g.1⟩
theorem Inv.mutD {C0 C : Cf} {ρ : Env} {s : TEnv} (I : Inv C ρ s) (S0 : Step C0 C) {i p ep ep' : Nat} {ts ts' : List T} {ks ks' : List MV} {xs ys : List OA} {D : List Nat} (F : Free C0 C D)
    (hi : C.A i = some (.dct p ep ts ks xs)) (gk : Reps (fun _ => False) C.h ts' ks' ∧ ∀ t ∈ ts', T.keyN 8 t = true) (g : Goods C.P C.h ys) (nd : (OA.ads ys).Nodup) (sub : ∀ a ∈ OA.ads ys, a ∈ OA.ads xs ∨ a ∈ D) :
    let C' : Cf := ⟨C.P, put C.A i (some (.dct p ep' ts' ks' ys)), C.h.set p (.dct ep' ts' ks' (ys.map OA.mv))⟩
    Inv C' ρ (s.set i (some (.dct ts' (OA.ers ys)))) ∧ Step C0 C' := by
  have ndx := I.nd i _ hi
  simp only [OA.ad, List.nodup_cons] at ndx
  have gx := I.good i _ hi
  rw [Good] at gx
  have fp : ¬ C.P p := I.fr i _ hi p (by simp [OA.ad])
  have K := keep_setD (o := .dct ep' ts' ks' (ys.map OA.mv)) fp gx.1
  have np : p ∉ OA.ads ys := fun m => (sub p m).elim ndx.1 fun m => F.dj p m ⟨i, _, hi, by simp [OA.ad]⟩
  refine I.chg S0 F hi (o' := .dct p ep' ts' ks' ys) (fun a p => p) (fun a l n => ?_) (by simp) K.tup ?_ ?_ ?_ ?_ (fun a p => .inl p) rfl
  · rw [List.getElem?_set_ne]
    rintro rfl; exact n (by simp [OA.ad])
  · rw [Good]
    refine ⟨by rw [List.getElem?_set_self (lt_of_get gx.1)], ⟨Reps.keep ⟨fun _ z => z.elim, K.tup⟩ _ _ gk.1, gk.2⟩, Goods.keep K ys (fun a m => ?_) g⟩
    rw [List.getElem?_set_ne]
    rintro rfl; exact np m
  · simp only [OA.ad, List.nodup_cons]; exact ⟨np, nd⟩
  · intro a m
    simp only [OA.ad, List.mem_cons] at m ⊢
    rcases m with rfl | m
    · exact .inl (.inl rfl)
    · exact (sub a m).elim (fun m => .inl (.inr m)) .inr
  · intro a m q
    simp only [OA.ad, List.mem_cons] at m
    rcases m with rfl | m
    · exact fp q
    · rcases sub a m with m | m
      · exact I.fr i _ hi a (by simp [OA.ad, m]) q
      · exact F.fr a m q
theorem le_dct : LE eDct tDct := by
  intro C ρ s I
  have q := I.alloc (.dct 0 [] [] [])
  refine LR.ok (Q := VW ρ C) (a := .ot (.dct [] [])) (b := .ref C.h.length) (C := ⟨C.P, C.A, C.h ++ [.dct 0 [] [] []]⟩) q.1 q.2 ⟨[C.h.length], ⟨.dct C.h.length 0 [] [] [], rfl, rfl, ?_, rfl⟩, ?_⟩
  · rw [Good]
    exact ⟨by simp, ⟨by simp [Reps], by simp⟩, by simp [Goods]⟩
  · refine ⟨by simp, ?_, ?_, ?_, ?_⟩
    · intro a m p
      rw [List.mem_singleton.mp m] at p
      exact absurd (I.le _ p) (by omega)
    · intro a m o
      rw [List.mem_singleton.mp m] at o
      exact absurd (I.lt o) (by omega)
    · intro a m
      rw [List.mem_singleton.mp m]
      exact .inr (Nat.le_refl _)
    · intro a m
      rw [List.mem_singleton.mp m]
      simp
/-- tuple(range(a)) -/
def gTupRng : Op1T
  | .int j => if rngOk j then some (.sh (.tup (rngT 0 j))) else none
  | _ => none
theorem kf_tupRng : Kf1 (fun v h => match v with
  | .int j => if rngOk j then alloc (.tup (rng 0 j)) h else .stuck
  | _ => .stuck) gTupRng := by
  intro P h t v o le k e
  cases t <;> simp only [gTupRng] at e <;> try (simp at e; done)
  simp only [Kid, Rep] at k; subst k
  split at e
  · next c =>
    rw [← Option.some.inj e]
    dsimp only
    rw [if_pos c]
    exact kr_tupS le (reps_rng _ _)
  · cases e
theorem le_tupRng {a : E} {ta : TE} (ha : LE a ta) : LE (eTupRng a) (t1k gTupRng ta) := le_t1k kf_tupRng ha
/-- {k: v} -/
def tDsp1 (m : Bool) (k v : TE) : TE := fun s => (k s).bind fun w s1 => (v s1).bind fun u s2 => match rd s2 w with
  | some t => match eat m s2 u with
    | some (o, s3) => if t.keyN 8 = true then .ok (.ot (.dct [t] [o])) s3 else .stuck
    | none => .stuck
  | none => .stuck
theorem Inv.pokeD {C0 C : Cf} {ρ : Env} {s : TEnv} (I : Inv C ρ s) (S0 : Step C0 C) {p ep : Nat} {ts : List T} {ks vs : List MV} {o : Obj} (g : C.h[p]? = some (.dct ep ts ks vs)) (np : ¬ C.P p) (no : ¬ Own C.A p) (nw : Own C0.A p ∨ C0.h.length ≤ p) :
    Inv ⟨C.P, C.A, C.h.set p o⟩ ρ s ∧ Step C0 ⟨C.P, C.A, C.h.set p o⟩ := by
  have K := keep_setD (o := o) np g
  refine ⟨⟨I.er, I.mv, fun j x e => Good.keep K x (fun a m => ?_) (I.good j x e), I.nd, I.dj, I.fr, fun a q => by simpa using I.le a q, I.len⟩,
    ⟨by simpa using S0.len, fun a l n => ?_, fun a xs e => K.tup a xs (S0.tup a xs e), S0.own, S0.mono, S0.lim, S0.sep⟩⟩
  · rw [List.getElem?_set_ne]
    rintro rfl; exact no ⟨j, x, e, m⟩
  · have : p ≠ a := by
      rintro rfl
      exact nw.elim n fun z => absurd l (by omega)
    show (C.h.set p o)[a]? = _
    rw [List.getElem?_set_ne this]
    exact S0.keep a l n
theorem le_dsp1 {m : Bool} {k v : E} {tk tv : TE} (hk : LE k tk) (hv : LE v tv) : LE (eDsp1 k v) (tDsp1 m tk tv) := by
  intro C ρ s I
  obtain ⟨I0, S0⟩ := I.alloc (.dct 0 [] [] [])
  have F0 : Free C ⟨C.P, C.A, C.h ++ [.dct 0 [] [] []]⟩ [C.h.length] := by
    refine ⟨by simp, ?_, ?_, ?_, ?_⟩
    · intro a m p
      rw [List.mem_singleton.mp m] at p
      exact absurd (I.le _ p) (by omega)
    · intro a m o
      rw [List.mem_singleton.mp m] at o
      exact absurd (I.lt o) (by omega)
    · intro a m
      rw [List.mem_singleton.mp m]
      exact .inr (Nat.le_refl _)
    · intro a m
      rw [List.mem_singleton.mp m]
      simp
  have e0 : eDsp1 k v ρ C.h = (k ρ (C.h ++ [.dct 0 [] [] []])).bind fun x h1 => (v ρ h1).bind fun y h2 => match setKey (.ref C.h.length) x y h2 with
    | some h3 => .ok (.ref C.h.length) h3
    | none => .stuck := rfl
  rw [e0]
  unfold tDsp1
  refine (LR.up S0 (hk ⟨C.P, C.A, C.h ++ [.dct 0 [] [] []]⟩ ρ s I0) (Q' := fun C' a b => Step ⟨C.P, C.A, C.h ++ [.dct 0 [] [] []]⟩ C' ∧ VW ρ ⟨C.P, C.A, C.h ++ [.dct 0 [] [] []]⟩ C' a b) fun C' a b S q => ⟨S, q⟩).bind ?_
  rintro w x s1 C1 I1 S1 ⟨S01, D1, V1, F1⟩
  refine (LR.up S1 (hv C1 ρ s1 I1) (Q' := fun C' a b => Step C1 C' ∧ VW ρ C1 C' a b) fun C' a b S q => ⟨S, q⟩).bind ?_
  rintro u y s2 C2 I2 S2 ⟨S12, D2, V2, F2⟩
  cases er : rd s2 w with
  | none => exact .stuck
  | some t =>
    have rx := rd_rep I2 (V1.step F1 S12) er
    dsimp only
    cases e : eat m s2 u with
    | none => exact .stuck
    | some z =>
      obtain ⟨o, s3⟩ := z
      have FF : Free C C2 (D2 ++ [C.h.length]) := ((F0.step S01).append S1 S12 F2).perm List.perm_append_comm
      obtain ⟨C3, oa, h3, I3, S3, S3', er, mv, gg, F3⟩ := eat_ok I2 S2 V2 FF e
      subst er; subst mv
      dsimp only
      split
      case isFalse => exact .stuck
      case isTrue kn =>
        have Fp := F3.right
        have pm : C.h.length ∈ [C.h.length] := by simp
        have g3 : C3.h[C.h.length]? = some (.dct 0 [] [] []) := by
          rw [(S01.trans (S12.trans S3')).keep C.h.length (by simp) (F0.dj _ pm)]
          simp
        have poa : C.h.length ∉ oa.ad := fun q => (List.nodup_append.mp F3.nd).2.2 _ q _ pm rfl
        have rx3 : Rep (fun _ => False) C3.h t x := by rw [h3]; exact keyN_rep 8 t x kn rx
        have z := I3.pokeD S3 (o := .dct 1 [t] [x] [oa.mv]) g3 (Fp.fr _ pm) (Fp.dj _ pm) (Fp.nw _ pm)
        have K := keep_setD (o := .dct 1 [t] [x] [oa.mv]) (Fp.fr _ pm) g3
        have KF := keep_setD (P := fun _ => False) (o := .dct 1 [t] [x] [oa.mv]) (fun q => q) g3
        have e5 : setKey (.ref C.h.length) x oa.mv C2.h = some (C3.h.set C.h.length (.dct 1 [t] [x] [oa.mv])) := by
          rw [← h3]
          have ek : kT C3.h x = some t := by rw [h3]; exact kT_rep kn rx
          simp only [setKey, g3, ek, kSame, List.length_nil]
          rw [if_pos ⟨trivial, by decide⟩]
          rfl
        rw [e5]
        refine LR.ok (Q := VW ρ C) (a := .ot (.dct [t] [oa.er])) (b := .ref C.h.length) z.1 z.2 ⟨C.h.length :: oa.ad, ⟨.dct C.h.length 1 [t] [x] [oa], by simp [OA.er, OA.ers], rfl, ?_, by simp [OA.ad, OA.ads]⟩, ?_⟩
        · rw [Good]
          refine ⟨by rw [List.getElem?_set_self (lt_of_get g3)]; simp, ⟨?_, fun u mu => by rw [List.mem_singleton.mp mu]; exact kn⟩, ?_⟩
          · rw [Reps]
            exact ⟨x, [], rfl, Rep.keep KF t x rx3, by simp [Reps]⟩
          · simp only [Goods, and_true]
            exact Good.keep K oa (fun a ma => List.getElem?_set_ne (by rintro rfl; exact poa ma)) gg
        · have F4 : Free C ⟨C3.P, C3.A, C3.h.set C.h.length (.dct 1 [t] [x] [oa.mv])⟩ (oa.ad ++ [C.h.length]) := ⟨F3.nd, F3.fr, F3.dj, F3.nw, fun b mb => by simpa using F3.lt b mb⟩
          exact F4.perm List.perm_append_comm
/-- is there a dict of one's own -/
def isDct (s : TEnv) (i : Nat) : Bool := match tget s i with
  | some (.dct _ _) => true
  | _ => false
theorem isDct_iff {s : TEnv} {i : Nat} (h : isDct s i = true) : ∃ ks os, tget s i = some (.dct ks os) := by
  unfold isDct at h
  split at h
  · rename_i ks os e; exact ⟨ks, os, e⟩
  · cases h
/-- d[k] = v, d in place i -/
def tsSetKey (m : Bool) (a : TE) (i : Nat) (k : TE) : TS := fun s => (a s).into fun w s1 => if isDct s1 i then (k s1).into fun v s2 => match rd s2 v with
  | some t => match eat m s2 w with
    | some (o, s3) => match tget s3 i with
      | some (.dct ks xs) => if t.keyN 8 = true ∧ xs.length < lim then .nx (s3.set i (some (.dct (kPutK ks t) (kPutX ks xs t o)))) else .stuck
      | _ => .stuck
    | none => .stuck
  | none => .stuck else .stuck
theorem kSet_map {κ α β : Type} [DecidableEq κ] (f : α → β) (z : κ) (v : α) : ∀ (ks : List κ) (xs : List α), (kSet ks xs z v).map f = kSet ks (xs.map f) z (f v)
  | [], xs => by simp [kSet]
  | k :: ks, [] => by simp [kSet]
  | k :: ks, x :: xs => by
    rw [kSet, List.map_cons, kSet]
    split
    · rfl
    · rw [List.map_cons, kSet_map f z v ks xs]
theorem kPut_map {κ α β : Type} [DecidableEq κ] (f : α → β) (ks : List κ) (xs : List α) (z : κ) (v : α) : (kPutX ks xs z v).map f = kPutX ks (xs.map f) z (f v) := by
  unfold kPutX
  split
  · exact kSet_map f z v ks xs
  · simp
theorem kSet_mem {κ α : Type} [DecidableEq κ] {z : κ} {v y : α} : ∀ {ks : List κ} {xs : List α}, y ∈ kSet ks xs z v → y ∈ xs ∨ y = v
  | [], xs, h => .inl (by simpa [kSet] using h)
  | k :: ks, [], h => by simp [kSet] at h
  | k :: ks, x :: xs, h => by
    rw [kSet] at h
    split at h
    · rcases List.mem_cons.mp h with h | h
      · exact .inr h
      · exact .inl (by simp [h])
    · rcases List.mem_cons.mp h with h | h
      · exact .inl (by simp [h])
      · exact (kSet_mem h).imp (fun h => by simp [h]) id
theorem kPut_mem {κ α : Type} [DecidableEq κ] {z : κ} {v y : α} {ks : List κ} {xs : List α} (h : y ∈ kPutX ks xs z v) : y ∈ xs ∨ y = v := by
  unfold kPutX at h
  split at h
  · exact kSet_mem h
  · simpa using h
theorem kSet_ads {z : T} {v : OA} : ∀ (ks : List T) (xs : List OA), (OA.ads xs).Nodup → v.ad.Nodup → (∀ a ∈ v.ad, a ∉ OA.ads xs) → (OA.ads (kSet ks xs z v)).Nodup ∧ ∀ a ∈ OA.ads (kSet ks xs z v), a ∈ OA.ads xs ∨ a ∈ v.ad
  | [], xs, h, _, _ => by simp only [kSet]; exact ⟨h, fun a m => .inl m⟩
  | k :: ks, [], h, _, _ => by simp only [kSet]; exact ⟨h, fun a m => .inl m⟩
  | k :: ks, x :: xs, h, hv, d => by
    rw [OA.ads] at h d
    obtain ⟨n1, n2, n3⟩ := List.nodup_append.mp h
    rw [kSet]
    split
    · rw [OA.ads, OA.ads]
      refine ⟨List.nodup_append.mpr ⟨hv, n2, fun a m b mb q => d a m (by rw [q]; exact List.mem_append.mpr (.inr mb))⟩, fun a m => ?_⟩
      rcases List.mem_append.mp m with m | m
      · exact .inr m
      · exact .inl (List.mem_append.mpr (.inr m))
    · obtain ⟨i1, i2⟩ := kSet_ads ks xs n2 hv fun a m q => d a m (List.mem_append.mpr (.inr q))
      rw [OA.ads, OA.ads]
      refine ⟨List.nodup_append.mpr ⟨n1, i1, fun a m b mb q => ?_⟩, fun a m => ?_⟩
      · rcases i2 b mb with mb | mb
        · exact n3 a m b mb q
        · exact d b mb (by rw [← q]; exact List.mem_append.mpr (.inl m))
      · rcases List.mem_append.mp m with m | m
        · exact .inl (List.mem_append.mpr (.inl m))
        · exact (i2 a m).imp (fun m => List.mem_append.mpr (.inr m)) id
theorem kPut_ads {z : T} {v : OA} {ks : List T} {xs : List OA} (h : (OA.ads xs).Nodup) (hv : v.ad.Nodup) (d : ∀ a ∈ v.ad, a ∉ OA.ads xs) : (OA.ads (kPutX ks xs z v)).Nodup ∧ ∀ a ∈ OA.ads (kPutX ks xs z v), a ∈ OA.ads xs ∨ a ∈ v.ad := by
  unfold kPutX
  split
  · exact kSet_ads ks xs h hv d
  · rw [ads_append]
    have e : OA.ads [v] = v.ad := by simp [OA.ads]
    rw [e]
    exact ⟨List.nodup_append.mpr ⟨h, hv, fun a m b mb q => d b mb (by rw [← q]; exact m)⟩, fun a m => List.mem_append.mp m⟩
theorem ers_kPut (ks : List T) (xs : List OA) (z : T) (v : OA) : OA.ers (kPutX ks xs z v) = kPutX ks (OA.ers xs) z v.er := by
  rw [ers_map, kPut_map, ers_map]
theorem ls_setKey {W : List Nat} {m : Bool} {a k : E} {ta tk : TE} {i : Nat} (ha : LE a ta) (hk : LE k tk) : LS W (sSetKey a (eVar i) k) (tsSetKey m ta i tk) := by
  intro C ρ s I
  refine (ha C ρ s I).into ?_
  rintro w x s1 C1 I1 S1 ⟨D1, V1, F1⟩
  split
  case isFalse => exact True.intro
  case isTrue c =>
    obtain ⟨ks0, os, q0⟩ := isDct_iff c
    obtain ⟨p, ep0, kk0, xs0, hi0, er0, m0, g0⟩ := own_dct I1 q0
    have e0 : eVar i ρ C1.h = .ok (.ref p) C1.h := by unfold eVar; rw [m0]
    rw [e0, Res.into_ok]
    refine (LR.up S1 (hk C1 ρ s1 I1) (Q' := fun C' a b => Step C1 C' ∧ VW ρ C1 C' a b) fun C' a b S q => ⟨S, q⟩).into ?_
    rintro v y s2 C2 I2 S2 ⟨S12, D2, V2, F2⟩
    cases er : rd s2 v with
    | none => exact True.intro
    | some t =>
      have ry := rd_rep I2 V2 er
      dsimp only
      cases e : eat m s2 w with
      | none => exact True.intro
      | some z =>
        obtain ⟨o, s3⟩ := z
        obtain ⟨C3, oa, h3, I3, S3, S3', er, mv, gg, F3⟩ := eat_ok (E := []) I2 S2 (V1.step F1 S12) (by simpa using F1.step S12) e
        subst er; subst mv
        rw [List.append_nil] at F3
        dsimp only
        cases q : tget s3 i with
        | none => exact True.intro
        | some oo =>
          cases oo with
          | sh _ => exact True.intro
          | tup _ => exact True.intro
          | lst _ => exact True.intro
          | dct ts os =>
            obtain ⟨p', ep, ks, xs, hi, ex, m', gp⟩ := own_dct I3 q
            have : p' = p := by rw [m0] at m'; simpa using m'.symm
            subst this
            subst ex
            dsimp only
            split
            case isFalse => exact True.intro
            case isTrue hl =>
              obtain ⟨kn, hl⟩ := hl
              rw [ers_len] at hl
              have gx := I3.good i _ hi
              rw [Good] at gx
              have ndx := I3.nd i _ hi
              simp only [OA.ad, List.nodup_cons] at ndx
              have ad := kPut_ads (z := t) (v := oa) (ks := ts) ndx.2 F3.nd fun a ma ma' => F3.dj a ma ⟨i, _, hi, by simp [OA.ad, ma']⟩
              have ry3 : Rep (fun _ => False) C3.h t y := by rw [h3]; exact keyN_rep 8 t y kn ry
              have gk : Reps (fun _ => False) C3.h (kPutK ts t) (if kHas ts t then ks else ks ++ [y]) ∧ ∀ u ∈ kPutK ts t, T.keyN 8 u = true := by
                unfold kPutK
                cases hh : kHas ts t with
                | true => exact ⟨by simpa using gx.2.1.1, by simpa using gx.2.1.2⟩
                | false =>
                  simp only [Bool.false_eq_true, if_false]
                  refine ⟨reps_append gx.2.1.1 ?_, fun u mu => ?_⟩
                  · rw [Reps]; exact ⟨y, [], rfl, ry3, by simp [Reps]⟩
                  · rcases List.mem_append.mp mu with mu | mu
                    · exact gx.2.1.2 u mu
                    · rw [List.mem_singleton.mp mu]; exact kn
              have z := I3.mutD (ep' := if kHas ts t then ep else ep + 1) S3 F3 hi gk (ys := kPutX ts xs t oa)
                (goods_iff.mpr fun y my => (kPut_mem my).elim (fun my => goods_iff.mp gx.2.2 y my) fun e => e ▸ gg) ad.1 ad.2
              rw [ers_kPut] at z
              have e5 : setKey (.ref p') y oa.mv C2.h = some (C3.h.set p' (.dct (if kHas ts t then ep else ep + 1) (kPutK ts t) (if kHas ts t then ks else ks ++ [y]) ((kPutX ts xs t oa).map OA.mv))) := by
                rw [h3] at gp ⊢
                have k1 : kSame C2.h ts ks = true := by rw [← h3]; exact kSame_rep gx.2.1.1 gx.2.1.2
                simp only [setKey, gp, kT_rep kn ry, k1, List.length_map, hl, and_self, if_true]
                unfold kPutK kPutX
                cases hh : kHas ts t with
                | true => simp [kSet_map]
                | false => simp
              rw [e5]
              exact ⟨ρ, _, rfl, z.1, z.2, .refl⟩
theorem le_clearP {i : Nat} {path : List Nat} {X : E} (hX : PE i path X) : LE (eMeth .tlist mClear X aNil) (tClearP i path) := by
  intro C ρ s I
  unfold tClearP
  cases e : tget s i with
  | none => exact .stuck
  | some t =>
    dsimp only
    obtain ⟨C1, oa, hh, I1, S1, er, mm, gd, F⟩ := I.hide e
    subst er
    cases ea : oa.er.at path with
    | none => exact .stuck
    | some x =>
      obtain ⟨xa, e1, ex⟩ := at_er path oa x ea
      obtain ⟨cx, Sp⟩ := at_split path oa xa e1
      cases xa with
      | sh v u => simp only [OA.er] at ex; subst ex; exact .stuck
      | tup b xs => simp only [OA.er] at ex; subst ex; exact .stuck
      | dct b ep ts ks xs => simp only [OA.er] at ex; subst ex; exact .stuck
      | lst p xs =>
        simp only [OA.er] at ex
        subst ex
        have gx := Sp.gd _ _ gd
        rw [Good] at gx
        have hx := hX ρ C.h C1.P oa _ mm (hh ▸ gd) e1
        have em : eMeth .tlist mClear X aNil ρ C.h = mClear [.ref p] C1.h := by
          unfold eMeth
          rw [hx]
          have t1 : isTy .tlist C.h (OA.mv (.lst p xs)) = some true := by
            simp only [OA.mv, isTy]
            rw [← hh, gx.1]
            rfl
          rw [Res.bind_ok, if_pos t1, hh]
          rfl
        rw [em]
        dsimp only
        have pin : p ∈ oa.ad := Sp.pm.mem_iff.mpr (by simp [OA.ad])
        have ndo := Sp.pm.nodup_iff.mp F.nd
        have ndo2 := List.nodup_append.mp ndo
        have pcx : p ∉ cx := fun q => ndo2.2.2 p q p (by simp [OA.ad]) rfl
        have z := I1.poke S1 (ys := []) gx.1 (F.fr p pin) (F.dj p pin) (F.nw p pin)
        have K := keep_set (ys := []) (F.fr p pin) gx.1
        have ne : ∀ b, b ≠ p → (C1.h.set p (.lst []))[b]? = C1.h[b]? := fun b q => List.getElem?_set_ne (Ne.symm q)
        have gy : Good C1.P (C1.h.set p (.lst [])) (.lst p []) := by
          rw [Good]
          exact ⟨by rw [List.getElem?_set_self (lt_of_get gx.1)]; simp, by simp [Goods]⟩
        have gu := Sp.gd' (.lst p []) _ _ _ _ rfl gd K (fun b mb => ne b (by rintro rfl; exact pcx mb)) gy
        have Fu : Free C ⟨C1.P, C1.A, C1.h.set p (.lst [])⟩ (OA.upd (.lst p []) oa path).ad := by
          have F4 : Free C ⟨C1.P, C1.A, C1.h.set p (.lst [])⟩ (OA.upd (.lst p []) oa path).ad := by
            have q1 := Sp.pm' (.lst p [])
            have sub : ∀ b, b ∈ (OA.upd (.lst p []) oa path).ad → b ∈ oa.ad := fun b mb => by
              rcases List.mem_append.mp (q1.mem_iff.mp mb) with mb | mb
              · exact Sp.pm.mem_iff.mpr (List.mem_append_left _ mb)
              · simp [OA.ad, OA.ads] at mb
                rw [mb]; exact pin
            refine ⟨q1.nodup_iff.mpr ?_, fun b mb => F.fr b (sub b mb), fun b mb => F.dj b (sub b mb), fun b mb => F.nw b (sub b mb), fun b mb => by simpa using F.lt b (sub b mb)⟩
            rw [OA.ad, OA.ads, List.nodup_append]
            exact ⟨ndo2.1, by simp, fun a ma b mb => by
              simp at mb
              subst mb
              rintro rfl
              exact pcx ma⟩
          exact F4
        have mu : (OA.upd (.lst p []) oa path).mv = oa.mv := Sp.mv _ rfl
        have r := z.1.show z.2 (o := OA.upd (.lst p []) oa path) (by rw [mu]; exact mm) gu Fu
        have em2 : mClear [.ref p] C1.h = .ok .non (C1.h.set p (.lst [])) := by
          simp only [mClear, gx.1]
        rw [em2]
        have eu : (OA.upd (.lst p []) oa path).er = OT.upd (.lst []) oa.er path := by
          rw [Sp.er, OA.er, OA.ers]
        rw [eu, List.set_set] at r
        exact LR.ok (Q := VW ρ C) (a := .ot (.sh .non)) (b := .non) r.1 r.2 (.sh (by simp [Rep]))
/-! ### a comprehension over what stands in a place, each item lent -/
def bcomp (kk : Option Nat) (x : Nat) (c e : TE) (vs : List Nat) : Nat → List OT → List OT → List OT → TEnv → TR (List OT × List OT)
  | _, [], ys, os, s => .ok (ys, os) (twipe s vs)
  | n, o :: r, ys, os, s => match c ((bpre kk n (twipe s vs)).set x (some o)) with
    | .ok (.ot (.sh (.bl true))) s1 => match e s1 with
      | .ok w s2 => match eat false s2 w with
        | some (v, s3) => match tget s3 x with
          | some o1 => bcomp kk x c e vs (n + 1) r (ys ++ [o1]) (os ++ [v]) (s3.set x none)
          | none => .stuck
        | none => .stuck
      | _ => .stuck
    | .ok (.ot (.sh (.bl false))) s1 => match tget s1 x with
      | some o1 => bcomp kk x c e vs (n + 1) r (ys ++ [o1]) os (s1.set x none)
      | none => .stuck
    | _ => .stuck
def tLcB (kk : Option Nat) (i : Nat) (path : List Nat) (x : Nat) (c e : TE) (vs : List Nat) : TE := fun s => match tget s i with
  | some o => match o.at path with
    | some (.lst xs) => (bcomp kk x c e vs 0 xs [] [] (s.set i none)).bind fun q s1 => .ok (.ot (.lst q.2)) (s1.set i (some (OT.upd (.lst q.1) o path)))
    | _ => .stuck
  | none => .stuck
theorem bcomp_ok {kk : Option Nat} {x i p : Nat} {c e : E} {tc te : TE} {vs : List Nat} {ok : MH → Bool} {oa : OA} {path : List Nat} {cx : List Nat} {xs0 : List OA} {mvs : List MV} {ρw : Env}
    (hc : LE c tc) (he : LE e te) (hx : x ∈ vs) (hk : ∀ k, kk = some k → k ∈ vs ∧ k ≠ i ∧ k ≠ x) (ni : i ∉ vs) (xi : x ≠ i)
    (Sp : Split oa path (.lst p xs0) cx) (hok : ∀ h : MH, h[p]? = some (.lst mvs) → ok h = true) (C0 Cst : Cf) (hi : ρw[i]? = some (some oa.mv)) :
    ∀ (rem acc os : List OA) (n : Nat) (C : Cf) (ρ1 : Env) (s : TEnv), Inv C ρ1 s → Same vs ρw ρ1 → Step C0 C → Keep Cst.P Cst.h C.P C.h → (∀ a ∈ cx, C.h[a]? = Cst.h[a]?) → Goods C.P C.h acc → Goods C.P C.h rem → Goods C.P C.h os → (acc ++ rem).map OA.mv = mvs →
      Free C0 C ((cx ++ p :: (OA.ads acc ++ OA.ads rem)) ++ OA.ads os) → C.h[p]? = some (.lst mvs) →
      match bcomp kk x tc te vs n (OA.ers rem) (OA.ers acc) (OA.ers os) s with
      | .ok q s' => ∃ oys oos C', lcGo ok (bgi kk x) c e ρw (bitms kk n (rem.map OA.mv)) (os.map OA.mv) C.h = .ok (oos.map OA.mv) C'.h ∧ OA.ers oys = q.1 ∧ OA.ers oos = q.2 ∧ Inv C' ρw s' ∧ (∀ j ∈ vs, C'.A j = none) ∧ Step C0 C' ∧
          Keep Cst.P Cst.h C'.P C'.h ∧ (∀ a ∈ cx, C'.h[a]? = Cst.h[a]?) ∧ Goods C'.P C'.h oys ∧ Goods C'.P C'.h oos ∧ oys.map OA.mv = mvs ∧ Free C0 C' ((cx ++ p :: OA.ads oys) ++ OA.ads oos) ∧ C'.h[p]? = some (.lst mvs)
      | .exc _ _ => False
      | .stuck => True := by
  intro rem
  induction rem with
  | nil =>
    intro acc os n C ρ1 s I sm S0 K kc ga gr go em F hp
    simp only [OA.ers, bcomp, List.map_nil, bitms, lcGo, hok _ hp, if_true]
    have q := I.twipe (fun i n => (sm.2 i n).symm) sm.1.symm
    rw [List.append_nil] at em
    exact ⟨acc, os, ⟨C.P, wipA C.A vs, C.h⟩, rfl, rfl, rfl, q.1, fun i m => by simp [wipA, m], S0.trans q.2, K, kc, ga, go, em, (by simpa [OA.ads] using F.step q.2), hp⟩
  | cons z rem ih =>
    intro acc os n C ρ1 s I sm S0 K kc ga gr go em F hp
    simp only [OA.ers, bcomp, List.map_cons, bitms, lcGo, hok _ hp, if_true]
    have q := I.twipe (fun i n => (sm.2 i n).symm) sm.1.symm
    rw [Goods] at gr
    have FE : Free C0 ⟨C.P, wipA C.A vs, C.h⟩ (z.ad ++ ((cx ++ p :: (OA.ads acc ++ OA.ads rem)) ++ OA.ads os)) := (F.step q.2).perm (List.perm_iff_count.mpr fun a => by
      simp only [OA.ads, List.count_append, List.count_cons]; omega)
    have S1 := S0.trans q.2
    have st : ∃ ρ2 A2, bgi kk x (bitm kk n z.mv) ρw C.h = some ρ2 ∧ Inv ⟨C.P, A2, C.h⟩ ρ2 ((bpre kk n (twipe s vs)).set x (some z.er)) ∧ Step C0 ⟨C.P, A2, C.h⟩ ∧ Same vs ρw ρ2 ∧ Free C0 ⟨C.P, A2, C.h⟩ ((cx ++ p :: (OA.ads acc ++ OA.ads rem)) ++ OA.ads os) ∧ (∀ v, ρ2[x]? = some (some v) → v = z.mv) := by
      have xv : ∀ (ρ' : Env) v, (ρ'.set x (some z.mv))[x]? = some (some v) → v = z.mv := fun ρ' v e => by
        by_cases l : x < ρ'.length
        · rw [List.getElem?_set_self l] at e
          exact (Option.some.inj (Option.some.inj e)).symm
        · rw [List.set_eq_of_length_le (by omega), List.getElem?_eq_none (by omega)] at e
          cases e
      cases kk with
      | none =>
        obtain ⟨ρ2, A2, e, I2, S2, m2, F2⟩ := lg_name hx C0 _ ρw _ z _ _ q.1 S1 gr.1 FE rfl
        cases e
        exact ⟨_, A2, rfl, I2, S2, m2, F2, xv ρw⟩
      | some k =>
        obtain ⟨hk1, hk2, hk3⟩ := hk k rfl
        obtain ⟨ρ2, A1, e, I1, S2, m1, F1⟩ := lg_name hk1 C0 _ ρw (twipe s vs) (.sh (.int (n : Int)) (.int (n : Int))) _ (z.ad ++ ((cx ++ p :: (OA.ads acc ++ OA.ads rem)) ++ OA.ads os)) q.1 S1 (by simp [Good, Rep]) (by simpa [OA.ad] using FE) rfl
        cases e
        obtain ⟨ρ3, A2, e2, I2, S3, m2, F2⟩ := lg_name hx C0 ⟨C.P, A1, C.h⟩ _ _ z _ _ I1 S2 gr.1 F1 rfl
        cases e2
        exact ⟨_, A2, rfl, I2, S3, m1.trans m2, F2, xv _⟩
    obtain ⟨ρ2, A2, e1, I2, S2, m2, F2, hx1⟩ := st
    rw [e1]
    dsimp only
    have H := hc _ ρ2 _ I2
    dsimp only at H
    cases e3 : tc ((bpre kk n (twipe s vs)).set x (some z.er)) with
    | stuck => exact True.intro
    | exc _ _ => exact True.intro
    | ok w s2 =>
      rw [e3] at H
      obtain ⟨b, C3, e4, I3, S3, D, V, F3⟩ := H
      rw [e4]
      have tr : w = .ot (.sh (.bl true)) ∨ w = .ot (.sh (.bl false)) ∨ (w ≠ .ot (.sh (.bl true)) ∧ w ≠ .ot (.sh (.bl false))) := by
        rcases Classical.em (w = .ot (.sh (.bl true))) with h | h
        · exact .inl h
        · rcases Classical.em (w = .ot (.sh (.bl false))) with h' | h'
          · exact .inr (.inl h')
          · exact .inr (.inr ⟨h, h'⟩)
      rcases tr with rfl | rfl | ⟨n1, n2⟩
      · dsimp only
        have eb := vd_bl V; subst eb
        simp only [Res.calm_ok, Res.bind_ok]
        have H := he C3 ρ2 s2 I3
        cases e5 : te s2 with
        | stuck => exact True.intro
        | exc _ _ => exact True.intro
        | ok w3 s3 =>
          rw [e5] at H
          obtain ⟨v, C4, e6, I4, S4, D4, V4, F4⟩ := H
          rw [e6]
          simp only [Res.calm_ok, Res.bind_ok]
          cases e7 : eat false s3 w3 with
          | none => exact True.intro
          | some y =>
            obtain ⟨o, s4⟩ := y
            dsimp only
            have FF := (F2.step S3).append (S2.trans S3) S4 F4
            obtain ⟨C5, ov, h5, I5, S5, S45, er, mv, gg, F5⟩ := eat_ok I4 (S2.trans (S3.trans S4)) V4 (FF.perm List.perm_append_comm) e7
            cases e8 : tget s4 x with
            | none => exact True.intro
            | some o1 =>
              dsimp only
              obtain ⟨C6, oc, h6, I6, S6, er6, mv6, g6, F6⟩ := I5.hide e8
              have mvc : oc.mv = z.mv := hx1 _ mv6
              have S26 := S3.trans (S4.trans (S45.trans S6))
              have FF6 := F5.append S5 S6 F6
              have keepc : ∀ a ∈ (cx ++ p :: (OA.ads acc ++ OA.ads rem)) ++ OA.ads os, C6.h[a]? = C.h[a]? := fun a m => S26.keep a (F2.lt a m) (F2.dj a m)
              have K6 : Keep C.P C.h C6.P C6.h := S26.toKeep
              have gov : Good C6.P C6.h ov := Good.keep S6.toKeep ov (fun a ma => S6.keep a (F5.lt a (by simp [ma])) (F5.dj a (by simp [ma]))) gg
              have R := ih (acc ++ [oc]) (os ++ [ov]) (n + 1) C6 ρ2 (s4.set x none) I6 m2 (S2.trans S26) (K.trans K6) (fun a m => (keepc a (by simp [m])).trans (kc a m))
                (goods_append.mpr ⟨Goods.keep K6 acc (fun a m => keepc a (by simp [m])) ga, by simp [Goods, g6]⟩)
                (Goods.keep K6 rem (fun a m => keepc a (by simp [m])) gr.2)
                (goods_append.mpr ⟨Goods.keep K6 os (fun a m => keepc a (by simp [m])) go, by simp [Goods, gov]⟩)
                (by rw [← em]; simp [mvc])
                (FF6.perm (List.perm_iff_count.mpr fun a => by
                  simp only [OA.ads, ads_append, List.append_nil, List.count_append, List.count_cons]; omega))
                (by rw [keepc p (by simp)]; exact hp)
              rw [ers_append, ers_append] at R
              simp only [OA.ers, er6, er] at R
              have eh : C6.h = C4.h := h6.trans h5
              have em2 : (os ++ [ov]).map OA.mv = os.map OA.mv ++ [v] := by simp [mv]
              rw [em2, eh] at R
              exact R
      · dsimp only
        have eb := vd_bl V; subst eb
        simp only [Res.calm_ok, Res.bind_ok]
        cases e8 : tget s2 x with
        | none => exact True.intro
        | some o1 =>
          dsimp only
          obtain ⟨C6, oc, h6, I6, S6, er6, mv6, g6, F6⟩ := I3.hide e8
          have mvc : oc.mv = z.mv := hx1 _ mv6
          have S26 := S3.trans S6
          have FF6 := (F2.step S3).append (S2.trans S3) S6 F6
          have keepc : ∀ a ∈ (cx ++ p :: (OA.ads acc ++ OA.ads rem)) ++ OA.ads os, C6.h[a]? = C.h[a]? := fun a m => S26.keep a (F2.lt a m) (F2.dj a m)
          have K6 : Keep C.P C.h C6.P C6.h := S26.toKeep
          have R := ih (acc ++ [oc]) os (n + 1) C6 ρ2 (s2.set x none) I6 m2 (S2.trans S26) (K.trans K6) (fun a m => (keepc a (by simp [m])).trans (kc a m))
            (goods_append.mpr ⟨Goods.keep K6 acc (fun a m => keepc a (by simp [m])) ga, by simp [Goods, g6]⟩)
            (Goods.keep K6 rem (fun a m => keepc a (by simp [m])) gr.2)
            (Goods.keep K6 os (fun a m => keepc a (by simp [m])) go)
            (by rw [← em]; simp [mvc])
            (FF6.perm (List.perm_iff_count.mpr fun a => by
              simp only [OA.ads, ads_append, List.append_nil, List.count_append, List.count_cons]; omega))
            (by rw [keepc p (by simp)]; exact hp)
          rw [ers_append] at R
          simp only [OA.ers, er6] at R
          rw [h6] at R
          exact R
      · cases w with
        | al i => exact True.intro
        | ot o => cases o with
          | lst _ => exact True.intro
          | tup _ => exact True.intro
          | dct _ _ => exact True.intro
          | sh t => cases t with
            | bl b => cases b with
              | true => exact absurd rfl n1
              | false => exact absurd rfl n2
            | _ => exact True.intro
theorem lcB_core {kk : Option Nat} {i x : Nat} {c e : E} {tc te : TE} {path : List Nat} {X : E} {vs : List Nat} (hX : PE i path X) (hc : LE c tc) (he : LE e te) (hx : x ∈ vs) (hk : ∀ k, kk = some k → k ∈ vs ∧ k ≠ i ∧ k ≠ x) (ni : i ∉ vs) (xi : x ≠ i)
    {C : Cf} {ρ : Env} {s : TEnv} (I : Inv C ρ s) {t : OT} (e0 : tget s i = some t) {xs : List OT} (ea : t.at path = some (.lst xs)) :
    ∃ p ms, X ρ C.h = .ok (.ref p) C.h ∧ C.h[p]? = some (.lst ms) ∧ ∀ ok : MH → Bool, (∀ h : MH, h[p]? = some (.lst ms) → ok h = true) →
      LR C ρ (VW ρ C) ((bcomp kk x tc te vs 0 xs [] [] (s.set i none)).bind fun q s1 => .ok (.ot (.lst q.2)) (s1.set i (some (OT.upd (.lst q.1) t path)))) ((lcGo ok (bgi kk x) c e (wipe ρ vs) (bitms kk 0 ms) [] C.h).bind fun xs h2 => alloc (.lst xs) h2) := by
  obtain ⟨C1, oa, hh, I1, S1, er, mm, gd, F⟩ := I.hide e0
  subst er
  obtain ⟨xa, e1, ex⟩ := at_er path oa _ ea
  obtain ⟨cx, Sp⟩ := at_split path oa xa e1
  cases xa with
  | sh v u => simp [OA.er] at ex
  | tup b xs => simp [OA.er] at ex
  | dct b ep ts ks xs => simp [OA.er] at ex
  | lst p ys =>
    simp only [OA.er, OT.lst.injEq] at ex
    subst ex
    have gx := Sp.gd _ _ gd
    rw [Good] at gx
    have hx' := hX ρ C.h C1.P oa _ mm (hh ▸ gd) e1
    refine ⟨p, ys.map OA.mv, hx', hh ▸ gx.1, fun ok hok => ?_⟩
    have wi : (wipe ρ vs)[i]? = some (some oa.mv) := by rw [wipe_ne ni]; exact mm
    have R := bcomp_ok (kk := kk) (c := c) (e := e) hc he hx hk ni xi Sp hok C C1 wi ys [] [] 0 C1 ρ (s.set i none) I1 ⟨(wipe_len ρ vs).symm, fun i n => (wipe_ne n).symm⟩ S1 ⟨fun a q => ⟨q, rfl⟩, fun _ _ q => q⟩ (fun _ _ => rfl) (by simp [Goods]) gx.2 (by simp [Goods]) (by simp) (F.perm (by
      simpa [OA.ads, OA.ad] using Sp.pm)) gx.1
    simp only [OA.ers, List.map_nil] at R
    cases e2 : bcomp kk x tc te vs 0 (OA.ers ys) [] [] (s.set i none) with
    | stuck => exact .stuck
    | exc _ _ => rw [e2] at R; exact R.elim
    | ok q s' =>
      rw [e2] at R
      obtain ⟨oys, oos, C', e3, q1, q2, I', no, S', K', kc, gy, go, em, F', hp⟩ := R
      rw [hh] at e3
      rw [e3]
      have I'' : Inv C' ρ s' := I'.env (fun i o e => by
        have n : i ∉ vs := fun m => by rw [no i m] at e; cases e
        exact (wipe_ne n).symm) (wipe_len ρ vs).symm
      have g : Good C'.P C'.h (OA.upd (.lst p oys) oa path) := Sp.gd' (.lst p oys) _ _ _ _ rfl gd K' kc (by rw [Good]; exact ⟨by rw [em]; exact hp, gy⟩)
      have pm : List.Perm (OA.upd (.lst p oys) oa path).ad (cx ++ p :: OA.ads oys) := by
        refine (Sp.pm' _).trans ?_
        simp [OA.ad]
      have Fu : Free C C' (OA.upd (.lst p oys) oa path).ad := F'.left.perm pm.symm
      have mu : (OA.upd (.lst p oys) oa path).mv = oa.mv := Sp.mv (.lst p oys) rfl
      have r := I''.show S' (i := i) (o := OA.upd (.lst p oys) oa path) (by rw [mu]; exact mm) g Fu
      rw [Sp.er (.lst p oys), OA.er, q1] at r
      have Fo : Free C ⟨C'.P, put C'.A i (some (OA.upd (.lst p oys) oa path)), C'.h⟩ (OA.ads oos) := by
        have F0 := F'.right
        refine ⟨F0.nd, F0.fr, ?_, F0.nw, F0.lt⟩
        rintro a ma ⟨j, z, ej, mz⟩
        by_cases n : j = i
        · subst n
          simp only [put_self, Option.some.injEq] at ej
          subst ej
          exact (List.nodup_append.mp F'.nd).2.2 a (pm.mem_iff.mp mz) a ma rfl
        · simp only [put_ne n] at ej
          exact F0.dj a ma ⟨j, z, ej, mz⟩
      have NL := LR.newL (C0 := C) r.1 r.2 (oas := oos) go Fo
      rw [q2] at NL
      exact NL
theorem le_lcB {i x : Nat} {c e : E} {tc te : TE} {path : List Nat} {X : E} {vs : List Nat} (hX : PE i path X) (hc : LE c tc) (he : LE e te) (hx : x ∈ vs) (ni : i ∉ vs) (xi : x ≠ i) :
    LE (eLc (iSeq X) (gOne (gName x)) c e vs) (tLcB none i path x tc te vs) := by
  intro C ρ s I
  unfold tLcB
  cases e0 : tget s i with
  | none => exact .stuck
  | some t =>
    dsimp only
    cases ea : t.at path with
    | none => exact .stuck
    | some o =>
      cases o with
      | sh _ => exact .stuck
      | tup _ => exact .stuck
      | dct _ _ => exact .stuck
      | lst xs =>
        dsimp only
        obtain ⟨p, ms, ex, ep, R⟩ := lcB_core (kk := none) hX hc he hx (fun k h => nomatch h) ni xi I e0 ea
        have R' := R (It.lst p ms).good (fun h q => by simp [It.good, sameL, q])
        unfold eLc iSeq
        rw [ex]
        simp only [Res.bind_ok, ep]
        rw [bitms_one] at R'
        exact R'
theorem le_lcE {i k x : Nat} {c e : E} {tc te : TE} {path : List Nat} {X : E} {vs : List Nat} (hX : PE i path X) (hc : LE c tc) (he : LE e te) (hx : x ∈ vs) (hk : k ∈ vs ∧ k ≠ i ∧ k ≠ x) (ni : i ∉ vs) (xi : x ≠ i) :
    LE (eLc (iEnum X) (gTwo (gName k) (gName x)) c e vs) (tLcB (some k) i path x tc te vs) := by
  intro C ρ s I
  unfold tLcB
  cases e0 : tget s i with
  | none => exact .stuck
  | some t =>
    dsimp only
    cases ea : t.at path with
    | none => exact .stuck
    | some o =>
      cases o with
      | sh _ => exact .stuck
      | tup _ => exact .stuck
      | dct _ _ => exact .stuck
      | lst xs =>
        dsimp only
        obtain ⟨p, ms, ex, ep, R⟩ := lcB_core (kk := some k) hX hc he hx (fun k' h => by cases h; exact hk) ni xi I e0 ea
        have R' := R (It.enum p ms).good (fun h q => by simp [It.good, sameL, q])
        unfold eLc iEnum
        rw [ex]
        simp only [Res.bind_ok, ep]
        rw [bitms_two, ← List.range_eq_range'] at R'
        exact R'
end Mi
set_option linter.all false
set_option maxRecDepth 100000
set_option maxHeartbeats 4000000
namespace Mi
abbrev x_SayError : Nat := 0
abbrev x_NoFrame : Nat := 1
abbrev x_NoLot : Nat := 2
/-! is_lot: 0 count 1 lot 2 rising 3 one 4 other 5 number -/
def t_is_lot : TFn := tBody 2 6 [] ((tsSeq (tsAsg false (tgName 2) (t1 gAll (tLc (tiZip (tVar 1) (tSlice (tVar 1) (toSome (tC (.int 1))) toNone)) (tgTwo (tgName 3) (tgName 4)) tT (t2 gLt (tVar 3) (tVar 4)) [3, 4])))
    (tsRet [] (tAnd (tVar 2) (t1 gAll (tLc (tiSeq (tVar 1)) (tgOne (tgName 5)) tT (tChain gLe gLt (tC (.int 0)) (tVar 5) (tVar 0)) [5]))))))
theorem lf_is_lot : LF m_is_lot [false, false] t_is_lot := lf_body (W := [2, 3, 4, 5]) rfl rfl (by decide) (by decide) ((ls_seq (ls_asg (lg_name (by decide)) (le_all (le_lc (li_zip (le_var 1) (le_slice (le_var 1) (lo_some (le_c (leaf_int _))) lo_none)) (lgi_two (lg_name (by decide)) (lg_name (by decide))) le_T (le_t2 lf_lt (le_var 3) (le_var 4)))))
    (ls_ret (le_and (le_var 2) (le_all (le_lc (li_seq (le_var 1)) (lgi_one (lg_name (by decide))) le_T (le_chain lf_le lf_lt (le_c (leaf_int _)) (le_var 5) (le_var 0))))))))
/-! is_frame: 0 frame 1 count 2 lots 3 lot -/
def t_is_frame : TFn := tBody 1 4 [] ((tsSeq (tsAsg false (tgTup 2 (tgCons (tgName 1) (tgCons (tgName 2) tgNil))) (tVar 0))
    (tsSeq (tsIf (tOr (tNot (tChain gLe gLe (tC (.int 0)) (tVar 1) (tC (.int 40)))) (t2 gGt (t1 gLen (tVar 2)) (tC (.int 200))))
    (tsRet [] (tC (.bl false)))
    tsSkip)
    (tsRet [] (t1 gAll (tLc (tiSeq (tVar 2)) (tgOne (tgName 3)) tT (tCall t_is_lot [false, false] (taCons (tVar 1) (taCons (tVar 3) taNil))) [3]))))))
theorem lf_is_frame : LF m_is_frame [false] t_is_frame := lf_body (W := [1, 2, 3]) rfl rfl (by decide) (by decide) ((ls_seq (ls_asg (lg_tup (lgs_cons (lg_name (by decide)) (lgs_cons (lg_name (by decide)) lgs_nil))) (le_var 0))
    (ls_seq (ls_if (le_or (le_not (le_chain lf_le lf_le (le_c (leaf_int _)) (le_var 1) (le_c (leaf_int _)))) (le_t2 lf_gt (le_len (le_var 2)) (le_c (leaf_int _))))
    (ls_ret (le_c (leaf_bl _)))
    ls_skip)
    (ls_ret (le_all (le_lc (li_seq (le_var 2)) (lgi_one (lg_name (by decide))) le_T (le_call lf_is_lot (la_cons (le_var 1) (la_cons (le_var 3) la_nil)))))))))
/-! must_frame: 0 frame -/
def t_must_frame : TFn := tBody 1 1 [] ((tsIf (tNot (tCall t_is_frame [false] (taCons (tVar 0) taNil)))
    (tsRaise x_NoFrame)
    tsSkip))
theorem lf_must_frame : LF m_must_frame [false] t_must_frame := lf_body (W := []) rfl rfl (by decide) (by decide) ((ls_if (le_not (le_call lf_is_frame (la_cons (le_var 0) la_nil)))
    (ls_raise 1)
    ls_skip))
/-! holds_all: 0 one 1 other 2 number -/
def t_holds_all : TFn := tBody 2 3 [] ((tsRet [] (t1 gAll (tLc (tiSeq (tVar 1)) (tgOne (tgName 2)) tT (t2 gIn (tVar 2) (tVar 0)) [2]))))
theorem lf_holds_all : LF m_holds_all [false, false] t_holds_all := lf_body (W := [2]) rfl rfl (by decide) (by decide) ((ls_ret (le_all (le_lc (li_seq (le_var 1)) (lgi_one (lg_name (by decide))) le_T (le_t2 lf_in (le_var 2) (le_var 0))))))
/-! closed: 0 frame 1 lot 2 count 3 lots 4 found 5 one 6 number -/
def t_closed_b1 : TS := tsKl [5, 6] (tsIf (tCall t_holds_all [false, false] (taCons (tVar 5) (taCons (tVar 1) taNil)))
    (tsAsg false (tgName 4) (tLc (tiSeq (tVar 4)) (tgOne (tgName 6)) (t2 gIn (tVar 6) (tVar 5)) (tVar 6) [6]))
    tsSkip)
def t_closed : TFn := tBody 2 7 [] ((tsSeq (tsAsg false (tgTup 2 (tgCons (tgName 2) (tgCons (tgName 3) tgNil))) (tVar 0))
    (tsSeq (tsAsg false (tgName 4) (t2k gRng (tC (.int 0)) (tVar 2)))
    (tsSeq (tsKl [5, 6] (tsFor (tiSeq (tVar 3)) (tgOne (tgName 5))
    t_closed_b1))
    (tsRet [] (tVar 4))))))
theorem lf_closed : LF m_closed [false, false] t_closed := lf_body (W := [2, 3, 4, 5, 6]) rfl rfl (by decide) (by decide) ((ls_seq (ls_asg (lg_tup (lgs_cons (lg_name (by decide)) (lgs_cons (lg_name (by decide)) lgs_nil))) (le_var 0))
    (ls_seq (ls_asg (lg_name (by decide)) (le_rng (le_c (leaf_int _)) (le_var 2)))
    (ls_seq (ls_kl (ls_for (li_seq (le_var 3)) (lgi_one (lg_name (by decide)))
    (ls_kl (ls_if (le_call lf_holds_all (la_cons (le_var 5) (la_cons (le_var 1) la_nil)))
    (ls_asg (lg_name (by decide)) (le_lc (li_seq (le_var 4)) (lgi_one (lg_name (by decide))) (le_t2 lf_in (le_var 6) (le_var 5)) (le_var 6)))
    ls_skip))))
    (ls_ret (le_var 4))))))
/-! must_lot: 0 frame 1 lot -/
def t_must_lot : TFn := tBody 2 2 [] ((tsIf (tNot (tCall t_is_lot [false, false] (taCons (t2k gIx (tVar 0) (tC (.int 0))) (taCons (tVar 1) taNil))))
    (tsRaise x_NoLot)
    tsSkip))
theorem lf_must_lot : LF m_must_lot [false, false] t_must_lot := lf_body (W := []) rfl rfl (by decide) (by decide) ((ls_if (le_not (le_call lf_is_lot (la_cons (le_t2k kf_ix (le_var 0) (le_c (leaf_int _))) (la_cons (le_var 1) la_nil))))
    (ls_raise 2)
    ls_skip))
/-! closing: 0 frame 1 lot -/
def t_closing : TFn := tBody 2 2 [] ((tsSeq (tsExpr (tCall t_must_frame [false] (taCons (tVar 0) taNil)))
    (tsSeq (tsExpr (tCall t_must_lot [false, false] (taCons (tVar 0) (taCons (tVar 1) taNil))))
    (tsRet [] (tCall t_closed [false, false] (taCons (tVar 0) (taCons (tVar 1) taNil)))))))
theorem lf_closing : LF m_closing [false, false] t_closing := lf_body (W := []) rfl rfl (by decide) (by decide) ((ls_seq (ls_expr (le_call lf_must_frame (la_cons (le_var 0) la_nil)))
    (ls_seq (ls_expr (le_call lf_must_lot (la_cons (le_var 0) (la_cons (le_var 1) la_nil))))
    (ls_ret (le_call lf_closed (la_cons (le_var 0) (la_cons (le_var 1) la_nil)))))))
/-! common: 0 one 1 other 2 number -/
def t_common : TFn := tBody 2 3 [] ((tsRet [] (tLc (tiSeq (tVar 0)) (tgOne (tgName 2)) (t2 gIn (tVar 2) (tVar 1)) (tVar 2) [2])))
theorem lf_common : LF m_common [false, false] t_common := lf_body (W := [2]) rfl rfl (by decide) (by decide) ((ls_ret (le_lc (li_seq (le_var 0)) (lgi_one (lg_name (by decide))) (le_t2 lf_in (le_var 2) (le_var 1)) (le_var 2))))
/-! all_things: 0 frame 1 count 2 lots 3 found 4 lot 5 thing -/
def t_all_things_b1 : TS := tsKl [5] (tsSetKey false (tC (.bl true)) 3 (t1k gTuple (tCall t_common [false, false] (taCons (t1k gList (tVar 5)) (taCons (tVar 4) taNil)))))
def t_all_things_b2 : TS := tsKl [4, 5] (tsKl [5] (tsFor (tiSeq (t1k gListD (tVar 3))) (tgOne (tgName 5))
    t_all_things_b1))
def t_all_things : TFn := tBody 1 6 [] ((tsSeq (tsAsg false (tgTup 2 (tgCons (tgName 1) (tgCons (tgName 2) tgNil))) (tVar 0))
    (tsSeq (tsAsg false (tgName 3) (tDsp1 false (t1k gTupRng (tVar 1)) (tC (.bl true))))
    (tsSeq (tsKl [4, 5] (tsFor (tiSeq (tVar 2)) (tgOne (tgName 4))
    t_all_things_b2))
    (tsRet [] (tLc (tiSeq (t1k gSortedD (tVar 3))) (tgOne (tgName 5)) tT (t1k gList (tVar 5)) [5]))))))
theorem lf_all_things : LF m_all_things [false] t_all_things := lf_body (W := [1, 2, 3, 4, 5]) rfl rfl (by decide) (by decide) ((ls_seq (ls_asg (lg_tup (lgs_cons (lg_name (by decide)) (lgs_cons (lg_name (by decide)) lgs_nil))) (le_var 0))
    (ls_seq (ls_asg (lg_name (by decide)) (le_dsp1 (le_tupRng (le_var 1)) (le_c (leaf_bl _))))
    (ls_seq (ls_kl (ls_for (li_seq (le_var 2)) (lgi_one (lg_name (by decide)))
    (ls_kl (ls_kl (ls_for (li_seq (le_listD (le_var 3))) (lgi_one (lg_name (by decide)))
    (ls_kl (ls_setKey (le_c (leaf_bl _)) (le_tuple (le_call lf_common (la_cons (le_list (le_var 5)) (la_cons (le_var 4) la_nil)))))))))))
    (ls_ret (le_lc (li_seq (le_sortedD (le_var 3))) (lgi_one (lg_name (by decide))) le_T (le_list (le_var 5))))))))
/-! things: 0 frame -/
def t_things : TFn := tBody 1 1 [] ((tsSeq (tsExpr (tCall t_must_frame [false] (taCons (tVar 0) taNil)))
    (tsRet [] (tCall t_all_things [false] (taCons (tVar 0) taNil)))))
theorem lf_things : LF m_things [false] t_things := lf_body (W := []) rfl rfl (by decide) (by decide) ((ls_seq (ls_expr (le_call lf_must_frame (la_cons (le_var 0) la_nil)))
    (ls_ret (le_call lf_all_things (la_cons (le_var 0) la_nil)))))
/-! _law_at: 0 ~script 1 ~k -/
def t__law_at : TFn := tBody 2 2 [] ((tsSeq (tsIf (t2 gLt (tVar 1) (t1 gLen (tVar 0)))
    (tsRet [] (t2k gIx (tVar 0) (tVar 1)))
    tsSkip)
    (tsRet [] (tC (.int 0)))))
theorem lf__law_at : LF m__law_at [false, false] t__law_at := lf_body (W := []) rfl rfl (by decide) (by decide) ((ls_seq (ls_if (le_t2 lf_lt (le_var 1) (le_len (le_var 0)))
    (ls_ret (le_t2k kf_ix (le_var 0) (le_var 1)))
    ls_skip)
    (ls_ret (le_c (leaf_int _)))))
/-! _law_mixed: 0 ~cell 1 ~k 2 ~number -/
def t__law_mixed : TFn := tBody 2 3 [] ((tsSeq (tsAsg false (tgName 2) (t2 gMod (t2k gAdd (t2k gAdd (t2k gAdd (t2k gMul (tVar 0) (tC (.int 1103515245))) (t2k gMul (t2k gMul (tC (.int 7919)) (tVar 1)) (tVar 1))) (tVar 1)) (tC (.int 1))) (tC (.int 2147483647))))
    (tsSeq (tsAsg false (tgName 2) (t2 gMod (t2k gAdd (t2k gMul (tVar 2) (tVar 2)) (tC (.int 69621))) (tC (.int 2147483629))))
    (tsRet [] (t2 gMod (t2k gMul (tVar 2) (tC (.int 48271))) (tC (.int 2147483587)))))))
theorem lf__law_mixed : LF m__law_mixed [false, false] t__law_mixed := lf_body (W := [2]) rfl rfl (by decide) (by decide) ((ls_seq (ls_asg (lg_name (by decide)) (le_t2 lf_mod (le_t2k kf_add (le_t2k kf_add (le_t2k kf_add (le_t2k kf_mul (le_var 0) (le_c (leaf_int _))) (le_t2k kf_mul (le_t2k kf_mul (le_c (leaf_int _)) (le_var 1)) (le_var 1))) (le_var 1)) (le_c (leaf_int _))) (le_c (leaf_int _))))
    (ls_seq (ls_asg (lg_name (by decide)) (le_t2 lf_mod (le_t2k kf_add (le_t2k kf_mul (le_var 2) (le_var 2)) (le_c (leaf_int _))) (le_c (leaf_int _))))
    (ls_ret (le_t2 lf_mod (le_t2k kf_mul (le_var 2) (le_c (leaf_int _))) (le_c (leaf_int _)))))))
/-! _law_purse: 0 ~script 1 ~at_here 2 ~cell -/
def t__law_purse : TFn := tBody 2 3 [] ((tsSeq (tsAsg false (tgName 2) (tCall t__law_at [false, false] (taCons (tVar 0) (taCons (tVar 1) taNil))))
    (tsRet [] (tLst true (taCons (t2 gMax (t2 gSub (tVar 2) (t2 gPow (tC (.int 10)) (tC (.int 18)))) (tC (.int 0))) (taCons (t2 gMod (tVar 2) (tC (.int 2147483647))) (taCons (t2k gMul (tC (.int 1000)) (tVar 1)) taNil)))))))
theorem lf__law_purse : LF m__law_purse [false, false] t__law_purse := lf_body (W := [2]) rfl rfl (by decide) (by decide) ((ls_seq (ls_asg (lg_name (by decide)) (le_call lf__law_at (la_cons (le_var 0) (la_cons (le_var 1) la_nil))))
    (ls_ret (le_lst (la_cons (le_max (le_t2 lf_sub (le_var 2) (le_t2 lf_pow (le_c (leaf_int _)) (le_c (leaf_int _)))) (le_c (leaf_int _))) (la_cons (le_t2 lf_mod (le_var 2) (le_c (leaf_int _))) (la_cons (le_t2k kf_mul (le_c (leaf_int _)) (le_var 1)) la_nil)))))))
/-! _law_draw: 0 ~purse_here 1 ~out_of 2 ~drawn 3 ~number 4 ~k -/
def t__law_draw_b1 : TS := tsKl [4] (tsSeq (tsSetIx false (t2k gAdd (t2k gIx (tVar 0) (tC (.int 2))) (tC (.int 1))) 0 (tC (.int 2)))
    (tsAsg false (tgName 3) (t2k gAdd (t2k gMul (tVar 3) (tC (.int 2147483587))) (tCall t__law_mixed [false, false] (taCons (t2k gIx (tVar 0) (tC (.int 1))) (taCons (t2k gIx (tVar 0) (tC (.int 2))) taNil))))))
def t__law_draw : TFn := tBody 2 5 [0] ((tsSeq (tsIf (t2 gGt (t2k gIx (tVar 0) (tC (.int 0))) (tC (.int 0)))
    (tsSeq (tsAsg false (tgName 2) (t2 gMod (t2k gIx (tVar 0) (tC (.int 0))) (tVar 1)))
    (tsSeq (tsSetIx false (t2 gDiv (t2k gIx (tVar 0) (tC (.int 0))) (tVar 1)) 0 (tC (.int 0)))
    (tsRet [0] (tVar 2))))
    tsSkip)
    (tsSeq (tsAsg false (tgName 3) (tC (.int 0)))
    (tsSeq (tsKl [4] (tsFor (tiRng (t2k gAdd (tC (.int 1)) (t2 gDiv (t1 gBits (tVar 1)) (tC (.int 30))))) (tgOne (tgName 4))
    t__law_draw_b1))
    (tsRet [0] (t2 gMod (tVar 3) (tVar 1)))))))
theorem lf__law_draw : LF m__law_draw [true, false] t__law_draw := lf_body (W := [2, 3, 4]) rfl rfl (by decide) (by decide) ((ls_seq (ls_if (le_t2 lf_gt (le_t2k kf_ix (le_var 0) (le_c (leaf_int _))) (le_c (leaf_int _)))
    (ls_seq (ls_asg (lg_name (by decide)) (le_t2 lf_mod (le_t2k kf_ix (le_var 0) (le_c (leaf_int _))) (le_var 1)))
    (ls_seq (ls_setIx (le_t2 lf_div (le_t2k kf_ix (le_var 0) (le_c (leaf_int _))) (le_var 1)) (le_c (leaf_int _)))
    (ls_ret (le_var 2))))
    ls_skip)
    (ls_seq (ls_asg (lg_name (by decide)) (le_c (leaf_int _)))
    (ls_seq (ls_kl (ls_for (li_rng (le_t2k kf_add (le_c (leaf_int _)) (le_t2 lf_div (le_bits (le_var 1)) (le_c (leaf_int _))))) (lgi_one (lg_name (by decide)))
    (ls_kl (ls_seq (ls_setIx (le_t2k kf_add (le_t2k kf_ix (le_var 0) (le_c (leaf_int _))) (le_c (leaf_int _))) (le_c (leaf_int _)))
    (ls_asg (lg_name (by decide)) (le_t2k kf_add (le_t2k kf_mul (le_var 3) (le_c (leaf_int _))) (le_call lf__law_mixed (la_cons (le_t2k kf_ix (le_var 0) (le_c (leaf_int _))) (la_cons (le_t2k kf_ix (le_var 0) (le_c (leaf_int _))) la_nil)))))))))
    (ls_ret (le_t2 lf_mod (le_var 3) (le_var 1)))))))
/-! _law_closed: 0 ~frame_here 1 ~lot_here 2 ~found 3 ~one 4 ~number -/
def t__law_closed_b1 : TS := tsKl [3, 4] (tsIf (t2 gEq (tLc (tiSeq (tVar 1)) (tgOne (tgName 4)) (t2 gNotIn (tVar 4) (tVar 3)) (tVar 4) [4]) (tLst false taNil))
    (tsAsg false (tgName 2) (tLc (tiSeq (tVar 2)) (tgOne (tgName 4)) (t2 gIn (tVar 4) (tVar 3)) (tVar 4) [4]))
    tsSkip)
def t__law_closed : TFn := tBody 2 5 [] ((tsSeq (tsAsg false (tgName 2) (t2k gRng (tC (.int 0)) (t2k gIx (tVar 0) (tC (.int 0)))))
    (tsSeq (tsKl [3, 4] (tsFor (tiSeq (t2k gIx (tVar 0) (tC (.int 1)))) (tgOne (tgName 3))
    t__law_closed_b1))
    (tsRet [] (tVar 2)))))
theorem lf__law_closed : LF m__law_closed [false, false] t__law_closed := lf_body (W := [2, 3, 4]) rfl rfl (by decide) (by decide) ((ls_seq (ls_asg (lg_name (by decide)) (le_rng (le_c (leaf_int _)) (le_t2k kf_ix (le_var 0) (le_c (leaf_int _)))))
    (ls_seq (ls_kl (ls_for (li_seq (le_t2k kf_ix (le_var 0) (le_c (leaf_int _)))) (lgi_one (lg_name (by decide)))
    (ls_kl (ls_if (le_t2 lf_eq (le_lc (li_seq (le_var 1)) (lgi_one (lg_name (by decide))) (le_t2 lf_nin (le_var 4) (le_var 3)) (le_var 4)) (le_lst la_nil))
    (ls_asg (lg_name (by decide)) (le_lc (li_seq (le_var 2)) (lgi_one (lg_name (by decide))) (le_t2 lf_in (le_var 4) (le_var 3)) (le_var 4)))
    ls_skip))))
    (ls_ret (le_var 2)))))
/-! _law_lot: 0 ~purse_here 1 ~count 2 ~bits 3 ~number -/
def t__law_lot : TFn := tBody 2 4 [0] ((tsSeq (tsAsg false (tgName 2) (tCall t__law_draw [true, false] (taCons (tVar 0) (taCons (t2 gShl (tC (.int 1)) (tVar 1)) taNil))))
    (tsRet [0] (tLc (tiRng (tVar 1)) (tgOne (tgName 3)) (t2 gEq (t2 gAnd (t2 gShr (tVar 2) (tVar 3)) (tC (.int 1))) (tC (.int 1))) (tVar 3) [3]))))
theorem lf__law_lot : LF m__law_lot [true, false] t__law_lot := lf_body (W := [2, 3]) rfl rfl (by decide) (by decide) ((ls_seq (ls_asg (lg_name (by decide)) (le_call lf__law_draw (la_cons (le_var 0) (la_cons (le_t2 lf_shl (le_c (leaf_int _)) (le_var 1)) la_nil))))
    (ls_ret (le_lc (li_rng (le_var 1)) (lgi_one (lg_name (by decide))) (le_t2 lf_eq (le_t2 lf_and (le_t2 lf_shr (le_var 2) (le_var 3)) (le_c (leaf_int _))) (le_c (leaf_int _))) (le_var 3)))))
/-! _law_frame: 0 ~purse_here 1 ~most 2 ~count 3 ~lots 4 ~k -/
def t__law_frame_b1 : TS := tsKl [4] (tsExpr (tAppend false 3 (tCall t__law_lot [true, false] (taCons (tVar 0) (taCons (tVar 2) taNil)))))
def t__law_frame : TFn := tBody 2 5 [0] ((tsSeq (tsAsg false (tgName 2) (tCall t__law_draw [true, false] (taCons (tVar 0) (taCons (t2k gAdd (tVar 1) (tC (.int 1))) taNil))))
    (tsSeq (tsAsg false (tgName 3) (tLst false taNil))
    (tsSeq (tsKl [4] (tsFor (tiRng (tCall t__law_draw [true, false] (taCons (tVar 0) (taCons (tC (.int 9)) taNil)))) (tgOne (tgName 4))
    t__law_frame_b1))
    (tsRet [0] (tTup true (taCons (tVar 2) (taCons (tVar 3) taNil))))))))
theorem lf__law_frame : LF m__law_frame [true, false] t__law_frame := lf_body (W := [2, 3, 4]) rfl rfl (by decide) (by decide) ((ls_seq (ls_asg (lg_name (by decide)) (le_call lf__law_draw (la_cons (le_var 0) (la_cons (le_t2k kf_add (le_var 1) (le_c (leaf_int _))) la_nil))))
    (ls_seq (ls_asg (lg_name (by decide)) (le_lst la_nil))
    (ls_seq (ls_kl (ls_for (li_rng (le_call lf__law_draw (la_cons (le_var 0) (la_cons (le_c (leaf_int _)) la_nil)))) (lgi_one (lg_name (by decide)))
    (ls_kl (ls_expr (le_append (le_call lf__law_lot (la_cons (le_var 0) (la_cons (le_var 2) la_nil))))))))
    (ls_ret (le_tup (la_cons (le_var 2) (la_cons (le_var 3) la_nil))))))))
/-! _law_due: 0 ~frame_here 1 ~found 2 ~lot_here 3 ~thing 4 ~mutual 5 ~number -/
def t__law_due_b1 : TS := tsKl [3, 4, 5] (tsSeq (tsAsg false (tgName 4) (tLc (tiSeq (tVar 3)) (tgOne (tgName 5)) (t2 gIn (tVar 5) (tVar 2)) (tVar 5) [5]))
    (tsIf (t2 gNotIn (tVar 4) (tVar 1))
    (tsExpr (tAppend false 1 (tVar 4)))
    tsSkip))
def t__law_due_b2 : TS := tsKl [2, 3, 4, 5] (tsKl [3, 4, 5] (tsFor (tiSeq (t1k gList (tVar 1))) (tgOne (tgName 3))
    t__law_due_b1))
def t__law_due : TFn := tBody 1 6 [] ((tsSeq (tsAsg false (tgName 1) (tLst false (taCons (t2k gRng (tC (.int 0)) (t2k gIx (tVar 0) (tC (.int 0)))) taNil)))
    (tsSeq (tsKl [2, 3, 4, 5] (tsFor (tiSeq (t2k gIx (tVar 0) (tC (.int 1)))) (tgOne (tgName 2))
    t__law_due_b2))
    (tsRet [] (t1k gSorted (tVar 1))))))
theorem lf__law_due : LF m__law_due [false] t__law_due := lf_body (W := [1, 2, 3, 4, 5]) rfl rfl (by decide) (by decide) ((ls_seq (ls_asg (lg_name (by decide)) (le_lst (la_cons (le_rng (le_c (leaf_int _)) (le_t2k kf_ix (le_var 0) (le_c (leaf_int _)))) la_nil)))
    (ls_seq (ls_kl (ls_for (li_seq (le_t2k kf_ix (le_var 0) (le_c (leaf_int _)))) (lgi_one (lg_name (by decide)))
    (ls_kl (ls_kl (ls_for (li_seq (le_list (le_var 1))) (lgi_one (lg_name (by decide)))
    (ls_kl (ls_seq (ls_asg (lg_name (by decide)) (le_lc (li_seq (le_var 3)) (lgi_one (lg_name (by decide))) (le_t2 lf_in (le_var 5) (le_var 2)) (le_var 5)))
    (ls_if (le_t2 lf_nin (le_var 4) (le_var 1))
    (ls_expr (le_append (le_var 4)))
    ls_skip))))))))
    (ls_ret (le_sorted (le_var 1))))))
/-! _law_all_lots: 0 ~frame_here 1 ~found 2 ~bits 3 ~lot_here 4 ~number -/
def t__law_all_lots_b1 : TS := tsKl [2, 3, 4] (tsSeq (tsAsg false (tgName 3) (tLc (tiRng (t2k gIx (tVar 0) (tC (.int 0)))) (tgOne (tgName 4)) (t2 gEq (t2 gAnd (t2 gShr (tVar 2) (tVar 4)) (tC (.int 1))) (tC (.int 1))) (tVar 4) [4]))
    (tsIf (t2 gEq (tCall t__law_closed [false, false] (taCons (tVar 0) (taCons (tVar 3) taNil))) (tVar 3))
    (tsExpr (tAppend false 1 (tVar 3)))
    tsSkip))
def t__law_all_lots : TFn := tBody 1 5 [] ((tsSeq (tsAsg false (tgName 1) (tLst false taNil))
    (tsSeq (tsKl [2, 3, 4] (tsFor (tiRng (t2 gShl (tC (.int 1)) (t2k gIx (tVar 0) (tC (.int 0))))) (tgOne (tgName 2))
    t__law_all_lots_b1))
    (tsRet [] (t1k gSorted (tVar 1))))))
theorem lf__law_all_lots : LF m__law_all_lots [false] t__law_all_lots := lf_body (W := [1, 2, 3, 4]) rfl rfl (by decide) (by decide) ((ls_seq (ls_asg (lg_name (by decide)) (le_lst la_nil))
    (ls_seq (ls_kl (ls_for (li_rng (le_t2 lf_shl (le_c (leaf_int _)) (le_t2k kf_ix (le_var 0) (le_c (leaf_int _))))) (lgi_one (lg_name (by decide)))
    (ls_kl (ls_seq (ls_asg (lg_name (by decide)) (le_lc (li_rng (le_t2k kf_ix (le_var 0) (le_c (leaf_int _)))) (lgi_one (lg_name (by decide))) (le_t2 lf_eq (le_t2 lf_and (le_t2 lf_shr (le_var 2) (le_var 4)) (le_c (leaf_int _))) (le_c (leaf_int _))) (le_var 4)))
    (ls_if (le_t2 lf_eq (le_call lf__law_closed (la_cons (le_var 0) (la_cons (le_var 3) la_nil))) (le_var 3))
    (ls_expr (le_append (le_var 3)))
    ls_skip)))))
    (ls_ret (le_sorted (le_var 1))))))
/-! _law_right: 0 ~frame_here 1 ~due_here 2 ~stayed 3 ~turn 4 ~found 5 ~k 6 ~one 7 ~lot_here -/
def t__law_right_b1 : TS := tsKl [5] (tsSeq (tsIf (tOr (tNot (t1 (gIsi .tlist) (tVar 6))) (tOr (t2 gNe (tVar 6) (t2k gIx (tVar 1) (tVar 5))) (tAnd (t2 gEq (tVar 3) (tC (.int 0))) (t2 gNe (tCall t_closing [false, false] (taCons (tVar 0) (taCons (tVar 6) taNil))) (tVar 6)))))
    (tsRet [] (tC (.bl false)))
    tsSkip)
    (tsExpr (tAppend false 6 (t2k gAdd (tC (.int 20)) (tVar 5)))))
def t__law_right_b2 : TS := tsKl [3, 4, 5, 6] (tsSeq (tsAsg false (tgName 4) (tCall t_things [false] (taCons (tVar 0) taNil)))
    (tsSeq (tsIf (tOr (tNot (t1 (gIsi .tlist) (tVar 4))) (tOr (t2 gNe (tVar 4) (tVar 1)) (t2 gNe (t2k gIx (tVar 0) (tC (.int 1))) (tVar 2))))
    (tsRet [] (tC (.bl false)))
    tsSkip)
    (tsSeq (tsKl [5, 6] (tsForE 4 [] 5 6
    t__law_right_b1))
    (tsSeq (tsIf (t2 gNe (tLcB none 4 [] 6 tT (tSlice (tVar 6) toNone (toSome (t1 gNeg (tC (.int 1))))) [6]) (tVar 1))
    (tsRet [] (tC (.bl false)))
    tsSkip)
    (tsExpr (tClear 4))))))
def t__law_right : TFn := tBody 1 8 [] ((tsSeq (tsAsg false (tgName 1) (tCall t__law_due [false] (taCons (tVar 0) taNil)))
    (tsSeq (tsIf (tAnd (t2 gLt (t2k gIx (tVar 0) (tC (.int 0))) (tC (.int 7))) (t2 gNe (tVar 1) (tCall t__law_all_lots [false] (taCons (tVar 0) taNil))))
    (tsRet [] (tC (.bl false)))
    tsSkip)
    (tsSeq (tsAsg false (tgName 2) (tLc (tiSeq (t2k gIx (tVar 0) (tC (.int 1)))) (tgOne (tgName 7)) tT (t1k gList (tVar 7)) [7]))
    (tsSeq (tsKl [3, 4, 5, 6] (tsFor (tiRng (tC (.int 3))) (tgOne (tgName 3))
    t__law_right_b2))
    (tsRet [] (tC (.bl true))))))))
theorem lf__law_right : LF m__law_right [false] t__law_right := lf_body (W := [1, 2, 3, 4, 5, 6, 7]) rfl rfl (by decide) (by decide) ((ls_seq (ls_asg (lg_name (by decide)) (le_call lf__law_due (la_cons (le_var 0) la_nil)))
    (ls_seq (ls_if (le_and (le_t2 lf_lt (le_t2k kf_ix (le_var 0) (le_c (leaf_int _))) (le_c (leaf_int _))) (le_t2 lf_ne (le_var 1) (le_call lf__law_all_lots (la_cons (le_var 0) la_nil))))
    (ls_ret (le_c (leaf_bl _)))
    ls_skip)
    (ls_seq (ls_asg (lg_name (by decide)) (le_lc (li_seq (le_t2k kf_ix (le_var 0) (le_c (leaf_int _)))) (lgi_one (lg_name (by decide))) le_T (le_list (le_var 7))))
    (ls_seq (ls_kl (ls_for (li_rng (le_c (leaf_int _))) (lgi_one (lg_name (by decide)))
    (ls_kl (ls_seq (ls_asg (lg_name (by decide)) (le_call lf_things (la_cons (le_var 0) la_nil)))
    (ls_seq (ls_if (le_or (le_not (le_isi (le_var 4))) (le_or (le_t2 lf_ne (le_var 4) (le_var 1)) (le_t2 lf_ne (le_t2k kf_ix (le_var 0) (le_c (leaf_int _))) (le_var 2))))
    (ls_ret (le_c (leaf_bl _)))
    ls_skip)
    (ls_seq (ls_kl (ls_forE (Wb := []) (pe_var 4) (ls_kl (ls_seq (ls_if (le_or (le_not (le_isi (le_var 6))) (le_or (le_t2 lf_ne (le_var 6) (le_t2k kf_ix (le_var 1) (le_var 5))) (le_and (le_t2 lf_eq (le_var 3) (le_c (leaf_int _))) (le_t2 lf_ne (le_call lf_closing (la_cons (le_var 0) (la_cons (le_var 6) la_nil))) (le_var 6)))))
    (ls_ret (le_c (leaf_bl _)))
    ls_skip)
    (ls_expr (le_append (le_t2k kf_add (le_c (leaf_int _)) (le_var 5)))))) (by decide) (by decide) (by decide) (by decide) (by decide) (by decide)))
    (ls_seq (ls_if (le_t2 lf_ne (le_lcB (pe_var 4) le_T (le_slice (le_var 6) lo_none (lo_some (le_neg (le_c (leaf_int _))))) (by decide) (by decide) (by decide)) (le_var 1))
    (ls_ret (le_c (leaf_bl _)))
    ls_skip)
    (ls_expr (le_clear)))))))))
    (ls_ret (le_c (leaf_bl _))))))))
/-! law: 0 ~script 1 ~cell 2 ~purse_here 3 ~frame_here -/
def t_law_b1 : TS := tsKl [1, 2, 3] (tsSeq (tsAsg false (tgName 2) (tCall t__law_purse [false, false] (taCons (tVar 0) (taCons (tVar 1) taNil))))
    (tsSeq (tsAsg false (tgName 3) (tCall t__law_frame [true, false] (taCons (tVar 2) (taCons (t2k gIx (tLst false (taCons (tC (.int 6)) (taCons (tC (.int 10)) taNil))) (tCall t__law_draw [true, false] (taCons (tVar 2) (taCons (tC (.int 2)) taNil)))) taNil))))
    (tsIf (tOr (tNot (tCall t__law_right [false] (taCons (tVar 3) taNil))) (tOr (tNot (tCall t__law_right [false] (taCons (tTup false (taCons (t2k gIx (tVar 3) (tC (.int 0))) (taCons (tLst false taNil) taNil))) taNil))) (tNot (tCall t__law_right [false] (taCons (tTup false (taCons (tC (.int 0)) (taCons (t2k gMul (tLst false (taCons (tLst false taNil) taNil)) (t2 gMod (tVar 1) (tC (.int 3)))) taNil))) taNil)))))
    (tsRet [] (tC (.bl false)))
    tsSkip)))
def t_law : TFn := tBody 1 4 [] ((tsSeq (tsKl [1, 2, 3] (tsFor (tiRng (tC (.int 4))) (tgOne (tgName 1))
    t_law_b1))
    (tsRet [] (tC (.bl true)))))
theorem lf_law : LF m_law [false] t_law := lf_body (W := [1, 2, 3]) rfl rfl (by decide) (by decide) ((ls_seq (ls_kl (ls_for (li_rng (le_c (leaf_int _))) (lgi_one (lg_name (by decide)))
    (ls_kl (ls_seq (ls_asg (lg_name (by decide)) (le_call lf__law_purse (la_cons (le_var 0) (la_cons (le_var 1) la_nil))))
    (ls_seq (ls_asg (lg_name (by decide)) (le_call lf__law_frame (la_cons (le_var 2) (la_cons (le_t2k kf_ix (le_lst (la_cons (le_c (leaf_int _)) (la_cons (le_c (leaf_int _)) la_nil))) (le_call lf__law_draw (la_cons (le_var 2) (la_cons (le_c (leaf_int _)) la_nil)))) la_nil))))
    (ls_if (le_or (le_not (le_call lf__law_right (la_cons (le_var 3) la_nil))) (le_or (le_not (le_call lf__law_right (la_cons (le_tup (la_cons (le_t2k kf_ix (le_var 3) (le_c (leaf_int _))) (la_cons (le_lst la_nil) la_nil))) la_nil))) (le_not (le_call lf__law_right (la_cons (le_tup (la_cons (le_c (leaf_int _)) (la_cons (le_t2k kf_mul (le_lst (la_cons (le_lst la_nil) la_nil)) (le_t2 lf_mod (le_var 1) (le_c (leaf_int _)))) la_nil))) la_nil)))))
    (ls_ret (le_c (leaf_bl _)))
    ls_skip))))))
    (ls_ret (le_c (leaf_bl _)))))
end Mi
set_option linter.all false
/-! Running the tree mirror. -/
namespace Mi
theorem bT_eq (b : Bool) : bT b = .sh (.bl b) := rfl
theorem iT_eq (i : Int) : iT i = .sh (.int i) := rfl
theorem tget_nil (i : Nat) : tget [] i = none := rfl
theorem tget_succ (o : Option OT) (s : TEnv) (i : Nat) : tget (o :: s) (i + 1) = tget s i := by simp [tget]
theorem tget_0 (o : Option OT) (s : TEnv) : tget (o :: s) 0 = o := by cases o <;> rfl
theorem tget_1 (a0 b : Option OT) (s : TEnv) : tget (a0 :: b :: s) 1 = b := by cases b <;> rfl
theorem tget_2 (a0 a1 b : Option OT) (s : TEnv) : tget (a0 :: a1 :: b :: s) 2 = b := by cases b <;> rfl
theorem tget_3 (a0 a1 a2 b : Option OT) (s : TEnv) : tget (a0 :: a1 :: a2 :: b :: s) 3 = b := by cases b <;> rfl
theorem tget_4 (a0 a1 a2 a3 b : Option OT) (s : TEnv) : tget (a0 :: a1 :: a2 :: a3 :: b :: s) 4 = b := by cases b <;> rfl
theorem tget_5 (a0 a1 a2 a3 a4 b : Option OT) (s : TEnv) : tget (a0 :: a1 :: a2 :: a3 :: a4 :: b :: s) 5 = b := by cases b <;> rfl
theorem tget_6 (a0 a1 a2 a3 a4 a5 b : Option OT) (s : TEnv) : tget (a0 :: a1 :: a2 :: a3 :: a4 :: a5 :: b :: s) 6 = b := by cases b <;> rfl
theorem tget_7 (a0 a1 a2 a3 a4 a5 a6 b : Option OT) (s : TEnv) : tget (a0 :: a1 :: a2 :: a3 :: a4 :: a5 :: a6 :: b :: s) 7 = b := by cases b <;> rfl
theorem tget_8 (a0 a1 a2 a3 a4 a5 a6 a7 b : Option OT) (s : TEnv) : tget (a0 :: a1 :: a2 :: a3 :: a4 :: a5 :: a6 :: a7 :: b :: s) 8 = b := by cases b <;> rfl
theorem tget_9 (a0 a1 a2 a3 a4 a5 a6 a7 a8 b : Option OT) (s : TEnv) : tget (a0 :: a1 :: a2 :: a3 :: a4 :: a5 :: a6 :: a7 :: a8 :: b :: s) 9 = b := by cases b <;> rfl
theorem tget_10 (a0 a1 a2 a3 a4 a5 a6 a7 a8 a9 b : Option OT) (s : TEnv) : tget (a0 :: a1 :: a2 :: a3 :: a4 :: a5 :: a6 :: a7 :: a8 :: a9 :: b :: s) 10 = b := by cases b <;> rfl
theorem tget_11 (a0 a1 a2 a3 a4 a5 a6 a7 a8 a9 a10 b : Option OT) (s : TEnv) : tget (a0 :: a1 :: a2 :: a3 :: a4 :: a5 :: a6 :: a7 :: a8 :: a9 :: a10 :: b :: s) 11 = b := by cases b <;> rfl
theorem tget_12 (a0 a1 a2 a3 a4 a5 a6 a7 a8 a9 a10 a11 b : Option OT) (s : TEnv) : tget (a0 :: a1 :: a2 :: a3 :: a4 :: a5 :: a6 :: a7 :: a8 :: a9 :: a10 :: a11 :: b :: s) 12 = b := by cases b <;> rfl
theorem tget_13 (a0 a1 a2 a3 a4 a5 a6 a7 a8 a9 a10 a11 a12 b : Option OT) (s : TEnv) : tget (a0 :: a1 :: a2 :: a3 :: a4 :: a5 :: a6 :: a7 :: a8 :: a9 :: a10 :: a11 :: a12 :: b :: s) 13 = b := by cases b <;> rfl
theorem tget_14 (a0 a1 a2 a3 a4 a5 a6 a7 a8 a9 a10 a11 a12 a13 b : Option OT) (s : TEnv) : tget (a0 :: a1 :: a2 :: a3 :: a4 :: a5 :: a6 :: a7 :: a8 :: a9 :: a10 :: a11 :: a12 :: a13 :: b :: s) 14 = b := by cases b <;> rfl
theorem tget_15 (a0 a1 a2 a3 a4 a5 a6 a7 a8 a9 a10 a11 a12 a13 a14 b : Option OT) (s : TEnv) : tget (a0 :: a1 :: a2 :: a3 :: a4 :: a5 :: a6 :: a7 :: a8 :: a9 :: a10 :: a11 :: a12 :: a13 :: a14 :: b :: s) 15 = b := by cases b <;> rfl
theorem tget_16 (a0 a1 a2 a3 a4 a5 a6 a7 a8 a9 a10 a11 a12 a13 a14 a15 b : Option OT) (s : TEnv) : tget (a0 :: a1 :: a2 :: a3 :: a4 :: a5 :: a6 :: a7 :: a8 :: a9 :: a10 :: a11 :: a12 :: a13 :: a14 :: a15 :: b :: s) 16 = b := by cases b <;> rfl
theorem tget_17 (a0 a1 a2 a3 a4 a5 a6 a7 a8 a9 a10 a11 a12 a13 a14 a15 a16 b : Option OT) (s : TEnv) : tget (a0 :: a1 :: a2 :: a3 :: a4 :: a5 :: a6 :: a7 :: a8 :: a9 :: a10 :: a11 :: a12 :: a13 :: a14 :: a15 :: a16 :: b :: s) 17 = b := by cases b <;> rfl
theorem tget_18 (a0 a1 a2 a3 a4 a5 a6 a7 a8 a9 a10 a11 a12 a13 a14 a15 a16 a17 b : Option OT) (s : TEnv) : tget (a0 :: a1 :: a2 :: a3 :: a4 :: a5 :: a6 :: a7 :: a8 :: a9 :: a10 :: a11 :: a12 :: a13 :: a14 :: a15 :: a16 :: a17 :: b :: s) 18 = b := by cases b <;> rfl
theorem tget_19 (a0 a1 a2 a3 a4 a5 a6 a7 a8 a9 a10 a11 a12 a13 a14 a15 a16 a17 a18 b : Option OT) (s : TEnv) : tget (a0 :: a1 :: a2 :: a3 :: a4 :: a5 :: a6 :: a7 :: a8 :: a9 :: a10 :: a11 :: a12 :: a13 :: a14 :: a15 :: a16 :: a17 :: a18 :: b :: s) 19 = b := by cases b <;> rfl
theorem tget_20 (a0 a1 a2 a3 a4 a5 a6 a7 a8 a9 a10 a11 a12 a13 a14 a15 a16 a17 a18 a19 b : Option OT) (s : TEnv) : tget (a0 :: a1 :: a2 :: a3 :: a4 :: a5 :: a6 :: a7 :: a8 :: a9 :: a10 :: a11 :: a12 :: a13 :: a14 :: a15 :: a16 :: a17 :: a18 :: a19 :: b :: s) 20 = b := by cases b <;> rfl
theorem tget_21 (a0 a1 a2 a3 a4 a5 a6 a7 a8 a9 a10 a11 a12 a13 a14 a15 a16 a17 a18 a19 a20 b : Option OT) (s : TEnv) : tget (a0 :: a1 :: a2 :: a3 :: a4 :: a5 :: a6 :: a7 :: a8 :: a9 :: a10 :: a11 :: a12 :: a13 :: a14 :: a15 :: a16 :: a17 :: a18 :: a19 :: a20 :: b :: s) 21 = b := by cases b <;> rfl
theorem tget_22 (a0 a1 a2 a3 a4 a5 a6 a7 a8 a9 a10 a11 a12 a13 a14 a15 a16 a17 a18 a19 a20 a21 b : Option OT) (s : TEnv) : tget (a0 :: a1 :: a2 :: a3 :: a4 :: a5 :: a6 :: a7 :: a8 :: a9 :: a10 :: a11 :: a12 :: a13 :: a14 :: a15 :: a16 :: a17 :: a18 :: a19 :: a20 :: a21 :: b :: s) 22 = b := by cases b <;> rfl
theorem tget_23 (a0 a1 a2 a3 a4 a5 a6 a7 a8 a9 a10 a11 a12 a13 a14 a15 a16 a17 a18 a19 a20 a21 a22 b : Option OT) (s : TEnv) : tget (a0 :: a1 :: a2 :: a3 :: a4 :: a5 :: a6 :: a7 :: a8 :: a9 :: a10 :: a11 :: a12 :: a13 :: a14 :: a15 :: a16 :: a17 :: a18 :: a19 :: a20 :: a21 :: a22 :: b :: s) 23 = b := by cases b <;> rfl
theorem tget_24 (a0 a1 a2 a3 a4 a5 a6 a7 a8 a9 a10 a11 a12 a13 a14 a15 a16 a17 a18 a19 a20 a21 a22 a23 b : Option OT) (s : TEnv) : tget (a0 :: a1 :: a2 :: a3 :: a4 :: a5 :: a6 :: a7 :: a8 :: a9 :: a10 :: a11 :: a12 :: a13 :: a14 :: a15 :: a16 :: a17 :: a18 :: a19 :: a20 :: a21 :: a22 :: a23 :: b :: s) 24 = b := by cases b <;> rfl
theorem tget_25 (a0 a1 a2 a3 a4 a5 a6 a7 a8 a9 a10 a11 a12 a13 a14 a15 a16 a17 a18 a19 a20 a21 a22 a23 a24 b : Option OT) (s : TEnv) : tget (a0 :: a1 :: a2 :: a3 :: a4 :: a5 :: a6 :: a7 :: a8 :: a9 :: a10 :: a11 :: a12 :: a13 :: a14 :: a15 :: a16 :: a17 :: a18 :: a19 :: a20 :: a21 :: a22 :: a23 :: a24 :: b :: s) 25 = b := by cases b <;> rfl
theorem tget_26 (a0 a1 a2 a3 a4 a5 a6 a7 a8 a9 a10 a11 a12 a13 a14 a15 a16 a17 a18 a19 a20 a21 a22 a23 a24 a25 b : Option OT) (s : TEnv) : tget (a0 :: a1 :: a2 :: a3 :: a4 :: a5 :: a6 :: a7 :: a8 :: a9 :: a10 :: a11 :: a12 :: a13 :: a14 :: a15 :: a16 :: a17 :: a18 :: a19 :: a20 :: a21 :: a22 :: a23 :: a24 :: a25 :: b :: s) 26 = b := by cases b <;> rfl
theorem tget_27 (a0 a1 a2 a3 a4 a5 a6 a7 a8 a9 a10 a11 a12 a13 a14 a15 a16 a17 a18 a19 a20 a21 a22 a23 a24 a25 a26 b : Option OT) (s : TEnv) : tget (a0 :: a1 :: a2 :: a3 :: a4 :: a5 :: a6 :: a7 :: a8 :: a9 :: a10 :: a11 :: a12 :: a13 :: a14 :: a15 :: a16 :: a17 :: a18 :: a19 :: a20 :: a21 :: a22 :: a23 :: a24 :: a25 :: a26 :: b :: s) 27 = b := by cases b <;> rfl
theorem tget_28 (a0 a1 a2 a3 a4 a5 a6 a7 a8 a9 a10 a11 a12 a13 a14 a15 a16 a17 a18 a19 a20 a21 a22 a23 a24 a25 a26 a27 b : Option OT) (s : TEnv) : tget (a0 :: a1 :: a2 :: a3 :: a4 :: a5 :: a6 :: a7 :: a8 :: a9 :: a10 :: a11 :: a12 :: a13 :: a14 :: a15 :: a16 :: a17 :: a18 :: a19 :: a20 :: a21 :: a22 :: a23 :: a24 :: a25 :: a26 :: a27 :: b :: s) 28 = b := by cases b <;> rfl
theorem tget_29 (a0 a1 a2 a3 a4 a5 a6 a7 a8 a9 a10 a11 a12 a13 a14 a15 a16 a17 a18 a19 a20 a21 a22 a23 a24 a25 a26 a27 a28 b : Option OT) (s : TEnv) : tget (a0 :: a1 :: a2 :: a3 :: a4 :: a5 :: a6 :: a7 :: a8 :: a9 :: a10 :: a11 :: a12 :: a13 :: a14 :: a15 :: a16 :: a17 :: a18 :: a19 :: a20 :: a21 :: a22 :: a23 :: a24 :: a25 :: a26 :: a27 :: a28 :: b :: s) 29 = b := by cases b <;> rfl
theorem tget_30 (a0 a1 a2 a3 a4 a5 a6 a7 a8 a9 a10 a11 a12 a13 a14 a15 a16 a17 a18 a19 a20 a21 a22 a23 a24 a25 a26 a27 a28 a29 b : Option OT) (s : TEnv) : tget (a0 :: a1 :: a2 :: a3 :: a4 :: a5 :: a6 :: a7 :: a8 :: a9 :: a10 :: a11 :: a12 :: a13 :: a14 :: a15 :: a16 :: a17 :: a18 :: a19 :: a20 :: a21 :: a22 :: a23 :: a24 :: a25 :: a26 :: a27 :: a28 :: a29 :: b :: s) 30 = b := by cases b <;> rfl
theorem tget_31 (a0 a1 a2 a3 a4 a5 a6 a7 a8 a9 a10 a11 a12 a13 a14 a15 a16 a17 a18 a19 a20 a21 a22 a23 a24 a25 a26 a27 a28 a29 a30 b : Option OT) (s : TEnv) : tget (a0 :: a1 :: a2 :: a3 :: a4 :: a5 :: a6 :: a7 :: a8 :: a9 :: a10 :: a11 :: a12 :: a13 :: a14 :: a15 :: a16 :: a17 :: a18 :: a19 :: a20 :: a21 :: a22 :: a23 :: a24 :: a25 :: a26 :: a27 :: a28 :: a29 :: a30 :: b :: s) 31 = b := by cases b <;> rfl
theorem tget_32 (a0 a1 a2 a3 a4 a5 a6 a7 a8 a9 a10 a11 a12 a13 a14 a15 a16 a17 a18 a19 a20 a21 a22 a23 a24 a25 a26 a27 a28 a29 a30 a31 b : Option OT) (s : TEnv) : tget (a0 :: a1 :: a2 :: a3 :: a4 :: a5 :: a6 :: a7 :: a8 :: a9 :: a10 :: a11 :: a12 :: a13 :: a14 :: a15 :: a16 :: a17 :: a18 :: a19 :: a20 :: a21 :: a22 :: a23 :: a24 :: a25 :: a26 :: a27 :: a28 :: a29 :: a30 :: a31 :: b :: s) 32 = b := by cases b <;> rfl
theorem tget_33 (a0 a1 a2 a3 a4 a5 a6 a7 a8 a9 a10 a11 a12 a13 a14 a15 a16 a17 a18 a19 a20 a21 a22 a23 a24 a25 a26 a27 a28 a29 a30 a31 a32 b : Option OT) (s : TEnv) : tget (a0 :: a1 :: a2 :: a3 :: a4 :: a5 :: a6 :: a7 :: a8 :: a9 :: a10 :: a11 :: a12 :: a13 :: a14 :: a15 :: a16 :: a17 :: a18 :: a19 :: a20 :: a21 :: a22 :: a23 :: a24 :: a25 :: a26 :: a27 :: a28 :: a29 :: a30 :: a31 :: a32 :: b :: s) 33 = b := by cases b <;> rfl
theorem tget_34 (a0 a1 a2 a3 a4 a5 a6 a7 a8 a9 a10 a11 a12 a13 a14 a15 a16 a17 a18 a19 a20 a21 a22 a23 a24 a25 a26 a27 a28 a29 a30 a31 a32 a33 b : Option OT) (s : TEnv) : tget (a0 :: a1 :: a2 :: a3 :: a4 :: a5 :: a6 :: a7 :: a8 :: a9 :: a10 :: a11 :: a12 :: a13 :: a14 :: a15 :: a16 :: a17 :: a18 :: a19 :: a20 :: a21 :: a22 :: a23 :: a24 :: a25 :: a26 :: a27 :: a28 :: a29 :: a30 :: a31 :: a32 :: a33 :: b :: s) 34 = b := by cases b <;> rfl
theorem tget_35 (a0 a1 a2 a3 a4 a5 a6 a7 a8 a9 a10 a11 a12 a13 a14 a15 a16 a17 a18 a19 a20 a21 a22 a23 a24 a25 a26 a27 a28 a29 a30 a31 a32 a33 a34 b : Option OT) (s : TEnv) : tget (a0 :: a1 :: a2 :: a3 :: a4 :: a5 :: a6 :: a7 :: a8 :: a9 :: a10 :: a11 :: a12 :: a13 :: a14 :: a15 :: a16 :: a17 :: a18 :: a19 :: a20 :: a21 :: a22 :: a23 :: a24 :: a25 :: a26 :: a27 :: a28 :: a29 :: a30 :: a31 :: a32 :: a33 :: a34 :: b :: s) 35 = b := by cases b <;> rfl
theorem tget_36 (a0 a1 a2 a3 a4 a5 a6 a7 a8 a9 a10 a11 a12 a13 a14 a15 a16 a17 a18 a19 a20 a21 a22 a23 a24 a25 a26 a27 a28 a29 a30 a31 a32 a33 a34 a35 b : Option OT) (s : TEnv) : tget (a0 :: a1 :: a2 :: a3 :: a4 :: a5 :: a6 :: a7 :: a8 :: a9 :: a10 :: a11 :: a12 :: a13 :: a14 :: a15 :: a16 :: a17 :: a18 :: a19 :: a20 :: a21 :: a22 :: a23 :: a24 :: a25 :: a26 :: a27 :: a28 :: a29 :: a30 :: a31 :: a32 :: a33 :: a34 :: a35 :: b :: s) 36 = b := by cases b <;> rfl
theorem tget_37 (a0 a1 a2 a3 a4 a5 a6 a7 a8 a9 a10 a11 a12 a13 a14 a15 a16 a17 a18 a19 a20 a21 a22 a23 a24 a25 a26 a27 a28 a29 a30 a31 a32 a33 a34 a35 a36 b : Option OT) (s : TEnv) : tget (a0 :: a1 :: a2 :: a3 :: a4 :: a5 :: a6 :: a7 :: a8 :: a9 :: a10 :: a11 :: a12 :: a13 :: a14 :: a15 :: a16 :: a17 :: a18 :: a19 :: a20 :: a21 :: a22 :: a23 :: a24 :: a25 :: a26 :: a27 :: a28 :: a29 :: a30 :: a31 :: a32 :: a33 :: a34 :: a35 :: a36 :: b :: s) 37 = b := by cases b <;> rfl
theorem tget_38 (a0 a1 a2 a3 a4 a5 a6 a7 a8 a9 a10 a11 a12 a13 a14 a15 a16 a17 a18 a19 a20 a21 a22 a23 a24 a25 a26 a27 a28 a29 a30 a31 a32 a33 a34 a35 a36 a37 b : Option OT) (s : TEnv) : tget (a0 :: a1 :: a2 :: a3 :: a4 :: a5 :: a6 :: a7 :: a8 :: a9 :: a10 :: a11 :: a12 :: a13 :: a14 :: a15 :: a16 :: a17 :: a18 :: a19 :: a20 :: a21 :: a22 :: a23 :: a24 :: a25 :: a26 :: a27 :: a28 :: a29 :: a30 :: a31 :: a32 :: a33 :: a34 :: a35 :: a36 :: a37 :: b :: s) 38 = b := by cases b <;> rfl
theorem tget_39 (a0 a1 a2 a3 a4 a5 a6 a7 a8 a9 a10 a11 a12 a13 a14 a15 a16 a17 a18 a19 a20 a21 a22 a23 a24 a25 a26 a27 a28 a29 a30 a31 a32 a33 a34 a35 a36 a37 a38 b : Option OT) (s : TEnv) : tget (a0 :: a1 :: a2 :: a3 :: a4 :: a5 :: a6 :: a7 :: a8 :: a9 :: a10 :: a11 :: a12 :: a13 :: a14 :: a15 :: a16 :: a17 :: a18 :: a19 :: a20 :: a21 :: a22 :: a23 :: a24 :: a25 :: a26 :: a27 :: a28 :: a29 :: a30 :: a31 :: a32 :: a33 :: a34 :: a35 :: a36 :: a37 :: a38 :: b :: s) 39 = b := by cases b <;> rfl
theorem tget_40 (a0 a1 a2 a3 a4 a5 a6 a7 a8 a9 a10 a11 a12 a13 a14 a15 a16 a17 a18 a19 a20 a21 a22 a23 a24 a25 a26 a27 a28 a29 a30 a31 a32 a33 a34 a35 a36 a37 a38 a39 b : Option OT) (s : TEnv) : tget (a0 :: a1 :: a2 :: a3 :: a4 :: a5 :: a6 :: a7 :: a8 :: a9 :: a10 :: a11 :: a12 :: a13 :: a14 :: a15 :: a16 :: a17 :: a18 :: a19 :: a20 :: a21 :: a22 :: a23 :: a24 :: a25 :: a26 :: a27 :: a28 :: a29 :: a30 :: a31 :: a32 :: a33 :: a34 :: a35 :: a36 :: a37 :: a38 :: a39 :: b :: s) 40 = b := by cases b <;> rfl
/-! ### values of Lean as trees -/
class Enc (α : Type) [DecidableEq α] where
  enc : α → T
  eqv : ∀ a b, T.eqv (enc a) (enc b) = decide (a = b)
open Enc (enc)
/-- all of one depth at most -/
class Fits (α : Type) [DecidableEq α] [Enc α] where
  dp : Nat
  fit : ∀ a : α, T.fitN dp (enc a) = true
mutual
theorem fitN_mono : ∀ (t : T) (n m : Nat), n ≤ m → T.fitN n t = true → T.fitN m t = true
  | .non, n, m, _, _ => by cases m <;> rfl
  | .bl _, n, m, _, _ => by cases m <;> rfl
  | .int _, n, m, _, _ => by cases m <;> rfl
  | .str _, n, m, _, _ => by cases m <;> rfl
  | .scr _, n, m, _, h => by cases n <;> simp [T.fitN] at h
  | .lst ts, 0, m, _, h => by simp [T.fitN] at h
  | .tup ts, 0, m, _, h => by simp [T.fitN] at h
  | .lst ts, n + 1, 0, l, h => by omega
  | .tup ts, n + 1, 0, l, h => by omega
  | .lst ts, n + 1, m + 1, l, h => by
    rw [T.fitN] at h ⊢
    exact fitNs_mono ts n m (by omega) h
  | .tup ts, n + 1, m + 1, l, h => by
    rw [T.fitN] at h ⊢
    exact fitNs_mono ts n m (by omega) h
theorem fitNs_mono : ∀ (ts : List T) (n m : Nat), n ≤ m → T.fitNs n ts = true → T.fitNs m ts = true
  | [], n, m, _, _ => by cases m <;> rfl
  | t :: ts, n, m, l, h => by
    rw [T.fitNs, Bool.and_eq_true] at h ⊢
    exact ⟨fitN_mono t n m l h.1, fitNs_mono ts n m l h.2⟩
end
theorem Enc.fit60 {α : Type} [DecidableEq α] [Enc α] [E : Fits α] (h : E.dp ≤ 60) (a : α) : (enc a).fit = true := fitN_mono _ _ _ h (Fits.fit a)
theorem fitNs_map {α : Type} (n : Nat) (f : α → T) : ∀ xs : List α, (∀ x ∈ xs, T.fitN n (f x) = true) → T.fitNs n (xs.map f) = true
  | [], _ => by simp [T.fitNs]
  | x :: xs, h => by simp [T.fitNs, h x (by simp), fitNs_map n f xs fun y m => h y (by simp [m])]
theorem eqvs_map {α : Type} [DecidableEq α] (f : α → T) (h : ∀ x y, T.eqv (f x) (f y) = decide (x = y)) : ∀ xs ys : List α, T.eqvs (xs.map f) (ys.map f) = decide (xs = ys)
  | [], [] => by simp [T.eqvs]
  | [], y :: ys => by simp [T.eqvs]
  | x :: xs, [] => by simp [T.eqvs]
  | x :: xs, y :: ys => by
    simp only [List.map_cons, T.eqvs, h, eqvs_map f h xs ys, List.cons.injEq]
    rw [Bool.decide_and]
instance encInt : Enc Int where
  enc := T.int
  eqv a b := by
    simp only [T.eqv]
    by_cases h : a = b <;> simp [h]
instance encBool : Enc Bool where
  enc := T.bl
  eqv a b := by cases a <;> cases b <;> simp [T.eqv]
instance encStr : Enc (List Nat) where
  enc := T.str
  eqv a b := by
    simp only [T.eqv]
    by_cases h : a = b <;> simp [h]
instance encList {α : Type} [DecidableEq α] [E : Enc α] : Enc (List α) where
  enc xs := .lst (xs.map enc)
  eqv a b := by
    rw [T.eqv]
    exact eqvs_map enc E.eqv a b
instance encPair {α β : Type} [DecidableEq α] [DecidableEq β] [E : Enc α] [F : Enc β] : Enc (α × β) where
  enc p := .tup [enc p.1, enc p.2]
  eqv a b := by
    simp only [T.eqv, T.eqvs, E.eqv, F.eqv, Bool.and_true]
    rw [← Bool.decide_and]
    have : (a.1 = b.1 ∧ a.2 = b.2) ↔ a = b := by
      constructor
      · intro h; exact Prod.ext h.1 h.2
      · rintro rfl; exact ⟨rfl, rfl⟩
    simp only [this]
instance fitsInt : Fits Int := ⟨0, fun a => rfl⟩
instance fitsBool : Fits Bool := ⟨0, fun a => rfl⟩
instance fitsStr : Fits (List Nat) := ⟨0, fun a => rfl⟩
instance fitsList {α : Type} [DecidableEq α] [Enc α] [E : Fits α] : Fits (List α) := ⟨E.dp + 1, fun xs => by
  show T.fitN _ (.lst (xs.map enc)) = true
  rw [T.fitN]; exact fitNs_map _ _ _ fun x _ => E.fit x⟩
instance fitsPair {α β : Type} [DecidableEq α] [DecidableEq β] [Enc α] [Enc β] [E : Fits α] [F : Fits β] : Fits (α × β) := ⟨max E.dp F.dp + 1, fun p => by
  show T.fitN _ (.tup [enc p.1, enc p.2]) = true
  rw [T.fitN]
  simp only [T.fitNs, Bool.and_eq_true, and_true]
  exact ⟨fitN_mono _ _ _ (Nat.le_max_left _ _) (E.fit _), fitN_mono _ _ _ (Nat.le_max_right _ _) (F.fit _)⟩⟩
theorem dp_int : Fits.dp Int = 0 := rfl
theorem dp_bool : Fits.dp Bool = 0 := rfl
theorem dp_str : Fits.dp (List Nat) = 0 := rfl
theorem dp_list {α : Type} [DecidableEq α] [Enc α] [Fits α] : Fits.dp (List α) = Fits.dp α + 1 := rfl
theorem dp_pair {α β : Type} [DecidableEq α] [DecidableEq β] [Enc α] [Enc β] [Fits α] [Fits β] : Fits.dp (α × β) = max (Fits.dp α) (Fits.dp β) + 1 := rfl
/-! trees of Lean values, folded; numbers, texts, truths stand bare -/
section
variable {α β γ : Type} [DecidableEq α] [DecidableEq β] [Enc α] [Enc β]
theorem enc_int (i : Int) : enc i = T.int i := rfl
theorem enc_str (s : List Nat) : enc s = T.str s := rfl
theorem enc_bl (b : Bool) : (enc b : T) = .bl b := rfl
theorem lst_map (xs : List α) : T.lst (xs.map enc) = enc xs := rfl
theorem lst_mapf (f : γ → α) (xs : List γ) : T.lst (xs.map fun x => enc (f x)) = enc (xs.map f) := by
  rw [← lst_map, List.map_map]; rfl
theorem lst_map_int (xs : List Int) : T.lst (xs.map T.int) = enc xs := rfl
theorem lst_mapf_int (f : γ → Int) (xs : List γ) : T.lst (xs.map fun x => T.int (f x)) = enc (xs.map f) := lst_mapf f xs
theorem lst_map_str (xs : List (List Nat)) : T.lst (xs.map T.str) = enc xs := rfl
theorem lst_mapf_str (f : γ → List Nat) (xs : List γ) : T.lst (xs.map fun x => T.str (f x)) = enc (xs.map f) := lst_mapf f xs
theorem tup_two (a : α) (b : β) : T.tup [enc a, enc b] = enc (a, b) := rfl
theorem tup_ie (a : Int) (b : β) : T.tup [.int a, enc b] = enc (a, b) := rfl
theorem tup_ei (a : α) (b : Int) : T.tup [enc a, .int b] = enc (a, b) := rfl
theorem tup_ii (a b : Int) : T.tup [.int a, .int b] = enc (a, b) := rfl
theorem tup_se (a : List Nat) (b : β) : T.tup [.str a, enc b] = enc (a, b) := rfl
theorem tup_es (a : α) (b : List Nat) : T.tup [enc a, .str b] = enc (a, b) := rfl
theorem tup_ss (a b : List Nat) : T.tup [.str a, .str b] = enc (a, b) := rfl
theorem tup_is (a : Int) (b : List Nat) : T.tup [.int a, .str b] = enc (a, b) := rfl
theorem tup_si (a : List Nat) (b : Int) : T.tup [.str a, .int b] = enc (a, b) := rfl
theorem lst_e1 (a : α) : T.lst [enc a] = enc [a] := rfl
theorem lst_e2 (a b : α) : T.lst [enc a, enc b] = enc [a, b] := rfl
theorem lst_e3 (a b c : α) : T.lst [enc a, enc b, enc c] = enc [a, b, c] := rfl
theorem lst_e4 (a b c d : α) : T.lst [enc a, enc b, enc c, enc d] = enc [a, b, c, d] := rfl
theorem lst_i1 (a : Int) : T.lst [.int a] = enc [a] := rfl
theorem lst_i2 (a b : Int) : T.lst [.int a, .int b] = enc [a, b] := rfl
theorem lst_i3 (a b c : Int) : T.lst [.int a, .int b, .int c] = enc [a, b, c] := rfl
theorem lst_i4 (a b c d : Int) : T.lst [.int a, .int b, .int c, .int d] = enc [a, b, c, d] := rfl
theorem lst_s1 (a : List Nat) : T.lst [.str a] = enc [a] := rfl
theorem lst_s2 (a b : List Nat) : T.lst [.str a, .str b] = enc [a, b] := rfl
end
/-! ### parts of the state -/
def tvar' (o : Option OT) (i : Nat) (s : TEnv) : TR TW := match o with
  | some (.sh t) => .ok (.ot (.sh t)) s
  | some _ => .ok (.al i) s
  | none => .stuck
theorem tVar_eq (i : Nat) (s : TEnv) : tVar i s = tvar' (tget s i) i s := rfl
theorem tvar_sh (t : T) (i : Nat) (s : TEnv) : tvar' (some (.sh t)) i s = .ok (.ot (.sh t)) s := rfl
theorem tvar_lst (xs : List OT) (i : Nat) (s : TEnv) : tvar' (some (.lst xs)) i s = .ok (.al i) s := rfl
theorem tvar_tup (xs : List OT) (i : Nat) (s : TEnv) : tvar' (some (.tup xs)) i s = .ok (.al i) s := rfl
theorem trees_map_sh {α : Type} (f : α → T) (xs : List α) : OT.trees (xs.map fun x => .sh (f x)) = xs.map f := by
  have := trees_sh (xs.map f)
  simpa [Function.comp_def] using this
theorem trees_map_of {α : Type} (g : α → OT) (f : α → T) (h : ∀ x, (g x).tree = f x) : ∀ xs : List α, OT.trees (xs.map g) = xs.map f
  | [] => rfl
  | x :: xs => by rw [List.map_cons, OT.trees, h, trees_map_of g f h xs]; rfl
/-- a list of one's own of values -/
abbrev oE {α : Type} [DecidableEq α] [Enc α] (xs : List α) : OT := .lst (xs.map fun x => .sh (enc x))
theorem tree_lst (xs : List OT) : OT.tree (.lst xs) = .lst (OT.trees xs) := rfl
theorem tree_tup (xs : List OT) : OT.tree (.tup xs) = .tup (OT.trees xs) := rfl
theorem tree_sh (t : T) : OT.tree (.sh t) = t := rfl
theorem trees_nil : OT.trees [] = [] := rfl
theorem trees_cons (x : OT) (xs : List OT) : OT.trees (x :: xs) = x.tree :: OT.trees xs := rfl
theorem trees_map_oE {α : Type} [DecidableEq α] [Enc α] (xs : List (List α)) : OT.trees (xs.map fun x => oE x) = xs.map enc := by
  refine trees_map_of _ _ (fun x => ?_) xs
  rw [tree_lst, trees_map_sh]; rfl
theorem trees_map_oEi {γ : Type} (f : γ → List Int) (xs : List γ) : OT.trees (xs.map fun l => .lst ((f l).map fun x => .sh (.int x))) = xs.map fun l => enc (f l) := by
  have := trees_map_oE (xs.map f)
  rw [List.map_map, List.map_map] at this
  exact this
theorem trees_map_oEs {γ : Type} (f : γ → List (List Nat)) (xs : List γ) : OT.trees (xs.map fun l => .lst ((f l).map fun x => .sh (.str x))) = xs.map fun l => enc (f l) := by
  have := trees_map_oE (xs.map f)
  rw [List.map_map, List.map_map] at this
  exact this
theorem trees_map_oEf {α γ : Type} [DecidableEq α] [Enc α] (f : γ → List α) (xs : List γ) : OT.trees (xs.map fun l => .lst ((f l).map fun x => .sh (enc x))) = xs.map fun l => enc (f l) := by
  have := trees_map_oE (xs.map f)
  rw [List.map_map, List.map_map] at this
  exact this
theorem map_app {α β : Type} (f : α → β) (xs ys : List α) : xs.map f ++ ys.map f = (xs ++ ys).map f := by simp
theorem map_snoc {α β : Type} (f : α → β) (xs : List α) (y : α) : xs.map f ++ [f y] = (xs ++ [y]).map f := by simp
theorem filter_ff {α : Type} (xs : List α) : xs.filter (fun _ => false) = [] := by simp
theorem filter_tt {α : Type} (xs : List α) : xs.filter (fun _ => true) = xs := by simp
theorem map_sh_map {α : Type} (f : α → T) (xs : List α) : (xs.map f).map OT.sh = xs.map fun x => .sh (f x) := by simp
theorem map_mk {α β : Type} (f : α → β) (mk : β → TItm) (xs : List α) : (xs.map f).map mk = xs.map fun x => mk (f x) := by simp
theorem kids_sh (t : T) : OT.kids (.sh t) = .sh t := rfl
theorem kids_lst (xs : List OT) : OT.kids (.lst xs) = .lst ((OT.trees xs).map .sh) := rfl
theorem kids_tup (xs : List OT) : OT.kids (.tup xs) = .tup ((OT.trees xs).map .sh) := rfl
/-! ### operators -/
/-- is it there -/
def has {α : Type} [DecidableEq α] (xs : List α) (x : α) : Bool := xs.any fun y => decide (y = x)
theorem has_iff {α : Type} [DecidableEq α] {xs : List α} {x : α} : has xs x = true ↔ x ∈ xs := by
  unfold has
  rw [List.any_eq_true]
  constructor
  · rintro ⟨y, m, e⟩
    rw [← of_decide_eq_true e]; exact m
  · intro m
    exact ⟨x, m, by simp⟩
theorem has_not {α : Type} [DecidableEq α] {xs : List α} {x : α} : has xs x = false ↔ x ∉ xs := by
  rw [← has_iff]
  cases has xs x <;> simp
theorem has_dec {α : Type} [DecidableEq α] [BEq α] [LawfulBEq α] {xs : List α} {x : α} : has xs x = decide (x ∈ xs) := by
  rw [Bool.eq_iff_iff, has_iff, decide_eq_true_eq]
section
variable {α : Type}
theorem gEq_enc [DecidableEq α] [Enc α] [E : Fits α] (h : E.dp ≤ 60) (a b : α) : gEq (enc a) (enc b) = some (bT (decide (a = b))) := by
  simp only [gEq, Enc.fit60 h, Enc.eqv, Bool.and_self, if_true]
theorem gNe_enc [DecidableEq α] [Enc α] [E : Fits α] (h : E.dp ≤ 60) (a b : α) : gNe (enc a) (enc b) = some (bT (!decide (a = b))) := by
  simp only [gNe, Enc.fit60 h, Enc.eqv, Bool.and_self, if_true]
theorem fit_nil : (T.lst []).fit = true := by decide +kernel
theorem eqv_nil [DecidableEq α] [Enc α] (xs : List α) : T.eqv (enc xs) (.lst []) = decide (xs = []) := Enc.eqv xs []
theorem gEq_nil [DecidableEq α] [Enc α] [E : Fits α] (h : E.dp + 1 ≤ 60) (xs : List α) : gEq (enc xs) (.lst []) = some (bT (decide (xs = []))) := gEq_enc (α := List α) h xs []
theorem gNe_nil [DecidableEq α] [Enc α] [E : Fits α] (h : E.dp + 1 ≤ 60) (xs : List α) : gNe (enc xs) (.lst []) = some (bT (!decide (xs = []))) := gNe_enc (α := List α) h xs []
theorem any_enc [DecidableEq α] [E : Enc α] (x : α) (xs : List α) : ((xs.map enc).any fun z => T.eqv z (enc x)) = has xs x := by
  induction xs with
  | nil => rfl
  | cons y ys ih =>
    rw [List.map_cons, List.any_cons, ih, Enc.eqv]
    rfl
theorem gIn_enc [DecidableEq α] [Enc α] [E : Fits α] (h : E.dp + 1 ≤ 60) (x : α) (xs : List α) : gIn (enc x) (enc xs) = some (bT (has xs x)) := by
  have f1 : (enc x).fit = true := Enc.fit60 (by omega) x
  have f2 : (T.lst (xs.map enc)).fit = true := Enc.fit60 (α := List α) h xs
  show (inT (enc x) (.lst (xs.map enc))).map bT = _
  simp only [inT, f1, f2, any_enc, Bool.and_self, if_true, Option.map_some]
theorem gNotIn_enc [DecidableEq α] [Enc α] [E : Fits α] (h : E.dp + 1 ≤ 60) (x : α) (xs : List α) : gNotIn (enc x) (enc xs) = some (bT (!has xs x)) := by
  have f1 : (enc x).fit = true := Enc.fit60 (by omega) x
  have f2 : (T.lst (xs.map enc)).fit = true := Enc.fit60 (α := List α) h xs
  show (inT (enc x) (.lst (xs.map enc))).map (fun b => bT (!b)) = _
  simp only [inT, f1, f2, any_enc, Bool.and_self, if_true, Option.map_some]
end
section
variable {α β : Type} [DecidableEq α] [DecidableEq β] [Enc α] [Enc β]
theorem gNe_nn : gNe (.lst []) (.lst []) = some (bT false) := by
  have : T.eqv (.lst []) (.lst []) = true := by decide +kernel
  simp [gNe, fit_nil, this]
theorem gEq_nn : gEq (.lst []) (.lst []) = some (bT true) := by
  have : T.eqv (.lst []) (.lst []) = true := by decide +kernel
  simp [gEq, fit_nil, this]
theorem gEq_int (a b : Int) : gEq (.int a) (.int b) = some (bT (decide (a = b))) := gEq_enc (by decide) a b
theorem gNe_int (a b : Int) : gNe (.int a) (.int b) = some (bT (!decide (a = b))) := gNe_enc (by decide) a b
theorem gEq_str (a b : List Nat) : gEq (.str a) (.str b) = some (bT (decide (a = b))) := gEq_enc (by decide) a b
theorem gNe_str (a b : List Nat) : gNe (.str a) (.str b) = some (bT (!decide (a = b))) := gNe_enc (by decide) a b
theorem gIn_int (x : Int) (xs : List Int) : gIn (.int x) (enc xs) = some (bT (has xs x)) := gIn_enc (by decide) x xs
theorem gNotIn_int (x : Int) (xs : List Int) : gNotIn (.int x) (enc xs) = some (bT (!has xs x)) := gNotIn_enc (by decide) x xs
theorem gIn_str (x : List Nat) (xs : List (List Nat)) : gIn (.str x) (enc xs) = some (bT (has xs x)) := gIn_enc (by decide) x xs
theorem gNotIn_str (x : List Nat) (xs : List (List Nat)) : gNotIn (.str x) (enc xs) = some (bT (!has xs x)) := gNotIn_enc (by decide) x xs
theorem gIn_ch (c : Nat) (s : List Nat) : gIn (.str [c]) (.str s) = some (bT (has s c)) := by
  rw [has_dec]; rfl
theorem gNotIn_ch (c : Nat) (s : List Nat) : gNotIn (.str [c]) (.str s) = some (bT (!has s c)) := by
  rw [has_dec]; rfl
theorem gAdd_int (i j : Int) : gAdd (.int i) (.int j) = some (iT (i + j)) := rfl
theorem gSub_int (i j : Int) : gSub (.int i) (.int j) = some (iT (i - j)) := rfl
theorem gAdd_str {a b : List Nat} (h : a.length + b.length ≤ 16777216) : gAdd (.str a) (.str b) = some (.sh (.str (a ++ b))) := by
  simp only [gAdd]; rw [if_pos h]
theorem gAdd_enc {a b : List α} (h : a.length + b.length ≤ 16777216) : gAdd (enc a) (enc b) = some (oE (a ++ b)) := by
  show gAdd (.lst (a.map enc)) (.lst (b.map enc)) = _
  simp only [gAdd]
  rw [if_pos (by simpa using h), ← List.map_append, flat, map_sh_map]
theorem gAdd_encN {a : List α} (h : a.length ≤ 16777216) : gAdd (enc a) (.lst []) = some (oE a) := by
  have := gAdd_enc (a := a) (b := []) (by simpa using h)
  rwa [List.append_nil] at this
theorem gAdd_Nenc {a : List α} (h : a.length ≤ 16777216) : gAdd (.lst []) (enc a) = some (oE a) := gAdd_enc (a := []) (b := a) (by simpa using h)
theorem gLen_enc (a : List α) : gLen (enc a) = some (iT a.length) := by
  show some (iT ((a.map enc).length : Int)) = _
  rw [List.length_map]
theorem gLen_str (s : List Nat) : gLen (.str s) = some (iT s.length) := rfl
theorem gLen_lst (s : List T) : gLen (.lst s) = some (iT s.length) := rfl
theorem gLen_tup (s : List T) : gLen (.tup s) = some (iT s.length) := rfl
theorem gLen_pair (p : α × β) : gLen (enc p) = some (iT 2) := rfl
theorem gList_enc (a : List α) : gList (enc a) = some (oE a) := by
  show some (flat (a.map enc)) = _
  rw [flat, map_sh_map]
theorem gList_nil : gList (.lst []) = some (.lst []) := rfl
theorem gRev_enc (a : List α) : gRev (enc a) = some (oE a.reverse) := by
  show some (flat (a.map enc).reverse) = _
  rw [← List.map_reverse, flat, map_sh_map]
theorem cut_map {γ δ : Type} (f : γ → δ) (xs : List γ) (lo hi : Option Int) : cut (xs.map f) lo hi = (cut xs lo hi).map f := by
  simp [cut, List.map_take, List.map_drop]
theorem gSlice_enc (a : List α) (lo hi : Option Int) : gSlice (enc a) lo hi = some (oE (cut a lo hi)) := by
  show some (flat (cut (a.map enc) lo hi)) = _
  rw [cut_map, flat, map_sh_map]
theorem gSlice_tup (a : List T) (lo hi : Option Int) : gSlice (.tup a) lo hi = some (.sh (.tup (cut a lo hi))) := rfl
theorem gSlice_str (a : List Nat) (lo hi : Option Int) : gSlice (.str a) lo hi = some (.sh (.str (cut a lo hi))) := rfl
theorem gIx_enc (a : List α) (i : Int) : gIx (enc a) (.int i) = (atI a i).map fun x => .sh (enc x) := by
  show (atI (a.map enc) i).map OT.sh = _
  unfold atI
  rw [List.length_map]
  cases ixN a.length i with
  | none => rfl
  | some j => simp only [Option.bind_some, List.getElem?_map, Option.map_map]; rfl
theorem gIx_str (a : List Nat) (i : Int) : gIx (.str a) (.int i) = (atI a i).map fun c => .sh (.str [c]) := by
  simp only [gIx]
  cases atI a i <;> rfl
theorem ixN_nat {n k : Nat} (h : k < n) : ixN n (k : Int) = some k := by
  unfold ixN
  rw [if_pos (by omega), if_pos (by omega)]
  simp
theorem atI_nat {α : Type} {xs : List α} {k : Nat} {x : α} (h : xs[k]? = some x) : atI xs (k : Int) = some x := by
  unfold atI
  rw [ixN_nat (List.getElem?_eq_some_iff.mp h).1]
  exact h
theorem atI_lt {α : Type} {xs : List α} {k : Nat} (h : k < xs.length) : atI xs (k : Int) = some xs[k] := atI_nat (List.getElem?_eq_getElem h)
theorem atI_in {α : Type} {xs : List α} {i : Int} (h : 0 ≤ i ∧ i < xs.length) : ∃ x, atI xs i = some x ∧ x ∈ xs := by
  obtain ⟨k, rfl⟩ := Int.eq_ofNat_of_zero_le h.1
  have hk : k < xs.length := by omega
  exact ⟨xs[k], atI_lt hk, List.getElem_mem hk⟩
theorem atI_0 {α : Type} (a : α) (r : List α) : atI (a :: r) 0 = some a := atI_nat (k := 0) rfl
theorem atI_1 {α : Type} (a b : α) (r : List α) : atI (a :: b :: r) 1 = some b := atI_nat (k := 1) rfl
theorem atI_2 {α : Type} (a b c : α) (r : List α) : atI (a :: b :: c :: r) 2 = some c := atI_nat (k := 2) rfl
theorem atI_3 {α : Type} (a b c d : α) (r : List α) : atI (a :: b :: c :: d :: r) 3 = some d := atI_nat (k := 3) rfl
theorem ixN_0 {n : Nat} (h : 0 < n) : ixN n 0 = some 0 := ixN_nat (k := 0) h
theorem ixN_1 {n : Nat} (h : 1 < n) : ixN n 1 = some 1 := ixN_nat (k := 1) h
theorem ixN_2 {n : Nat} (h : 2 < n) : ixN n 2 = some 2 := ixN_nat (k := 2) h
theorem gIx_lst (a : List T) (i : Int) : gIx (.lst a) (.int i) = (atI a i).map OT.sh := rfl
theorem gIx_tup (a : List T) (i : Int) : gIx (.tup a) (.int i) = (atI a i).map OT.sh := rfl
theorem gIx_p0 (p : α × β) : gIx (enc p) (.int 0) = some (.sh (enc p.1)) := rfl
theorem gIx_p1 (p : α × β) : gIx (enc p) (.int 1) = some (.sh (enc p.2)) := rfl
theorem parts_pair (p : α × β) : OT.parts (.sh (enc p)) = some [.sh (enc p.1), .sh (enc p.2)] := rfl
theorem parts_enc (a : List α) : OT.parts (.sh (enc a)) = some (a.map fun x => .sh (enc x)) := by
  show some ((a.map enc).map OT.sh) = _
  rw [map_sh_map]
theorem parts_tup (a : List T) : OT.parts (.sh (.tup a)) = some (a.map .sh) := rfl
theorem parts_lst (a : List T) : OT.parts (.sh (.lst a)) = some (a.map .sh) := rfl
theorem parts_olst (a : List OT) : OT.parts (.lst a) = some a := rfl
theorem parts_otup (a : List OT) : OT.parts (.tup a) = some a := rfl
theorem seqT_enc (a : List α) : seqT (enc a) = some (a.map enc) := rfl
theorem seqT_lst (a : List T) : seqT (.lst a) = some a := rfl
theorem seqT_tup (a : List T) : seqT (.tup a) = some a := rfl
theorem seqT_str (s : List Nat) : seqT (.str s) = some (s.map fun c => .str [c]) := rfl
/-- enumerated -/
def enumQ : Option T → Option (List TItm)
  | some (.lst ts) => some (enumT ts)
  | _ => none
theorem tiEnum_eq (a : TE) (s : TEnv) : tiEnum a s = (a s).bind fun w s1 => match enumQ (rd s1 w) with
    | some ms => .ok ms (fzW s1 w)
    | none => .stuck := by
  unfold tiEnum
  cases a s with
  | ok w s1 =>
    simp only [TR.bind_ok]
    cases h : rd s1 w with
    | none => rfl
    | some t => cases t <;> rfl
  | exc c s1 => rfl
  | stuck => rfl
theorem enumT_map {γ : Type} (f : γ → T) (xs : List γ) : enumT (xs.map f) = xs.zipIdx.map fun p => .two (.int (p.2 : Int)) (f p.1) := by
  unfold enumT
  rw [List.length_map]
  apply List.ext_getElem?
  intro i
  simp only [List.getElem?_zipWith, List.getElem?_map, List.getElem?_zipIdx, Nat.zero_add]
  by_cases h : i < xs.length
  · rw [List.getElem?_range h, List.getElem?_eq_getElem h]
    rfl
  · rw [List.getElem?_eq_none (l := List.range xs.length) (by simpa using h), List.getElem?_eq_none (l := xs) (by omega)]
    rfl
theorem enumQ_enc (a : List α) : enumQ (some (enc a)) = some (a.zipIdx.map fun p => .two (.int (p.2 : Int)) (enc p.1)) := by
  show some (enumT (a.map enc)) = _
  rw [enumT_map]
theorem enumQ_nil : enumQ (some (.lst [])) = some [] := rfl
def zipQ : Option T → Option T → Option (List TItm)
  | some (.lst xs), some (.lst ys) => some (xs.zipWith .two ys)
  | _, _ => none
theorem tiZip_eq (a b : TE) (s : TEnv) : tiZip a b s = (a s).bind fun w s1 => (b s1).bind fun v s2 => match zipQ (rd s2 w) (rd s2 v) with
    | some ms => .ok ms (fzW (fzW s2 w) v)
    | none => .stuck := by
  unfold tiZip
  cases a s with
  | ok w s1 =>
    simp only [TR.bind_ok]
    cases b s1 with
    | ok v s2 =>
      simp only [TR.bind_ok]
      cases h : rd s2 w with
      | none => rfl
      | some t => cases h' : rd s2 v with
        | none => cases t <;> rfl
        | some u => cases t <;> cases u <;> rfl
    | exc c s1 => rfl
    | stuck => rfl
  | exc c s1 => rfl
  | stuck => rfl
theorem zipQ_enc (a : List α) (b : List β) : zipQ (some (enc a)) (some (enc b)) = some ((a.zip b).map fun p => .two (enc p.1) (enc p.2)) := by
  show some ((a.map enc).zipWith TItm.two (b.map enc)) = _
  rw [List.zipWith_map, List.zip, List.map_zipWith]
theorem gAll_map {γ : Type} (f : γ → Bool) (xs : List γ) : gAll (.lst (xs.map fun x => .bl (f x))) = some (bT (xs.all f)) := by
  have : ∀ xs : List γ, asBlsT (xs.map fun x => .bl (f x)) = some (xs.map f) := by
    intro xs
    induction xs with
    | nil => rfl
    | cons x xs ih => simp [asBlsT, ih]
  simp [gAll, this]
theorem gSum_enc (xs : List Int) : gSum (enc xs) = some (iT xs.sum) := by
  have : ∀ xs : List Int, asIntsT (xs.map enc) = some xs := by
    intro xs
    induction xs with
    | nil => rfl
    | cons x xs ih => simp [asIntsT, enc_int, ih]
  show (asIntsT (xs.map enc)).map _ = _
  rw [this]; rfl
theorem gSortSet_enc {xs : List Int} (h : xs.length ≤ 4000) (h2 : (sdI xs).length < 64) : gSortSet (enc xs) = some (oE (sdI xs)) := by
  have : ∀ xs : List Int, asIntsT (xs.map enc) = some xs := by
    intro xs
    induction xs with
    | nil => rfl
    | cons x xs ih => simp [asIntsT, enc_int, ih]
  show (match asIntsT (xs.map enc) with
    | some ns => if ns.length ≤ 4000 ∧ (sdI ns).length < 64 then some (flat ((sdI ns).map .int)) else none
    | none => none) = _
  rw [this]
  dsimp only
  rw [if_pos ⟨h, h2⟩, flat, map_sh_map]
  rfl
theorem fit_lst {ts : List T} (h : ∀ t ∈ ts, T.fitN 59 t = true) : (T.lst ts).fit = true := by
  show T.fitN 60 _ = true
  rw [T.fitN]
  have := fitNs_map 59 (fun t : T => t) ts h
  simpa using this
theorem Enc.fit59 {α : Type} [DecidableEq α] [Enc α] [E : Fits α] (h : E.dp ≤ 59) (a : α) : T.fitN 59 (enc a) = true := fitN_mono _ _ _ h (Fits.fit a)
theorem gEq_l2 {γ : Type} [DecidableEq γ] [Enc γ] [E : Fits α] [G : Fits γ] (h : E.dp ≤ 59) (h' : G.dp ≤ 59) (a a' : α) (b b' : γ) : gEq (.lst [enc a, enc b]) (.lst [enc a', enc b']) = some (bT (decide (a = a' ∧ b = b'))) := by
  have f1 : (T.lst [enc a, enc b]).fit = true := fit_lst (by simp [Enc.fit59 h, Enc.fit59 h'])
  have f2 : (T.lst [enc a', enc b']).fit = true := fit_lst (by simp [Enc.fit59 h, Enc.fit59 h'])
  simp only [gEq, f1, f2, T.eqv, T.eqvs, Enc.eqv, Bool.and_true, if_true, Bool.decide_and]
theorem gNe_l2 {γ : Type} [DecidableEq γ] [Enc γ] [E : Fits α] [G : Fits γ] (h : E.dp ≤ 59) (h' : G.dp ≤ 59) (a a' : α) (b b' : γ) : gNe (.lst [enc a, enc b]) (.lst [enc a', enc b']) = some (bT (!decide (a = a' ∧ b = b'))) := by
  have f1 : (T.lst [enc a, enc b]).fit = true := fit_lst (by simp [Enc.fit59 h, Enc.fit59 h'])
  have f2 : (T.lst [enc a', enc b']).fit = true := fit_lst (by simp [Enc.fit59 h, Enc.fit59 h'])
  simp only [gNe, f1, f2, T.eqv, T.eqvs, Enc.eqv, Bool.and_true, if_true, Bool.decide_and]
theorem gEq_l3 {γ : Type} [DecidableEq γ] [Enc γ] [E : Fits α] [F : Fits β] [G : Fits γ] (h : E.dp ≤ 59) (h1 : F.dp ≤ 59) (h' : G.dp ≤ 59) (a a' : α) (c c' : β) (b b' : γ) : gEq (.lst [enc a, enc c, enc b]) (.lst [enc a', enc c', enc b']) = some (bT (decide (a = a' ∧ c = c' ∧ b = b'))) := by
  have f1 : (T.lst [enc a, enc c, enc b]).fit = true := fit_lst (by simp [Enc.fit59 h, Enc.fit59 h', Enc.fit59 h1])
  have f2 : (T.lst [enc a', enc c', enc b']).fit = true := fit_lst (by simp [Enc.fit59 h, Enc.fit59 h', Enc.fit59 h1])
  simp only [gEq, f1, f2, T.eqv, T.eqvs, Enc.eqv, Bool.and_true, if_true, Bool.decide_and]
theorem gNe_l3 {γ : Type} [DecidableEq γ] [Enc γ] [E : Fits α] [F : Fits β] [G : Fits γ] (h : E.dp ≤ 59) (h1 : F.dp ≤ 59) (h' : G.dp ≤ 59) (a a' : α) (c c' : β) (b b' : γ) : gNe (.lst [enc a, enc c, enc b]) (.lst [enc a', enc c', enc b']) = some (bT (!decide (a = a' ∧ c = c' ∧ b = b'))) := by
  have f1 : (T.lst [enc a, enc c, enc b]).fit = true := fit_lst (by simp [Enc.fit59 h, Enc.fit59 h', Enc.fit59 h1])
  have f2 : (T.lst [enc a', enc c', enc b']).fit = true := fit_lst (by simp [Enc.fit59 h, Enc.fit59 h', Enc.fit59 h1])
  simp only [gNe, f1, f2, T.eqv, T.eqvs, Enc.eqv, Bool.and_true, if_true, Bool.decide_and]
theorem gNe_bl (a b : Bool) : gNe (.bl a) (.bl b) = some (bT (!decide (a = b))) := gNe_enc (by decide) a b
theorem gEq_bl (a b : Bool) : gEq (.bl a) (.bl b) = some (bT (decide (a = b))) := gEq_enc (by decide) a b
theorem isTy_int (t : Ty) (i : Int) : isTyT t (.int i) = (t == .tint) := rfl
theorem isTy_str (t : Ty) (i : List Nat) : isTyT t (.str i) = (t == .tstr) := rfl
theorem isTy_bl (t : Ty) (i : Bool) : isTyT t (.bl i) = (t == .tbool || t == .tint) := rfl
theorem isTy_lst (t : Ty) (i : List T) : isTyT t (.lst i) = (t == .tlist) := rfl
theorem isTy_tup (t : Ty) (i : List T) : isTyT t (.tup i) = (t == .ttuple) := rfl
theorem isTy_non (t : Ty) : isTyT t .non = false := rfl
theorem isTy_enc (t : Ty) (i : List α) : isTyT t (enc i) = (t == .tlist) := rfl
theorem isTy_pair (t : Ty) (i : α × β) : isTyT t (enc i) = (t == .ttuple) := rfl
/-! ### truths -/
def andW (w : TW) (k : TR TW) (s : TEnv) : TR TW := match w with
  | .ot (.sh (.bl true)) => k
  | .ot (.sh (.bl false)) => .ok (.ot (bT false)) s
  | _ => .stuck
def orW (w : TW) (k : TR TW) (s : TEnv) : TR TW := match w with
  | .ot (.sh (.bl true)) => .ok (.ot (bT true)) s
  | .ot (.sh (.bl false)) => k
  | _ => .stuck
theorem tAnd_eq (a b : TE) (s : TEnv) : tAnd a b s = (a s).bind fun w s1 => andW w (b s1) s1 := rfl
theorem tOr_eq (a b : TE) (s : TEnv) : tOr a b s = (a s).bind fun w s1 => orW w (b s1) s1 := rfl
theorem andW_t (k : TR TW) (s : TEnv) : andW (.ot (.sh (.bl true))) k s = k := rfl
theorem andW_f (k : TR TW) (s : TEnv) : andW (.ot (.sh (.bl false))) k s = .ok (.ot (.sh (.bl false))) s := rfl
theorem andW_bl (p q : Bool) (s : TEnv) : andW (.ot (.sh (.bl p))) (.ok (.ot (.sh (.bl q))) s) s = .ok (.ot (.sh (.bl (p && q)))) s := by cases p <;> rfl
theorem orW_t (k : TR TW) (s : TEnv) : orW (.ot (.sh (.bl true))) k s = .ok (.ot (.sh (.bl true))) s := rfl
theorem orW_f (k : TR TW) (s : TEnv) : orW (.ot (.sh (.bl false))) k s = k := rfl
theorem orW_bl (p q : Bool) (s : TEnv) : orW (.ot (.sh (.bl p))) (.ok (.ot (.sh (.bl q))) s) s = .ok (.ot (.sh (.bl (p || q)))) s := by cases p <;> rfl
def chW (o : Option OT) (k : TR TW) (s : TEnv) : TR TW := match o with
  | some (.sh (.bl true)) => k
  | some (.sh (.bl false)) => .ok (.ot (bT false)) s
  | _ => .stuck
theorem chW_t (k : TR TW) (s : TEnv) : chW (some (.sh (.bl true))) k s = k := rfl
theorem chW_f (k : TR TW) (s : TEnv) : chW (some (.sh (.bl false))) k s = .ok (.ot (.sh (.bl false))) s := rfl
theorem chW_bl (p q : Bool) (s : TEnv) : chW (some (.sh (.bl p))) (.ok (.ot (.sh (.bl q))) s) s = .ok (.ot (.sh (.bl (p && q)))) s := by cases p <;> rfl
theorem tChain_eq (f g : Op2T) (a b c : TE) (s : TEnv) : tChain f g a b c s = (a s).bind fun w s1 => (b s1).bind fun v s2 => match rd s2 w, rd s2 v with
  | some x, some y => chW (f x y) ((c s2).bind fun u s3 => match rd s3 v, rd s3 u with
      | some y', some z => match g y' z with
        | some o => .ok (.ot o) s3
        | none => .stuck
      | _, _ => .stuck) s2
  | _, _ => .stuck := by
  unfold tChain
  cases a s with
  | ok w s1 =>
    simp only [TR.bind_ok]
    cases b s1 with
    | ok v s2 =>
      simp only [TR.bind_ok]
      cases rd s2 w with
      | none => rfl
      | some x => cases rd s2 v with
        | none => rfl
        | some y =>
          simp only []
          cases f x y with
          | none => rfl
          | some o => cases o with
            | sh t => cases t with
              | bl b => cases b <;> rfl
              | _ => rfl
            | _ => rfl
    | exc c s1 => rfl
    | stuck => rfl
  | exc c s1 => rfl
  | stuck => rfl
/-! ### ranges -/
def rangeI (c : Int) : List Int := (List.range c.toNat).map fun (k : Nat) => (k : Int)
theorem mem_rangeI {c x : Int} : x ∈ rangeI c ↔ 0 ≤ x ∧ x < c := by
  simp only [rangeI, List.mem_map, List.mem_range]
  constructor
  · rintro ⟨k, h, rfl⟩; omega
  · rintro ⟨h1, h2⟩; exact ⟨x.toNat, by omega, by omega⟩
theorem rangeI_len (c : Int) : (rangeI c).length = c.toNat := by simp [rangeI]
theorem rngT_zero (c : Int) : rngT 0 c = (rangeI c).map T.int := by
  simp [rngT, rangeI]
def rangeAB (a b : Int) : List Int := (List.range (b - a).toNat).map fun (k : Nat) => a + (k : Int)
theorem rngT_ab (a b : Int) : rngT a b = (rangeAB a b).map T.int := by
  simp [rngT, rangeAB]
theorem rngOk_of {i : Int} (h : -8388608 ≤ i ∧ i ≤ 8388608) : rngOk i = true := by
  unfold rngOk
  exact decide_eq_true (by omega)
theorem gRng_ab {a b : Int} (h : -8388608 ≤ a ∧ a ≤ 8388608) (h' : -8388608 ≤ b ∧ b ≤ 8388608) : gRng (.int a) (.int b) = some (oE (rangeAB a b)) := by
  simp only [gRng, rngOk_of h, rngOk_of h', Bool.and_self, if_true, rngT_ab, flat, map_sh_map]
  rfl
theorem rangeAB_zero (c : Int) : rangeAB 0 c = rangeI c := by simp [rangeAB, rangeI]
theorem gRng_0 {c : Int} (h : -8388608 ≤ c ∧ c ≤ 8388608) : gRng (.int 0) (.int c) = some (oE (rangeI c)) := by
  rw [gRng_ab (by decide) h, rangeAB_zero]
theorem cut_from {α : Type} (xs : List α) (n : Nat) : cut xs (some (n : Int)) none = xs.drop n := by
  unfold cut clip
  simp only []
  rw [if_neg (by omega)]
  simp only [Int.toNat_natCast]
  by_cases h : n ≤ xs.length
  · rw [Nat.min_eq_left h, List.take_of_length_le (by simp)]
  · rw [Nat.min_eq_right (by omega), List.drop_of_length_le (by omega)]
    simp
    omega
theorem cut_one {α : Type} (xs : List α) : cut xs (some 1) none = xs.drop 1 := cut_from xs 1
theorem cut_to {α : Type} (xs : List α) (n : Nat) : cut xs none (some (n : Int)) = xs.take n := by
  unfold cut clip
  simp only [List.drop_zero]
  rw [if_neg (by omega)]
  simp only [Int.toNat_natCast]
  rw [Nat.sub_zero, List.take_eq_take_iff]
  omega
theorem near_of {i : Int} (h : -(2 ^ 61) < i ∧ i < 2 ^ 61) : near i = true := by
  unfold near
  simp only [decide_eq_true_eq]
  omega
theorem gMul_l {i j : Int} (h : -(2 ^ 61) < i ∧ i < 2 ^ 61) : gMul (.int i) (.int j) = some (iT (i * j)) := by
  simp only [gMul, near_of h, Bool.true_or, if_true]
theorem gMul_r {i j : Int} (h : -(2 ^ 61) < j ∧ j < 2 ^ 61) : gMul (.int i) (.int j) = some (iT (i * j)) := by
  simp only [gMul, near_of h, Bool.or_true, if_true]
theorem gMul_enc {xs : List α} {k : Int} (hk : 0 ≤ k ∧ k < 2 ^ 61) (h : k.toNat * xs.length ≤ 16777216) : gMul (enc xs) (.int k) = some (oE (List.replicate k.toNat xs).flatten) := by
  show gMul (.lst (xs.map enc)) (.int k) = _
  have e : (List.replicate k.toNat (xs.map enc)).flatten = ((List.replicate k.toNat xs).flatten).map enc := by
    rw [List.map_flatten, List.map_replicate]
  simp only [gMul]
  rw [if_pos ⟨near_of ⟨by omega, hk.2⟩, by rw [e, List.length_map, List.length_flatten, List.map_replicate, List.sum_replicate_nat]; exact h⟩, e, flat, map_sh_map]
theorem lowBits_of {j : Int} (h : 0 < j ∧ j < 2 ^ 250) : lowBits j = true := by
  unfold lowBits
  simp only [decide_eq_true_eq]
  have h2 : j.natAbs < 2 ^ 250 := by omega
  have h3 : j.natAbs ≠ 0 := by omega
  have := (Nat.log2_lt h3).mpr h2
  omega
theorem gDiv_int {i j : Int} (h : 0 < j ∧ j < 2 ^ 250) : gDiv (.int i) (.int j) = some (iT (i / j)) := by
  simp only [gDiv, h.1, lowBits_of h, decide_true, Bool.and_self, if_true]
theorem gMod_int {i j : Int} (h : 0 < j) : gMod (.int i) (.int j) = some (iT (i % j)) := by
  simp only [gMod, h, if_true]
end
/-! ### comprehensions -/
/-- a comprehension of which nothing stays but what is told -/
theorem tlcGo_pure {α : Type} {g : TGI} {c e : TE} {vs : List Nat} {s0 : TEnv} (mk : α → TItm) (cf : α → Bool) (ef : α → OT) :
    ∀ (ms : List α) (acc : List OT) (s : TEnv), (∀ m ∈ ms, ∃ s1 s2, g (mk m) s0 = some s1 ∧ c s1 = .ok (.ot (.sh (.bl (cf m)))) s2 ∧ (cf m = false → twipe s2 vs = s0) ∧
      (cf m = true → ∃ w s3 s4, e s2 = .ok w s3 ∧ eat true s3 w = some (ef m, s4) ∧ twipe s4 vs = s0)) →
      twipe s vs = s0 → tlcGo g c e vs (ms.map mk) acc s = .ok (acc ++ (ms.filter cf).map ef) s0
  | [], acc, s, H, e0 => by simp [tlcGo, e0]
  | m :: ms, acc, s, H, e0 => by
    obtain ⟨s1, s2, h1, h2, h3, h4⟩ := H m (by simp)
    have Hr := fun m' (q : m' ∈ ms) => H m' (by simp [q])
    cases hc : cf m with
    | true =>
      obtain ⟨w, s3, s4, h5, h6, h7⟩ := h4 hc
      rw [hc] at h2
      rw [List.map_cons, tlcGo, e0, h1]
      dsimp only
      rw [h2]
      dsimp only
      rw [h5]
      dsimp only
      rw [h6]
      dsimp only
      rw [tlcGo_pure mk cf ef ms _ s4 Hr h7]
      simp [hc]
    | false =>
      rw [hc] at h2
      rw [List.map_cons, tlcGo, e0, h1]
      dsimp only
      rw [h2]
      dsimp only
      rw [tlcGo_pure mk cf ef ms _ s2 Hr (h3 hc)]
      simp [hc]
theorem tlcGo_map {α : Type} {g : TGI} {e : TE} {vs : List Nat} {s0 : TEnv} {mk : α → TItm} (ef : α → OT) {ms : List α} {acc : List OT} {s : TEnv}
    (H : ∀ m ∈ ms, ∃ s1 w s3 s4, g (mk m) s0 = some s1 ∧ e s1 = .ok w s3 ∧ eat true s3 w = some (ef m, s4) ∧ twipe s4 vs = s0)
    (h0 : twipe s vs = s0) : tlcGo g (tC (.bl true)) e vs (ms.map mk) acc s = .ok (acc ++ ms.map ef) s0 := by
  have := tlcGo_pure (g := g) (c := tC (.bl true)) (e := e) (vs := vs) (s0 := s0) mk (fun _ => true) ef ms acc s (fun m q => by
    obtain ⟨s1, w, s3, s4, h1, h2, h3, h4⟩ := H m q
    exact ⟨s1, s1, h1, rfl, fun h => (nomatch h), fun _ => ⟨w, s3, s4, h2, h3, h4⟩⟩) h0
  rw [this, List.filter_eq_self.mpr (fun _ _ => rfl)]
theorem tlcGo_filter {α : Type} {g : TGI} {c e : TE} {vs : List Nat} {s0 : TEnv} {mk : α → TItm} (cf : α → Bool) (ef : α → OT) {ms : List α} {acc : List OT} {s : TEnv}
    (H : ∀ m ∈ ms, ∃ s1, g (mk m) s0 = some s1 ∧ twipe s1 vs = s0 ∧ c s1 = .ok (.ot (.sh (.bl (cf m)))) s1 ∧ (cf m = true → e s1 = .ok (.ot (ef m)) s1))
    (h0 : twipe s vs = s0) : tlcGo g c e vs (ms.map mk) acc s = .ok (acc ++ (ms.filter cf).map ef) s0 :=
  tlcGo_pure mk cf ef ms acc s (fun m q => by
    obtain ⟨s1, h1, h2, h3, h4⟩ := H m q
    exact ⟨s1, s1, h1, h3, fun _ => h2, fun t => ⟨_, s1, s1, h4 t, rfl, h2⟩⟩) h0
def All2 {α β : Type} (R : α → β → Prop) : List α → List β → Prop
  | [], [] => True
  | x :: xs, y :: ys => R x y ∧ All2 R xs ys
  | _, _ => False
/-- of which a state goes on (a purse) -/
theorem tlcGo_inv {α : Type} {g : TGI} {e : TE} {vs : List Nat} {mk : α → TItm} (I : Nat → TEnv → Prop) (R : α → OT → Prop) :
    ∀ (ms : List α) (acc : List OT) (n : Nat) (s : TEnv), I n (twipe s vs) → (∀ m ∈ ms, ∀ k s, n ≤ k → k < n + ms.length → I k s → ∃ s1 w s3 o s4, g (mk m) s = some s1 ∧ e s1 = .ok w s3 ∧ eat true s3 w = some (o, s4) ∧ R m o ∧ I (k + 1) (twipe s4 vs)) →
      ∃ os s', tlcGo g (tC (.bl true)) e vs (ms.map mk) acc s = .ok (acc ++ os) s' ∧ I (n + ms.length) s' ∧ All2 R ms os
  | [], acc, n, s, h, H => ⟨[], _, by simp [tlcGo], h, trivial⟩
  | m :: ms, acc, n, s, h, H => by
    obtain ⟨s1, w, s3, o, s4, h1, h2, h3, h4, h5⟩ := H m (by simp) n _ (Nat.le_refl _) (by simp) h
    obtain ⟨os, s', h6, h7, h8⟩ := tlcGo_inv I R ms (acc ++ [o]) (n + 1) s4 h5 fun m' q k s a c => H m' (by simp [q]) k s (by omega) (by simp only [List.length_cons]; omega)
    refine ⟨o :: os, s', ?_, by simpa [Nat.add_comm, Nat.add_left_comm, Nat.add_assoc] using h7, ⟨h4, h8⟩⟩
    rw [List.map_cons, tlcGo, h1]
    dsimp only [tC]
    rw [h2]
    dsimp only
    rw [h3]
    dsimp only
    rw [h6, List.append_assoc]
    rfl
/-- of which a state goes on, with a condition -/
theorem tlcGo_invc {α : Type} {g : TGI} {c e : TE} {vs : List Nat} {mk : α → TItm} (I : Nat → TEnv → Prop) (ef : α → OT) :
    ∀ (ms : List α) (acc : List OT) (n : Nat) (s : TEnv), I n (twipe s vs) → (∀ m ∈ ms, ∀ k s, n ≤ k → k < n + ms.length → I k s → ∃ s1 b s2, g (mk m) s = some s1 ∧ c s1 = .ok (.ot (.sh (.bl b))) s2 ∧ (b = false → I (k + 1) (twipe s2 vs)) ∧
      (b = true → ∃ w s3 s4, e s2 = .ok w s3 ∧ eat true s3 w = some (ef m, s4) ∧ I (k + 1) (twipe s4 vs))) →
      ∃ xs s', tlcGo g c e vs (ms.map mk) acc s = .ok (acc ++ xs.map ef) s' ∧ I (n + ms.length) s' ∧ List.Sublist xs ms
  | [], acc, n, s, h, H => ⟨[], _, by simp [tlcGo], h, .slnil⟩
  | m :: ms, acc, n, s, h, H => by
    obtain ⟨s1, b, s2, h1, h2, h3, h4⟩ := H m (by simp) n _ (Nat.le_refl _) (by simp) h
    have Hr := fun m' (q : m' ∈ ms) k s (a : n + 1 ≤ k) (c : k < n + 1 + ms.length) => H m' (by simp [q]) k s (by omega) (by simp only [List.length_cons]; omega)
    cases b with
    | false =>
      obtain ⟨xs, s', h6, h7, h8⟩ := tlcGo_invc I ef ms acc (n + 1) s2 (h3 rfl) Hr
      refine ⟨xs, s', ?_, by simpa [Nat.add_comm, Nat.add_left_comm, Nat.add_assoc] using h7, h8.cons _⟩
      rw [List.map_cons, tlcGo, h1]
      dsimp only
      rw [h2]
      exact h6
    | true =>
      obtain ⟨w, s3, s4, h5, h6, h7⟩ := h4 rfl
      obtain ⟨xs, s', h8, h9, h10⟩ := tlcGo_invc I ef ms (acc ++ [ef m]) (n + 1) s4 h7 Hr
      refine ⟨m :: xs, s', ?_, by simpa [Nat.add_comm, Nat.add_left_comm, Nat.add_assoc] using h9, h10.cons₂ _⟩
      rw [List.map_cons, tlcGo, h1]
      dsimp only
      rw [h2]
      dsimp only
      rw [h5]
      dsimp only
      rw [h6]
      dsimp only
      rw [h8, List.append_assoc]
      rfl
/-! ### loops -/
/-- a loop is a fold -/
theorem tloop_fold {α σ : Type} {g : TGI} {b : TS} {mk : α → TItm} (st : σ → TEnv) (step : σ → α → σ) (Q : σ → Prop) :
    ∀ (xs : List α) (v : σ), Q v → (∀ v, Q v → ∀ x ∈ xs, ∃ s1, g (mk x) (st v) = some s1 ∧ b s1 = .nx (st (step v x)) ∧ Q (step v x)) → tloop g b (xs.map mk) (st v) = .nx (st (xs.foldl step v))
  | [], v, q, H => rfl
  | x :: xs, v, q, H => by
    obtain ⟨s1, h1, h2, h3⟩ := H v q x (by simp)
    rw [List.map_cons, tloop, h1]
    dsimp only
    rw [h2, tturn_nx, tloop_fold st step Q xs _ h3 (fun v q x m => H v q x (by simp [m]))]
    rfl
/-- a loop that appends -/
theorem tloop_app {α β : Type} {g : TGI} {b : TS} {mk : α → TItm} (st : List β → TEnv) (f : α → β) (N : Nat) :
    ∀ (xs : List α) (v : List β), (∀ x ∈ xs, ∀ v : List β, v.length < N → ∃ s1, g (mk x) (st v) = some s1 ∧ b s1 = .nx (st (v ++ [f x]))) → v.length + xs.length ≤ N → tloop g b (xs.map mk) (st v) = .nx (st (v ++ xs.map f))
  | [], v, H, l => by simp [tloop]
  | x :: xs, v, H, l => by
    simp only [List.length_cons] at l
    obtain ⟨s1, h1, h2⟩ := H x (by simp) v (by omega)
    rw [List.map_cons, tloop, h1]
    dsimp only
    rw [h2, tturn_nx, tloop_app st f N xs _ (fun x m => H x (by simp [m])) (by simp; omega)]
    simp
/-- a loop that changes nothing, or ends the def -/
theorem tloop_all {α : Type} {g : TGI} {b : TS} {mk : α → TItm} {s0 : TEnv} (p : α → Bool) (r : OT) (R : TEnv → Prop) :
    ∀ (xs : List α), (∀ x ∈ xs, ∃ s1, g (mk x) s0 = some s1 ∧ (p x = true → b s1 = .nx s0) ∧ (p x = false → ∃ s2, b s1 = .rt r s2 ∧ R s2)) →
      (xs.all p = true ∧ tloop g b (xs.map mk) s0 = .nx s0) ∨ (xs.all p = false ∧ ∃ s2, tloop g b (xs.map mk) s0 = .rt r s2 ∧ R s2)
  | [], H => .inl ⟨rfl, rfl⟩
  | x :: xs, H => by
    obtain ⟨s1, h1, h2, h3⟩ := H x (by simp)
    rw [List.map_cons, tloop, h1]
    dsimp only
    cases hp : p x with
    | true =>
      rw [h2 hp, tturn_nx, List.all_cons, hp, Bool.true_and]
      exact tloop_all p r R xs fun x m => H x (by simp [m])
    | false =>
      obtain ⟨s2, h4, h5⟩ := h3 hp
      refine .inr ⟨by simp [hp], s2, ?_, h5⟩
      rw [h4]; rfl
/-- a loop keeps what each turn keeps -/
theorem tloop_inv {α : Type} {g : TGI} {b : TS} {mk : α → TItm} (I : Nat → TEnv → Prop) : ∀ (ms : List α) (n : Nat) (s : TEnv), I n s → (∀ m ∈ ms, ∀ k s, n ≤ k → k < n + ms.length → I k s → ∃ s1 s2, g (mk m) s = some s1 ∧ b s1 = .nx s2 ∧ I (k + 1) s2) → ∃ s', tloop g b (ms.map mk) s = .nx s' ∧ I (n + ms.length) s'
  | [], n, s, h, _ => ⟨s, rfl, h⟩
  | m :: ms, n, s, h, H => by
    obtain ⟨s1, s2, h1, h2, h3⟩ := H m (by simp) n s (Nat.le_refl _) (by simp) h
    obtain ⟨s', h4, h5⟩ := tloop_inv I ms (n + 1) s2 h3 fun m' q k s a c => H m' (by simp [q]) k s (by omega) (by simp only [List.length_cons]; omega)
    refine ⟨s', ?_, by simpa [Nat.add_comm, Nat.add_left_comm, Nat.add_assoc] using h5⟩
    rw [List.map_cons, tloop, h1]
    dsimp only
    rw [h2]
    exact h4
/-- the state is as it was behind each turn -/
theorem tloop_same {α : Type} {g : TGI} {b : TS} {mk : α → TItm} {s : TEnv} (xs : List α) (H : ∀ m ∈ xs, ∃ s1, g (mk m) s = some s1 ∧ b s1 = .nx s) : tloop g b (xs.map mk) s = .nx s := by
  have := tloop_fold (g := g) (b := b) (mk := mk) (fun _ : Unit => s) (fun v _ => v) (fun _ => True) xs () trivial fun v _ x m => by
    obtain ⟨s1, h1, h2⟩ := H x m
    exact ⟨s1, h1, h2, trivial⟩
  exact this
/-- a loop while: n turns -/
theorem twloop_inv {c : TE} {b : TS} (I : Nat → TEnv → Prop) (H : ∀ n s, I (n + 1) s → ∃ s1 s2, c s = .ok (.ot (.sh (.bl true))) s1 ∧ b s1 = .nx s2 ∧ I n s2) (H0 : ∀ s, I 0 s → ∃ s1, c s = .ok (.ot (.sh (.bl false))) s1 ∧ I 0 s1) :
    ∀ (n f : Nat) (s : TEnv), I n s → n < f → ∃ s', twloop c b f s = .nx s' ∧ I 0 s'
  | n, 0, s, h, l => by omega
  | 0, f + 1, s, h, l => by
    obtain ⟨s1, h1, h2⟩ := H0 s h
    exact ⟨s1, by rw [twloop, h1]; rfl, h2⟩
  | n + 1, f + 1, s, h, l => by
    obtain ⟨s1, s2, h1, h2, h3⟩ := H n s h
    obtain ⟨s', h4, h5⟩ := twloop_inv I H H0 n f s2 h3 (by omega)
    refine ⟨s', ?_, h5⟩
    rw [twloop, h1]
    simp only [TR.into_ok]
    rw [h2]
    exact h4
theorem tsWhile_inv {c : TE} {b : TS} (I : Nat → TEnv → Prop) (H : ∀ n s, I (n + 1) s → ∃ s1 s2, c s = .ok (.ot (.sh (.bl true))) s1 ∧ b s1 = .nx s2 ∧ I n s2) (H0 : ∀ s, I 0 s → ∃ s1, c s = .ok (.ot (.sh (.bl false))) s1 ∧ I 0 s1)
    (n : Nat) (s : TEnv) (h : I n s) (l : n < 1000000) : ∃ s', tsWhile c b s = .nx s' ∧ I 0 s' := by
  unfold tsWhile
  generalize hf : fuel = f
  exact twloop_inv I H H0 n f s h (by rw [← hf]; exact l)
/-- lent items -/
theorem bloop_map {α : Type} {pre : Nat → TEnv → TEnv} {x : Nat} {b : TS} {fin : List OT → TEnv → TSR} (f : α → OT) (g : Nat → α → OT) (s : Nat → TEnv) (xs : List α)
    (H : ∀ n (a : α), a ∈ xs → b ((pre n (s n)).set x (some (f a))) = .nx ((s (n + 1)).set x (some (g n a))) ∧ tget ((s (n + 1)).set x (some (g n a))) x = some (g n a) ∧ ((s (n + 1)).set x (some (g n a))).set x none = s (n + 1)) :
    ∀ (n : Nat) (acc : List OT), bloop pre x b n (xs.map f) acc (s n) fin = fin (acc ++ (xs.zipIdx n).map fun p => g p.2 p.1) (s (n + xs.length)) := by
  induction xs with
  | nil => intro n acc; simp [bloop]
  | cons a xs ih =>
    intro n acc
    obtain ⟨h1, h2, h3⟩ := H n a (by simp)
    rw [List.map_cons, bloop, h1]
    dsimp only
    rw [h2]
    dsimp only
    rw [h3, ih (fun n a m => H n a (by simp [m]))]
    simp [Nat.add_comm, Nat.add_left_comm, Nat.add_assoc]
theorem bloop_at {α : Type} {pre : Nat → TEnv → TEnv} {x : Nat} {b : TS} {fin : List OT → TEnv → TSR} {f : α → OT} (g : Nat → α → OT) {s : TEnv} {xs0 : List α}
    (H : ∀ n (a : α), xs0[n]? = some a → ∃ s2, b ((pre n s).set x (some (f a))) = .nx s2 ∧ tget s2 x = some (g n a) ∧ s2.set x none = s) :
    bloop pre x b 0 (xs0.map f) [] s fin = fin (xs0.zipIdx.map fun p => g p.2 p.1) s := by
  have go : ∀ (xs : List α) (n : Nat) (acc : List OT), (∀ i a, xs[i]? = some a → xs0[n + i]? = some a) → bloop pre x b n (xs.map f) acc s fin = fin (acc ++ (xs.zipIdx n).map fun p => g p.2 p.1) s := fun xs => by
    induction xs with
    | nil => intro n acc _; simp [bloop]
    | cons a xs ih =>
      intro n acc h
      obtain ⟨s2, h1, h2, h3⟩ := H n a (h 0 a rfl)
      rw [List.map_cons, bloop, h1]
      dsimp only
      rw [h2]
      dsimp only
      rw [h3, ih (n + 1) _ fun i b e => by
        have := h (i + 1) b e
        rw [← this]
        congr 1
        omega]
      simp [List.zipIdx_cons]
  have := go xs0 0 [] fun i a e => by rw [Nat.zero_add]; exact e
  simpa using this
/-- a comprehension over lent items -/
theorem bcomp_pure {α : Type} {kk : Option Nat} {x : Nat} {c e : TE} {vs : List Nat} {s0 : TEnv} (f : α → OT) (cf : Nat → α → Bool) (ef : Nat → α → OT) {xs : List α}
    (H : ∀ n (a : α), a ∈ xs → ∃ s1, c ((bpre kk n s0).set x (some (f a))) = .ok (.ot (.sh (.bl (cf n a)))) s1 ∧ (cf n a = false → tget s1 x = some (f a) ∧ twipe (s1.set x none) vs = s0) ∧
      (cf n a = true → ∃ w s2 s3, e s1 = .ok w s2 ∧ eat false s2 w = some (ef n a, s3) ∧ tget s3 x = some (f a) ∧ twipe (s3.set x none) vs = s0)) :
    ∀ (n : Nat) (ys os : List OT) (s : TEnv), twipe s vs = s0 → bcomp kk x c e vs n (xs.map f) ys os s = .ok (ys ++ xs.map f, os ++ ((xs.zipIdx n).filter fun p => cf p.2 p.1).map fun p => ef p.2 p.1) s0 := by
  induction xs with
  | nil => intro n ys os s e0; simp [bcomp, e0]
  | cons a xs ih =>
    intro n ys os s e0
    obtain ⟨s1, h1, h2, h3⟩ := H n a (by simp)
    have ih' := ih fun n b m => H n b (by simp [m])
    rw [List.map_cons, bcomp, e0, h1]
    cases q : cf n a with
    | false =>
      obtain ⟨h4, h5⟩ := h2 q
      dsimp only
      rw [h4]
      dsimp only
      rw [ih' (n + 1) _ _ _ h5]
      simp [List.zipIdx_cons, q]
    | true =>
      obtain ⟨w, s2, s3, h4, h5, h6, h7⟩ := h3 q
      dsimp only
      rw [h4]
      dsimp only
      rw [h5]
      dsimp only
      rw [h6]
      dsimp only
      rw [ih' (n + 1) _ _ _ h7]
      simp [List.zipIdx_cons, q]
theorem zip_fst {α β : Type} (g : α → β) : ∀ (xs : List α) (n : Nat), (xs.zipIdx n).map (fun p => g p.1) = xs.map g
  | [], _ => rfl
  | x :: xs, n => by simp [List.zipIdx_cons, zip_fst g xs (n + 1)]
theorem zip_flt {α β : Type} (c : α → Bool) (g : α → β) : ∀ (xs : List α) (n : Nat), ((xs.zipIdx n).filter fun p => c p.1).map (fun p => g p.1) = (xs.filter c).map g
  | [], _ => rfl
  | x :: xs, n => by
    simp only [List.zipIdx_cons, List.filter_cons]
    cases c x <;> simp [zip_flt c g xs (n + 1)]
theorem bcomp_map {α : Type} {x : Nat} {e : TE} {vs : List Nat} {s0 : TEnv} {f : α → OT} (ef : α → OT) {xs : List α}
    (H : ∀ a, a ∈ xs → ∃ w s2 s3, e (s0.set x (some (f a))) = .ok w s2 ∧ eat false s2 w = some (ef a, s3) ∧ tget s3 x = some (f a) ∧ twipe (s3.set x none) vs = s0)
    {n : Nat} {ys os : List OT} {s : TEnv} (h0 : twipe s vs = s0) : bcomp none x (tC (.bl true)) e vs n (xs.map f) ys os s = .ok (ys ++ xs.map f, os ++ xs.map ef) s0 := by
  rw [bcomp_pure (kk := none) (x := x) (c := tC (.bl true)) (e := e) (vs := vs) (s0 := s0) f (fun _ _ => true) (fun _ a => ef a) (fun n a m => ⟨_, rfl, (fun q => nomatch q), fun _ => H a m⟩) n ys os s h0]
  rw [List.filter_eq_self.mpr (fun _ _ => rfl), zip_fst]
theorem bcomp_flt {α : Type} {x : Nat} {c e : TE} {vs : List Nat} {s0 : TEnv} {f : α → OT} (cf : α → Bool) (ef : α → OT) {xs : List α}
    (H : ∀ a, a ∈ xs → ∃ s1, c (s0.set x (some (f a))) = .ok (.ot (.sh (.bl (cf a)))) s1 ∧ (cf a = false → tget s1 x = some (f a) ∧ twipe (s1.set x none) vs = s0) ∧
      (cf a = true → ∃ w s2 s3, e s1 = .ok w s2 ∧ eat false s2 w = some (ef a, s3) ∧ tget s3 x = some (f a) ∧ twipe (s3.set x none) vs = s0))
    {n : Nat} {ys os : List OT} {s : TEnv} (h0 : twipe s vs = s0) : bcomp none x c e vs n (xs.map f) ys os s = .ok (ys ++ xs.map f, os ++ (xs.filter cf).map ef) s0 := by
  rw [bcomp_pure f (fun _ a => cf a) (fun _ a => ef a) (fun n a m => H a m) n ys os s h0, zip_flt]
theorem bloop_same {α : Type} {pre : Nat → TEnv → TEnv} {x : Nat} {b : TS} {fin : List OT → TEnv → TSR} {f : α → OT} (g : Nat → α → OT) {s : TEnv} {xs : List α}
    (H : ∀ n (a : α), a ∈ xs → ∃ s2, b ((pre n s).set x (some (f a))) = .nx s2 ∧ tget s2 x = some (g n a) ∧ s2.set x none = s) :
    ∀ (n : Nat) (acc : List OT), bloop pre x b n (xs.map f) acc s fin = fin (acc ++ (xs.zipIdx n).map fun p => g p.2 p.1) s := by
  induction xs with
  | nil => intro n acc; simp [bloop]
  | cons a xs ih =>
    intro n acc
    obtain ⟨s2, h1, h2, h3⟩ := H n a (by simp)
    rw [List.map_cons, bloop, h1]
    dsimp only
    rw [h2]
    dsimp only
    rw [h3, ih (fun n a m => H n a (by simp [m]))]
    simp
/-! what is fit, said ahead -/
theorem gEq_fit {α : Type} [DecidableEq α] [Enc α] {a b : α} (h : (enc a).fit = true) (h' : (enc b).fit = true) : gEq (enc a) (enc b) = some (bT (decide (a = b))) := by
  simp only [gEq, h, h', Enc.eqv, Bool.and_self, if_true]
theorem gNe_fit {α : Type} [DecidableEq α] [Enc α] {a b : α} (h : (enc a).fit = true) (h' : (enc b).fit = true) : gNe (enc a) (enc b) = some (bT (!decide (a = b))) := by
  simp only [gNe, h, h', Enc.eqv, Bool.and_self, if_true]
theorem gIn_fit {α : Type} [DecidableEq α] [Enc α] {a : α} {xs : List α} (h : (enc a).fit = true) (h' : (enc xs).fit = true) : gIn (enc a) (enc xs) = some (bT (has xs a)) := by
  show (inT (enc a) (.lst (xs.map enc))).map bT = _
  have f2 : (T.lst (xs.map enc)).fit = true := h'
  simp only [inT, h, f2, any_enc, Bool.and_self, if_true, Option.map_some]
theorem gNotIn_fit {α : Type} [DecidableEq α] [Enc α] {a : α} {xs : List α} (h : (enc a).fit = true) (h' : (enc xs).fit = true) : gNotIn (enc a) (enc xs) = some (bT (!has xs a)) := by
  show (inT (enc a) (.lst (xs.map enc))).map (fun b => bT (!b)) = _
  have f2 : (T.lst (xs.map enc)).fit = true := h'
  simp only [inT, h, f2, any_enc, Bool.and_self, if_true, Option.map_some]
theorem fits_lst {α : Type} [DecidableEq α] [Enc α] {n : Nat} (hn : n ≤ 59) {xs : List α} (h : ∀ x ∈ xs, T.fitN n (enc x) = true) : (enc xs).fit = true := by
  show T.fitN 60 (.lst (xs.map enc)) = true
  rw [T.fitN]
  exact fitNs_map _ _ _ fun x m => fitN_mono _ _ _ hn (h x m)
/-! ### sets of texts, sorted -/
theorem asStrsT_map : ∀ xs : List (List Nat), asStrsT (xs.map T.str) = some xs
  | [] => rfl
  | x :: xs => by simp [asStrsT, asStrsT_map xs]
theorem asIntsT_strs : ∀ (x : List Nat) (xs : List (List Nat)), asIntsT ((x :: xs).map T.str) = none := fun _ _ => rfl
theorem gSortSetB_int {xs : List Int} (h : xs.length ≤ 4000 ∧ (sdI xs).length < 64) : gSortSetB (enc xs) = some (oE (sdI xs)) := by
  show gSortSetB (.lst (xs.map T.int)) = _
  have e : asIntsT (xs.map T.int) = some xs := by
    clear h
    induction xs with
    | nil => rfl
    | cons x xs ih => simp [asIntsT, ih]
  simp only [gSortSetB, e]
  rw [if_pos h, flat, map_sh_map]
  rfl
theorem gSortSetB_str {xs : List (List Nat)} (h : xs.length ≤ 4000) : gSortSetB (enc xs) = some (oE (sdS xs)) := by
  show gSortSetB (.lst (xs.map T.str)) = _
  cases xs with
  | nil => rfl
  | cons x xs =>
    simp only [gSortSetB, asIntsT_strs, asStrsT_map]
    rw [if_pos h, flat, map_sh_map]
    rfl
theorem gJoin_str {a : List Nat} {ys : List (List Nat)} (h : (ys.map List.length).sum + ys.length * a.length ≤ 16777216) : gJoin (.str a) (enc ys) = some (.sh (.str (joinB a ys))) := by
  show gJoin (.str a) (.lst (ys.map T.str)) = _
  simp only [gJoin, asStrsT_map]
  rw [if_pos h]
theorem gListB_str (s : List Nat) : gListB (.str s) = some (oE (s.map fun c => [c])) := by
  simp only [gListB, flat, oE, List.map_map, Function.comp_def]
  rfl
theorem gListB_enc {α : Type} [DecidableEq α] [Enc α] (xs : List α) : gListB (enc xs) = some (oE xs) := by
  show gListB (.lst (xs.map enc)) = _
  simp only [gListB, flat, map_sh_map]
theorem gIndex_fit {α : Type} [DecidableEq α] [Enc α] {a : α} {xs : List α} (h : (enc a).fit = true) (h' : (enc xs).fit = true) : gIndex (enc xs) (enc a) = (xs.findIdx? fun x => decide (x = a)).map fun j => iT (j : Nat) := by
  show gIndex (.lst (xs.map enc)) (enc a) = _
  have f2 : (T.lst (xs.map enc)).fit = true := h'
  simp only [gIndex, h, f2, Bool.and_self, if_true]
  have e : ((xs.map enc).findIdx? fun z => T.eqv z (enc a)) = xs.findIdx? fun x => decide (x = a) := by
    rw [List.findIdx?_map]
    congr 1
    funext x
    simp [Enc.eqv]
  rw [e]
theorem insS_mem' {x y : List Nat} : ∀ {l : List (List Nat)}, y ∈ insS x l ↔ y = x ∨ y ∈ l
  | [] => by simp [insS]
  | z :: r => by
    unfold insS
    split
    · simp
    · split
      · rename_i e; subst e; simp
      · rw [List.mem_cons, insS_mem' (l := r), List.mem_cons]
        exact ⟨fun h => h.elim (fun h => .inr (.inl h)) fun h => h.elim .inl fun h => .inr (.inr h), fun h => h.elim (fun h => .inr (.inl h)) fun h => h.elim .inl fun h => .inr (.inr h)⟩
theorem sdS_mem' {y : List Nat} : ∀ {l : List (List Nat)}, y ∈ sdS l ↔ y ∈ l
  | [] => by simp [sdS]
  | x :: r => by rw [sdS, insS_mem', sdS_mem', List.mem_cons]
theorem ltS_of' {x y : List Nat} (h : x ≤ y) (n : x ≠ y) : x < y := Decidable.byContradiction fun k => n (List.le_antisymm h (List.not_lt.mp k))
theorem insS_pw' {x : List Nat} : ∀ {l : List (List Nat)}, l.Pairwise (· < ·) → (insS x l).Pairwise (· < ·)
  | [], _ => by simp [insS]
  | z :: r, p => by
    have q := List.pairwise_cons.mp p
    unfold insS
    split
    · rename_i h
      exact List.pairwise_cons.mpr ⟨fun y m => (List.mem_cons.mp m).elim (fun e => e ▸ h) fun m => List.lt_trans h (q.1 y m), p⟩
    · split
      · exact p
      · rename_i h1 h2
        exact List.pairwise_cons.mpr ⟨fun y m => (insS_mem'.mp m).elim (fun e => e ▸ ltS_of' (List.not_lt.mp h1) fun e => h2 e.symm) fun m => q.1 y m, insS_pw' q.2⟩
theorem sdS_pw' : ∀ l : List (List Nat), (sdS l).Pairwise (· < ·)
  | [] => .nil
  | x :: r => insS_pw' (sdS_pw' r)
theorem pwS_ext' : ∀ {l m : List (List Nat)}, l.Pairwise (· < ·) → m.Pairwise (· < ·) → (∀ x, x ∈ l ↔ x ∈ m) → l = m
  | [], [], _, _, _ => rfl
  | [], y :: m, _, _, h => by have := (h y).mpr (by simp); cases this
  | x :: l, [], _, _, h => by have := (h x).mp (by simp); cases this
  | x :: l, y :: m, p, q, h => by
    have p1 := List.pairwise_cons.mp p
    have q1 := List.pairwise_cons.mp q
    have e : x = y := (List.mem_cons.mp ((h x).mp (by simp))).elim id fun e => (List.mem_cons.mp ((h y).mpr (by simp))).elim (fun e => e.symm) fun e' => absurd (List.lt_trans (q1.1 x e) (p1.1 y e')) (List.lt_irrefl _)
    subst e
    rw [pwS_ext' p1.2 q1.2 fun z => ⟨fun m1 => (List.mem_cons.mp ((h z).mp (by simp [m1]))).elim (fun e => absurd (p1.1 z m1) (by rw [e]; exact List.lt_irrefl _)) id, fun m1 => (List.mem_cons.mp ((h z).mpr (by simp [m1]))).elim (fun e => absurd (q1.1 z m1) (by rw [e]; exact List.lt_irrefl _)) id⟩]
/-- sets that hold the same are sorted alike -/
theorem sdS_ext {l m : List (List Nat)} (h : ∀ x, x ∈ l ↔ x ∈ m) : sdS l = sdS m := pwS_ext' (sdS_pw' _) (sdS_pw' _) fun x => by rw [sdS_mem', sdS_mem', h x]
theorem sdS_of_pw {l : List (List Nat)} (h : l.Pairwise (· < ·)) : sdS l = l := pwS_ext' (sdS_pw' _) h fun x => sdS_mem'
theorem noL_list {α : Type} [DecidableEq α] [Enc α] (xs : List α) : T.noL (enc xs) = false := rfl
theorem ty_beq (a b : Ty) : (a == b) = decide (a = b) := by cases a <;> cases b <;> rfl
theorem shNoLs_map {α : Type} (f : α → OT) (h : ∀ x, (f x).shNoL = true) : ∀ xs : List α, OT.shNoLs (xs.map f) = true
  | [] => rfl
  | x :: xs => by rw [List.map_cons, OT.shNoLs, h, shNoLs_map f h xs]; rfl
theorem shNoLs_int {γ : Type} (f : γ → Int) (xs : List γ) : OT.shNoLs (xs.map fun i => .sh (.int (f i))) = true := shNoLs_map _ (fun _ => rfl) xs
theorem shNoLs_int' (xs : List Int) : OT.shNoLs (xs.map fun i => .sh (.int i)) = true := shNoLs_map _ (fun _ => rfl) xs
theorem shNoLs_str {γ : Type} (f : γ → List Nat) (xs : List γ) : OT.shNoLs (xs.map fun i => .sh (.str (f i))) = true := shNoLs_map _ (fun _ => rfl) xs
theorem shNoLs_ints {γ : Type} (f : γ → List Int) (xs : List γ) : OT.shNoLs (xs.map fun i => oE (f i)) = true := shNoLs_map _ (fun y => by rw [OT.shNoL]; exact shNoLs_int' (f y)) xs
theorem insI_mem' {x y : Int} : ∀ {l : List Int}, y ∈ insI x l ↔ y = x ∨ y ∈ l
  | [] => by simp [insI]
  | z :: r => by
    unfold insI
    split
    · simp
    · split
      · rename_i e; subst e; simp
      · rw [List.mem_cons, insI_mem' (l := r), List.mem_cons]
        exact ⟨fun h => h.elim (fun h => .inr (.inl h)) fun h => h.elim .inl fun h => .inr (.inr h), fun h => h.elim (fun h => .inr (.inl h)) fun h => h.elim .inl fun h => .inr (.inr h)⟩
theorem sdI_mem' {y : Int} : ∀ {l : List Int}, y ∈ sdI l ↔ y ∈ l
  | [] => by simp [sdI]
  | x :: r => by rw [sdI, insI_mem', sdI_mem', List.mem_cons]
theorem insI_pw' {x : Int} : ∀ {l : List Int}, l.Pairwise (· < ·) → (insI x l).Pairwise (· < ·)
  | [], _ => by simp [insI]
  | z :: r, p => by
    have q := List.pairwise_cons.mp p
    unfold insI
    split
    · rename_i h
      exact List.pairwise_cons.mpr ⟨fun y m => (List.mem_cons.mp m).elim (fun e => e ▸ h) fun m => Int.lt_trans h (q.1 y m), p⟩
    · split
      · exact p
      · exact List.pairwise_cons.mpr ⟨fun y m => (insI_mem'.mp m).elim (fun e => by omega) fun m => q.1 y m, insI_pw' q.2⟩
theorem sdI_pw' : ∀ l : List Int, (sdI l).Pairwise (· < ·)
  | [] => .nil
  | x :: r => insI_pw' (sdI_pw' r)
/-! ### dicts -/
theorem enc_inj {α : Type} [DecidableEq α] [Enc α] {a b : α} : (enc a = enc b) ↔ a = b := by
  constructor
  · intro h
    have e := Enc.eqv a b
    rw [h, Enc.eqv b b] at e
    simpa using e.symm
  · rintro rfl; rfl
theorem enc_dec {α : Type} [DecidableEq α] [Enc α] (a b : α) : decide (enc a = enc b) = decide (a = b) := decide_eq_decide.mpr enc_inj
section
variable {κ α : Type} [DecidableEq κ] [Enc κ] [DecidableEq α] [Enc α]
theorem kHas_enc (ks : List κ) (k : κ) : kHas (ks.map enc) (enc k) = has ks k := by
  unfold kHas has
  rw [List.any_map]
  congr 1
  funext z
  exact enc_dec z k
theorem kGet_enc (k : κ) : ∀ (ks : List κ) (xs : List α), kGet (ks.map enc) (xs.map enc) (enc k) = (kGet ks xs k).map enc
  | [], xs => by simp [kGet]
  | z :: ks, [] => by simp [kGet]
  | z :: ks, x :: xs => by
    simp only [List.map_cons, kGet, enc_inj]
    split
    · rfl
    · exact kGet_enc k ks xs
theorem kSet_enc {β γ : Type} (f : β → γ) (k : κ) (v : β) : ∀ (ks : List κ) (xs : List β), kSet (ks.map enc) (xs.map f) (enc k) (f v) = (kSet ks xs k v).map f
  | [], xs => by simp [kSet]
  | z :: ks, [] => by simp [kSet]
  | z :: ks, x :: xs => by
    simp only [List.map_cons, kSet, enc_inj]
    split
    · rfl
    · rw [kSet_enc f k v ks xs]; rfl
theorem kPutK_enc (ks : List κ) (k : κ) : kPutK (ks.map enc) (enc k) = (kPutK ks k).map enc := by
  unfold kPutK
  rw [kHas_enc]
  have : kHas ks k = has ks k := rfl
  rw [this]
  cases has ks k <;> simp
theorem kPutX_enc {β γ : Type} (f : β → γ) (ks : List κ) (xs : List β) (k : κ) (v : β) : kPutX (ks.map enc) (xs.map f) (enc k) (f v) = (kPutX ks xs k v).map f := by
  unfold kPutX
  rw [kHas_enc]
  have : kHas ks k = has ks k := rfl
  rw [this]
  cases has ks k <;> simp [kSet_enc]
/-- keys -/
class Keys (κ : Type) [DecidableEq κ] [Enc κ] where
  dp : Nat
  ok : ∀ a : κ, T.keyN dp (enc a) = true
mutual
theorem keyN_mono : ∀ (t : T) (n m : Nat), n ≤ m → T.keyN n t = true → T.keyN m t = true
  | .non, n, m, _, _ => by cases m <;> rfl
  | .int _, n, m, _, _ => by cases m <;> rfl
  | .str _, n, m, _, _ => by cases m <;> rfl
  | .tup ts, 0, m, _, h => by simp [T.keyN] at h
  | .tup ts, n + 1, 0, l, h => by omega
  | .tup ts, n + 1, m + 1, l, h => by
    rw [T.keyN] at h ⊢
    exact keyNs_mono ts n m (by omega) h
  | .bl _, n, m, _, h => by cases n <;> simp [T.keyN] at h
  | .lst _, n, m, _, h => by cases n <;> simp [T.keyN] at h
  | .dct _ _, n, m, _, h => by cases n <;> simp [T.keyN] at h
  | .scr _, n, m, _, h => by cases n <;> simp [T.keyN] at h
theorem keyNs_mono : ∀ (ts : List T) (n m : Nat), n ≤ m → T.keyNs n ts = true → T.keyNs m ts = true
  | [], n, m, _, _ => by cases m <;> rfl
  | t :: ts, n, m, l, h => by
    rw [T.keyNs, Bool.and_eq_true] at h ⊢
    exact ⟨keyN_mono t n m l h.1, keyNs_mono ts n m l h.2⟩
end
instance keysInt : Keys Int := ⟨0, fun _ => rfl⟩
instance keysStr : Keys (List Nat) := ⟨0, fun _ => rfl⟩
instance keysPair {β : Type} [DecidableEq β] [Enc β] [E : Keys κ] [F : Keys β] : Keys (κ × β) := ⟨max E.dp F.dp + 1, fun p => by
  show T.keyN _ (.tup [enc p.1, enc p.2]) = true
  rw [T.keyN]
  simp only [T.keyNs, Bool.and_eq_true, and_true]
  exact ⟨keyN_mono _ _ _ (Nat.le_max_left _ _) (E.ok _), keyN_mono _ _ _ (Nat.le_max_right _ _) (F.ok _)⟩⟩
theorem kdp_int : Keys.dp Int = 0 := rfl
theorem kdp_str : Keys.dp (List Nat) = 0 := rfl
theorem kdp_pair {β : Type} [DecidableEq β] [Enc β] [E : Keys κ] [F : Keys β] : Keys.dp (κ × β) = max E.dp F.dp + 1 := rfl
theorem keyN_enc [E : Keys κ] (h : E.dp ≤ 8) (k : κ) : T.keyN 8 (enc k) = true := keyN_mono _ _ _ h (E.ok k)
theorem keyN_int (i : Int) : T.keyN 8 (.int i) = true := rfl
theorem keyN_str (i : List Nat) : T.keyN 8 (.str i) = true := rfl
theorem tDct_run (s : TEnv) : tDct s = .ok (.ot (.dct [] [])) s := rfl
theorem tvar_dct (ks : List T) (xs : List OT) (i : Nat) (s : TEnv) : tvar' (some (.dct ks xs)) i s = .ok (.al i) s := rfl
theorem tree_dct (ks : List T) (xs : List OT) : OT.tree (.dct ks xs) = .dct ks (OT.trees xs) := rfl
theorem kids_dct (ks : List T) (xs : List OT) : OT.kids (.dct ks xs) = .dct ks ((OT.trees xs).map .sh) := rfl
theorem isTy_dct (t : Ty) (ks xs : List T) : isTyT t (.dct ks xs) = (t == .tdict) := rfl
/-- a dict of one's own -/
abbrev oD (ks : List κ) (xs : List α) : OT := .dct (ks.map enc) (xs.map fun x => .sh (enc x))
/-- a dict -/
abbrev eD (ks : List κ) (xs : List α) : T := .dct (ks.map enc) (xs.map enc)
theorem gIxB_dct (ks xs : List T) (k : T) : gIxB (.dct ks xs) k = if k.keyN 8 then (kGet ks xs k).map .sh else none := rfl
theorem gIxB_lst (xs : List T) (k : T) : gIxB (.lst xs) k = gIx (.lst xs) k := rfl
theorem gIxB_tup (xs : List T) (k : T) : gIxB (.tup xs) k = gIx (.tup xs) k := rfl
theorem gIxB_enc (xs : List α) (k : T) : gIxB (enc xs) k = gIx (enc xs) k := rfl
theorem gIxB_pair (p : κ × α) (k : T) : gIxB (enc p) k = gIx (enc p) k := rfl
theorem gInD_dct (ks xs : List T) (k : T) : gInD k (.dct ks xs) = if k.keyN 8 then some (bT (kHas ks k)) else none := rfl
theorem gNotInD_dct (ks xs : List T) (k : T) : gNotInD k (.dct ks xs) = if k.keyN 8 then some (bT (!kHas ks k)) else none := rfl
theorem gLenB_dct (ks xs : List T) : gLenB (.dct ks xs) = some (iT xs.length) := rfl
theorem gLenB_lst (xs : List T) : gLenB (.lst xs) = some (iT xs.length) := rfl
theorem gLenB_enc (xs : List α) : gLenB (enc xs) = some (iT xs.length) := gLen_enc xs
theorem gListD_dct (ks xs : List T) : gListD (.dct ks xs) = some (flat ks) := rfl
theorem gListD_enc (xs : List α) : gListD (enc xs) = some (oE xs) := gList_enc xs
/-- what a dict walked gives -/
def dctQ : Option T → Option (List TItm)
  | some (.dct ts _) => some (ts.map .one)
  | _ => none
theorem tiDct_eq (a : TE) (s : TEnv) : tiDct a s = (a s).bind fun w s1 => match dctQ (rd s1 w) with
    | some ms => .ok ms (fzW s1 w)
    | none => .stuck := by
  unfold tiDct
  cases a s with
  | ok w s1 =>
    simp only [TR.bind_ok]
    cases h : rd s1 w with
    | none => rfl
    | some t => cases t <;> rfl
  | exc c s1 => rfl
  | stuck => rfl
theorem dctQ_dct (ks xs : List T) : dctQ (some (.dct ks xs)) = some (ks.map .one) := rfl
theorem gGetD_enc {β : Type} [DecidableEq β] [Enc β] (ks : List κ) (xs : List β) (k : κ) (x : β) (hk : T.keyN 8 (enc k) = true) (hn : ∀ y : β, (enc y).noL = true) : gGetD (eD ks xs) (enc k) (enc x) = some (.sh (enc ((kGet ks xs k).getD x))) := by
  unfold gGetD
  simp only [kGet_enc]
  have e : ((kGet ks xs k).map enc).getD (enc x) = enc ((kGet ks xs k).getD x) := by cases kGet ks xs k <;> rfl
  rw [e, hk, hn]
  rfl
end
def run_c0 := (And.intro (And.intro (And.intro (And.intro (And.intro @Mi.tBody.eq_1 @Mi.tsSeq.eq_1) (And.intro @Mi.tsAsg.eq_1 (And.intro @Mi.tsExpr.eq_1 @Mi.tsRet.eq_1))) (And.intro (And.intro @Mi.tsRetN.eq_1 @Mi.tsIf.eq_1) (And.intro @Mi.tsRaise.eq_1 (And.intro @Mi.tsSkip.eq_1 @Mi.tsFor.eq_1)))) (And.intro (And.intro (And.intro @Mi.tsSetIx.eq_1 @Mi.tsKl.eq_1) (And.intro @tVar_eq (And.intro @tvar_sh @tvar_lst))) (And.intro (And.intro @tvar_tup @Mi.tC.eq_1) (And.intro @Mi.tT.eq_1 (And.intro @Mi.t1.eq_1 @Mi.t1k.eq_1))))) (And.intro (And.intro (And.intro (And.intro @Mi.t2.eq_1 @Mi.t2k.eq_1) (And.intro @tChain_eq (And.intro @chW_t @chW_f))) (And.intro (And.intro @chW_bl @tAnd_eq) (And.intro @andW_t (And.intro @andW_f @andW_bl)))) (And.intro (And.intro (And.intro @tOr_eq @orW_t) (And.intro @orW_f (And.intro @orW_bl @Mi.tNot.eq_1))) (And.intro (And.intro @Mi.taNil.eq_1 @Mi.taCons.eq_1) (And.intro @Mi.tTup.eq_1 (And.intro @Mi.tLst.eq_1 @Mi.toNone.eq_1))))))
def run_c1 := (And.intro (And.intro (And.intro (And.intro (And.intro @Mi.toSome.eq_1 @Mi.tSlice.eq_1) (And.intro @Mi.tLc.eq_1 (And.intro @Mi.tCall.eq_1 @Mi.prep.eq_1))) (And.intro (And.intro @Mi.prep.eq_2 @Mi.prep.eq_3) (And.intro @Mi.prep.eq_4 (And.intro @Mi.prep.eq_5 @Mi.ioAls.eq_1)))) (And.intro (And.intro (And.intro @Mi.ioAls.eq_2 @Mi.ioAls.eq_3) (And.intro @Mi.rdAls.eq_1 (And.intro @Mi.rdAls.eq_2 @Mi.rdAls.eq_3))) (And.intro (And.intro @Mi.apart.eq_1 @Mi.putBack.eq_1) (And.intro @Mi.putBack.eq_2 (And.intro @Mi.putBack.eq_3 @Mi.putBack.eq_4))))) (And.intro (And.intro (And.intro (And.intro @Mi.putBack.eq_5 @Mi.freeT.eq_1) (And.intro @Mi.tAppend.eq_1 (And.intro @Mi.isLst.eq_1 @Mi.tPop0.eq_1))) (And.intro (And.intro @Mi.tPop1.eq_1 @Mi.tClear.eq_1) (And.intro @Mi.tiSeq.eq_1 (And.intro @Mi.tiRng.eq_1 @Mi.tiRng2.eq_1)))) (And.intro (And.intro (And.intro @tiEnum_eq @tiZip_eq) (And.intro @Mi.tgOne.eq_1 (And.intro @Mi.tgOne.eq_2 @Mi.tgTwo.eq_1))) (And.intro (And.intro @Mi.tgTwo.eq_2 @Mi.tgName.eq_1) (And.intro @Mi.tgTup.eq_1 (And.intro @Mi.tgCons.eq_1 @Mi.tgCons.eq_2))))))
def run_c2 := (And.intro (And.intro (And.intro (And.intro (And.intro @Mi.tgNil.eq_1 @Mi.tgNil.eq_2) (And.intro @Mi.outsOf.eq_1 (And.intro @Mi.outsOf.eq_2 @Mi.tPk.eq_1))) (And.intro (And.intro @Mi.tAppendP.eq_1 @Mi.tClearP.eq_1) (And.intro @Mi.tLcB.eq_1 (And.intro @Mi.tDsp1.eq_1 @Mi.tsForE.eq_1)))) (And.intro (And.intro (And.intro @Mi.tsForB.eq_1 @Mi.OT.at.eq_1) (And.intro @Mi.OT.at.eq_2 (And.intro @Mi.OT.at.eq_3 @Mi.OT.at.eq_4))) (And.intro (And.intro @Mi.OT.upd.eq_1 @Mi.OT.upd.eq_2) (And.intro @Mi.OT.upd.eq_3 (And.intro @Mi.OT.upd.eq_4 @seqT_enc))))) (And.intro (And.intro (And.intro (And.intro @seqT_lst @seqT_tup) (And.intro @seqT_str (And.intro @parts_pair @parts_enc))) (And.intro (And.intro @parts_tup @parts_lst) (And.intro @parts_olst (And.intro @parts_otup @enumQ_enc)))) (And.intro (And.intro (And.intro @enumQ_nil @zipQ_enc) (And.intro @rd_ot (And.intro @rd_al @eat_ot))) (And.intro (And.intro @eat_al @eat_mv) (And.intro @Mi.eats.eq_1 (And.intro @Mi.eats.eq_2 @Mi.mkTup.eq_1))))))
def run_c3 := (And.intro (And.intro (And.intro (And.intro (And.intro @Mi.OT.isSh.eq_1 @Mi.OT.isSh.eq_2) (And.intro @fzW_ot (And.intro @fzW_al @fzkW_ot))) (And.intro (And.intro @fzkW_al @Mi.fz.eq_1) (And.intro @Mi.fzk.eq_1 (And.intro @kids_sh @kids_lst)))) (And.intro (And.intro (And.intro @kids_tup @tree_sh) (And.intro @tree_lst (And.intro @tree_tup @trees_nil))) (And.intro (And.intro @trees_cons @trees_map_sh) (And.intro @trees_map_oEf (And.intro @trees_map_oEi @trees_map_oEs))))) (And.intro (And.intro (And.intro (And.intro @Mi.oE.eq_1 @Mi.OT.shNoL.eq_1) (And.intro @Mi.OT.shNoL.eq_2 (And.intro @Mi.OT.shNoL.eq_3 @Mi.OT.shNoL.eq_4))) (And.intro (And.intro @Mi.OT.shNoLs.eq_1 @Mi.OT.shNoLs.eq_2) (And.intro @Mi.T.noL.eq_1 (And.intro @Mi.T.noL.eq_2 @Mi.T.noL.eq_3)))) (And.intro (And.intro (And.intro @Mi.T.noL.eq_4 @Mi.T.noLs.eq_1) (And.intro @Mi.T.noLs.eq_2 (And.intro @bT_eq @iT_eq))) (And.intro (And.intro @enc_int @enc_str) (And.intro @enc_bl (And.intro @lst_map @lst_mapf))))))
def run_c4 := (And.intro (And.intro (And.intro (And.intro (And.intro @lst_map_int @lst_mapf_int) (And.intro @lst_map_str (And.intro @lst_mapf_str @tup_two))) (And.intro (And.intro @tup_ie @tup_ei) (And.intro @tup_ii (And.intro @tup_se @tup_es)))) (And.intro (And.intro (And.intro @tup_ss @tup_is) (And.intro @tup_si (And.intro @lst_e1 @lst_e2))) (And.intro (And.intro @lst_e3 @lst_e4) (And.intro @lst_i1 (And.intro @lst_i2 @lst_i3))))) (And.intro (And.intro (And.intro (And.intro @lst_i4 @lst_s1) (And.intro @lst_s2 (And.intro @TR.bind_ok @TR.bind_exc))) (And.intro (And.intro @TR.bind_stuck @TR.into_ok) (And.intro @TR.into_exc (And.intro @TR.into_stuck @TSR.then_nx)))) (And.intro (And.intro (And.intro @TSR.then_rt @TSR.then_exc) (And.intro @TSR.then_bk (And.intro @TSR.then_ct @tturn_nx))) (And.intro (And.intro @tturn_ct @tturn_bk) (And.intro @tturn_rt (And.intro @tturn_exc @tget_0))))))
def run_c5 := (And.intro (And.intro (And.intro (And.intro (And.intro @tget_1 @tget_2) (And.intro @tget_3 (And.intro @tget_4 @tget_5))) (And.intro (And.intro @tget_6 @tget_7) (And.intro @tget_8 (And.intro @tget_9 @tget_10)))) (And.intro (And.intro (And.intro @tget_11 @tget_12) (And.intro @tget_13 (And.intro @tget_14 @tget_15))) (And.intro (And.intro @tget_16 @tget_17) (And.intro @tget_18 (And.intro @tget_19 @tget_20))))) (And.intro (And.intro (And.intro (And.intro @tget_21 @tget_22) (And.intro @tget_23 (And.intro @tget_24 @tget_25))) (And.intro (And.intro @tget_26 @tget_27) (And.intro @tget_28 (And.intro @tget_29 @tget_30)))) (And.intro (And.intro (And.intro @tget_31 @tget_32) (And.intro @tget_33 (And.intro @tget_34 @tget_35))) (And.intro (And.intro @tget_36 @tget_37) (And.intro @tget_38 (And.intro @tget_39 @tget_40))))))
def run_c6 := (And.intro (And.intro (And.intro (And.intro (And.intro @tget_nil @List.set_cons_zero.{0}) (And.intro @List.set_cons_succ.{0} (And.intro @List.getElem?_cons_zero.{0} @List.getElem?_cons_succ.{0}))) (And.intro (And.intro @List.getElem?_nil.{0} @List.map_cons.{0,0}) (And.intro @List.map_nil.{0,0} (And.intro @List.append_assoc.{0} @List.cons_append.{0})))) (And.intro (And.intro (And.intro @List.nil_append.{0} @List.replicate.eq_1.{0}) (And.intro @List.replicate.eq_2.{0} (And.intro @List.all_cons.{0} @List.all_nil.{0}))) (And.intro (And.intro @map_mk @map_sh_map) (And.intro @List.map_map.{0,0,0} (And.intro @Function.comp_def.{1,1,1} @map_app))))) (And.intro (And.intro (And.intro (And.intro @map_snoc @filter_ff) (And.intro @filter_tt (And.intro @Int.cast_ofNat_Int @Int.natCast_zero))) (And.intro (And.intro @Int.natCast_one @Option.map_some.{0,0}) (And.intro @Option.map_none.{0,0} (And.intro @Option.bind_some.{0,0} @if_true.{1})))) (And.intro (And.intro (And.intro @if_false.{1} @Bool.or_false) (And.intro @Bool.false_or (And.intro @Bool.or_true @Bool.true_or))) (And.intro (And.intro @Bool.false_eq_true @ite_self.{1}) (And.intro @shNoLs_int (And.intro @shNoLs_int' @shNoLs_str))))))
def run_c7 := (And.intro (And.intro (And.intro (And.intro (And.intro @shNoLs_ints @noL_list) (And.intro @Bool.and_true (And.intro @Bool.true_and @Bool.and_false))) (And.intro (And.intro @Bool.false_and @Bool.not_true) (And.intro @Bool.not_false (And.intro @trees_sh @List.length_cons.{0})))) (And.intro (And.intro (And.intro @List.length_nil.{0} @List.length_map.{0,0}) (And.intro @gEq_int (And.intro @gNe_int @gEq_str))) (And.intro (And.intro @gNe_str @gEq_enc) (And.intro @gNe_enc (And.intro @gEq_nil @gNe_nil))))) (And.intro (And.intro (And.intro (And.intro @gEq_nn @gNe_nn) (And.intro @gIn_enc (And.intro @gNotIn_enc @gIn_int))) (And.intro (And.intro @gNotIn_int @gIn_str) (And.intro @gNotIn_str (And.intro @gIn_ch @gNotIn_ch)))) (And.intro (And.intro (And.intro @gAdd_int @gAdd_str) (And.intro @gAdd_enc (And.intro @gAdd_encN @gAdd_Nenc))) (And.intro (And.intro @gLen_enc @gLen_str) (And.intro @gLen_lst (And.intro @gLen_tup @gLen_pair))))))
def run_c8 := (And.intro (And.intro (And.intro (And.intro (And.intro @gList_enc @gList_nil) (And.intro @gRev_enc (And.intro @gSlice_enc @gSlice_str))) (And.intro (And.intro @gSlice_tup @gIx_enc) (And.intro @gIx_str (And.intro @gIx_lst @gIx_tup)))) (And.intro (And.intro (And.intro @gIx_p0 @gIx_p1) (And.intro @gAll_map (And.intro @gSum_enc @atI_0))) (And.intro (And.intro @atI_1 @atI_2) (And.intro @atI_3 (And.intro @isTy_int @isTy_str))))) (And.intro (And.intro (And.intro (And.intro @isTy_bl @isTy_lst) (And.intro @isTy_tup (And.intro @isTy_non @isTy_enc))) (And.intro (And.intro @isTy_pair @beq_self_eq_true.{0}) (And.intro @ty_beq (And.intro @rngT_zero @rngT_ab)))) (And.intro (And.intro (And.intro @rangeAB_zero @cut_one) (And.intro @dp_int (And.intro @dp_bool @dp_str))) (And.intro (And.intro @dp_list @dp_pair) (And.intro @Nat.max_self (And.intro @Nat.zero_max @Nat.max_zero))))))
def run_c9 := (And.intro (And.intro (And.intro (And.intro (And.intro @Mi.gLt.eq_1 @Mi.gLe.eq_1) (And.intro @Mi.gGt.eq_1 (And.intro @Mi.gGe.eq_1 @Mi.gSub.eq_1))) (And.intro (And.intro @Mi.gMod.eq_1 @Mi.gIsN.eq_1) (And.intro @Mi.gIsN.eq_2 (And.intro @Mi.gNotN.eq_1 @Mi.gNotN.eq_2)))) (And.intro (And.intro (And.intro @Mi.gIsB.eq_1 @Mi.gIsi.eq_1) (And.intro @Mi.gNeg.eq_1 (And.intro @Mi.gBits.eq_1 @Mi.gInt.eq_1))) (And.intro (And.intro @Mi.gMax.eq_1 @Mi.gMin.eq_1) (And.intro @Mi.gAugAdd.eq_1 (And.intro @List.nodup_nil.{0} @List.nodup_cons.{0}))))) (And.intro (And.intro (And.intro (And.intro @List.not_mem_nil.{0} @List.mem_cons.{0}) (And.intro @List.mem_singleton.{0} (And.intro @not_false_eq_true @and_true))) (And.intro (And.intro @true_and @decide_true) (And.intro @decide_false (And.intro @List.contains_nil.{0} @List.contains_cons.{0})))) (And.intro (And.intro (And.intro @Mi.lim.eq_1 @Nat.zero_le) (And.intro @Nat.zero_add (And.intro @List.foldl_nil.{0,0} @List.foldl_cons.{0,0}))) (And.intro (And.intro @Mi.twipe.eq_1 @Mi.twipe.eq_2) (And.intro @Mi.flat.eq_1 (And.intro @gEq_l2 @gNe_l2))))))
def run_c10 := (And.intro (And.intro (And.intro (And.intro (And.intro @gEq_l3 @gNe_l3) (And.intro @gNe_bl (And.intro @gEq_bl @eq_self.{1}))) (And.intro (And.intro @Mi.tPk1.eq_1 @Mi.tMeth.eq_1) (And.intro @gListB_str (And.intro @tDct_run @tvar_dct)))) (And.intro (And.intro (And.intro @tree_dct @kids_dct) (And.intro @isTy_dct (And.intro @gIxB_dct @gIxB_lst))) (And.intro (And.intro @gIxB_tup @gIxB_enc) (And.intro @gIxB_pair (And.intro @gInD_dct @gNotInD_dct))))) (And.intro (And.intro (And.intro (And.intro @gLenB_dct @gLenB_lst) (And.intro @gLenB_enc (And.intro @gListD_dct @gListD_enc))) (And.intro (And.intro @tiDct_eq @dctQ_dct) (And.intro @kHas_enc (And.intro @kGet_enc @kPutK_enc)))) (And.intro (And.intro (And.intro @kPutX_enc @keyN_enc) (And.intro @keyN_int (And.intro @keyN_str @kdp_int))) (And.intro (And.intro @kdp_str @kdp_pair) (And.intro @Mi.tsSetKey.eq_1 (And.intro @Mi.isDct.eq_1 @Mi.tGetD.eq_1))))))
end Mi
set_option linter.all false
set_option maxRecDepth 100000
set_option maxHeartbeats 1000000
namespace Mi
open Enc (enc)
/-! the program's frames -/
def rising : List Int → Bool
  | a :: b :: r => decide (a < b) && rising (b :: r)
  | _ => true
def isLotB (c : Int) (xs : List Int) : Bool := rising xs && xs.all fun x => decide (0 ≤ x) && decide (x < c)
theorem rising_zip : ∀ xs : List Int, ((xs.zip (xs.drop 1)).all fun p => decide (p.1 < p.2)) = rising xs
  | [] => rfl
  | [a] => rfl
  | a :: b :: r => by
    have := rising_zip (b :: r)
    simp only [List.drop_succ_cons, List.drop_zero, List.zip_cons_cons, List.all_cons, rising] at this ⊢
    rw [this]
theorem run_is_lot (c : Int) (xs : List Int) : t_is_lot [.sh (.int c), .sh (enc xs)] = .ok (.sh (.bl (isLotB c xs))) [] := by
  unfold t_is_lot
  simp only [run_c0, run_c1, run_c2, run_c3, run_c4, run_c5, run_c6, run_c7, run_c8, run_c9, run_c10, Int.reduceAdd, Int.reduceLE, Int.reduceLT, Int.reduceNeg, Int.reduceSub, Nat.reduceAdd, Nat.reduceBEq, Nat.reduceLT, Nat.reduceLeDiff, Nat.reduceSub, reduceCtorEq, reduceIte]
  rw [tlcGo_map _ ?H1 rfl]
  case H1 => intro m hm; refine ⟨_, ?w1, ?s31, ?s41, rfl, ?h11, ?h21, ?h31⟩; (case h11 => simp only [run_c0, run_c1, run_c2, run_c3, run_c4, run_c5, run_c6, run_c7, run_c8, run_c9, run_c10, Int.reduceAdd, Int.reduceLE, Int.reduceLT, Int.reduceNeg, Int.reduceSub, Nat.reduceAdd, Nat.reduceBEq, Nat.reduceLT, Nat.reduceLeDiff, Nat.reduceSub, reduceCtorEq, reduceIte]; rfl); (case h21 => rfl); (case h31 => rfl)
  simp only [run_c0, run_c1, run_c2, run_c3, run_c4, run_c5, run_c6, run_c7, run_c8, run_c9, run_c10, Int.reduceAdd, Int.reduceLE, Int.reduceLT, Int.reduceNeg, Int.reduceSub, Nat.reduceAdd, Nat.reduceBEq, Nat.reduceLT, Nat.reduceLeDiff, Nat.reduceSub, reduceCtorEq, reduceIte, rising_zip]
  rw [tlcGo_map _ ?H2 rfl]
  case H2 => intro m hm; refine ⟨_, ?w2, ?s32, ?s42, rfl, ?h12, ?h22, ?h32⟩; (case h12 => simp only [run_c0, run_c1, run_c2, run_c3, run_c4, run_c5, run_c6, run_c7, run_c8, run_c9, run_c10, Int.reduceAdd, Int.reduceLE, Int.reduceLT, Int.reduceNeg, Int.reduceSub, Nat.reduceAdd, Nat.reduceBEq, Nat.reduceLT, Nat.reduceLeDiff, Nat.reduceSub, reduceCtorEq, reduceIte]; rfl); (case h22 => rfl); (case h32 => rfl)
  simp only [run_c0, run_c1, run_c2, run_c3, run_c4, run_c5, run_c6, run_c7, run_c8, run_c9, run_c10, Int.reduceAdd, Int.reduceLE, Int.reduceLT, Int.reduceNeg, Int.reduceSub, Nat.reduceAdd, Nat.reduceBEq, Nat.reduceLT, Nat.reduceLeDiff, Nat.reduceSub, reduceCtorEq, reduceIte]
  rfl
def isFrameB (f : Int × List (List Int)) : Bool := decide (0 ≤ f.1) && decide (f.1 ≤ 40) && decide (f.2.length ≤ 200) && f.2.all (isLotB f.1)
theorem run_is_frame (f : Int × List (List Int)) : t_is_frame [.sh (enc f)] = .ok (.sh (.bl (isFrameB f))) [] := by
  unfold t_is_frame
  simp only [run_c0, run_c1, run_c2, run_c3, run_c4, run_c5, run_c6, run_c7, run_c8, run_c9, run_c10, Int.reduceAdd, Int.reduceLE, Int.reduceLT, Int.reduceNeg, Int.reduceSub, Nat.reduceAdd, Nat.reduceBEq, Nat.reduceLT, Nat.reduceLeDiff, Nat.reduceSub, reduceCtorEq, reduceIte]
  cases h : (!(decide (0 ≤ f.1) && decide (f.1 ≤ 40)) || decide ((200 : Int) < f.2.length)) with
  | true =>
    simp only [run_c0, run_c1, run_c2, run_c3, run_c4, run_c5, run_c6, run_c7, run_c8, run_c9, run_c10, Int.reduceAdd, Int.reduceLE, Int.reduceLT, Int.reduceNeg, Int.reduceSub, Nat.reduceAdd, Nat.reduceBEq, Nat.reduceLT, Nat.reduceLeDiff, Nat.reduceSub, reduceCtorEq, reduceIte]
    have : isFrameB f = false := by
      simp only [Bool.or_eq_true, Bool.not_eq_true', Bool.and_eq_false_iff, decide_eq_false_iff_not, decide_eq_true_eq] at h
      simp only [isFrameB, Bool.and_eq_false_iff, decide_eq_false_iff_not]
      omega
    rw [this]
  | false =>
    simp only [run_c0, run_c1, run_c2, run_c3, run_c4, run_c5, run_c6, run_c7, run_c8, run_c9, run_c10, Int.reduceAdd, Int.reduceLE, Int.reduceLT, Int.reduceNeg, Int.reduceSub, Nat.reduceAdd, Nat.reduceBEq, Nat.reduceLT, Nat.reduceLeDiff, Nat.reduceSub, reduceCtorEq, reduceIte]
    rw [tlcGo_map _ ?H3 rfl]
    case H3 => intro m hm; refine ⟨_, ?w3, ?s33, ?s43, rfl, ?h13, ?h23, ?h33⟩; (case h13 => simp only [run_c0, run_c1, run_c2, run_c3, run_c4, run_c5, run_c6, run_c7, run_c8, run_c9, run_c10, Int.reduceAdd, Int.reduceLE, Int.reduceLT, Int.reduceNeg, Int.reduceSub, Nat.reduceAdd, Nat.reduceBEq, Nat.reduceLT, Nat.reduceLeDiff, Nat.reduceSub, reduceCtorEq, reduceIte, run_is_lot]; rfl); (case h23 => rfl); (case h33 => rfl)
    simp only [run_c0, run_c1, run_c2, run_c3, run_c4, run_c5, run_c6, run_c7, run_c8, run_c9, run_c10, Int.reduceAdd, Int.reduceLE, Int.reduceLT, Int.reduceNeg, Int.reduceSub, Nat.reduceAdd, Nat.reduceBEq, Nat.reduceLT, Nat.reduceLeDiff, Nat.reduceSub, reduceCtorEq, reduceIte]
    simp only [Bool.or_eq_false_iff, Bool.not_eq_false', Bool.and_eq_true, decide_eq_false_iff_not, decide_eq_true_eq] at h
    simp only [isFrameB, h.1.1, h.1.2, show f.2.length ≤ 200 by omega, run_c0, run_c1, run_c2, run_c3, run_c4, run_c5, run_c6, run_c7, run_c8, run_c9, run_c10, Int.reduceAdd, Int.reduceLE, Int.reduceLT, Int.reduceNeg, Int.reduceSub, Nat.reduceAdd, Nat.reduceBEq, Nat.reduceLT, Nat.reduceLeDiff, Nat.reduceSub, reduceCtorEq, reduceIte]
theorem run_must_frame (f : Int × List (List Int)) : t_must_frame [.sh (enc f)] = if isFrameB f then .ok (.sh .non) [] else .exc x_NoFrame [] := by
  unfold t_must_frame
  simp only [run_c0, run_c1, run_c2, run_c3, run_c4, run_c5, run_c6, run_c7, run_c8, run_c9, run_c10, Int.reduceAdd, Int.reduceLE, Int.reduceLT, Int.reduceNeg, Int.reduceSub, Nat.reduceAdd, Nat.reduceBEq, Nat.reduceLT, Nat.reduceLeDiff, Nat.reduceSub, reduceCtorEq, reduceIte, run_is_frame]
  cases isFrameB f <;> simp only [run_c0, run_c1, run_c2, run_c3, run_c4, run_c5, run_c6, run_c7, run_c8, run_c9, run_c10, Int.reduceAdd, Int.reduceLE, Int.reduceLT, Int.reduceNeg, Int.reduceSub, Nat.reduceAdd, Nat.reduceBEq, Nat.reduceLT, Nat.reduceLeDiff, Nat.reduceSub, reduceCtorEq, reduceIte]
end Mi
set_option linter.all false
set_option maxRecDepth 100000
set_option maxHeartbeats 1000000
namespace Mi
open Enc (enc)
/-! ### the purse -/
structure PU where
  a : Int
  b : Int
  c : Int
def PU.ok (p : PU) (k : Int) : Prop := 0 ≤ p.c ∧ p.c ≤ k
theorem PU.ok.up {p : PU} {k l : Int} (h : p.ok k) (h' : k ≤ l) : p.ok l := ⟨h.1, Int.le_trans h.2 h'⟩
def pu (p : PU) : OT := .lst [.sh (.int p.a), .sh (.int p.b), .sh (.int p.c)]
theorem tvar_pu (p : PU) (i : Nat) (s : TEnv) : tvar' (some (pu p)) i s = .ok (.al i) s := rfl
theorem tree_pu (p : PU) : (pu p).tree = .lst [.int p.a, .int p.b, .int p.c] := rfl
theorem noL_pu (p : PU) : (pu p).shNoL = true := rfl
theorem kids_pu (p : PU) : (pu p).kids = pu p := rfl
theorem isSh_pu (p : PU) : (pu p).isSh = false := rfl
theorem run_at (ns : List Int) (k : Int) (h : 0 ≤ k) : ∃ x, t__law_at [.sh (.scr ns), .sh (.int k)] = .ok (.sh (.int x)) [] := by
  unfold t__law_at
  have e : gLen (.scr ns) = some (iT ns.length) := rfl
  obtain ⟨j, rfl⟩ := Int.eq_ofNat_of_zero_le h
  by_cases l : (j : Int) < ns.length
  · have lj : j < ns.length := by omega
    have q : gIx (.scr ns) (.int (j : Int)) = some (iT ns[j]) := by
      show (atI ns (j : Int)).map iT = _
      rw [atI_nat (x := ns[j]) (by simp)]
      rfl
    refine ⟨ns[j], ?_⟩
    simp only [run_c0, run_c1, run_c2, run_c3, run_c4, run_c5, run_c6, run_c7, run_c8, run_c9, run_c10, Int.reduceAdd, Int.reduceLE, Int.reduceLT, Int.reduceNeg, Int.reduceSub, Nat.reduceAdd, Nat.reduceBEq, Nat.reduceLT, Nat.reduceLeDiff, Nat.reduceSub, reduceCtorEq, reduceIte, e, l, q]
  · refine ⟨0, ?_⟩
    simp only [run_c0, run_c1, run_c2, run_c3, run_c4, run_c5, run_c6, run_c7, run_c8, run_c9, run_c10, Int.reduceAdd, Int.reduceLE, Int.reduceLT, Int.reduceNeg, Int.reduceSub, Nat.reduceAdd, Nat.reduceBEq, Nat.reduceLT, Nat.reduceLeDiff, Nat.reduceSub, reduceCtorEq, reduceIte, e, l]
theorem run_mixed (b c : Int) (h : 0 ≤ c ∧ c < 2 ^ 60) : ∃ x, 0 ≤ x ∧ x < 2147483587 ∧ t__law_mixed [.sh (.int b), .sh (.int c)] = .ok (.sh (.int x)) [] := by
  unfold t__law_mixed
  simp only [run_c0, run_c1, run_c2, run_c3, run_c4, run_c5, run_c6, run_c7, run_c8, run_c9, run_c10, Int.reduceAdd, Int.reduceLE, Int.reduceLT, Int.reduceNeg, Int.reduceSub, Nat.reduceAdd, Nat.reduceBEq, Nat.reduceLT, Nat.reduceLeDiff, Nat.reduceSub, reduceCtorEq, reduceIte, gMul_r (i := b) (j := 1103515245) (by decide), gMul_l (i := 7919) (j := c) (by decide), gMul_r (i := 7919 * c) (j := c) (by omega), (by decide : (0 : Int) < 2147483647), (by decide : (0 : Int) < 2147483629), (by decide : (0 : Int) < 2147483587)]
  generalize (b * 1103515245 + 7919 * c * c + c + 1) = y
  have h1 := Int.emod_nonneg y (b := 2147483647) (by decide)
  have h2 := Int.emod_lt_of_pos y (b := 2147483647) (by decide)
  simp only [run_c0, run_c1, run_c2, run_c3, run_c4, run_c5, run_c6, run_c7, run_c8, run_c9, run_c10, Int.reduceAdd, Int.reduceLE, Int.reduceLT, Int.reduceNeg, Int.reduceSub, Nat.reduceAdd, Nat.reduceBEq, Nat.reduceLT, Nat.reduceLeDiff, Nat.reduceSub, reduceCtorEq, reduceIte, gMul_l (i := y % 2147483647) (j := y % 2147483647) (by omega)]
  generalize (y % 2147483647 * (y % 2147483647) + 69621) = z
  simp only [run_c0, run_c1, run_c2, run_c3, run_c4, run_c5, run_c6, run_c7, run_c8, run_c9, run_c10, Int.reduceAdd, Int.reduceLE, Int.reduceLT, Int.reduceNeg, Int.reduceSub, Nat.reduceAdd, Nat.reduceBEq, Nat.reduceLT, Nat.reduceLeDiff, Nat.reduceSub, reduceCtorEq, reduceIte, gMul_r (i := z % 2147483629) (j := 48271) (by decide)]
  exact ⟨_, Int.emod_nonneg _ (by decide), Int.emod_lt_of_pos _ (by decide), rfl⟩
theorem run_purse (ns : List Int) (k : Int) (h : 0 ≤ k ∧ k < 1000) : ∃ p : PU, t__law_purse [.sh (.scr ns), .sh (.int k)] = .ok (pu p) [] ∧ p.ok 1000000 := by
  obtain ⟨x, e⟩ := run_at ns k h.1
  unfold t__law_purse
  have e2 : gPow (.int 10) (.int 18) = some (iT (10 ^ 18)) := by rfl
  simp only [run_c0, run_c1, run_c2, run_c3, run_c4, run_c5, run_c6, run_c7, run_c8, run_c9, run_c10, Int.reduceAdd, Int.reduceLE, Int.reduceLT, Int.reduceNeg, Int.reduceSub, Nat.reduceAdd, Nat.reduceBEq, Nat.reduceLT, Nat.reduceLeDiff, Nat.reduceSub, reduceCtorEq, reduceIte, e, e2, gMul_l (i := 1000) (j := k) (by decide), (by decide : (0 : Int) < 2147483647), List.foldl_nil]
  exact ⟨⟨_, _, _⟩, rfl, by show (0 : Int) ≤ 1000 * k; omega, by show (1000 : Int) * k ≤ 1000000; omega⟩
theorem draw_loop (nn : OT) (x2 : Option OT) (xs : List Int) (p : PU) (num k : Int) (P : p.ok k) (l : k + xs.length < 2 ^ 60) :
    ∃ (q : PU) (num' : Int), tloop (tgOne (tgName 4)) t__law_draw_b1 (xs.map fun x => .one (.int x)) [some (pu p), some nn, x2, some (.sh (.int num)), none] = .nx [some (pu q), some nn, x2, some (.sh (.int num')), none] ∧ q.ok (k + xs.length) := by
  obtain ⟨s', h1, q, n', rfl, h2⟩ := tloop_inv (g := tgOne (tgName 4)) (b := t__law_draw_b1) (mk := fun x : Int => .one (.int x)) (fun n s => ∃ (q : PU) (num' : Int), s = [some (pu q), some nn, x2, some (.sh (.int num')), none] ∧ q.ok (k + n)) xs 0 _ ⟨p, num, rfl, by simpa using P⟩
    (by
      rintro m _ n s _ hn ⟨q, n', rfl, h⟩
      obtain ⟨x, hx0, hx1, ex⟩ := run_mixed q.b (q.c + 1) ⟨by have := h.1; omega, by have := h.2; omega⟩
      refine ⟨_, [some (pu ⟨q.a, q.b, q.c + 1⟩), some nn, x2, some (.sh (.int (n' * 2147483587 + x))), none], rfl, ?_, _, _, rfl, by have := h.1; show (0 : Int) ≤ q.c + 1; omega, by have := h.2; show q.c + 1 ≤ _; push_cast; omega⟩
      unfold t__law_draw_b1
      simp only [run_c0, run_c1, run_c2, run_c3, run_c4, run_c5, run_c6, run_c7, run_c8, run_c9, run_c10, Int.reduceAdd, Int.reduceLE, Int.reduceLT, Int.reduceNeg, Int.reduceSub, Nat.reduceAdd, Nat.reduceBEq, Nat.reduceLT, Nat.reduceLeDiff, Nat.reduceSub, reduceCtorEq, reduceIte, pu, ixN_2 (n := 3) (by decide), gMul_r (i := n') (j := 2147483587) (by decide), ex])
  exact ⟨q, n', h1, by simpa using h2⟩
/-- a draw -/
theorem draw {p : PU} {k n : Int} (P : p.ok k) (hk : k < 2 ^ 59) (hn : 0 < n ∧ n < 2 ^ 250) : ∃ (d : Int) (q : PU), t__law_draw [pu p, .sh (.int n)] = .ok (.sh (.int d)) [pu q] ∧ (0 ≤ d ∧ d < n) ∧ q.ok (k + 10) := by
  unfold t__law_draw
  by_cases h : 0 < p.a
  · refine ⟨p.a % n, ⟨p.a / n, p.b, p.c⟩, ?_, ⟨Int.emod_nonneg _ (by omega), Int.emod_lt_of_pos _ hn.1⟩, PU.ok.up (p := ⟨p.a / n, p.b, p.c⟩) P (by omega)⟩
    simp only [run_c0, run_c1, run_c2, run_c3, run_c4, run_c5, run_c6, run_c7, run_c8, run_c9, run_c10, Int.reduceAdd, Int.reduceLE, Int.reduceLT, Int.reduceNeg, Int.reduceSub, Nat.reduceAdd, Nat.reduceBEq, Nat.reduceLT, Nat.reduceLeDiff, Nat.reduceSub, reduceCtorEq, reduceIte, pu, h, hn.1, gDiv_int hn, ixN_0 (n := 3) (by decide)]
  · have hb : (bitLen n / 30) ≤ 8 ∧ 0 ≤ bitLen n / 30 := by
      unfold bitLen
      rw [if_neg (by omega)]
      have h2 : n.natAbs < 2 ^ 250 := by omega
      have h3 : n.natAbs ≠ 0 := by omega
      have := (Nat.log2_lt h3).mpr h2
      omega
    have hr : rngOk (1 + bitLen n / 30) = true := rngOk_of (by omega)
    have hl : (rangeI (1 + bitLen n / 30)).length ≤ 9 := by rw [rangeI_len]; omega
    obtain ⟨q, num', e, P'⟩ := draw_loop (.sh (.int n)) none (rangeI (1 + bitLen n / 30)) p 0 k P (by omega)
    refine ⟨num' % n, q, ?_, ⟨Int.emod_nonneg _ (by omega), Int.emod_lt_of_pos _ hn.1⟩, P'.up (by omega)⟩
    simp only [run_c0, run_c1, run_c2, run_c3, run_c4, run_c5, run_c6, run_c7, run_c8, run_c9, run_c10, Int.reduceAdd, Int.reduceLE, Int.reduceLT, Int.reduceNeg, Int.reduceSub, Nat.reduceAdd, Nat.reduceBEq, Nat.reduceLT, Nat.reduceLeDiff, Nat.reduceSub, reduceCtorEq, reduceIte, tvar_pu, tree_pu, kids_pu, h, hn.1, gDiv_int (i := bitLen n) (j := 30) (by decide), hr]
    simp only [e, run_c0, run_c1, run_c2, run_c3, run_c4, run_c5, run_c6, run_c7, run_c8, run_c9, run_c10, Int.reduceAdd, Int.reduceLE, Int.reduceLT, Int.reduceNeg, Int.reduceSub, Nat.reduceAdd, Nat.reduceBEq, Nat.reduceLT, Nat.reduceLeDiff, Nat.reduceSub, reduceCtorEq, reduceIte, tvar_pu, tree_pu, kids_pu, hn.1]
end Mi
set_option linter.all false
set_option maxRecDepth 100000
set_option maxHeartbeats 1000000
namespace Mi
open Enc (enc)
/-! lots, plainly -/
abbrev Fr := Int × List (List Int)
theorem rising_iff : ∀ xs : List Int, rising xs = true ↔ xs.Pairwise (· < ·)
  | [] => by simp [rising]
  | [a] => by simp [rising]
  | a :: b :: r => by
    have ih := rising_iff (b :: r)
    simp only [rising, Bool.and_eq_true, decide_eq_true_eq, ih]
    constructor
    · rintro ⟨h1, h2⟩
      refine List.pairwise_cons.mpr ⟨fun x m => ?_, h2⟩
      rcases List.mem_cons.mp m with rfl | m
      · exact h1
      · exact Int.lt_trans h1 ((List.pairwise_cons.mp h2).1 x m)
    · intro h
      have q := List.pairwise_cons.mp h
      exact ⟨q.1 b (by simp), q.2⟩
theorem isLot_iff {c : Int} {xs : List Int} : isLotB c xs = true ↔ xs.Pairwise (· < ·) ∧ ∀ x ∈ xs, 0 ≤ x ∧ x < c := by
  unfold isLotB
  rw [Bool.and_eq_true, rising_iff, List.all_eq_true]
  simp only [Bool.and_eq_true, decide_eq_true_eq]
theorem pw_len : ∀ (xs : List Int) (a c : Int), xs.Pairwise (· < ·) → (∀ x ∈ xs, a ≤ x ∧ x < c) → xs.length ≤ (c - a).toNat
  | [], a, c, _, _ => by simp
  | x :: xs, a, c, p, h => by
    have q := List.pairwise_cons.mp p
    have hx := h x (by simp)
    have := pw_len xs (x + 1) c q.2 fun y m => ⟨by have := q.1 y m; omega, (h y (by simp [m])).2⟩
    simp only [List.length_cons]
    omega
theorem lot_len {c : Int} {xs : List Int} (h : isLotB c xs = true) : xs.length ≤ c.toNat := by
  have q := isLot_iff.mp h
  have := pw_len xs 0 c q.1 q.2
  simpa using this
theorem isFrame_iff {f : Fr} : isFrameB f = true ↔ (0 ≤ f.1 ∧ f.1 ≤ 40) ∧ f.2.length ≤ 200 ∧ ∀ l ∈ f.2, isLotB f.1 l = true := by
  unfold isFrameB
  simp only [Bool.and_eq_true, decide_eq_true_eq, List.all_eq_true]
  constructor
  · rintro ⟨⟨h, h2⟩, h3⟩; exact ⟨h, h2, h3⟩
  · rintro ⟨h, h2, h3⟩; exact ⟨⟨h, h2⟩, h3⟩
theorem rangeI_pw (c : Int) : (rangeI c).Pairwise (· < ·) := by
  unfold rangeI
  rw [List.pairwise_map]
  exact List.Pairwise.imp (fun h => by omega) List.pairwise_lt_range
theorem isLot_sub {c : Int} {xs : List Int} (h : List.Sublist xs (rangeI c)) : isLotB c xs = true :=
  isLot_iff.mpr ⟨(rangeI_pw c).sublist h, fun x m => mem_rangeI.mp (h.subset m)⟩
theorem isLot_filter (c : Int) (p : Int → Bool) : isLotB c ((rangeI c).filter p) = true := isLot_sub List.filter_sublist
theorem isLot_range (c : Int) : isLotB c (rangeI c) = true := isLot_sub (List.Sublist.refl _)
theorem isLot_nil (c : Int) : isLotB c [] = true := by rfl
theorem rangeAB_len (a b : Int) : (rangeAB a b).length = (b - a).toNat := by simp [rangeAB]
/-- lots of one's own -/
abbrev oLs (xs : List (List Int)) : OT := .lst (xs.map fun l => oE l)
abbrev oF (f : Fr) : OT := .tup [.sh (.int f.1), oLs f.2]
theorem noL_ls (xs : List (List Int)) : OT.shNoLs (xs.map fun l => OT.lst (l.map fun x => OT.sh (T.int x))) = true := shNoLs_ints id xs
theorem trees_app (a b : List OT) : OT.trees (a ++ b) = OT.trees a ++ OT.trees b := by
  induction a with
  | nil => rfl
  | cons x xs ih => simp [OT.trees, ih]
theorem trees_snoc {os : List OT} {lots : List (List Int)} {l : List Int} {o : OT} (H : OT.trees os = lots.map enc) (h : o.tree = enc l) : OT.trees (os ++ [o]) = (lots ++ [l]).map enc := by
  rw [trees_app, H, List.map_append]; simp [OT.trees, h]
theorem trees_len : ∀ os : List OT, (OT.trees os).length = os.length
  | [] => rfl
  | x :: xs => by simp [OT.trees, trees_len xs]
theorem tree_oE {α : Type} [DecidableEq α] [Enc α] (xs : List α) : (oE xs).tree = enc xs := by
  simp only [run_c0, run_c1, run_c2, run_c3, run_c4, run_c5, run_c6, run_c7, run_c8, run_c9, run_c10, Int.reduceAdd, Int.reduceLE, Int.reduceLT, Int.reduceNeg, Int.reduceSub, Nat.reduceAdd, Nat.reduceBEq, Nat.reduceLT, Nat.reduceLeDiff, Nat.reduceSub, reduceCtorEq, reduceIte]
theorem trees_shs {α : Type} [DecidableEq α] [Enc α] (xs : List α) : OT.trees (xs.map fun x => OT.sh (enc x)) = xs.map enc := trees_map_sh _ _
theorem tree_oF (f : Fr) : (oF f).tree = enc f := by
  simp only [oF, oLs, run_c0, run_c1, run_c2, run_c3, run_c4, run_c5, run_c6, run_c7, run_c8, run_c9, run_c10, Int.reduceAdd, Int.reduceLE, Int.reduceLT, Int.reduceNeg, Int.reduceSub, Nat.reduceAdd, Nat.reduceBEq, Nat.reduceLT, Nat.reduceLeDiff, Nat.reduceSub, reduceCtorEq, reduceIte]
end Mi
set_option linter.all false
set_option maxRecDepth 100000
set_option maxHeartbeats 1000000
namespace Mi
open Enc (enc)
/-! closings -/
def holds (one other : List Int) : Bool := other.all fun x => has one x
def closedL (f : Fr) (lot : List Int) : List Int := f.2.foldl (fun g one => if holds one lot then g.filter fun x => has one x else g) (rangeI f.1)
theorem foldl_closed (lot : List Int) : ∀ (lots : List (List Int)) (g : List Int), lots.foldl (fun g one => if holds one lot then g.filter fun x => has one x else g) g = g.filter fun x => lots.all fun one => !holds one lot || has one x
  | [], g => by
    simp only [List.foldl_nil, List.all_nil]
    exact (List.filter_eq_self.mpr (fun _ _ => rfl)).symm
  | l :: lots, g => by
    rw [List.foldl_cons, foldl_closed lot lots]
    cases h : holds l lot with
    | true =>
      simp only [if_true, List.filter_filter, List.all_cons, h, Bool.not_true, Bool.false_or]
      congr 1
      funext x
      rw [Bool.and_comm]
    | false => simp [h]
theorem closedL_eq (f : Fr) (lot : List Int) : closedL f lot = (rangeI f.1).filter fun x => f.2.all fun one => !holds one lot || has one x := foldl_closed lot f.2 _
theorem holds_iff {a b : List Int} : holds a b = true ↔ ∀ x ∈ b, x ∈ a := by
  unfold holds
  rw [List.all_eq_true]
  exact ⟨fun h x m => has_iff.mp (h x m), fun h x m => has_iff.mpr (h x m)⟩
theorem mem_closed {f : Fr} {lot : List Int} {x : Int} : x ∈ closedL f lot ↔ (0 ≤ x ∧ x < f.1) ∧ ∀ l ∈ f.2, (∀ y ∈ lot, y ∈ l) → x ∈ l := by
  rw [closedL_eq, List.mem_filter, mem_rangeI, List.all_eq_true]
  constructor
  · rintro ⟨h, q⟩
    refine ⟨h, fun l m s => ?_⟩
    have := q l m
    rw [holds_iff.mpr s] at this
    simpa [has_iff] using this
  · rintro ⟨h, q⟩
    refine ⟨h, fun l m => ?_⟩
    cases e : holds l lot with
    | false => rfl
    | true => simpa [has_iff] using q l m (holds_iff.mp e)
theorem isLot_closed (f : Fr) (lot : List Int) : isLotB f.1 (closedL f lot) = true := by rw [closedL_eq]; exact isLot_filter _ _
theorem lot_ext {c : Int} {a b : List Int} (ha : isLotB c a = true) (hb : isLotB c b = true) (h : ∀ x, x ∈ a ↔ x ∈ b) : a = b := by
  have pw_ext : ∀ {l m : List Int}, l.Pairwise (· < ·) → m.Pairwise (· < ·) → (∀ x, x ∈ l ↔ x ∈ m) → l = m := by
    intro l
    induction l with
    | nil =>
      intro m _ _ h
      cases m with
      | nil => rfl
      | cons y m => have := (h y).mpr (by simp); cases this
    | cons x l ih =>
      intro m p q h
      cases m with
      | nil => have := (h x).mp (by simp); cases this
      | cons y m =>
        have p1 := List.pairwise_cons.mp p
        have q1 := List.pairwise_cons.mp q
        have e : x = y := by
          rcases List.mem_cons.mp ((h x).mp (by simp)) with e | e
          · exact e
          · rcases List.mem_cons.mp ((h y).mpr (by simp)) with e' | e'
            · exact e'.symm
            · have a := q1.1 x e
              have b := p1.1 y e'
              omega
        subst e
        rw [ih p1.2 q1.2 fun z => ?_]
        constructor
        · intro m1
          rcases List.mem_cons.mp ((h z).mp (by simp [m1])) with e | e
          · have := p1.1 z m1; omega
          · exact e
        · intro m1
          rcases List.mem_cons.mp ((h z).mpr (by simp [m1])) with e | e
          · have := q1.1 z m1; omega
          · exact e
  exact pw_ext (isLot_iff.mp ha).1 (isLot_iff.mp hb).1 h
theorem closed_mem {f : Fr} {a b : List Int} (h : ∀ x, x ∈ a ↔ x ∈ b) : closedL f a = closedL f b :=
  lot_ext (isLot_closed f a) (isLot_closed f b) fun x => by
    rw [mem_closed, mem_closed]
    exact ⟨fun q => ⟨q.1, fun l m s => q.2 l m fun y my => s y ((h y).mp my)⟩, fun q => ⟨q.1, fun l m s => q.2 l m fun y my => s y ((h y).mpr my)⟩⟩
theorem sub_closed {f : Fr} {lot : List Int} (h : isLotB f.1 lot = true) : ∀ x ∈ lot, x ∈ closedL f lot := fun x m =>
  mem_closed.mpr ⟨(isLot_iff.mp h).2 x m, fun l _ s => s x m⟩
theorem closed_closed {f : Fr} {lot : List Int} (h : isLotB f.1 lot = true) : closedL f (closedL f lot) = closedL f lot :=
  lot_ext (isLot_closed f _) (isLot_closed f _) fun x => by
    constructor
    · intro q
      refine mem_closed.mpr ⟨(mem_closed.mp q).1, fun l m s => (mem_closed.mp q).2 l m fun y my => (mem_closed.mp my).2 l m s⟩
    · exact fun q => sub_closed (isLot_closed f lot) x q
/-- a thing -/
def isThingB (f : Fr) (lot : List Int) : Bool := isLotB f.1 lot && decide (closedL f lot = lot)
theorem isThing_iff {f : Fr} {lot : List Int} : isThingB f lot = true ↔ isLotB f.1 lot = true ∧ closedL f lot = lot := by
  simp [isThingB]
theorem thing_closed {f : Fr} {lot : List Int} (h : isLotB f.1 lot = true) : isThingB f (closedL f lot) = true := isThing_iff.mpr ⟨isLot_closed f lot, closed_closed h⟩
theorem run_holds_all (a b : List Int) : t_holds_all [.sh (enc a), .sh (enc b)] = .ok (.sh (.bl (holds a b))) [] := by
  unfold t_holds_all
  simp only [run_c0, run_c1, run_c2, run_c3, run_c4, run_c5, run_c6, run_c7, run_c8, run_c9, run_c10, Int.reduceAdd, Int.reduceLE, Int.reduceLT, Int.reduceNeg, Int.reduceSub, Nat.reduceAdd, Nat.reduceBEq, Nat.reduceLT, Nat.reduceLeDiff, Nat.reduceSub, reduceCtorEq, reduceIte]
  rw [tlcGo_map _ ?H1 rfl]
  case H1 => intro m hm; refine ⟨_, ?w1, ?s31, ?s41, rfl, ?h11, ?h21, ?h31⟩; (case h11 => simp only [run_c0, run_c1, run_c2, run_c3, run_c4, run_c5, run_c6, run_c7, run_c8, run_c9, run_c10, Int.reduceAdd, Int.reduceLE, Int.reduceLT, Int.reduceNeg, Int.reduceSub, Nat.reduceAdd, Nat.reduceBEq, Nat.reduceLT, Nat.reduceLeDiff, Nat.reduceSub, reduceCtorEq, reduceIte]; rfl); (case h21 => rfl); (case h31 => rfl)
  simp only [run_c0, run_c1, run_c2, run_c3, run_c4, run_c5, run_c6, run_c7, run_c8, run_c9, run_c10, Int.reduceAdd, Int.reduceLE, Int.reduceLT, Int.reduceNeg, Int.reduceSub, Nat.reduceAdd, Nat.reduceBEq, Nat.reduceLT, Nat.reduceLeDiff, Nat.reduceSub, reduceCtorEq, reduceIte]
  rfl
theorem closed_b1 (f : Fr) (lot l g : List Int) : t_closed_b1 [some (.sh (enc f)), some (.sh (enc lot)), some (.sh (.int f.1)), some (.sh (enc f.2)), some (oE g), some (.sh (enc l)), none] =
    .nx [some (.sh (enc f)), some (.sh (enc lot)), some (.sh (.int f.1)), some (.sh (enc f.2)), some (oE (if holds l lot then g.filter fun x => has l x else g)), none, none] := by
  unfold t_closed_b1
  simp only [run_c0, run_c1, run_c2, run_c3, run_c4, run_c5, run_c6, run_c7, run_c8, run_c9, run_c10, Int.reduceAdd, Int.reduceLE, Int.reduceLT, Int.reduceNeg, Int.reduceSub, Nat.reduceAdd, Nat.reduceBEq, Nat.reduceLT, Nat.reduceLeDiff, Nat.reduceSub, reduceCtorEq, reduceIte, run_holds_all]
  cases h : holds l lot with
  | false => simp only [run_c0, run_c1, run_c2, run_c3, run_c4, run_c5, run_c6, run_c7, run_c8, run_c9, run_c10, Int.reduceAdd, Int.reduceLE, Int.reduceLT, Int.reduceNeg, Int.reduceSub, Nat.reduceAdd, Nat.reduceBEq, Nat.reduceLT, Nat.reduceLeDiff, Nat.reduceSub, reduceCtorEq, reduceIte]
  | true =>
    simp only [run_c0, run_c1, run_c2, run_c3, run_c4, run_c5, run_c6, run_c7, run_c8, run_c9, run_c10, Int.reduceAdd, Int.reduceLE, Int.reduceLT, Int.reduceNeg, Int.reduceSub, Nat.reduceAdd, Nat.reduceBEq, Nat.reduceLT, Nat.reduceLeDiff, Nat.reduceSub, reduceCtorEq, reduceIte]
    rw [tlcGo_filter _ _ ?H2 rfl]
    case H2 => intro m hm; refine ⟨_, rfl, rfl, ?h12, fun _ => ?h22⟩; (case h12 => simp only [run_c0, run_c1, run_c2, run_c3, run_c4, run_c5, run_c6, run_c7, run_c8, run_c9, run_c10, Int.reduceAdd, Int.reduceLE, Int.reduceLT, Int.reduceNeg, Int.reduceSub, Nat.reduceAdd, Nat.reduceBEq, Nat.reduceLT, Nat.reduceLeDiff, Nat.reduceSub, reduceCtorEq, reduceIte]; rfl); (case h22 => simp only [run_c0, run_c1, run_c2, run_c3, run_c4, run_c5, run_c6, run_c7, run_c8, run_c9, run_c10, Int.reduceAdd, Int.reduceLE, Int.reduceLT, Int.reduceNeg, Int.reduceSub, Nat.reduceAdd, Nat.reduceBEq, Nat.reduceLT, Nat.reduceLeDiff, Nat.reduceSub, reduceCtorEq, reduceIte] <;> rfl)
    simp only [run_c0, run_c1, run_c2, run_c3, run_c4, run_c5, run_c6, run_c7, run_c8, run_c9, run_c10, Int.reduceAdd, Int.reduceLE, Int.reduceLT, Int.reduceNeg, Int.reduceSub, Nat.reduceAdd, Nat.reduceBEq, Nat.reduceLT, Nat.reduceLeDiff, Nat.reduceSub, reduceCtorEq, reduceIte]
theorem run_closed (f : Fr) (lot : List Int) (hc : -100000 ≤ f.1 ∧ f.1 ≤ 100000) : t_closed [.sh (enc f), .sh (enc lot)] = .ok (oE (closedL f lot)) [] := by
  unfold t_closed
  have L := tloop_fold (g := tgOne (tgName 5)) (b := t_closed_b1) (mk := fun l : List Int => .one (enc l)) (fun g : List Int => [some (.sh (enc f)), some (.sh (enc lot)), some (.sh (.int f.1)), some (.sh (enc f.2)), some (oE g), none, none])
    (fun g l => if holds l lot then g.filter fun x => has l x else g) (fun _ => True) f.2 (rangeI f.1) trivial fun g _ l _ => ⟨_, rfl, closed_b1 f lot l g, trivial⟩
  simp only [run_c0, run_c1, run_c2, run_c3, run_c4, run_c5, run_c6, run_c7, run_c8, run_c9, run_c10, Int.reduceAdd, Int.reduceLE, Int.reduceLT, Int.reduceNeg, Int.reduceSub, Nat.reduceAdd, Nat.reduceBEq, Nat.reduceLT, Nat.reduceLeDiff, Nat.reduceSub, reduceCtorEq, reduceIte] at L
  simp only [run_c0, run_c1, run_c2, run_c3, run_c4, run_c5, run_c6, run_c7, run_c8, run_c9, run_c10, Int.reduceAdd, Int.reduceLE, Int.reduceLT, Int.reduceNeg, Int.reduceSub, Nat.reduceAdd, Nat.reduceBEq, Nat.reduceLT, Nat.reduceLeDiff, Nat.reduceSub, reduceCtorEq, reduceIte, gRng_0 (c := f.1) (by omega), L]
  rfl
theorem run_must_lot (f : Fr) (lot : List Int) : t_must_lot [.sh (enc f), .sh (enc lot)] = if isLotB f.1 lot then .ok (.sh .non) [] else .exc x_NoLot [] := by
  unfold t_must_lot
  simp only [run_c0, run_c1, run_c2, run_c3, run_c4, run_c5, run_c6, run_c7, run_c8, run_c9, run_c10, Int.reduceAdd, Int.reduceLE, Int.reduceLT, Int.reduceNeg, Int.reduceSub, Nat.reduceAdd, Nat.reduceBEq, Nat.reduceLT, Nat.reduceLeDiff, Nat.reduceSub, reduceCtorEq, reduceIte, run_is_lot]
  cases isLotB f.1 lot <;> simp only [run_c0, run_c1, run_c2, run_c3, run_c4, run_c5, run_c6, run_c7, run_c8, run_c9, run_c10, Int.reduceAdd, Int.reduceLE, Int.reduceLT, Int.reduceNeg, Int.reduceSub, Nat.reduceAdd, Nat.reduceBEq, Nat.reduceLT, Nat.reduceLeDiff, Nat.reduceSub, reduceCtorEq, reduceIte]
theorem run_common (a b : List Int) : t_common [.sh (enc a), .sh (enc b)] = .ok (oE (a.filter fun x => has b x)) [] := by
  unfold t_common
  simp only [run_c0, run_c1, run_c2, run_c3, run_c4, run_c5, run_c6, run_c7, run_c8, run_c9, run_c10, Int.reduceAdd, Int.reduceLE, Int.reduceLT, Int.reduceNeg, Int.reduceSub, Nat.reduceAdd, Nat.reduceBEq, Nat.reduceLT, Nat.reduceLeDiff, Nat.reduceSub, reduceCtorEq, reduceIte]
  rw [tlcGo_filter _ _ ?H3 rfl]
  case H3 => intro m hm; refine ⟨_, rfl, rfl, ?h13, fun _ => ?h23⟩; (case h13 => simp only [run_c0, run_c1, run_c2, run_c3, run_c4, run_c5, run_c6, run_c7, run_c8, run_c9, run_c10, Int.reduceAdd, Int.reduceLE, Int.reduceLT, Int.reduceNeg, Int.reduceSub, Nat.reduceAdd, Nat.reduceBEq, Nat.reduceLT, Nat.reduceLeDiff, Nat.reduceSub, reduceCtorEq, reduceIte]; rfl); (case h23 => simp only [run_c0, run_c1, run_c2, run_c3, run_c4, run_c5, run_c6, run_c7, run_c8, run_c9, run_c10, Int.reduceAdd, Int.reduceLE, Int.reduceLT, Int.reduceNeg, Int.reduceSub, Nat.reduceAdd, Nat.reduceBEq, Nat.reduceLT, Nat.reduceLeDiff, Nat.reduceSub, reduceCtorEq, reduceIte] <;> rfl)
  simp only [run_c0, run_c1, run_c2, run_c3, run_c4, run_c5, run_c6, run_c7, run_c8, run_c9, run_c10, Int.reduceAdd, Int.reduceLE, Int.reduceLT, Int.reduceNeg, Int.reduceSub, Nat.reduceAdd, Nat.reduceBEq, Nat.reduceLT, Nat.reduceLeDiff, Nat.reduceSub, reduceCtorEq, reduceIte]
theorem sdI_both_lot {c : Int} {a b : List Int} (ha : isLotB c a = true) (hb : isLotB c b = true) : isLotB c (sdI (a ++ b)) = true :=
  isLot_iff.mpr ⟨sdI_pw' _, fun x m => by
    rcases List.mem_append.mp (sdI_mem'.mp m) with m | m
    · exact (isLot_iff.mp ha).2 x m
    · exact (isLot_iff.mp hb).2 x m⟩
end Mi
set_option linter.all false
set_option maxRecDepth 100000
set_option maxHeartbeats 1000000
namespace Mi
open Enc (enc)
/-! the laws' closings, lots, frames, things (k10 to k24) -/
theorem fr_len {f : Fr} (h : ∀ l ∈ f.2, isLotB f.1 l = true) {l : List Int} (m : l ∈ f.2) : l.length ≤ f.1.toNat := lot_len (h l m)
theorem lclosed_b1 (f : Fr) (lot l g : List Int) : t__law_closed_b1 [some (.sh (enc f)), some (.sh (enc lot)), some (oE g), some (.sh (enc l)), none] =
    .nx [some (.sh (enc f)), some (.sh (enc lot)), some (oE (if holds l lot then g.filter fun x => has l x else g)), none, none] := by
  have eh : decide ((lot.filter fun p => !has l p) = []) = holds l lot := by
    rw [Bool.eq_iff_iff, decide_eq_true_eq, List.filter_eq_nil_iff, holds, List.all_eq_true]
    simp
  unfold t__law_closed_b1
  simp only [run_c0, run_c1, run_c2, run_c3, run_c4, run_c5, run_c6, run_c7, run_c8, run_c9, run_c10, Int.reduceAdd, Int.reduceLE, Int.reduceLT, Int.reduceNeg, Int.reduceSub, Nat.reduceAdd, Nat.reduceBEq, Nat.reduceLT, Nat.reduceLeDiff, Nat.reduceSub, reduceCtorEq, reduceIte]
  rw [tlcGo_filter _ _ ?H1 rfl]
  case H1 => intro m hm; refine ⟨_, rfl, rfl, ?h11, fun _ => ?h21⟩; (case h11 => simp only [run_c0, run_c1, run_c2, run_c3, run_c4, run_c5, run_c6, run_c7, run_c8, run_c9, run_c10, Int.reduceAdd, Int.reduceLE, Int.reduceLT, Int.reduceNeg, Int.reduceSub, Nat.reduceAdd, Nat.reduceBEq, Nat.reduceLT, Nat.reduceLeDiff, Nat.reduceSub, reduceCtorEq, reduceIte]; rfl); (case h21 => simp only [run_c0, run_c1, run_c2, run_c3, run_c4, run_c5, run_c6, run_c7, run_c8, run_c9, run_c10, Int.reduceAdd, Int.reduceLE, Int.reduceLT, Int.reduceNeg, Int.reduceSub, Nat.reduceAdd, Nat.reduceBEq, Nat.reduceLT, Nat.reduceLeDiff, Nat.reduceSub, reduceCtorEq, reduceIte] <;> rfl)
  simp only [run_c0, run_c1, run_c2, run_c3, run_c4, run_c5, run_c6, run_c7, run_c8, run_c9, run_c10, Int.reduceAdd, Int.reduceLE, Int.reduceLT, Int.reduceNeg, Int.reduceSub, Nat.reduceAdd, Nat.reduceBEq, Nat.reduceLT, Nat.reduceLeDiff, Nat.reduceSub, reduceCtorEq, reduceIte, eh]
  cases h : holds l lot with
  | false => simp only [run_c0, run_c1, run_c2, run_c3, run_c4, run_c5, run_c6, run_c7, run_c8, run_c9, run_c10, Int.reduceAdd, Int.reduceLE, Int.reduceLT, Int.reduceNeg, Int.reduceSub, Nat.reduceAdd, Nat.reduceBEq, Nat.reduceLT, Nat.reduceLeDiff, Nat.reduceSub, reduceCtorEq, reduceIte]
  | true =>
    simp only [run_c0, run_c1, run_c2, run_c3, run_c4, run_c5, run_c6, run_c7, run_c8, run_c9, run_c10, Int.reduceAdd, Int.reduceLE, Int.reduceLT, Int.reduceNeg, Int.reduceSub, Nat.reduceAdd, Nat.reduceBEq, Nat.reduceLT, Nat.reduceLeDiff, Nat.reduceSub, reduceCtorEq, reduceIte]
    rw [tlcGo_filter _ _ ?H2 rfl]
    case H2 => intro m hm; refine ⟨_, rfl, rfl, ?h12, fun _ => ?h22⟩; (case h12 => simp only [run_c0, run_c1, run_c2, run_c3, run_c4, run_c5, run_c6, run_c7, run_c8, run_c9, run_c10, Int.reduceAdd, Int.reduceLE, Int.reduceLT, Int.reduceNeg, Int.reduceSub, Nat.reduceAdd, Nat.reduceBEq, Nat.reduceLT, Nat.reduceLeDiff, Nat.reduceSub, reduceCtorEq, reduceIte]; rfl); (case h22 => simp only [run_c0, run_c1, run_c2, run_c3, run_c4, run_c5, run_c6, run_c7, run_c8, run_c9, run_c10, Int.reduceAdd, Int.reduceLE, Int.reduceLT, Int.reduceNeg, Int.reduceSub, Nat.reduceAdd, Nat.reduceBEq, Nat.reduceLT, Nat.reduceLeDiff, Nat.reduceSub, reduceCtorEq, reduceIte] <;> rfl)
    simp only [run_c0, run_c1, run_c2, run_c3, run_c4, run_c5, run_c6, run_c7, run_c8, run_c9, run_c10, Int.reduceAdd, Int.reduceLE, Int.reduceLT, Int.reduceNeg, Int.reduceSub, Nat.reduceAdd, Nat.reduceBEq, Nat.reduceLT, Nat.reduceLeDiff, Nat.reduceSub, reduceCtorEq, reduceIte]
theorem run_lclosed (f : Fr) (lot : List Int) (hc : -100000 ≤ f.1 ∧ f.1 ≤ 100000) : t__law_closed [.sh (enc f), .sh (enc lot)] = .ok (oE (closedL f lot)) [] := by
  unfold t__law_closed
  have L := tloop_fold (g := tgOne (tgName 3)) (b := t__law_closed_b1) (mk := fun l : List Int => .one (enc l)) (fun g : List Int => [some (.sh (enc f)), some (.sh (enc lot)), some (oE g), none, none])
    (fun g l => if holds l lot then g.filter fun x => has l x else g) (fun _ => True) f.2 (rangeI f.1) trivial fun g _ l _ => ⟨_, rfl, lclosed_b1 f lot l g, trivial⟩
  simp only [run_c0, run_c1, run_c2, run_c3, run_c4, run_c5, run_c6, run_c7, run_c8, run_c9, run_c10, Int.reduceAdd, Int.reduceLE, Int.reduceLT, Int.reduceNeg, Int.reduceSub, Nat.reduceAdd, Nat.reduceBEq, Nat.reduceLT, Nat.reduceLeDiff, Nat.reduceSub, reduceCtorEq, reduceIte] at L
  simp only [run_c0, run_c1, run_c2, run_c3, run_c4, run_c5, run_c6, run_c7, run_c8, run_c9, run_c10, Int.reduceAdd, Int.reduceLE, Int.reduceLT, Int.reduceNeg, Int.reduceSub, Nat.reduceAdd, Nat.reduceBEq, Nat.reduceLT, Nat.reduceLeDiff, Nat.reduceSub, reduceCtorEq, reduceIte, gRng_0 (c := f.1) (by omega), L]
  rfl
theorem pow_le {c : Int} (h : 0 ≤ c ∧ c ≤ 40) : 0 < (2 : Int) ^ c.toNat ∧ (2 : Int) ^ c.toNat < 2 ^ 250 := by
  have h1 : (2 : Nat) ^ c.toNat ≤ 2 ^ 40 := Nat.pow_le_pow_right (by decide) (by omega)
  have h3 : 0 < (2 : Nat) ^ c.toNat := Nat.pow_pos (by decide)
  have h4 : (2 : Int) ^ c.toNat = ((2 ^ c.toNat : Nat) : Int) := (Int.natCast_pow 2 c.toNat).symm
  rw [h4]
  generalize (2 : Nat) ^ c.toNat = y at h1 h3
  have h5 : (2 : Nat) ^ 40 = 1099511627776 := by decide
  have h6 : (1099511627776 : Int) < 2 ^ 250 := by decide
  rw [h5] at h1
  refine ⟨by omega, Int.lt_of_le_of_lt (b := 1099511627776) (by omega) h6⟩
theorem run_llot {p : PU} {k n : Int} (P : p.ok k) (hk : k < 2 ^ 58) (hn : 0 ≤ n ∧ n ≤ 40) :
    ∃ (lot : List Int) (q : PU), t__law_lot [pu p, .sh (.int n)] = .ok (oE lot) [pu q] ∧ isLotB n lot = true ∧ q.ok (k + 10) := by
  unfold t__law_lot
  have pn : powOkT 1 n = true := by
    unfold powOkT
    simp only [Bool.and_eq_true, decide_eq_true_eq]
    exact ⟨by omega, near_of (by decide)⟩
  have es : gShl (.int 1) (.int n) = some (iT (1 * 2 ^ n.toNat)) := by simp only [gShl, pn, if_true]
  obtain ⟨d, q, e, hd, Q⟩ := draw P (by omega) (n := 1 * 2 ^ n.toNat) (by rw [Int.one_mul]; exact pow_le hn)
  have hr : rngOk n = true := rngOk_of (by omega)
  refine ⟨(rangeI n).filter fun x => decide ((((d / 2 ^ x.toNat).toNat &&& (1 : Int).toNat : Nat) : Int) = 1), q, ?_, isLot_filter _ _, Q⟩
  simp only [run_c0, run_c1, run_c2, run_c3, run_c4, run_c5, run_c6, run_c7, run_c8, run_c9, run_c10, Int.reduceAdd, Int.reduceLE, Int.reduceLT, Int.reduceNeg, Int.reduceSub, Nat.reduceAdd, Nat.reduceBEq, Nat.reduceLT, Nat.reduceLeDiff, Nat.reduceSub, reduceCtorEq, reduceIte, tvar_pu, tree_pu, kids_pu, noL_pu, es, e, hr]
  rw [tlcGo_filter (fun x => decide ((((d / 2 ^ x.toNat).toNat &&& (1 : Int).toNat : Nat) : Int) = 1)) (fun p => .sh (.int p)) ?H rfl]
  case H =>
    intro m q
    have hm := mem_rangeI.mp q
    have h2 : (0 : Int) ≤ d / 2 ^ m.toNat := Int.ediv_nonneg hd.1 (by exact_mod_cast Nat.zero_le _)
    refine ⟨_, rfl, rfl, ?_, fun _ => rfl⟩
    have g1 : gShr (.int d) (.int m) = some (iT (d / 2 ^ m.toNat)) := by simp only [gShr, hm.1, if_true]
    have g2 : gAnd (.int (d / 2 ^ m.toNat)) (.int 1) = some (iT (((d / 2 ^ m.toNat).toNat &&& (1 : Int).toNat : Nat) : Int)) := by simp [gAnd, h2]
    simp only [run_c0, run_c1, run_c2, run_c3, run_c4, run_c5, run_c6, run_c7, run_c8, run_c9, run_c10, Int.reduceAdd, Int.reduceLE, Int.reduceLT, Int.reduceNeg, Int.reduceSub, Nat.reduceAdd, Nat.reduceBEq, Nat.reduceLT, Nat.reduceLeDiff, Nat.reduceSub, reduceCtorEq, reduceIte, g1, g2]
  simp only [run_c0, run_c1, run_c2, run_c3, run_c4, run_c5, run_c6, run_c7, run_c8, run_c9, run_c10, Int.reduceAdd, Int.reduceLE, Int.reduceLT, Int.reduceNeg, Int.reduceSub, Nat.reduceAdd, Nat.reduceBEq, Nat.reduceLT, Nat.reduceLeDiff, Nat.reduceSub, reduceCtorEq, reduceIte]
theorem run_lframe {p : PU} {k m : Int} (P : p.ok k) (hk : k < 2 ^ 57) (hm : 0 ≤ m ∧ m ≤ 40) :
    ∃ (f : Fr) (q : PU), t__law_frame [pu p, .sh (.int m)] = .ok (oF f) [pu q] ∧ ((0 ≤ f.1 ∧ f.1 ≤ m) ∧ f.2.length ≤ 8 ∧ ∀ l ∈ f.2, isLotB f.1 l = true) ∧ q.ok (k + 200) := by
  unfold t__law_frame
  obtain ⟨c, p1, e1, h1, P1⟩ := draw P (by omega) (n := m + 1) (by omega)
  obtain ⟨d, p2, e2, h2, P2⟩ := draw P1 (by omega) (n := 9) (by omega)
  have hr : rngOk d = true := rngOk_of (by omega)
  have hl : (rangeI d).length ≤ 8 := by rw [rangeI_len]; omega
  obtain ⟨s', h3, p3, lots, rfl, P3, h4, h5⟩ := tloop_inv (g := tgOne (tgName 4)) (b := t__law_frame_b1) (mk := fun x : Int => .one (.int x))
    (fun t s => ∃ (q : PU) (lots : List (List Int)), s = [some (pu q), some (.sh (.int m)), some (.sh (.int c)), some (oLs lots), none] ∧ q.ok (k + 20 + 10 * t) ∧ lots.length = t ∧ ∀ l ∈ lots, isLotB c l = true)
    (rangeI d) 0 [some (pu p2), some (.sh (.int m)), some (.sh (.int c)), some (.lst []), none] ⟨p2, [], rfl, P2.up (by omega), rfl, by simp⟩ (by
      rintro x mx t s _ ht ⟨q, lots, rfl, Q, hlen, hg⟩
      obtain ⟨l, q', e, hl', Q'⟩ := run_llot Q (by omega) (n := c) (by omega)
      have hlt : lots.length < 16777216 := by omega
      refine ⟨_, [some (pu q'), some (.sh (.int m)), some (.sh (.int c)), some (oLs (lots ++ [l])), none], rfl, ?_, q', lots ++ [l], rfl, Q'.up (by omega), by simp [hlen], fun y my => ?_⟩
      · unfold t__law_frame_b1
        simp only [run_c0, run_c1, run_c2, run_c3, run_c4, run_c5, run_c6, run_c7, run_c8, run_c9, run_c10, Int.reduceAdd, Int.reduceLE, Int.reduceLT, Int.reduceNeg, Int.reduceSub, Nat.reduceAdd, Nat.reduceBEq, Nat.reduceLT, Nat.reduceLeDiff, Nat.reduceSub, reduceCtorEq, reduceIte, tvar_pu, tree_pu, kids_pu, noL_pu, e, hlt]
        first | rfl | (simp only [oLs, oF, run_c0, run_c1, run_c2, run_c3, run_c4, run_c5, run_c6, run_c7, run_c8, run_c9, run_c10, Int.reduceAdd, Int.reduceLE, Int.reduceLT, Int.reduceNeg, Int.reduceSub, Nat.reduceAdd, Nat.reduceBEq, Nat.reduceLT, Nat.reduceLeDiff, Nat.reduceSub, reduceCtorEq, reduceIte]; done)
      · rcases List.mem_append.mp my with my | my
        · exact hg y my
        · simp at my; subst my; exact hl')
  refine ⟨(c, lots), p3, ?_, ⟨by show 0 ≤ c ∧ c ≤ m; omega, by show lots.length ≤ _; omega, h5⟩, P3.up (by omega)⟩
  simp only [run_c0, run_c1, run_c2, run_c3, run_c4, run_c5, run_c6, run_c7, run_c8, run_c9, run_c10, Int.reduceAdd, Int.reduceLE, Int.reduceLT, Int.reduceNeg, Int.reduceSub, Nat.reduceAdd, Nat.reduceBEq, Nat.reduceLT, Nat.reduceLeDiff, Nat.reduceSub, reduceCtorEq, reduceIte, tvar_pu, tree_pu, kids_pu, noL_pu, e1, e2, hr] at h3 ⊢
  simp only [h3, run_c0, run_c1, run_c2, run_c3, run_c4, run_c5, run_c6, run_c7, run_c8, run_c9, run_c10, Int.reduceAdd, Int.reduceLE, Int.reduceLT, Int.reduceNeg, Int.reduceSub, Nat.reduceAdd, Nat.reduceBEq, Nat.reduceLT, Nat.reduceLeDiff, Nat.reduceSub, reduceCtorEq, reduceIte]
end Mi
set_option linter.all false
set_option maxRecDepth 100000
set_option maxHeartbeats 1000000
namespace Mi
open Enc (enc)
/-! ### dicts as lists of keys and of values -/
theorem kGet_len {κ α : Type} [DecidableEq κ] {k : κ} : ∀ {ks : List κ} {xs : List α}, k ∈ ks → ks.length = xs.length → ∃ x, kGet ks xs k = some x ∧ x ∈ xs
  | [], _, m, _ => nomatch m
  | z :: ks, [], _, h => by simp at h
  | z :: ks, x :: xs, m, h => by
    rw [kGet]
    by_cases e : z = k
    · exact ⟨x, by rw [if_pos e], by simp⟩
    · rw [if_neg e]
      obtain ⟨y, e1, e2⟩ := kGet_len (xs := xs) ((List.mem_cons.mp m).elim (fun q => (e q.symm).elim) id) (by simpa using h)
      exact ⟨y, e1, by simp [e2]⟩
theorem kGet_mem {κ α : Type} [DecidableEq κ] {k : κ} {x : α} : ∀ {ks : List κ} {xs : List α}, kGet ks xs k = some x → x ∈ xs
  | [], xs, e => by simp [kGet] at e
  | z :: ks, [], e => by simp [kGet] at e
  | z :: ks, y :: xs, e => by
    rw [kGet] at e
    split at e
    · injection e with e; simp [e]
    · have := kGet_mem e; simp [this]
theorem kGet_none {κ α : Type} [DecidableEq κ] {k : κ} : ∀ {ks : List κ} {xs : List α}, k ∉ ks → kGet ks xs k = none
  | [], xs, _ => by simp [kGet]
  | z :: ks, [], _ => by simp [kGet]
  | z :: ks, y :: xs, h => by
    rw [kGet, if_neg fun e => h (by simp [e])]
    exact kGet_none fun m => h (by simp [m])
theorem kGet_map {κ α β : Type} [DecidableEq κ] (f : α → β) (k : κ) : ∀ (ks : List κ) (xs : List α), kGet ks (xs.map f) k = (kGet ks xs k).map f
  | [], xs => by simp [kGet]
  | z :: ks, [] => by simp [kGet]
  | z :: ks, y :: xs => by
    simp only [List.map_cons, kGet]
    split
    · rfl
    · exact kGet_map f k ks xs
theorem kHas_iff {κ : Type} [DecidableEq κ] {ks : List κ} {k : κ} : kHas ks k = true ↔ k ∈ ks := by
  unfold kHas
  rw [List.any_eq_true]
  constructor
  · rintro ⟨z, m, e⟩
    rw [← of_decide_eq_true e]; exact m
  · exact fun m => ⟨k, m, by simp⟩
theorem kSet_len' {κ α : Type} [DecidableEq κ] {z : κ} {v : α} : ∀ (ks : List κ) (xs : List α), (kSet ks xs z v).length = xs.length
  | [], xs => by simp [kSet]
  | k :: ks, [] => by simp [kSet]
  | k :: ks, x :: xs => by
    rw [kSet]
    split
    · rfl
    · simp [kSet_len' ks xs]
theorem kPut_lens {κ α : Type} [DecidableEq κ] {ks : List κ} {xs : List α} (h : ks.length = xs.length) (k : κ) (v : α) : (kPutK ks k).length = (kPutX ks xs k v).length := by
  unfold kPutK kPutX
  have go : ∀ (ks : List κ) (xs : List α), (kSet ks xs k v).length = xs.length := fun ks xs => kSet_len' ks xs
  split
  · rw [go]; exact h
  · simp [h]
theorem kGet_kSet {κ α : Type} [DecidableEq κ] {k : κ} {v : α} : ∀ {ks : List κ} {xs : List α}, k ∈ ks → ks.length = xs.length → kGet ks (kSet ks xs k v) k = some v
  | [], _, m, _ => nomatch m
  | z :: ks, [], _, h => by simp at h
  | z :: ks, x :: xs, m, h => by
    rw [kSet]
    by_cases e : z = k
    · rw [if_pos e, kGet, if_pos e]
    · rw [if_neg e, kGet, if_neg e]
      exact kGet_kSet ((List.mem_cons.mp m).elim (fun q => (e q.symm).elim) id) (by simpa using h)
theorem kGet_app {κ α : Type} [DecidableEq κ] {k : κ} {v : α} : ∀ {ks : List κ} {xs : List α}, k ∉ ks → ks.length = xs.length → kGet (ks ++ [k]) (xs ++ [v]) k = some v
  | [], [], _, _ => by simp [kGet]
  | [], x :: xs, _, h => by simp at h
  | z :: ks, [], _, h => by simp at h
  | z :: ks, x :: xs, m, h => by
    simp only [List.cons_append, kGet]
    rw [if_neg fun e => m (by simp [e])]
    exact kGet_app (fun q => m (by simp [q])) (by simpa using h)
theorem kGet_put {κ α : Type} [DecidableEq κ] {ks : List κ} {xs : List α} (h : ks.length = xs.length) (k : κ) (v : α) : kGet (kPutK ks k) (kPutX ks xs k v) k = some v := by
  unfold kPutK kPutX
  cases q : kHas ks k with
  | true => exact kGet_kSet (kHas_iff.mp q) h
  | false =>
    exact kGet_app (fun m => by rw [kHas_iff.mpr m] at q; cases q) h
theorem has_true' {α : Type} [DecidableEq α] {xs : List α} {x : α} (m : x ∈ xs) : has xs x = true := by
  unfold has
  rw [List.any_eq_true]
  exact ⟨x, m, by simp⟩
/-- each once, as they come -/
def dd {α : Type} [DecidableEq α] (xs : List α) : List α := xs.foldl kPutK []
theorem kPutK_mem {α : Type} [DecidableEq α] {xs : List α} {x y : α} : y ∈ kPutK xs x ↔ y ∈ xs ∨ y = x := by
  unfold kPutK
  split
  · rename_i h
    have : x ∈ xs := has_iff.mp h
    exact ⟨.inl, fun z => z.elim id fun e => e ▸ this⟩
  · simp
theorem kPutK_nodup {α : Type} [DecidableEq α] {xs : List α} {x : α} (h : xs.Nodup) : (kPutK xs x).Nodup := by
  unfold kPutK
  split
  · exact h
  · rename_i c
    refine List.nodup_append.mpr ⟨h, by simp, fun a m b mb e => c ?_⟩
    rw [List.mem_singleton.mp mb] at e
    exact has_iff.mpr (e ▸ m)
theorem kPutK_len {α : Type} [DecidableEq α] (xs : List α) (x : α) : (kPutK xs x).length ≤ xs.length + 1 := by
  unfold kPutK; split <;> simp
theorem fold_mem {α : Type} [DecidableEq α] {y : α} : ∀ (xs acc : List α), y ∈ xs.foldl kPutK acc ↔ y ∈ acc ∨ y ∈ xs
  | [], acc => by simp
  | x :: xs, acc => by
    rw [List.foldl_cons, fold_mem xs, kPutK_mem, List.mem_cons, or_assoc]
theorem fold_nodup {α : Type} [DecidableEq α] : ∀ (xs acc : List α), acc.Nodup → (xs.foldl kPutK acc).Nodup
  | [], acc, h => h
  | x :: xs, acc, h => fold_nodup xs _ (kPutK_nodup h)
theorem fold_len {α : Type} [DecidableEq α] : ∀ (xs acc : List α), (xs.foldl kPutK acc).length ≤ acc.length + xs.length
  | [], acc => by simp
  | x :: xs, acc => by
    have := fold_len xs (kPutK acc x)
    have := kPutK_len acc x
    simp only [List.foldl_cons, List.length_cons]; omega
theorem dd_mem {α : Type} [DecidableEq α] {y : α} {xs : List α} : y ∈ dd xs ↔ y ∈ xs := by unfold dd; rw [fold_mem]; simp
theorem dd_nodup {α : Type} [DecidableEq α] (xs : List α) : (dd xs).Nodup := fold_nodup xs [] .nil
theorem dd_len {α : Type} [DecidableEq α] (xs : List α) : (dd xs).length ≤ xs.length := by have := fold_len xs []; simpa [dd] using this
theorem kPutK_map {α β : Type} [DecidableEq α] [DecidableEq β] {f : α → β} (hf : ∀ a b, f a = f b → a = b) (xs : List α) (x : α) : kPutK (xs.map f) (f x) = (kPutK xs x).map f := by
  unfold kPutK
  have : kHas (xs.map f) (f x) = kHas xs x := by
    unfold kHas
    rw [List.any_map]
    congr 1
    funext z
    simp only [Function.comp]
    exact decide_eq_decide.mpr ⟨fun e => hf _ _ e, fun e => by rw [e]⟩
  rw [this]
  split <;> simp
theorem dd_map {α β : Type} [DecidableEq α] [DecidableEq β] {f : α → β} (hf : ∀ a b, f a = f b → a = b) (xs : List α) : dd (xs.map f) = (dd xs).map f := by
  have go : ∀ (xs acc : List α), (xs.map f).foldl kPutK (acc.map f) = (xs.foldl kPutK acc).map f := fun xs => by
    induction xs with
    | nil => intro acc; rfl
    | cons x xs ih => intro acc; simp only [List.map_cons, List.foldl_cons]; rw [kPutK_map hf, ih]
  exact go xs []
theorem kPutX_const {κ α : Type} [DecidableEq κ] (c : α) (ks : List κ) (k : κ) : kPutX ks (ks.map fun _ => c) k c = (kPutK ks k).map fun _ => c := by
  have go : ∀ ks : List κ, kSet ks (ks.map fun _ => c) k c = ks.map fun _ => c := fun ks => by
    induction ks with
    | nil => rfl
    | cons z ks ih =>
      simp only [List.map_cons, kSet]
      split
      · rfl
      · rw [ih]
  unfold kPutX kPutK
  split
  · exact go ks
  · simp
theorem kPutX_map {κ μ α : Type} [DecidableEq κ] [DecidableEq μ] {f : κ → μ} (hf : ∀ a b, f a = f b → a = b) (c : α) (ks : List κ) (k : κ) : kPutX (ks.map f) (ks.map fun _ => c) (f k) c = (kPutK ks k).map fun _ => c := by
  have : (ks.map fun _ => c) = (ks.map f).map fun _ => c := by simp
  rw [this, kPutX_const, kPutK_map hf, List.map_map]
  rfl
end Mi
set_option linter.all false
set_option maxRecDepth 100000
set_option maxHeartbeats 1000000
namespace Mi
open Enc (enc)
/-! ### all things of a frame -/
def cap (lot t : List Int) : List Int := t.filter fun x => has lot x
def stepK (ks : List (List Int)) (lot : List Int) : List (List Int) := (ks.map (cap lot)).foldl kPutK ks
def genK (f : Fr) : List (List Int) := f.2.foldl stepK [rangeI f.1]
def leI (a b : List Int) : Bool := T.le (enc a) (enc b)
def allT (f : Fr) : List (List Int) := (genK f).mergeSort leI
/-- a tuple of numbers -/
def tupE (t : List Int) : T := .tup (t.map T.int)
theorem tupE_inj {a b : List Int} (e : tupE a = tupE b) : a = b := by
  unfold tupE at e
  injection e with e
  exact List.map_inj_right (fun x y h => by injection h) |>.mp e
theorem keyN_tupE (t : List Int) : T.keyN 8 (tupE t) = true := by
  show T.keyNs 7 (t.map T.int) = true
  induction t with
  | nil => rfl
  | cons x t ih => rw [List.map_cons, T.keyNs, ih]; rfl
abbrev oT (ks : List (List Int)) : OT := .dct (ks.map tupE) (ks.map fun _ => .sh (.bl true))
theorem gList_tupE (t : List Int) : gList (tupE t) = some (oE t) := by
  show some (flat (t.map T.int)) = _
  simp [flat, List.map_map, Function.comp_def]
  intros; rfl
theorem gTuple_ints (t : List Int) : gTuple (enc t) = some (.sh (tupE t)) := rfl
theorem genK_len : ∀ (ls : List (List Int)) (ks : List (List Int)), (ls.foldl stepK ks).length ≤ ks.length * 2 ^ ls.length
  | [], ks => by simp
  | l :: ls, ks => by
    have h := genK_len ls (stepK ks l)
    have h2 := fold_len (ks.map (cap l)) ks
    rw [List.length_map] at h2
    rw [List.foldl_cons, List.length_cons, Nat.pow_succ]
    refine Nat.le_trans h ?_
    have : (stepK ks l).length ≤ ks.length * 2 := by unfold stepK; omega
    calc (stepK ks l).length * 2 ^ ls.length ≤ (ks.length * 2) * 2 ^ ls.length := Nat.mul_le_mul_right _ this
      _ = ks.length * (2 ^ ls.length * 2) := by rw [Nat.mul_assoc, Nat.mul_comm 2]
theorem all_b1 (o0 o1 o2 : Option OT) (lot : List Int) (ks : List (List Int)) (t : List Int) (hl : ks.length < 16777216) :
    t_all_things_b1 [o0, o1, o2, some (oT ks), some (.sh (enc lot)), some (.sh (tupE t))] = .nx [o0, o1, o2, some (oT (kPutK ks (cap lot t))), some (.sh (enc lot)), none] := by
  have e1 := kPutK_map (f := tupE) (fun a b => tupE_inj) ks (cap lot t)
  have e2 := kPutX_map (f := tupE) (fun a b => tupE_inj) (OT.sh (.bl true)) ks (cap lot t)
  have r := run_common t lot
  unfold t_all_things_b1
  have gT : gTuple (enc (t.filter fun x => has lot x)) = some (.sh (tupE (cap lot t))) := rfl
  simp only [run_c0, run_c1, run_c2, run_c3, run_c4, run_c5, run_c6, run_c7, run_c8, run_c9, run_c10, Int.reduceAdd, Int.reduceLE, Int.reduceLT, Int.reduceNeg, Int.reduceSub, Nat.reduceAdd, Nat.reduceBEq, Nat.reduceLT, Nat.reduceLeDiff, Nat.reduceSub, reduceCtorEq, reduceIte, gList_tupE, r, gT, keyN_tupE, e1, e2, hl]
theorem all_loop1 (o0 o1 o2 : Option OT) (lot : List Int) : ∀ (ts ks : List (List Int)), ks.length + ts.length < 16777216 →
    tloop (tgOne (tgName 5)) t_all_things_b1 (ts.map fun t => .one (tupE t)) [o0, o1, o2, some (oT ks), some (.sh (enc lot)), none] = .nx [o0, o1, o2, some (oT ((ts.map (cap lot)).foldl kPutK ks)), some (.sh (enc lot)), none]
  | [], ks, _ => rfl
  | t :: ts, ks, h => by
    simp only [List.length_cons] at h
    have := kPutK_len ks (cap lot t)
    rw [List.map_cons, tloop]
    show tturn _ (t_all_things_b1 [o0, o1, o2, some (oT ks), some (.sh (enc lot)), some (.sh (tupE t))]) = _
    rw [all_b1 o0 o1 o2 lot ks t (by omega), tturn_nx, all_loop1 o0 o1 o2 lot ts _ (by omega)]
    rfl
theorem all_b2 (o0 o1 o2 : Option OT) (lot : List Int) (ks : List (List Int)) (h : ks.length < 8000000) :
    t_all_things_b2 [o0, o1, o2, some (oT ks), some (.sh (enc lot)), none] = .nx [o0, o1, o2, some (oT (stepK ks lot)), none, none] := by
  have L := all_loop1 o0 o1 o2 lot ks ks (by omega)
  unfold t_all_things_b2
  simp only [run_c0, run_c1, run_c2, run_c3, run_c4, run_c5, run_c6, run_c7, run_c8, run_c9, run_c10, Int.reduceAdd, Int.reduceLE, Int.reduceLT, Int.reduceNeg, Int.reduceSub, Nat.reduceAdd, Nat.reduceBEq, Nat.reduceLT, Nat.reduceLeDiff, Nat.reduceSub, reduceCtorEq, reduceIte]
  erw [L]
  rfl
theorem all_loop2 (f : Fr) : ∀ (ls ks : List (List Int)), ks.length * 2 ^ ls.length < 8000000 →
    tloop (tgOne (tgName 4)) t_all_things_b2 (ls.map fun l => .one (enc l)) [some (.sh (enc f)), some (.sh (.int f.1)), some (.sh (enc f.2)), some (oT ks), none, none] = .nx [some (.sh (enc f)), some (.sh (.int f.1)), some (.sh (enc f.2)), some (oT (ls.foldl stepK ks)), none, none]
  | [], ks, _ => rfl
  | l :: ls, ks, h => by
    rw [List.length_cons, Nat.pow_succ] at h
    have p : 0 < 2 ^ ls.length := Nat.two_pow_pos _
    have h2 := fold_len (ks.map (cap l)) ks
    rw [List.length_map] at h2
    have h3 : (stepK ks l).length ≤ ks.length * 2 := by unfold stepK; omega
    have h4 : (stepK ks l).length * 2 ^ ls.length ≤ (ks.length * 2) * 2 ^ ls.length := Nat.mul_le_mul_right _ h3
    have h5 : ks.length * 1 ≤ ks.length * (2 ^ ls.length * 2) := Nat.mul_le_mul_left _ (by omega)
    have h6 : (ks.length * 2) * 2 ^ ls.length = ks.length * (2 ^ ls.length * 2) := by rw [Nat.mul_assoc, Nat.mul_comm 2]
    rw [List.map_cons, tloop]
    show tturn _ (t_all_things_b2 [some (.sh (enc f)), some (.sh (.int f.1)), some (.sh (enc f.2)), some (oT ks), some (.sh (enc l)), none]) = _
    rw [all_b2 _ _ _ l ks (by omega), tturn_nx, all_loop2 f ls _ (by omega)]
    rfl
theorem kPutK_head {κ : Type} [DecidableEq κ] (x : κ) (r : List κ) (k : κ) : ∃ r', kPutK (x :: r) k = x :: r' := by
  unfold kPutK
  split
  · exact ⟨r, rfl⟩
  · exact ⟨r ++ [k], rfl⟩
theorem fold_head {κ : Type} [DecidableEq κ] (x : κ) : ∀ (ts r : List κ), ∃ r', ts.foldl kPutK (x :: r) = x :: r'
  | [], r => ⟨r, rfl⟩
  | t :: ts, r => by
    obtain ⟨r1, e⟩ := kPutK_head x r t
    rw [List.foldl_cons, e]
    exact fold_head x ts r1
theorem step_head (x : List Int) : ∀ (ls r : List (List Int)), ∃ r', ls.foldl stepK (x :: r) = x :: r'
  | [], r => ⟨r, rfl⟩
  | l :: ls, r => by
    obtain ⟨r1, e⟩ := fold_head x ((x :: r).map (cap l)) r
    rw [List.foldl_cons, stepK, e]
    exact step_head x ls r1
theorem genK_nodup (f : Fr) : (genK f).Nodup := by
  unfold genK
  have go : ∀ (ls ks : List (List Int)), ks.Nodup → (ls.foldl stepK ks).Nodup := fun ls => by
    induction ls with
    | nil => intro ks h; exact h
    | cons l ls ih => intro ks h; exact ih _ (fold_nodup _ _ h)
  exact go f.2 _ (by simp)
/-- each is the whole, kept to some of the lots -/
theorem genK_sub (f : Fr) : ∀ t ∈ genK f, ∃ p : Int → Bool, t = (rangeI f.1).filter p := by
  unfold genK
  have go : ∀ (ls ks : List (List Int)), (∀ t ∈ ks, ∃ p : Int → Bool, t = (rangeI f.1).filter p) → ∀ t ∈ ls.foldl stepK ks, ∃ p : Int → Bool, t = (rangeI f.1).filter p := fun ls => by
    induction ls with
    | nil => intro ks h; exact h
    | cons l ls ih =>
      intro ks h
      refine ih _ fun t m => ?_
      rcases (fold_mem _ _).mp m with m | m
      · exact h t m
      · obtain ⟨u, mu, rfl⟩ := List.mem_map.mp m
        obtain ⟨p, rfl⟩ := h u mu
        exact ⟨fun x => has l x && p x, by rw [cap, List.filter_filter]⟩
  exact go f.2 _ fun t m => ⟨fun _ => true, by rw [List.mem_singleton.mp m, List.filter_eq_self.mpr fun _ _ => rfl]⟩
theorem alk_tupE (a b : List Int) : T.alk (tupE a) (tupE b) = true := by
  show T.alks (a.map T.int) (b.map T.int) = true
  induction a generalizing b with
  | nil => cases b <;> rfl
  | cons x a ih => cases b with
    | nil => rfl
    | cons y b => simpa [T.alks, T.alk] using ih b
theorem canSort_gen (f : Fr) : canSortX ((genK f).map tupE) = true := by
  unfold canSortX
  rw [Bool.or_eq_true]
  right
  have al : ((genK f).map tupE).all T.isTup = true := List.all_eq_true.mpr fun t m => by
    obtain ⟨l, _, rfl⟩ := List.mem_map.mp m; rfl
  have ak : (((genK f).map tupE).all fun a => ((genK f).map tupE).all fun b => T.alk a b) = true := List.all_eq_true.mpr fun t m => List.all_eq_true.mpr fun u n => by
    obtain ⟨w, _, rfl⟩ := List.mem_map.mp m
    obtain ⟨v, _, rfl⟩ := List.mem_map.mp n
    exact alk_tupE w v
  rw [al, ak, Bool.and_true, Bool.and_true]
  obtain ⟨r, e⟩ := step_head (rangeI f.1) f.2 []
  have e : genK f = rangeI f.1 :: r := e
  cases hr : rangeI f.1 with
  | cons x xs =>
    rw [e, hr]
    cases r <;> rfl
  | nil =>
    have hn := genK_nodup f
    have hs := genK_sub f
    rw [hr] at hs
    rw [e, hr] at hn hs ⊢
    cases r with
    | nil => rfl
    | cons y ys =>
      obtain ⟨p, hy⟩ := hs y (by simp)
      simp at hy
      subst hy
      simp at hn
theorem sort_tupE (ks : List (List Int)) : (ks.map tupE).mergeSort T.le = (ks.mergeSort leI).map tupE :=
  (List.map_mergeSort (r := leI) (s := T.le) (f := tupE) (fun a _ b _ => rfl)).symm
theorem run_all_things (f : Fr) (hf : isFrameB f = true) (hl : f.2.length ≤ 20) : t_all_things [.sh (enc f)] = .ok (oLs (allT f)) [] := by
  have F := isFrame_iff.mp hf
  have hr : rngOk f.1 = true := rngOk_of (by omega)
  have h2 : 2 ^ f.2.length ≤ 2 ^ 20 := Nat.pow_le_pow_right (by decide) hl
  have h3 : 2 ^ 20 = 1048576 := by decide
  have L := all_loop2 f f.2 [rangeI f.1] (by simp; omega)
  have e0 : gTupRng (.int f.1) = some (.sh (tupE (rangeI f.1))) := by
    simp only [gTupRng, hr, if_true]
    simp [tupE, rangeI, rngT, List.map_map, Function.comp_def]
  have e1 : gSortedD (.dct ((genK f).map tupE) ((genK f).map fun _ => .bl true)) = some (.lst ((allT f).map fun t => .sh (tupE t))) := by
    simp only [gSortedD, canSort_gen, if_true, sort_tupE, flat, List.map_map, Function.comp_def, allT]
  unfold t_all_things
  simp only [run_c0, run_c1, run_c2, run_c3, run_c4, run_c5, run_c6, run_c7, run_c8, run_c9, run_c10, Int.reduceAdd, Int.reduceLE, Int.reduceLT, Int.reduceNeg, Int.reduceSub, Nat.reduceAdd, Nat.reduceBEq, Nat.reduceLT, Nat.reduceLeDiff, Nat.reduceSub, reduceCtorEq, reduceIte, e0, keyN_tupE]
  erw [L]
  simp only [run_c0, run_c1, run_c2, run_c3, run_c4, run_c5, run_c6, run_c7, run_c8, run_c9, run_c10, Int.reduceAdd, Int.reduceLE, Int.reduceLT, Int.reduceNeg, Int.reduceSub, Nat.reduceAdd, Nat.reduceBEq, Nat.reduceLT, Nat.reduceLeDiff, Nat.reduceSub, reduceCtorEq, reduceIte]
  rw [show f.2.foldl stepK [rangeI f.1] = genK f from rfl]
  simp only [run_c0, run_c1, run_c2, run_c3, run_c4, run_c5, run_c6, run_c7, run_c8, run_c9, run_c10, Int.reduceAdd, Int.reduceLE, Int.reduceLT, Int.reduceNeg, Int.reduceSub, Nat.reduceAdd, Nat.reduceBEq, Nat.reduceLT, Nat.reduceLeDiff, Nat.reduceSub, reduceCtorEq, reduceIte, e1]
  rw [tlcGo_map _ ?H1 rfl]
  case H1 => intro m hm; refine ⟨_, ?w1, ?s31, ?s41, rfl, ?h11, ?h21, ?h31⟩; (case h11 => simp only [run_c0, run_c1, run_c2, run_c3, run_c4, run_c5, run_c6, run_c7, run_c8, run_c9, run_c10, Int.reduceAdd, Int.reduceLE, Int.reduceLT, Int.reduceNeg, Int.reduceSub, Nat.reduceAdd, Nat.reduceBEq, Nat.reduceLT, Nat.reduceLeDiff, Nat.reduceSub, reduceCtorEq, reduceIte, gList_tupE]; rfl); (case h21 => rfl); (case h31 => rfl)
  rfl
theorem run_things (f : Fr) (hf : isFrameB f = true) (hl : f.2.length ≤ 20) : t_things [.sh (enc f)] = .ok (oLs (allT f)) [] := by
  unfold t_things
  simp only [run_c0, run_c1, run_c2, run_c3, run_c4, run_c5, run_c6, run_c7, run_c8, run_c9, run_c10, Int.reduceAdd, Int.reduceLE, Int.reduceLT, Int.reduceNeg, Int.reduceSub, Nat.reduceAdd, Nat.reduceBEq, Nat.reduceLT, Nat.reduceLeDiff, Nat.reduceSub, reduceCtorEq, reduceIte, run_must_frame, hf, run_all_things f hf hl]
theorem run_closing (f : Fr) (hf : isFrameB f = true) (lot : List Int) (h : isLotB f.1 lot = true) : t_closing [.sh (enc f), .sh (enc lot)] = .ok (oE (closedL f lot)) [] := by
  have F := isFrame_iff.mp hf
  unfold t_closing
  simp only [run_c0, run_c1, run_c2, run_c3, run_c4, run_c5, run_c6, run_c7, run_c8, run_c9, run_c10, Int.reduceAdd, Int.reduceLE, Int.reduceLT, Int.reduceNeg, Int.reduceSub, Nat.reduceAdd, Nat.reduceBEq, Nat.reduceLT, Nat.reduceLeDiff, Nat.reduceSub, reduceCtorEq, reduceIte, run_must_frame, hf, run_must_lot, h, run_closed f lot (show -100000 ≤ f.1 ∧ f.1 ≤ 100000 by omega)]
/-! what the things are -/
theorem flt_true {α : Type} (xs : List α) : xs.filter (fun _ => true) = xs := List.filter_eq_self.mpr fun _ _ => rfl
/-- the whole kept to any of the lots is there -/
theorem genK_all (f : Fr) (p : List Int → Bool) : ((rangeI f.1).filter fun x => f.2.all fun l => !p l || has l x) ∈ genK f := by
  have go : ∀ (ls ks : List (List Int)) (q : Int → Bool), (rangeI f.1).filter q ∈ ks → ((rangeI f.1).filter fun x => q x && ls.all fun l => !p l || has l x) ∈ ls.foldl stepK ks := fun ls => by
    induction ls with
    | nil =>
      intro ks q h
      simpa using h
    | cons l ls ih =>
      intro ks q h
      rw [List.foldl_cons]
      cases hp : p l with
      | true =>
        have h2 : (rangeI f.1).filter (fun x => has l x && q x) ∈ stepK ks l := by
          refine (fold_mem _ _).mpr (.inr (List.mem_map.mpr ⟨_, h, ?_⟩))
          rw [cap, List.filter_filter]
        have := ih _ _ h2
        refine cast (congrArg (· ∈ _) (List.filter_congr fun x _ => ?_)) this
        rw [List.all_cons, hp]
        cases has l x <;> cases q x <;> rfl
      | false =>
        have h2 : (rangeI f.1).filter q ∈ stepK ks l := (fold_mem _ _).mpr (.inl h)
        have := ih _ _ h2
        refine cast (congrArg (· ∈ _) (List.filter_congr fun x _ => ?_)) this
        rw [List.all_cons, hp]
        rfl
  have := go f.2 [rangeI f.1] (fun _ => true) (by rw [flt_true]; simp)
  unfold genK
  simpa using this
theorem genK_thing (f : Fr) : ∀ t ∈ genK f, isThingB f t = true := by
  have go : ∀ (ls ks : List (List Int)), (∀ l ∈ ls, l ∈ f.2) → (∀ t ∈ ks, isThingB f t = true) → ∀ t ∈ ls.foldl stepK ks, isThingB f t = true := fun ls => by
    induction ls with
    | nil => intro ks _ h; exact h
    | cons l ls ih =>
      intro ks hl h
      refine ih _ (fun y m => hl y (by simp [m])) fun t m => ?_
      rcases (fold_mem _ _).mp m with m | m
      · exact h t m
      · obtain ⟨u, mu, rfl⟩ := List.mem_map.mp m
        obtain ⟨u1, u2⟩ := isThing_iff.mp (h u mu)
        have hlot : isLotB f.1 (cap l u) = true := isLot_iff.mpr ⟨(isLot_iff.mp u1).1.filter _, fun x m => (isLot_iff.mp u1).2 x (List.mem_filter.mp m).1⟩
        refine isThing_iff.mpr ⟨hlot, lot_ext (isLot_closed _ _) hlot fun x => ⟨fun m => ?_, sub_closed hlot x⟩⟩
        obtain ⟨m1, m2⟩ := mem_closed.mp m
        refine List.mem_filter.mpr ⟨?_, has_iff.mpr (m2 l (hl l (by simp)) fun y my => has_iff.mp (List.mem_filter.mp my).2)⟩
        rw [← u2]
        exact mem_closed.mpr ⟨m1, fun l' ml' hs => m2 l' ml' fun y my => hs y (List.mem_filter.mp my).1⟩
  refine go f.2 _ (fun _ m => m) fun t m => ?_
  rw [List.mem_singleton.mp m]
  refine isThing_iff.mpr ⟨isLot_range _, lot_ext (isLot_closed _ _) (isLot_range _) fun x => ⟨fun m => ?_, sub_closed (isLot_range _) x⟩⟩
  exact mem_rangeI.mpr (mem_closed.mp m).1
theorem mem_genK {f : Fr} {t : List Int} : t ∈ genK f ↔ isThingB f t = true := by
  refine ⟨genK_thing f t, fun h => ?_⟩
  obtain ⟨h1, h2⟩ := isThing_iff.mp h
  have := genK_all f fun l => holds l t
  rw [← closedL_eq, h2] at this
  exact this
theorem mem_allT {f : Fr} {t : List Int} : t ∈ allT f ↔ isThingB f t = true := by unfold allT; rw [List.mem_mergeSort, mem_genK]
theorem allT_nodup (f : Fr) : (allT f).Nodup := ((List.mergeSort_perm _ _).nodup_iff).mpr (genK_nodup f)
/-! the order of the things -/
theorem lts_ints (a b : List Int) : T.lts (a.map T.int) (b.map T.int) = decide (a < b) := by
  induction a generalizing b with
  | nil => cases b with
    | nil => rfl
    | cons y b => simp [T.lts]
  | cons x a ih => cases b with
    | nil => simp [T.lts]
    | cons y b =>
      simp only [List.map_cons, T.lts, T.eqv, T.lt, beq_iff_eq, ih b]
      by_cases e : x = y
      · subst e
        simp [List.cons_lt_cons_iff]
      · simp [List.cons_lt_cons_iff, e]
theorem leI_iff {a b : List Int} : leI a b = true ↔ a ≤ b := by
  show (!T.lts (b.map T.int) (a.map T.int)) = true ↔ _
  rw [lts_ints]
  simp [List.not_lt]
theorem leI_total (a b : List Int) : (leI a b || leI b a) = true := by
  rw [Bool.or_eq_true, leI_iff, leI_iff]
  exact List.le_total a b
theorem leI_trans {a b c : List Int} (h : leI a b = true) (h' : leI b c = true) : leI a c = true := leI_iff.mpr (List.le_trans (leI_iff.mp h) (leI_iff.mp h'))
theorem leI_anti {a b : List Int} (h : leI a b = true) (h' : leI b a = true) : a = b := List.le_antisymm (leI_iff.mp h) (leI_iff.mp h')
/-- two lists with the same items once each, sorted, are the same -/
theorem sortI_ext {l m : List (List Int)} (hl : l.Nodup) (hm : m.Nodup) (h : ∀ x, x ∈ l ↔ x ∈ m) : l.mergeSort leI = m.mergeSort leI := by
  have p : l.Perm m := (List.perm_ext_iff_of_nodup hl hm).mpr h
  have pw : ∀ xs : List (List Int), (xs.mergeSort leI).Pairwise fun a b => leI a b = true := fun xs => List.pairwise_mergeSort (le := leI) (fun a b c h h' => leI_trans h h') leI_total xs
  have pp : (l.mergeSort leI).Perm (m.mergeSort leI) := (List.mergeSort_perm _ _).trans (p.trans (List.mergeSort_perm _ _).symm)
  exact List.Perm.eq_of_pairwise (fun a b _ _ h h' => leI_anti h h') (pw l) (pw m) pp
end Mi
set_option linter.all false
set_option maxRecDepth 100000
set_option maxHeartbeats 1000000
namespace Mi
open Enc (enc)
/-! ### the laws' things -/
theorem gSorted_leI (ys : List (List Int)) : gSorted (enc ys) = some (oE (ys.mergeSort leI)) := by
  have f : T.fitNs 59 (ys.map enc) = true := fitNs_map 59 _ _ fun l _ => fitN_mono _ _ 59 (by decide) (Fits.fit (α := List Int) l)
  have c : canSort (ys.map enc) = true := by
    unfold canSort
    rw [Bool.and_eq_true, Bool.or_eq_true]
    refine ⟨.inr (List.all_eq_true.mpr fun t m => ?_), List.all_eq_true.mpr fun t m => List.all_eq_true.mpr fun u n => ?_⟩
    · obtain ⟨w, _, rfl⟩ := List.mem_map.mp m; rfl
    · obtain ⟨w, _, rfl⟩ := List.mem_map.mp m
      obtain ⟨v, _, rfl⟩ := List.mem_map.mp n
      exact alk_tupE w v
  have e : (ys.map enc).mergeSort T.le = (ys.mergeSort leI).map enc := (List.map_mergeSort (r := leI) (s := T.le) (f := (enc : List Int → T)) (fun a _ b _ => rfl)).symm
  show gSorted (.lst (ys.map enc)) = _
  simp only [gSorted, f, c, e, Bool.and_self, if_true, flat, List.map_map, Function.comp_def]
def bitsL (c b : Int) : List Int := (rangeI c).filter fun x => decide ((((b / 2 ^ x.toNat).toNat &&& (1 : Int).toNat : Nat) : Int) = 1)
theorem bit_eq (b k : Nat) : decide (((((b : Int) / 2 ^ k).toNat &&& (1 : Int).toNat : Nat) : Int) = 1) = b.testBit k := by
  have h1 : ((b : Int) / 2 ^ k).toNat = b / 2 ^ k := by
    have : (2 : Int) ^ k = ((2 ^ k : Nat) : Int) := by push_cast; rfl
    rw [this, ← Int.natCast_ediv, Int.toNat_natCast]
  have h2 : (1 : Int).toNat = 1 := rfl
  rw [h1, h2, Nat.and_one_is_mod, Nat.testBit_eq_decide_div_mod_eq]
  exact decide_eq_decide.mpr (by omega)
theorem mem_bitsL {c : Int} {b k : Nat} : (k : Int) ∈ bitsL c b ↔ (k : Int) < c ∧ b.testBit k = true := by
  unfold bitsL
  rw [List.mem_filter, mem_rangeI, ← bit_eq]
  simp
def bsN (p : Nat → Bool) : Nat → Nat
  | 0 => 0
  | n + 1 => (if p n then 2 ^ n else 0) + bsN p n
theorem bsN_lt (p : Nat → Bool) : ∀ n, bsN p n < 2 ^ n
  | 0 => by simp [bsN]
  | n + 1 => by
    have := bsN_lt p n
    rw [bsN, Nat.pow_succ]
    split <;> omega
theorem bsN_bit (p : Nat → Bool) : ∀ n i, i < n → (bsN p n).testBit i = p i
  | 0, i, h => by omega
  | n + 1, i, h => by
    rw [bsN]
    by_cases e : i = n
    · subst e
      have lt := Nat.testBit_lt_two_pow (bsN_lt p i)
      cases q : p i with
      | true => simp [Nat.testBit_two_pow_add_eq, lt]
      | false => simp [lt]
    · have l : i < n := by omega
      cases q : p n with
      | true => simp [Nat.testBit_two_pow_add_gt l, bsN_bit p n i l]
      | false => simp [bsN_bit p n i l]
theorem isLot_bits (c b : Int) : isLotB c (bitsL c b) = true := isLot_filter _ _
/-- each lot comes of its bits -/
theorem bits_of {c : Int} (hc : 0 ≤ c) {t : List Int} (h : isLotB c t = true) : ∃ b : Nat, b < 2 ^ c.toNat ∧ bitsL c b = t := by
  refine ⟨bsN (fun k => has t (k : Int)) c.toNat, bsN_lt _ _, lot_ext (isLot_bits _ _) h fun x => ?_⟩
  constructor
  · intro m
    obtain ⟨h1, h2⟩ := (isLot_iff.mp (isLot_bits c (bsN (fun k => has t (k : Int)) c.toNat : Nat))).2 x m
    obtain ⟨k, rfl⟩ := Int.eq_ofNat_of_zero_le h1
    have q := (mem_bitsL.mp m).2
    rw [bsN_bit _ _ _ (by omega)] at q
    exact has_iff.mp q
  · intro m
    obtain ⟨h1, h2⟩ := (isLot_iff.mp h).2 x m
    obtain ⟨k, rfl⟩ := Int.eq_ofNat_of_zero_le h1
    exact mem_bitsL.mpr ⟨h2, by rw [bsN_bit _ _ _ (by omega)]; exact has_iff.mpr m⟩
theorem bits_inj {c : Int} {a b : Nat} (ha : a < 2 ^ c.toNat) (hb : b < 2 ^ c.toNat) (e : bitsL c a = bitsL c b) : a = b := by
  refine Nat.eq_of_testBit_eq fun i => ?_
  by_cases l : (i : Int) < c
  · have h1 := mem_bitsL (c := c) (b := a) (k := i)
    have h2 := mem_bitsL (c := c) (b := b) (k := i)
    rw [e] at h1
    have : a.testBit i = true ↔ b.testBit i = true := ⟨fun q => (h2.mp (h1.mpr ⟨l, q⟩)).2, fun q => (h1.mp (h2.mpr ⟨l, q⟩)).2⟩
    cases q : a.testBit i <;> cases q' : b.testBit i <;> simp_all
  · have hi : 2 ^ c.toNat ≤ 2 ^ i := Nat.pow_le_pow_right (by decide) (by omega)
    rw [Nat.testBit_lt_two_pow (by omega), Nat.testBit_lt_two_pow (by omega)]
/-- the lots of all bits that are closed -/
def allB (f : Fr) : List (List Int) := ((rangeI (1 * 2 ^ f.1.toNat)).map (bitsL f.1)).filter fun t => decide (closedL f t = t)
theorem allB_sort (f : Fr) (hc : 0 ≤ f.1) : (allB f).mergeSort leI = allT f := by
  have hp : (1 * 2 ^ f.1.toNat : Int) = ((2 ^ f.1.toNat : Nat) : Int) := by push_cast; omega
  refine sortI_ext ?_ (genK_nodup f) fun t => ?_
  · unfold allB
    refine List.Pairwise.filter _ ?_
    rw [hp]
    refine List.pairwise_map.mpr ((rangeI_pw _).imp_of_mem fun {a b} ma mb lt e => ?_)
    obtain ⟨a1, a2⟩ := mem_rangeI.mp ma
    obtain ⟨b1, b2⟩ := mem_rangeI.mp mb
    obtain ⟨x, rfl⟩ := Int.eq_ofNat_of_zero_le a1
    obtain ⟨y, rfl⟩ := Int.eq_ofNat_of_zero_le b1
    have := bits_inj (by exact_mod_cast a2) (by exact_mod_cast b2) e
    omega
  · rw [mem_genK, isThing_iff]
    unfold allB
    rw [List.mem_filter, List.mem_map, decide_eq_true_eq]
    constructor
    · rintro ⟨⟨b, _, rfl⟩, h⟩
      exact ⟨isLot_bits _ _, h⟩
    · rintro ⟨h1, h2⟩
      obtain ⟨b, hb, e⟩ := bits_of hc h1
      exact ⟨⟨(b : Int), mem_rangeI.mpr ⟨by omega, by rw [hp]; exact_mod_cast hb⟩, e⟩, h2⟩
theorem ldue_b1 (o0 : Option OT) (lot t : List Int) (ks : List (List Int)) (hl : ks.length < 16777216) :
    t__law_due_b1 [o0, some (oE ks), some (.sh (enc lot)), some (.sh (enc t)), none, none] = .nx [o0, some (oE (kPutK ks (cap lot t))), some (.sh (enc lot)), none, none, none] := by
  unfold t__law_due_b1
  simp only [run_c0, run_c1, run_c2, run_c3, run_c4, run_c5, run_c6, run_c7, run_c8, run_c9, run_c10, Int.reduceAdd, Int.reduceLE, Int.reduceLT, Int.reduceNeg, Int.reduceSub, Nat.reduceAdd, Nat.reduceBEq, Nat.reduceLT, Nat.reduceLeDiff, Nat.reduceSub, reduceCtorEq, reduceIte]
  rw [tlcGo_filter _ _ ?H1 rfl]
  case H1 => intro m hm; refine ⟨_, rfl, rfl, ?h11, fun _ => ?h21⟩; (case h11 => simp only [run_c0, run_c1, run_c2, run_c3, run_c4, run_c5, run_c6, run_c7, run_c8, run_c9, run_c10, Int.reduceAdd, Int.reduceLE, Int.reduceLT, Int.reduceNeg, Int.reduceSub, Nat.reduceAdd, Nat.reduceBEq, Nat.reduceLT, Nat.reduceLeDiff, Nat.reduceSub, reduceCtorEq, reduceIte]; rfl); (case h21 => simp only [run_c0, run_c1, run_c2, run_c3, run_c4, run_c5, run_c6, run_c7, run_c8, run_c9, run_c10, Int.reduceAdd, Int.reduceLE, Int.reduceLT, Int.reduceNeg, Int.reduceSub, Nat.reduceAdd, Nat.reduceBEq, Nat.reduceLT, Nat.reduceLeDiff, Nat.reduceSub, reduceCtorEq, reduceIte] <;> rfl)
  have e : (t.filter fun x => has lot x) = cap lot t := rfl
  have hk : kHas ks (cap lot t) = has ks (cap lot t) := rfl
  simp only [run_c0, run_c1, run_c2, run_c3, run_c4, run_c5, run_c6, run_c7, run_c8, run_c9, run_c10, Int.reduceAdd, Int.reduceLE, Int.reduceLT, Int.reduceNeg, Int.reduceSub, Nat.reduceAdd, Nat.reduceBEq, Nat.reduceLT, Nat.reduceLeDiff, Nat.reduceSub, reduceCtorEq, reduceIte, e, kPutK, hk]
  cases has ks (cap lot t)
  · simp only [run_c0, run_c1, run_c2, run_c3, run_c4, run_c5, run_c6, run_c7, run_c8, run_c9, run_c10, Int.reduceAdd, Int.reduceLE, Int.reduceLT, Int.reduceNeg, Int.reduceSub, Nat.reduceAdd, Nat.reduceBEq, Nat.reduceLT, Nat.reduceLeDiff, Nat.reduceSub, reduceCtorEq, reduceIte, hl]
  · simp only [run_c0, run_c1, run_c2, run_c3, run_c4, run_c5, run_c6, run_c7, run_c8, run_c9, run_c10, Int.reduceAdd, Int.reduceLE, Int.reduceLT, Int.reduceNeg, Int.reduceSub, Nat.reduceAdd, Nat.reduceBEq, Nat.reduceLT, Nat.reduceLeDiff, Nat.reduceSub, reduceCtorEq, reduceIte]
theorem ldue_loop1 (o0 : Option OT) (lot : List Int) : ∀ (ts ks : List (List Int)), ks.length + ts.length < 16777216 →
    tloop (tgOne (tgName 3)) t__law_due_b1 (ts.map fun t => .one (enc t)) [o0, some (oE ks), some (.sh (enc lot)), none, none, none] = .nx [o0, some (oE ((ts.map (cap lot)).foldl kPutK ks)), some (.sh (enc lot)), none, none, none]
  | [], ks, _ => rfl
  | t :: ts, ks, h => by
    simp only [List.length_cons] at h
    have := kPutK_len ks (cap lot t)
    rw [List.map_cons, tloop]
    show tturn _ (t__law_due_b1 [o0, some (oE ks), some (.sh (enc lot)), some (.sh (enc t)), none, none]) = _
    rw [ldue_b1 o0 lot t ks (by omega), tturn_nx, ldue_loop1 o0 lot ts _ (by omega)]
    rfl
theorem ldue_b2 (o0 : Option OT) (lot : List Int) (ks : List (List Int)) {N : OT} (hN : N = oE ks ∨ N = oLs ks) (h : ks.length < 8000000) :
    t__law_due_b2 [o0, some N, some (.sh (enc lot)), none, none, none] = .nx [o0, some (oE (stepK ks lot)), none, none, none, none] := by
  have L := ldue_loop1 o0 lot ks ks (by omega)
  unfold t__law_due_b2
  rcases hN with rfl | rfl
  all_goals
    simp only [oLs, run_c0, run_c1, run_c2, run_c3, run_c4, run_c5, run_c6, run_c7, run_c8, run_c9, run_c10, Int.reduceAdd, Int.reduceLE, Int.reduceLT, Int.reduceNeg, Int.reduceSub, Nat.reduceAdd, Nat.reduceBEq, Nat.reduceLT, Nat.reduceLeDiff, Nat.reduceSub, reduceCtorEq, reduceIte]
    erw [L]
    rfl
theorem ldue_loop2 (f : Fr) : ∀ (ls ks : List (List Int)) {N : OT} (hN : N = oE ks ∨ N = oLs ks), ks.length * 2 ^ ls.length < 8000000 →
    ∃ N' : OT, tloop (tgOne (tgName 2)) t__law_due_b2 (ls.map fun l => .one (enc l)) [some (.sh (enc f)), some N, none, none, none, none] = .nx [some (.sh (enc f)), some N', none, none, none, none] ∧ (N' = oE (ls.foldl stepK ks) ∨ N' = oLs (ls.foldl stepK ks))
  | [], ks, N, hN, _ => ⟨N, rfl, hN⟩
  | l :: ls, ks, N, hN, h => by
    rw [List.length_cons, Nat.pow_succ] at h
    have p : 0 < 2 ^ ls.length := Nat.two_pow_pos _
    have h2 := fold_len (ks.map (cap l)) ks
    rw [List.length_map] at h2
    have h3 : (stepK ks l).length ≤ ks.length * 2 := by unfold stepK; omega
    have h4 : (stepK ks l).length * 2 ^ ls.length ≤ (ks.length * 2) * 2 ^ ls.length := Nat.mul_le_mul_right _ h3
    have h5 : ks.length * 1 ≤ ks.length * (2 ^ ls.length * 2) := Nat.mul_le_mul_left _ (by omega)
    have h6 : (ks.length * 2) * 2 ^ ls.length = ks.length * (2 ^ ls.length * 2) := by rw [Nat.mul_assoc, Nat.mul_comm 2]
    obtain ⟨N', e, hN'⟩ := ldue_loop2 f ls (stepK ks l) (.inl rfl) (by omega)
    refine ⟨N', ?_, hN'⟩
    rw [List.map_cons, tloop]
    show tturn _ (t__law_due_b2 [some (.sh (enc f)), some N, some (.sh (enc l)), none, none, none]) = _
    rw [ldue_b2 _ l ks hN (by omega), tturn_nx, e]
theorem run_ldue (f : Fr) (hc : -100000 ≤ f.1 ∧ f.1 ≤ 100000) (hl : f.2.length ≤ 20) : t__law_due [.sh (enc f)] = .ok (oE (allT f)) [] := by
  have h2 : 2 ^ f.2.length ≤ 2 ^ 20 := Nat.pow_le_pow_right (by decide) hl
  have h3 : 2 ^ 20 = 1048576 := by decide
  obtain ⟨N, L, hN⟩ := ldue_loop2 f f.2 [rangeI f.1] (.inr rfl) (by simp; omega)
  have hg : f.2.foldl stepK [rangeI f.1] = genK f := rfl
  rw [hg] at hN
  have g := gSorted_leI (genK f)
  have i0 : gIx (enc f) (.int 0) = some (.sh (.int f.1)) := rfl
  have i1 : gIx (enc f) (.int 1) = some (.sh (enc f.2)) := rfl
  unfold t__law_due
  simp only [run_c0, run_c1, run_c2, run_c3, run_c4, run_c5, run_c6, run_c7, run_c8, run_c9, run_c10, Int.reduceAdd, Int.reduceLE, Int.reduceLT, Int.reduceNeg, Int.reduceSub, Nat.reduceAdd, Nat.reduceBEq, Nat.reduceLT, Nat.reduceLeDiff, Nat.reduceSub, reduceCtorEq, reduceIte, i0, i1, gRng_0 (c := f.1) (by omega)]
  erw [L]
  rcases hN with rfl | rfl
  all_goals
    simp only [oLs, run_c0, run_c1, run_c2, run_c3, run_c4, run_c5, run_c6, run_c7, run_c8, run_c9, run_c10, Int.reduceAdd, Int.reduceLE, Int.reduceLT, Int.reduceNeg, Int.reduceSub, Nat.reduceAdd, Nat.reduceBEq, Nat.reduceLT, Nat.reduceLeDiff, Nat.reduceSub, reduceCtorEq, reduceIte, g]
    rfl
theorem llots_b1 (f : Fr) (hc : 0 ≤ f.1 ∧ f.1 ≤ 40) (b : Int) (hb : 0 ≤ b) (ys : List (List Int)) (hl : ys.length < 16777216) :
    t__law_all_lots_b1 [some (.sh (enc f)), some (oE ys), some (.sh (.int b)), none, none] = .nx [some (.sh (enc f)), some (oE (ys ++ [bitsL f.1 b].filter fun t => decide (closedL f t = t))), none, none, none] := by
  have hr : rngOk f.1 = true := rngOk_of (by omega)
  have i0 : gIx (enc f) (.int 0) = some (.sh (.int f.1)) := rfl
  unfold t__law_all_lots_b1
  simp only [run_c0, run_c1, run_c2, run_c3, run_c4, run_c5, run_c6, run_c7, run_c8, run_c9, run_c10, Int.reduceAdd, Int.reduceLE, Int.reduceLT, Int.reduceNeg, Int.reduceSub, Nat.reduceAdd, Nat.reduceBEq, Nat.reduceLT, Nat.reduceLeDiff, Nat.reduceSub, reduceCtorEq, reduceIte, i0, hr]
  rw [tlcGo_filter (fun x => decide ((((b / 2 ^ x.toNat).toNat &&& (1 : Int).toNat : Nat) : Int) = 1)) (fun p => .sh (.int p)) ?H rfl]
  case H =>
    intro m q
    have hm := mem_rangeI.mp q
    have h2 : (0 : Int) ≤ b / 2 ^ m.toNat := Int.ediv_nonneg hb (by exact_mod_cast Nat.zero_le _)
    refine ⟨_, rfl, rfl, ?_, fun _ => rfl⟩
    have g1 : gShr (.int b) (.int m) = some (iT (b / 2 ^ m.toNat)) := by simp only [gShr, hm.1, if_true]
    have g2 : gAnd (.int (b / 2 ^ m.toNat)) (.int 1) = some (iT (((b / 2 ^ m.toNat).toNat &&& (1 : Int).toNat : Nat) : Int)) := by simp [gAnd, h2]
    simp only [run_c0, run_c1, run_c2, run_c3, run_c4, run_c5, run_c6, run_c7, run_c8, run_c9, run_c10, Int.reduceAdd, Int.reduceLE, Int.reduceLT, Int.reduceNeg, Int.reduceSub, Nat.reduceAdd, Nat.reduceBEq, Nat.reduceLT, Nat.reduceLeDiff, Nat.reduceSub, reduceCtorEq, reduceIte, g1, g2]
  have e : ((rangeI f.1).filter fun x => decide ((((b / 2 ^ x.toNat).toNat &&& (1 : Int).toNat : Nat) : Int) = 1)) = bitsL f.1 b := rfl
  simp only [run_c0, run_c1, run_c2, run_c3, run_c4, run_c5, run_c6, run_c7, run_c8, run_c9, run_c10, Int.reduceAdd, Int.reduceLE, Int.reduceLT, Int.reduceNeg, Int.reduceSub, Nat.reduceAdd, Nat.reduceBEq, Nat.reduceLT, Nat.reduceLeDiff, Nat.reduceSub, reduceCtorEq, reduceIte]
  rw [e]
  simp only [run_c0, run_c1, run_c2, run_c3, run_c4, run_c5, run_c6, run_c7, run_c8, run_c9, run_c10, Int.reduceAdd, Int.reduceLE, Int.reduceLT, Int.reduceNeg, Int.reduceSub, Nat.reduceAdd, Nat.reduceBEq, Nat.reduceLT, Nat.reduceLeDiff, Nat.reduceSub, reduceCtorEq, reduceIte, run_lclosed f (bitsL f.1 b) (by omega)]
  by_cases h : closedL f (bitsL f.1 b) = bitsL f.1 b
  · have e2 : ([bitsL f.1 b].filter fun t => decide (closedL f t = t)) = [bitsL f.1 b] := by simp [h]
    rw [e2]
    simp only [run_c0, run_c1, run_c2, run_c3, run_c4, run_c5, run_c6, run_c7, run_c8, run_c9, run_c10, Int.reduceAdd, Int.reduceLE, Int.reduceLT, Int.reduceNeg, Int.reduceSub, Nat.reduceAdd, Nat.reduceBEq, Nat.reduceLT, Nat.reduceLeDiff, Nat.reduceSub, reduceCtorEq, reduceIte, h, hl]
  · have e2 : ([bitsL f.1 b].filter fun t => decide (closedL f t = t)) = [] := by simp [h]
    rw [e2, List.append_nil]
    simp only [run_c0, run_c1, run_c2, run_c3, run_c4, run_c5, run_c6, run_c7, run_c8, run_c9, run_c10, Int.reduceAdd, Int.reduceLE, Int.reduceLT, Int.reduceNeg, Int.reduceSub, Nat.reduceAdd, Nat.reduceBEq, Nat.reduceLT, Nat.reduceLeDiff, Nat.reduceSub, reduceCtorEq, reduceIte, h]
theorem llots_loop (f : Fr) (hc : 0 ≤ f.1 ∧ f.1 ≤ 40) : ∀ (bs : List Int) (ys : List (List Int)), (∀ b ∈ bs, 0 ≤ b) → ys.length + bs.length < 16777216 →
    tloop (tgOne (tgName 2)) t__law_all_lots_b1 (bs.map fun b => .one (.int b)) [some (.sh (enc f)), some (oE ys), none, none, none] = .nx [some (.sh (enc f)), some (oE (ys ++ (bs.map (bitsL f.1)).filter fun t => decide (closedL f t = t))), none, none, none]
  | [], ys, _, _ => by simp [tloop]
  | b :: bs, ys, hb, h => by
    simp only [List.length_cons] at h
    have l1 : ([bitsL f.1 b].filter fun t => decide (closedL f t = t)).length ≤ 1 := List.length_filter_le _ _
    rw [List.map_cons, tloop]
    show tturn _ (t__law_all_lots_b1 [some (.sh (enc f)), some (oE ys), some (.sh (.int b)), none, none]) = _
    rw [llots_b1 f hc b (hb b (by simp)) ys (by omega), tturn_nx, llots_loop f hc bs _ (fun x m => hb x (by simp [m])) (by rw [List.length_append]; omega), List.append_assoc, ← List.filter_append]
    rfl
theorem run_llots (f : Fr) (hc : 0 ≤ f.1 ∧ f.1 ≤ 20) : t__law_all_lots [.sh (enc f)] = .ok (oE (allT f)) [] := by
  have pn : powOkT 1 f.1 = true := by
    unfold powOkT
    simp only [Bool.and_eq_true, decide_eq_true_eq]
    exact ⟨by omega, near_of (by decide)⟩
  have es : gShl (.int 1) (.int f.1) = some (iT (1 * 2 ^ f.1.toNat)) := by simp only [gShl, pn, if_true]
  have h1 : (2 : Nat) ^ f.1.toNat ≤ 2 ^ 20 := Nat.pow_le_pow_right (by decide) (by omega)
  have h5 : (2 : Nat) ^ 20 = 1048576 := by decide
  have hp : (1 * 2 ^ f.1.toNat : Int) = ((2 ^ f.1.toNat : Nat) : Int) := by push_cast; omega
  have hp0 : 0 < (2 : Nat) ^ f.1.toNat := Nat.two_pow_pos _
  have hr : rngOk (1 * 2 ^ f.1.toNat) = true := by rw [hp]; exact rngOk_of (by omega)
  have L := llots_loop f (by omega) (rangeI (1 * 2 ^ f.1.toNat)) [] (fun b m => (mem_rangeI.mp m).1) (by rw [rangeI_len, hp]; simp; omega)
  have i0 : gIx (enc f) (.int 0) = some (.sh (.int f.1)) := rfl
  have g := gSorted_leI (allB f)
  rw [allB_sort f hc.1] at g
  unfold t__law_all_lots
  simp only [run_c0, run_c1, run_c2, run_c3, run_c4, run_c5, run_c6, run_c7, run_c8, run_c9, run_c10, Int.reduceAdd, Int.reduceLE, Int.reduceLT, Int.reduceNeg, Int.reduceSub, Nat.reduceAdd, Nat.reduceBEq, Nat.reduceLT, Nat.reduceLeDiff, Nat.reduceSub, reduceCtorEq, reduceIte, i0, es, hr]
  erw [L]
  simp only [List.nil_append, run_c0, run_c1, run_c2, run_c3, run_c4, run_c5, run_c6, run_c7, run_c8, run_c9, run_c10, Int.reduceAdd, Int.reduceLE, Int.reduceLT, Int.reduceNeg, Int.reduceSub, Nat.reduceAdd, Nat.reduceBEq, Nat.reduceLT, Nat.reduceLeDiff, Nat.reduceSub, reduceCtorEq, reduceIte]
  rw [show ((rangeI (1 * 2 ^ f.1.toNat)).map (bitsL f.1)).filter (fun t => decide (closedL f t = t)) = allB f from rfl]
  simp only [run_c0, run_c1, run_c2, run_c3, run_c4, run_c5, run_c6, run_c7, run_c8, run_c9, run_c10, Int.reduceAdd, Int.reduceLE, Int.reduceLT, Int.reduceNeg, Int.reduceSub, Nat.reduceAdd, Nat.reduceBEq, Nat.reduceLT, Nat.reduceLeDiff, Nat.reduceSub, reduceCtorEq, reduceIte, g]
end Mi
set_option linter.all false
set_option maxRecDepth 100000
set_option maxHeartbeats 1000000
namespace Mi
open Enc (enc)
theorem gIx_fr0 (f : Fr) : gIx (enc f) (.int 0) = some (.sh (.int f.1)) := rfl
theorem gIx_fr1 (f : Fr) : gIx (enc f) (.int 1) = some (.sh (enc f.2)) := rfl
theorem cut_last {α : Type} (l : List α) (x : α) : cut (l ++ [x]) none (some (-1)) = l := by
  unfold cut
  have c1 : clip (l ++ [x]).length 0 none = 0 := rfl
  have c2 : clip (l ++ [x]).length (l ++ [x]).length (some (-1)) = l.length := by
    show (if (-1 : Int) < 0 then ((-1 : Int) + ((l ++ [x]).length : Int)).toNat else min (-1 : Int).toNat (l ++ [x]).length) = _
    rw [if_pos (by decide), List.length_append, List.length_singleton]
    omega
  rw [c1, c2]
  simp
def mk20 (k : Nat) (l : List Int) : List Int := l ++ [20 + (k : Int)]
theorem allT_len (f : Fr) {t : List Int} (h : t ∈ allT f) : t.length ≤ f.1.toNat := lot_len (isThing_iff.mp (mem_allT.mp h)).1
theorem right_b1 (f : Fr) (hf : isFrameB f = true) (x : Int) (k : Nat) (t : List Int) (h : (allT f)[k]? = some t) (o2 : Option OT) :
    t__law_right_b1 [some (.sh (enc f)), some (oE (allT f)), o2, some (.sh (.int x)), none, some (.sh (.int k)), some (oE t), none] = .nx [some (.sh (enc f)), some (oE (allT f)), o2, some (.sh (.int x)), none, none, some (oE (mk20 k t)), none] := by
  have F := isFrame_iff.mp hf
  have m := List.mem_of_getElem? h
  obtain ⟨t1, t2⟩ := isThing_iff.mp (mem_allT.mp m)
  have l := allT_len f m
  have hl : t.length < 16777216 := by omega
  have g : gIx (enc (allT f)) (.int (k : Int)) = some (.sh (enc t)) := by
    rw [gIx_enc, atI_nat h]
    rfl
  unfold t__law_right_b1
  by_cases h0 : x = 0
  · simp only [run_c0, run_c1, run_c2, run_c3, run_c4, run_c5, run_c6, run_c7, run_c8, run_c9, run_c10, Int.reduceAdd, Int.reduceLE, Int.reduceLT, Int.reduceNeg, Int.reduceSub, Nat.reduceAdd, Nat.reduceBEq, Nat.reduceLT, Nat.reduceLeDiff, Nat.reduceSub, reduceCtorEq, reduceIte, g, h0, run_closing f hf t t1, t2, hl]
    first | rfl | (simp only [oLs, oF, run_c0, run_c1, run_c2, run_c3, run_c4, run_c5, run_c6, run_c7, run_c8, run_c9, run_c10, Int.reduceAdd, Int.reduceLE, Int.reduceLT, Int.reduceNeg, Int.reduceSub, Nat.reduceAdd, Nat.reduceBEq, Nat.reduceLT, Nat.reduceLeDiff, Nat.reduceSub, reduceCtorEq, reduceIte, mk20]; done)
  · simp only [run_c0, run_c1, run_c2, run_c3, run_c4, run_c5, run_c6, run_c7, run_c8, run_c9, run_c10, Int.reduceAdd, Int.reduceLE, Int.reduceLT, Int.reduceNeg, Int.reduceSub, Nat.reduceAdd, Nat.reduceBEq, Nat.reduceLT, Nat.reduceLeDiff, Nat.reduceSub, reduceCtorEq, reduceIte, g, h0, hl]
    first | rfl | (simp only [oLs, oF, run_c0, run_c1, run_c2, run_c3, run_c4, run_c5, run_c6, run_c7, run_c8, run_c9, run_c10, Int.reduceAdd, Int.reduceLE, Int.reduceLT, Int.reduceNeg, Int.reduceSub, Nat.reduceAdd, Nat.reduceBEq, Nat.reduceLT, Nat.reduceLeDiff, Nat.reduceSub, reduceCtorEq, reduceIte, mk20]; done)
theorem right_b2 (f : Fr) (hf : isFrameB f = true) (hl : f.2.length ≤ 20) (x : Int) :
    t__law_right_b2 [some (.sh (enc f)), some (oE (allT f)), some (oLs f.2), some (.sh (.int x)), none, none, none, none] = .nx [some (.sh (enc f)), some (oE (allT f)), some (oLs f.2), none, none, none, none, none] := by
  unfold t__law_right_b2
  simp only [run_c0, run_c1, run_c2, run_c3, run_c4, run_c5, run_c6, run_c7, run_c8, run_c9, run_c10, Int.reduceAdd, Int.reduceLE, Int.reduceLT, Int.reduceNeg, Int.reduceSub, Nat.reduceAdd, Nat.reduceBEq, Nat.reduceLT, Nat.reduceLeDiff, Nat.reduceSub, reduceCtorEq, reduceIte, run_things f hf hl, noL_ls, gIx_fr1]
  rw [bloop_at (fun k t => oE (mk20 k t)) ?H]
  case H =>
    intro k t h
    exact ⟨_, right_b1 f hf x k t h (some (oLs f.2)), rfl, rfl⟩
  simp only [run_c0, run_c1, run_c2, run_c3, run_c4, run_c5, run_c6, run_c7, run_c8, run_c9, run_c10, Int.reduceAdd, Int.reduceLE, Int.reduceLT, Int.reduceNeg, Int.reduceSub, Nat.reduceAdd, Nat.reduceBEq, Nat.reduceLT, Nat.reduceLeDiff, Nat.reduceSub, reduceCtorEq, reduceIte]
  rw [bcomp_map (f := fun p : List Int × Nat => OT.lst ((mk20 p.2 p.1).map fun x => OT.sh (T.int x))) (fun p : List Int × Nat => oE p.1) ?H2 rfl]
  case H2 =>
    intro p mp
    have g : gSlice (enc (mk20 p.2 p.1)) none (some (-1)) = some (oE p.1) := by
      rw [gSlice_enc, mk20, cut_last]
    refine ⟨?w, ?s2, ?s3, ?h1, ?h2, ?h3, ?h4⟩
    case h1 =>
      simp only [run_c0, run_c1, run_c2, run_c3, run_c4, run_c5, run_c6, run_c7, run_c8, run_c9, run_c10, Int.reduceAdd, Int.reduceLE, Int.reduceLT, Int.reduceNeg, Int.reduceSub, Nat.reduceAdd, Nat.reduceBEq, Nat.reduceLT, Nat.reduceLeDiff, Nat.reduceSub, reduceCtorEq, reduceIte, g]
      rfl
    case h2 => rfl
    case h3 => rfl
    case h4 => rfl
  have e2 : List.map Prod.fst (allT f).zipIdx = allT f := by simpa using zip_fst id (allT f) 0
  simp only [List.nil_append, run_c0, run_c1, run_c2, run_c3, run_c4, run_c5, run_c6, run_c7, run_c8, run_c9, run_c10, Int.reduceAdd, Int.reduceLE, Int.reduceLT, Int.reduceNeg, Int.reduceSub, Nat.reduceAdd, Nat.reduceBEq, Nat.reduceLT, Nat.reduceLeDiff, Nat.reduceSub, reduceCtorEq, reduceIte, e2]
theorem run_right (f : Fr) (hf : isFrameB f = true) (h20 : f.1 ≤ 20) (hl : f.2.length ≤ 20) : t__law_right [.sh (enc f)] = .ok (.sh (.bl true)) [] := by
  have F := isFrame_iff.mp hf
  have hr : rngOk 3 = true := by decide
  have L := tloop_same (g := tgOne (tgName 3)) (b := t__law_right_b2) (mk := fun x : Int => .one (.int x)) (s := [some (.sh (enc f)), some (oE (allT f)), some (oLs f.2), none, none, none, none, none]) (rangeI 3) fun x _ => ⟨_, rfl, right_b2 f hf hl x⟩
  unfold t__law_right
  by_cases h7 : f.1 < 7
  · simp only [run_c0, run_c1, run_c2, run_c3, run_c4, run_c5, run_c6, run_c7, run_c8, run_c9, run_c10, Int.reduceAdd, Int.reduceLE, Int.reduceLT, Int.reduceNeg, Int.reduceSub, Nat.reduceAdd, Nat.reduceBEq, Nat.reduceLT, Nat.reduceLeDiff, Nat.reduceSub, reduceCtorEq, reduceIte, run_ldue f (by omega) hl, gIx_fr0, gIx_fr1, run_llots f (by omega), h7, noL_ls]
    rw [tlcGo_map _ ?H1 rfl]
    case H1 => intro m hm; refine ⟨_, ?w1, ?s31, ?s41, rfl, ?h11, ?h21, ?h31⟩; (case h11 => simp only [run_c0, run_c1, run_c2, run_c3, run_c4, run_c5, run_c6, run_c7, run_c8, run_c9, run_c10, Int.reduceAdd, Int.reduceLE, Int.reduceLT, Int.reduceNeg, Int.reduceSub, Nat.reduceAdd, Nat.reduceBEq, Nat.reduceLT, Nat.reduceLeDiff, Nat.reduceSub, reduceCtorEq, reduceIte]; rfl); (case h21 => rfl); (case h31 => rfl)
    simp only [run_c0, run_c1, run_c2, run_c3, run_c4, run_c5, run_c6, run_c7, run_c8, run_c9, run_c10, Int.reduceAdd, Int.reduceLE, Int.reduceLT, Int.reduceNeg, Int.reduceSub, Nat.reduceAdd, Nat.reduceBEq, Nat.reduceLT, Nat.reduceLeDiff, Nat.reduceSub, reduceCtorEq, reduceIte, hr]
    erw [L]
    simp only [run_c0, run_c1, run_c2, run_c3, run_c4, run_c5, run_c6, run_c7, run_c8, run_c9, run_c10, Int.reduceAdd, Int.reduceLE, Int.reduceLT, Int.reduceNeg, Int.reduceSub, Nat.reduceAdd, Nat.reduceBEq, Nat.reduceLT, Nat.reduceLeDiff, Nat.reduceSub, reduceCtorEq, reduceIte]
  · simp only [run_c0, run_c1, run_c2, run_c3, run_c4, run_c5, run_c6, run_c7, run_c8, run_c9, run_c10, Int.reduceAdd, Int.reduceLE, Int.reduceLT, Int.reduceNeg, Int.reduceSub, Nat.reduceAdd, Nat.reduceBEq, Nat.reduceLT, Nat.reduceLeDiff, Nat.reduceSub, reduceCtorEq, reduceIte, run_ldue f (by omega) hl, gIx_fr0, gIx_fr1, h7, noL_ls]
    rw [tlcGo_map _ ?H2 rfl]
    case H2 => intro m hm; refine ⟨_, ?w2, ?s32, ?s42, rfl, ?h12, ?h22, ?h32⟩; (case h12 => simp only [run_c0, run_c1, run_c2, run_c3, run_c4, run_c5, run_c6, run_c7, run_c8, run_c9, run_c10, Int.reduceAdd, Int.reduceLE, Int.reduceLT, Int.reduceNeg, Int.reduceSub, Nat.reduceAdd, Nat.reduceBEq, Nat.reduceLT, Nat.reduceLeDiff, Nat.reduceSub, reduceCtorEq, reduceIte]; rfl); (case h22 => rfl); (case h32 => rfl)
    simp only [run_c0, run_c1, run_c2, run_c3, run_c4, run_c5, run_c6, run_c7, run_c8, run_c9, run_c10, Int.reduceAdd, Int.reduceLE, Int.reduceLT, Int.reduceNeg, Int.reduceSub, Nat.reduceAdd, Nat.reduceBEq, Nat.reduceLT, Nat.reduceLeDiff, Nat.reduceSub, reduceCtorEq, reduceIte, hr]
    erw [L]
    simp only [run_c0, run_c1, run_c2, run_c3, run_c4, run_c5, run_c6, run_c7, run_c8, run_c9, run_c10, Int.reduceAdd, Int.reduceLE, Int.reduceLT, Int.reduceNeg, Int.reduceSub, Nat.reduceAdd, Nat.reduceBEq, Nat.reduceLT, Nat.reduceLeDiff, Nat.reduceSub, reduceCtorEq, reduceIte]
theorem law_b1 (ns : List Int) (x : Int) (hx : 0 ≤ x ∧ x < 4) : t_law_b1 [some (.sh (.scr ns)), some (.sh (.int x)), none, none] = .nx [some (.sh (.scr ns)), none, none, none] := by
  obtain ⟨p, e0, P⟩ := run_purse ns x (by omega)
  obtain ⟨d, p1, e1, h1, P1⟩ := draw P (by decide) (n := 2) (by decide)
  have hd : ∃ m : Int, atI [(6 : Int), 10] d = some m ∧ 0 ≤ m ∧ m ≤ 10 := by
    have : d = 0 ∨ d = 1 := by omega
    rcases this with rfl | rfl
    · exact ⟨6, rfl, by decide, by decide⟩
    · exact ⟨10, rfl, by decide, by decide⟩
  obtain ⟨m, em, m0, m1⟩ := hd
  obtain ⟨f, p2, e2, ⟨f1, f2, f3⟩, P2⟩ := run_lframe P1 (by decide) ⟨m0, by omega⟩
  have hf : isFrameB f = true := isFrame_iff.mpr ⟨by omega, by omega, f3⟩
  have r1 := run_right f hf (by omega) (by omega)
  have r2 : t__law_right [.sh (enc ((f.1, []) : Fr))] = .ok (.sh (.bl true)) [] := run_right (f.1, []) (isFrame_iff.mpr ⟨by show 0 ≤ f.1 ∧ f.1 ≤ 40; omega, by simp, fun _ m => nomatch m⟩) (by show f.1 ≤ 20; omega) (by simp)
  have r3 : ∀ k : Nat, k ≤ 3 → t__law_right [.sh (enc ((0, List.replicate k []) : Fr))] = .ok (.sh (.bl true)) [] := fun k hk => run_right (0, List.replicate k []) (isFrame_iff.mpr ⟨by show (0 : Int) ≤ 0 ∧ (0 : Int) ≤ 40; decide, by simp; omega, fun l m => by rw [List.eq_of_mem_replicate m]; rfl⟩) (by show (0 : Int) ≤ 20; decide) (by simp; omega)
  unfold t_law_b1
  have r2' : t__law_right [.sh (.tup [.int f.1, .lst []])] = .ok (.sh (.bl true)) [] := r2
  have q0 : t__law_right [.sh (.tup [.int 0, .lst []])] = .ok (.sh (.bl true)) [] := r3 0 (by decide)
  have q1 : t__law_right [.sh (.tup [.int 0, .lst [.lst []]])] = .ok (.sh (.bl true)) [] := r3 1 (by decide)
  have q2 : t__law_right [.sh (.tup [.int 0, .lst [.lst [], .lst []]])] = .ok (.sh (.bl true)) [] := r3 2 (by decide)
  have m0' : gMul (.lst [.lst []]) (.int 0) = some (.lst []) := rfl
  have m1' : gMul (.lst [.lst []]) (.int 1) = some (.lst [.sh (.lst [])]) := rfl
  have m2' : gMul (.lst [.lst []]) (.int 2) = some (.lst [.sh (.lst []), .sh (.lst [])]) := rfl
  have hx' : x = 0 ∨ x = 1 ∨ x = 2 ∨ x = 3 := by omega
  rcases hx' with rfl | rfl | rfl | rfl
  all_goals simp only [run_c0, run_c1, run_c2, run_c3, run_c4, run_c5, run_c6, run_c7, run_c8, run_c9, run_c10, Int.reduceAdd, Int.reduceLE, Int.reduceLT, Int.reduceNeg, Int.reduceSub, Nat.reduceAdd, Nat.reduceBEq, Nat.reduceLT, Nat.reduceLeDiff, Nat.reduceSub, reduceCtorEq, reduceIte, tvar_pu, tree_pu, kids_pu, noL_pu, e0, e1, em, e2, r1, r2', m0', m1', m2', q0, q1, q2, Int.reduceMod]
theorem law_true : ∀ ns : List Int, ns.length ≤ 63 → ∃ h, m_law [.scr ns] [] = .ok (.bl true) h := by
  intro ns _
  refine law_of lf_law ?_
  unfold t_law
  have hr : rngOk 4 = true := by decide
  have L := tloop_same (g := tgOne (tgName 1)) (b := t_law_b1) (mk := fun x : Int => .one (.int x)) (s := [some (.sh (.scr ns)), none, none, none]) (rangeI 4) fun x m => ⟨_, rfl, law_b1 ns x (mem_rangeI.mp m)⟩
  simp only [run_c0, run_c1, run_c2, run_c3, run_c4, run_c5, run_c6, run_c7, run_c8, run_c9, run_c10, Int.reduceAdd, Int.reduceLE, Int.reduceLT, Int.reduceNeg, Int.reduceSub, Nat.reduceAdd, Nat.reduceBEq, Nat.reduceLT, Nat.reduceLeDiff, Nat.reduceSub, reduceCtorEq, reduceIte, hr, L]
end Mi
set_option maxHeartbeats 8000000
open PySem PySem.W PySem.Calls PyProof.Rows
theorem PySem.Challenge.cw_beneathsay_k12_things_holds : PySem.Challenge.rw_beneathsay_k12_things.Holds := by
  w_on; o_law
  refine HandSHeadRun.head_any (r := OpenLaw.row PySem.Challenge.rw_beneathsay_k12_things) (q := view (OpenLaw.row PySem.Challenge.rw_beneathsay_k12_things).prog [28]) (H := Mi.hkL) (ob := Mi.obL) (M := 4000) (loose := Mi.looseL) (d := HandSHeadRun.topDef (OpenLaw.row PySem.Challenge.rw_beneathsay_k12_things).prog 28) (kwd := []) Mi.obL_eq
    (by kernel_rfl) (fun s => by kernel_rfl) Mi.runL (by kernel_rfl) (by kernel_rfl) (by kernel_rfl) (by rfl) (by first | assumption | decide +kernel) (by decide +kernel) ⟨rfl, rfl, rfl, rfl, rfl, by decide +kernel⟩ ?hw ?hc
  case hw => w_witness2
  case hc =>
    refine L2.walk_ofE (l := PySem.Challenge.rw_beneathsay_k12_things) (n := 63) (k := 6) (x := "_law_script") (CX := L2.CX0) rfl (by decide) (by kernel_rfl) ⟨rfl, by decide, by decide⟩ ?F (fun _ _ _ _ z => z)
    intro w mg fa h Y G hmg0
    obtain ⟨K, KX, c⟩ := Y
    have hmg : mg ("law" : PySem.Str) = some (.ref fa) := by
      have e : (HandSHeadRun.topDef (OpenLaw.row PySem.Challenge.rw_beneathsay_k12_things).prog 28).name = ("law" : PySem.Str) := by kernel_rfl
      rw [← e]
      exact hmg0
    obtain ⟨fd, hb, hF⟩ := Mi.factsL Mi.law_true (P := (PySem.Challenge.rw_beneathsay_k12_things).prog) (w := w) KX G hmg c
    exact ⟨K, fd, Mi.spLaw K w (Mi.excA K) Mi.clsA Mi.fldA, KX, hb, fun H a ns hl o hS => ⟨a, ns, rfl, hl, Mi.scr_of o hS, fun _ => rfl⟩, hF⟩
